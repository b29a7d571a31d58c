import PyProof.Rows.All
import Wide.All
import OpenK.AllK
import Wide.FinOn
import HandS.ForMost
import HandS.Zip
import HandS.Walk
import KE.GoesEnumKw
import HandS.DictComp
import HandS.TupMul
import HandS.Codes
import KE.GoesEnum
import HandS.Conv
import HandS.SortRule
import HandS.NamedTupSort
import HandS.Evl
import HandS.Defaults
import HandS.Style
import HandS.TupLen
import HandS.TupAny
import HandS.IsInst
import HandS.Wide
import HandS.WideBits
import HandS.Flow
import HandS.WordsExc
import HandS.Head0
import HandS.Head1
import HandS.Head2
import HandS.HeadEnd
import HandS.HeadHook1
import HandS.HeadHook2
import HandS.Steps
import HandS.ExcInit
import HandS.ExcField
import HandS.Lambda
import HandS.Nested
import KE.KExcSuper
import KE.KSuperObj
import KE.KSuper
import KE.KStateDown
import PyProof.Rows.TupDisplay
import PyProof.CompUse
import KE.IntBitsLaws
import Lean
import PySem.Challenge.RW_planedigits_k13_whole_which_points_have
set_option Elab.async false
set_option linter.all false
set_option maxRecDepth 100000
set_option maxHeartbeats 0
namespace K13Z
open PySem RZ
open PySem.Sem (wp)
abbrev IsZipS (h : Heap) (z TI TO : Addr) (f0 : Value) : Prop :=
  h.get? z = some { cls := .type "zip", dict := none, data := .fields #[f0, .bool false, .bool true, .ref TI, .ref TO], slots := #[] }
section
variable {prog : Program} {w : World} {A : Around} {E : Value → Shared → Prop} {s : Shared}
theorem orEnd_item {it l : Addr} {i : Nat} {items} {x : Value} {Q : Option Value → Shared → Prop} (hit : s.heap.IsTupleIter it l i)
    (hl : s.heap.IsTuple l items) (hx : items[i]? = some x)
    (hQ : ∀ h', h'.IsTupleIter it l (i + 1) → Heap.SameBut it s.heap h' → Q (some x) { s with heap := h' }) :
    wpAny (model prog w) A (Builtin.SmallTypes.nextOrEnd (.ref it)) Q E s := by
  unfold Builtin.SmallTypes.nextOrEnd
  exact wpAny_bind (wpAny_attempt (nextOf_tuple_item hit hl hx fun h' a b => wpAny_pure (hQ h' a b)))
theorem orEnd_end {it l : Addr} {i : Nat} {items} {Q : Option Value → Shared → Prop} (hh : A.handled = none)
    (hit : s.heap.IsTupleIter it l i) (hl : s.heap.IsTuple l items) (hx : items[i]? = none)
    (hQ : ∀ h', Heap.ExtBut it s.heap h' → Q none { s with heap := h' }) :
    wpAny (model prog w) A (Builtin.SmallTypes.nextOrEnd (.ref it)) Q E s := by
  unfold Builtin.SmallTypes.nextOrEnd
  refine wpAny_bind (wpAny_attempt (nextOf_tuple_end hh hit hl hx fun h' e hs he => ?_))
  obtain ⟨o, ho, hc⟩ := he
  exact wpAny_bind (wpAny_isInstance (T := "StopIteration") (b := true) ⟨o, ho, hc⟩ isSubtype_stop (wpAny_pure (hQ h' hs)))

theorem zipS_next_item {z TI TO i1 i2 l1 l2 : Addr} {k1 k2 : Nat} {xs ys : Array Value} {x y a b : Value} {Q : Value → Shared → Prop} (D : ZipApart z TI TO i1 i2 l1 l2)
    (hz : IsZipS s.heap z TI TO .none) (hTI : IsPair s.heap TI (.ref i1) (.ref i2)) (hTO : IsPair s.heap TO a b)
    (h1 : s.heap.IsTupleIter i1 l1 k1) (h2 : s.heap.IsTupleIter i2 l2 k2) (hl1 : s.heap.IsTuple l1 xs) (hl2 : s.heap.IsTuple l2 ys) (hx : xs[k1]? = some x) (hy : ys[k2]? = some y)
    (hQ : ∀ h', IsZipS h' z TI TO (rawInt s.heap.objs.size) → IsPair h' TO x y → h'.IsTupleIter i1 l1 (k1 + 1) → h'.IsTupleIter i2 l2 (k2 + 1) → IsPair h' s.heap.objs.size x y → h'.objs.size = s.heap.objs.size + 1 →
      (∀ c o, c ≠ z → c ≠ TO → c ≠ i1 → c ≠ i2 → s.heap.get? c = some o → h'.get? c = some o) → Q (.ref s.heap.objs.size) { s with heap := h' }) :
    wpAny (model prog w) A (Builtin.«zip.__next__» ⟨[.ref z], []⟩) (fun fin s' => ∃ v, fin = .done (.ret v) ∧ Q v s') E s := by
  show wpAny _ _ (field (.ref z) 2 >>= _) _ _ _
  refine wpAny_bind (wpAny_field hz rfl (x := .bool true) rfl ?_)
  show wpAny _ _ (field (.ref z) 3 >>= _) _ _ _
  refine wpAny_bind (wpAny_field hz rfl (x := .ref TI) rfl ?_)
  refine wpAny_bind (wpAny_seqItems hTI rfl ?_)
  show wpAny _ _ (Builtin.SmallTypes.ownedTupleIsFree (.ref z) >>= _) _ _ _
  refine wpAny_bind ?_
  unfold Builtin.SmallTypes.ownedTupleIsFree
  refine wpAny_bind (wpAny_field hz rfl (x := .none) rfl (wpAny_pure ?_))
  simp only [if_true]
  refine wpAny_bind (wpAny_rule ?_)
  refine wpAny_bind (wpAny_field hz rfl (x := .ref TO) rfl ?_)
  refine wpAny_bind (wpAny_setField_rec hz (by simp) fun h₁ hz₁ hs₁ => ?_)
  replace hz₁ : IsZipS h₁ z TI TO .ellipsis := hz₁
  refine wpAny_bind ?_
  simp only [List.zipIdx_cons, List.zipIdx_nil, List.forIn_cons, List.forIn_nil]

  refine wpAny_bind (wpAny_bind (wpAny_onRaise ?_))
  show wpAny _ _ (Builtin.SmallTypes.nextOrEnd (.ref i1)) _ _ _
  refine orEnd_item (h1.extBut hs₁.extBut D.i1z) (hl1.extBut hs₁.extBut D.l1z) hx fun h₂ h1₂ hs₂ => ?_
  have hTO₂ : IsPair h₂ TO a b := hs₂.extBut _ _ D.TOi1 (hs₁.extBut _ _ D.TOz hTO)
  refine wpAny_bind (wpAny_seqItems hTO₂ rfl ?_)
  refine wpAny_bind (wpAny_updateSeq_pair hTO₂ fun h₃ hTO₃ hs₃ => ?_)
  replace hTO₃ : IsPair h₃ TO x b := hTO₃
  refine wpAny_bind (wpAny_letGo (wpAny_pure ?_))

  refine wpAny_bind (wpAny_bind (wpAny_onRaise ?_))
  show wpAny _ _ (Builtin.SmallTypes.nextOrEnd (.ref i2)) _ _ _
  refine orEnd_item (((h2.extBut hs₁.extBut D.i2z).extBut hs₂.extBut D.i12.symm).extBut hs₃.extBut D.TOi2.symm)
    (((hl2.extBut hs₁.extBut D.l2z).extBut hs₂.extBut D.l2i1).extBut hs₃.extBut D.l2TO) hy fun h₄ h2₄ hs₄ => ?_
  have hTO₄ : IsPair h₄ TO x b := hs₄.extBut _ _ D.TOi2 hTO₃
  refine wpAny_bind (wpAny_seqItems hTO₄ rfl ?_)
  refine wpAny_bind (wpAny_updateSeq_pair hTO₄ fun h₅ hTO₅ hs₅ => ?_)
  replace hTO₅ : IsPair h₅ TO x y := hTO₅
  refine wpAny_bind (wpAny_letGo (wpAny_pure (wpAny_pure ?_)))

  refine wpAny_bind (wpAny_seqItems hTO₅ rfl ?_)
  refine wpAny_bind (wpAny_newTuple ?_)
  have hsz : h₅.objs.size = s.heap.objs.size := by rw [hs₅.1, hs₄.1, hs₃.1, hs₂.1, hs₁.1]
  have hz₅ : IsZipS h₅ z TI TO .ellipsis := hs₅.extBut _ _ D.TOz.symm (hs₄.extBut _ _ D.i2z.symm (hs₃.extBut _ _ D.TOz.symm (hs₂.extBut _ _ D.i1z.symm hz₁)))
  have hk₅ : ∀ c o, c ≠ z → c ≠ TO → c ≠ i1 → c ≠ i2 → s.heap.get? c = some o → h₅.get? c = some o := fun c o c1 c2 c3 c4 e =>
    hs₅.extBut _ _ c2 (hs₄.extBut _ _ c4 (hs₃.extBut _ _ c2 (hs₂.extBut _ _ c3 (hs₁.extBut _ _ c1 e))))
  have h1₅ : h₅.IsTupleIter i1 l1 (k1 + 1) := ((h1₂.extBut hs₃.extBut D.TOi1.symm).extBut hs₄.extBut D.i12).extBut hs₅.extBut D.TOi1.symm
  have h2₅ : h₅.IsTupleIter i2 l2 (k2 + 1) := h2₄.extBut hs₅.extBut D.TOi2.symm
  have hzlt : z < h₅.objs.size := Heap.lt_size hz₅
  have hTOlt : TO < h₅.objs.size := Heap.lt_size hTO₅
  have hi1lt : i1 < h₅.objs.size := by obtain ⟨_, e, _⟩ := h1₅; exact Heap.lt_size e
  have hi2lt : i2 < h₅.objs.size := by obtain ⟨_, e, _⟩ := h2₅; exact Heap.lt_size e
  show wpAny _ _ (Builtin.SmallTypes.ownedTupleHandOut (.ref z) (.ref h₅.objs.size) >>= _) _ _ _
  refine wpAny_bind ?_
  unfold Builtin.SmallTypes.ownedTupleHandOut
  have hz₆ : IsZipS (h₅.push { cls := .type "tuple", data := .seq #[x, y] }) z TI TO .ellipsis := Heap.get?_push_of_some _ hz₅
  refine wpAny_bind (wpAny_setField_rec hz₆ (by simp) fun h₇ hz₇ hs₇ => ?_)
  replace hz₇ : IsZipS h₇ z TI TO (rawInt h₅.objs.size) := hz₇
  refine wpAny_setField_rec hz₇ (by simp) fun h₈ hz₈ hs₈ => ?_
  replace hz₈ : IsZipS h₈ z TI TO (rawInt h₅.objs.size) := hz₈
  have up : ∀ c o, c ≠ z → h₅.get? c = some o → h₈.get? c = some o := fun c o c1 e => hs₈.extBut _ _ c1 (hs₇.extBut _ _ c1 (Heap.get?_push_of_some _ e))
  have hT₈ : IsPair h₈ h₅.objs.size x y := hs₈.extBut _ _ (Nat.ne_of_gt hzlt) (hs₇.extBut _ _ (Nat.ne_of_gt hzlt) (Heap.get?_push_size _ rfl))
  have hz8 : h₈.objs.size = h₅.objs.size + 1 := by rw [hs₈.1, hs₇.1, Heap.size_push]
  rw [hsz] at hz₈ hT₈ hz8
  refine wpAny_pure ⟨_, rfl, ?_⟩
  show Q (.ref h₅.objs.size) _
  rw [hsz]
  exact hQ h₈ hz₈ (up _ _ D.TOz hTO₅) (h1₅.at fun o e => up _ o D.i1z e) (h2₅.at fun o e => up _ o D.i2z e) hT₈ hz8 fun c o c1 c2 c3 c4 e => up c o c1 (hk₅ c o c1 c2 c3 c4 e)

theorem zipS_next_end {z TI TO i1 i2 l1 l2 : Addr} {k1 k2 : Nat} {xs ys : Array Value} {a b : Value} {Q : Fin → Shared → Prop} (hh : A.handled = none) (D : ZipApart z TI TO i1 i2 l1 l2)
    (hz : IsZipS s.heap z TI TO .none) (hTI : IsPair s.heap TI (.ref i1) (.ref i2)) (hTO : IsPair s.heap TO a b)
    (h1 : s.heap.IsTupleIter i1 l1 k1) (h2 : s.heap.IsTupleIter i2 l2 k2) (hl1 : s.heap.IsTuple l1 xs) (hl2 : s.heap.IsTuple l2 ys) (hx : xs[k1]? = none) (hy : ys[k2]? = none)
    (hE : ∀ h' e, (∀ c o, c ≠ z → c ≠ TO → c ≠ i1 → c ≠ i2 → s.heap.get? c = some o → h'.get? c = some o) → (∃ o, h'.get? e = some o ∧ o.cls = .type "StopIteration") → E (.ref e) { s with heap := h' }) :
    wpAny (model prog w) A (Builtin.«zip.__next__» ⟨[.ref z], []⟩) Q E s := by
  show wpAny _ _ (field (.ref z) 2 >>= _) _ _ _
  refine wpAny_bind (wpAny_field hz rfl (x := .bool true) rfl ?_)
  show wpAny _ _ (field (.ref z) 3 >>= _) _ _ _
  refine wpAny_bind (wpAny_field hz rfl (x := .ref TI) rfl ?_)
  refine wpAny_bind (wpAny_seqItems hTI rfl ?_)
  show wpAny _ _ (Builtin.SmallTypes.ownedTupleIsFree (.ref z) >>= _) _ _ _
  refine wpAny_bind ?_
  unfold Builtin.SmallTypes.ownedTupleIsFree
  refine wpAny_bind (wpAny_field hz rfl (x := .none) rfl (wpAny_pure ?_))
  simp only [if_true]
  refine wpAny_bind (wpAny_rule ?_)
  refine wpAny_bind (wpAny_field hz rfl (x := .ref TO) rfl ?_)
  refine wpAny_bind (wpAny_setField_rec hz (by simp) fun h₁ hz₁ hs₁ => ?_)
  replace hz₁ : IsZipS h₁ z TI TO .ellipsis := hz₁
  refine wpAny_bind ?_
  simp only [List.zipIdx_cons, List.zipIdx_nil, List.forIn_cons, List.forIn_nil]
  refine wpAny_bind (wpAny_bind (wpAny_onRaise ?_))
  show wpAny _ _ (Builtin.SmallTypes.nextOrEnd (.ref i1)) _ _ _
  refine orEnd_end hh (h1.extBut hs₁.extBut D.i1z) (hl1.extBut hs₁.extBut D.l1z) hx fun h₂ hs₂ => ?_
  have hz₂ : IsZipS h₂ z TI TO .ellipsis := hs₂ _ _ D.i1z.symm hz₁
  refine wpAny_bind (wpAny_setField_rec hz₂ (by simp) fun h₃ _ hs₃ => ?_)
  have k3 : ∀ c o, c ≠ z → c ≠ i1 → s.heap.get? c = some o → h₃.get? c = some o := fun c o c1 c3 x => hs₃.extBut _ _ c1 (hs₂ _ _ c3 (hs₁.extBut _ _ c1 x))
  have h2₃ : h₃.IsTupleIter i2 l2 k2 := h2.at fun o e => k3 _ o D.i2z D.i12.symm e
  have hl2₃ : h₃.IsTuple l2 ys := hl2.at fun o e => k3 _ o D.l2z D.l2i1 e
  refine wpAny_bind ?_
  with_unfolding_all refine wpAny_bind (m := forIn [(Value.ref i2, 1)] PUnit.unit _) ?_
  simp only [List.forIn_cons, List.forIn_nil]
  refine wpAny_bind (wpAny_bind (orEnd_end hh h2₃ hl2₃ hy fun h₄ hs₄ => ?_))
  refine wpAny_ite_false (by decide) ?_
  refine wpAny_pure (wpAny_pure ?_)
  refine wpAny_bind (wpAny_rule ?_)
  have k4 : ∀ c o, c ≠ z → c ≠ i1 → c ≠ i2 → s.heap.get? c = some o → h₄.get? c = some o := fun c o c1 c3 c4 x => hs₄ _ _ c4 (k3 c o c1 c3 x)
  unfold Builtin.SmallTypes.stopIteration
  refine wpAny_bind ?_
  simp only [newExc, newTuple]
  refine wpAny_bind (wpAny_newObj_type ?_ (by size_fits))
  refine wpAny_bind (m := firstArgMember _ _) (wpAny_of_eq (a := Value.none) (by first | rfl | (simp only [firstArgMember]; rfl)) ?_)
  refine wpAny_newObj_type ?_ (by size_fits)
  simp only [raiseNew]
  refine wpAny_bind (wpAny_handled ?_)
  first | rw [show A.in1.handled = none from hh] | rw [hh]
  refine wpAny_bind (wpAny_pure (wpAny_throw ?_))
  exact hE _ _ (fun c o c1 c2 c3 c4 x => Heap.get?_push_of_some _ (Heap.get?_push_of_some _ (k4 c o c1 c3 c4 x))) ⟨_, Heap.get?_push_size _ rfl, rfl⟩

theorem pyNext_zipS_item {z TI TO i1 i2 l1 l2 : Addr} {k1 k2 : Nat} {xs ys : Array Value} {x y a b : Value} {Q : Option Value → Shared → Prop} (D : ZipApart z TI TO i1 i2 l1 l2)
    (hz : IsZipS s.heap z TI TO .none) (hTI : IsPair s.heap TI (.ref i1) (.ref i2)) (hTO : IsPair s.heap TO a b)
    (h1 : s.heap.IsTupleIter i1 l1 k1) (h2 : s.heap.IsTupleIter i2 l2 k2) (hl1 : s.heap.IsTuple l1 xs) (hl2 : s.heap.IsTuple l2 ys) (hx : xs[k1]? = some x) (hy : ys[k2]? = some y)
    (hQ : ∀ h', IsZipS h' z TI TO (rawInt s.heap.objs.size) → IsPair h' TO x y → h'.IsTupleIter i1 l1 (k1 + 1) → h'.IsTupleIter i2 l2 (k2 + 1) → IsPair h' s.heap.objs.size x y → h'.objs.size = s.heap.objs.size + 1 →
      (∀ c o, c ≠ z → c ≠ TO → c ≠ i1 → c ≠ i2 → s.heap.get? c = some o → h'.get? c = some o) → Q (some (.ref s.heap.objs.size)) { s with heap := h' }) :
    wpAny (model prog w) A (pyNext (.ref z)) Q E s := by
  have hT : s.TypeIs (.ref z) "zip" := ⟨_, hz, rfl⟩
  unfold pyNext
  exact wpAny_bind (wpAny_attempt (wpAny_callSpecial?_slot (name := Str.ofString "__next__") hT F.slot_zip_next
    (wpAny_call_entry F.slot_zip_next hT F.entry_zip_next
      (zipS_next_item D hz hTI hTO h1 h2 hl1 hl2 hx hy fun h' a1 a2 a3 a4 a5 a6 a7 => wpAny_pure (hQ h' a1 a2 a3 a4 a5 a6 a7)) (F.args_zip_next_1 _))))

theorem pyNext_zipS_end {z TI TO i1 i2 l1 l2 : Addr} {k1 k2 : Nat} {xs ys : Array Value} {a b : Value} {Q : Option Value → Shared → Prop} (hh : A.handled = none) (D : ZipApart z TI TO i1 i2 l1 l2)
    (hz : IsZipS s.heap z TI TO .none) (hTI : IsPair s.heap TI (.ref i1) (.ref i2)) (hTO : IsPair s.heap TO a b)
    (h1 : s.heap.IsTupleIter i1 l1 k1) (h2 : s.heap.IsTupleIter i2 l2 k2) (hl1 : s.heap.IsTuple l1 xs) (hl2 : s.heap.IsTuple l2 ys) (hx : xs[k1]? = none) (hy : ys[k2]? = none)
    (hQ : ∀ h', (∀ c o, c ≠ z → c ≠ TO → c ≠ i1 → c ≠ i2 → s.heap.get? c = some o → h'.get? c = some o) → Q none { s with heap := h' }) : wpAny (model prog w) A (pyNext (.ref z)) Q E s := by
  have hT : s.TypeIs (.ref z) "zip" := ⟨_, hz, rfl⟩
  unfold pyNext
  refine wpAny_bind (wpAny_attempt (wpAny_callSpecial?_slot (name := Str.ofString "__next__") hT F.slot_zip_next
    (wpAny_call_entry F.slot_zip_next hT F.entry_zip_next (zipS_next_end hh D hz hTI hTO h1 h2 hl1 hl2 hx hy fun h' e hk he => ?_) (F.args_zip_next_1 _))))
  obtain ⟨o, ho, hc⟩ := he
  refine wpAny_bind (wpAny_isInstance (T := "StopIteration") (b := true) ⟨o, ho, hc⟩ isSubtype_stop ?_)
  exact wpAny_pure (hQ _ hk)
theorem self_zipS {z TI TO : Addr} {f0 : Value} {Q : Value → Shared → Prop} (hz : IsZipS s.heap z TI TO f0) (h : Q (.ref z) s) : wpAny (model prog w) A (pyIter (.ref z)) Q E s := by
  have hT : s.TypeIs (.ref z) "zip" := ⟨_, hz, rfl⟩
  refine wpAny_pyIter_slot hT F.slot_zip_iter (wpAny_call_entry F.slot_zip_iter hT F.entry_zip_iter ?_ (F.args_zip_iter_1 _))
  show wpAny _ _ (ret (.ref z)) _ _ s
  exact wpAny_pure ⟨_, rfl, "zip", _, hT, F.slot_zip_next.lookup, h⟩
end
theorem letOwned_zipS {prog : Program} {w : World} {A : Around} {E : Value → Shared → Prop} {s : Shared} {elts : List Expr} {kk : Nat} {tpos : Pos} {z TI TO : Addr} {T : Addr} {Q : Unit → Shared → Prop} (hz : IsZipS s.heap z TI TO (rawInt T))
    (hQ : ∀ h', IsZipS h' z TI TO .none → Heap.SameBut z s.heap h' → Q () { s with heap := h' }) : wpAny (model prog w) A (letOwnedTupleGo (.Tuple elts kk tpos) (.ref z) (.ref T)) Q E s := by
  unfold letOwnedTupleGo
  refine wpAny_bind (wpAny_load hz ?_)
  show wpAny _ _ (if (["enumerate", "zip", "dict_itemiterator", "dict_reverseitemiterator", "odict_iterator", "itertools.zip_longest", "itertools.pairwise"].contains "zip" &&
      (#[rawInt T, .bool false, .bool true, .ref TI, .ref TO] : Array Value)[0]? == some (rawInt T)) = true then _ else _) Q E s
  rw [if_pos (by simp)]
  refine wpAny_bind (wpAny_rule ?_)
  show wpAny _ _ (setField (.ref z) 0 .none) Q E s
  exact wpAny_setField_rec hz (by simp) fun h' hz' hs' => hQ h' hz' hs'
abbrev sH5 (h : Heap) (l1 l2 : Addr) : Heap := (zipTH4 h l1 l2).push { cls := .type "zip", data := .fields #[.none, .bool false, .bool true, .ref (zipTH2 h l1 l2).objs.size, .ref (zipTH3 h l1 l2).objs.size] }
theorem typeCallS (a b : Value) : checkTypeCall "zip" ⟨[a, b], [(Str.ofString "strict", .bool true)]⟩ = pure () := by kernel_rfl
theorem newCallS (a b : Value) : checkBuiltinCall "zip.__new__" ⟨[.type "zip", a, b], [(Str.ofString "strict", .bool true)]⟩ = pure () := by kernel_rfl
theorem argsInitS (obj a b : Value) : argsOk "object.__init__" ⟨[obj, a, b], [(Str.ofString "strict", .bool true)]⟩ := by unfold argsOk; kernel_rfl
theorem meets_zipS_new (l1 l2 : Addr) (xs ys : Array Value) :
    Meets (Builtin.«zip.__new__» ⟨[.type "zip", .ref l1, .ref l2], [(Str.ofString "strict", .bool true)]⟩) (fun _ R s => s.heap.IsTuple l1 xs ∧ s.heap.IsTuple l2 ys ∧
      R (.ok (.ret (.ref (zipTH4 s.heap l1 l2).objs.size))) { s with heap := sH5 s.heap l1 l2 }) :=
  .of_wp fun prog w A R s h => by
    obtain ⟨hp, g, d, tk, os⟩ := s; obtain ⟨hl1, hl2, h⟩ := h
    have hsub := sub_zip
    have hL1 : Heap.IsTuple (Shared.heap ⟨hp, g, d, tk, os⟩) l1 xs := hl1
    have hL2 : Heap.IsTuple (Shared.heap ⟨hp.push { cls := .type "tuple_iterator", data := .fields #[.ref l1, .int 0 0] }, g, d, tk, os⟩) l2 ys := Heap.IsTuple.push hl2 _
    have e2 : (Str.ofString "strict" != ("strict" : Str)) = false := by decide +kernel
    wp_walk using wpAny_pyIter_tuple hL1, wpAny_pyIter_tuple hL2
    exact ⟨_, rfl, h⟩
section
variable {prog : Program} {w : World} {A : Around} {E : Value → Shared → Prop} {s : Shared}
theorem call_zipS {l1 l2 : Addr} {xs ys : Array Value} {Q : Value → Shared → Prop} (hl1 : s.heap.IsTuple l1 xs) (hl2 : s.heap.IsTuple l2 ys)
    (h : ∀ h', IsZipS h' (s.heap.objs.size + 4) (s.heap.objs.size + 2) (s.heap.objs.size + 3) .none → IsPair h' (s.heap.objs.size + 2) (.ref s.heap.objs.size) (.ref (s.heap.objs.size + 1)) →
      IsPair h' (s.heap.objs.size + 3) .none .none → h'.IsTupleIter s.heap.objs.size l1 0 → h'.IsTupleIter (s.heap.objs.size + 1) l2 0 → h'.objs.size = s.heap.objs.size + 5 →
      (∀ c o, s.heap.get? c = some o → h'.get? c = some o) → Q (.ref (s.heap.objs.size + 4)) { s with heap := h' }) :
    wpAny (model prog w) A (call (.type "zip") [.ref l1, .ref l2] [(Str.ofString "strict", .bool true)]) Q E s := by
  refine callType_newKw F.called_zip (by decide) (typeCallS _ _) (newCallS _ _) (fun obj => argsInitS obj _ _) F.entry_zip_new
    (meets_zipS_new l1 l2 xs ys) ⟨hl1, hl2, ?_⟩
  have z1 : (zipTH1 s.heap l1).objs.size = s.heap.objs.size + 1 := Heap.size_push ..
  have z2 : (zipTH2 s.heap l1 l2).objs.size = s.heap.objs.size + 2 := by rw [Heap.size_push, z1]
  have z3 : (zipTH3 s.heap l1 l2).objs.size = s.heap.objs.size + 3 := by rw [Heap.size_push, z2]
  have z4 : (zipTH4 s.heap l1 l2).objs.size = s.heap.objs.size + 4 := by rw [Heap.size_push, z3]
  have z5 : (sH5 s.heap l1 l2).objs.size = s.heap.objs.size + 5 := by rw [Heap.size_push, z4]
  have g5 : (sH5 s.heap l1 l2).get? (zipTH4 s.heap l1 l2).objs.size = some _ := Heap.get?_push_size _ rfl
  have g4 : (sH5 s.heap l1 l2).get? (zipTH3 s.heap l1 l2).objs.size = some _ := Heap.get?_push_of_some _ (Heap.get?_push_size _ rfl)
  have g3 : (sH5 s.heap l1 l2).get? (zipTH2 s.heap l1 l2).objs.size = some _ := Heap.get?_push_of_some _ (Heap.get?_push_of_some _ (Heap.get?_push_size _ rfl))
  have g2 : (sH5 s.heap l1 l2).get? (zipTH1 s.heap l1).objs.size = some _ := Heap.get?_push_of_some _ (Heap.get?_push_of_some _ (Heap.get?_push_of_some _ (Heap.get?_push_size _ rfl)))
  have g1 : (sH5 s.heap l1 l2).get? s.heap.objs.size = some _ := Heap.get?_push_of_some _ (Heap.get?_push_of_some _ (Heap.get?_push_of_some _ (Heap.get?_push_of_some _ (Heap.get?_push_size _ rfl))))
  show _ ∧ _
  rw [z2, z3, z4] at g5
  rw [z1, z2] at g3
  rw [z3] at g4
  rw [z1] at g2
  rw [z4]
  exact ⟨⟨_, g5, rfl⟩, h _ g5 g3 g4 ⟨_, g1, rfl, rfl⟩ ⟨_, g2, rfl, rfl⟩ z5 fun c o x =>
    Heap.get?_push_of_some _ (Heap.get?_push_of_some _ (Heap.get?_push_of_some _ (Heap.get?_push_of_some _ (Heap.get?_push_of_some _ x))))⟩
end
section
variable {M : Model} {A : Around} {E : Value → Shared → Prop} {s : Shared} {env : Env}
theorem callWith_typeKw {pos : Pos} {T : String} {e : Expr} {rest : List Expr} {kws : List Keyword} {Q : Value → Shared → Prop}
    (h : wpAny M A (spliced (backTo pos (starEach (e :: rest) env))) (fun vs s₁ => wpAny M A (evalAll ((backToKw pos (keywordEach kws env)).map (·.2)))
      (fun kvs s₂ => wpAny M A (call (.type T) vs (((backToKw pos (keywordEach kws env)).filterMap (·.1)).zip kvs)) Q E s₂) E s₁) E s)
    (he : backTo pos (starEach (e :: rest) env) = (false, eval e env) :: backTo pos (starEach rest env) := by rfl)
    (hplain : (backTo pos (starEach (e :: rest) env)).any (·.1) = false := by rfl)
    (hall : (backToKw pos (keywordEach kws env)).all (·.1.isSome) = true := by rfl)
    (hkw : (backToKw pos (keywordEach kws env)).any (·.1.isNone) = false := by rfl) :
    wpAny M A (callWith pos (.type T) [] (backTo pos (starEach (e :: rest) env)) (backToKw pos (keywordEach kws env))) Q E s := by
  unfold callWith
  refine wpAny_bind (wpAny_holding (wpAny_mono (Q := fun a s₁ => wpAny M A (call (.type T) ([] ++ a.pos) a.kw) Q E s₁) ?_ (fun a s₁ h₁ => wpAny_bind (wpAny_standAt ?_)) fun _ _ x => x))
  · rw [he] at h ⊢
    exact PyProof.Rows.evalArgs_kwB hall h
  · simp only [hplain, hkw, Bool.or_false]
    refine wpAny_bind (wpAny_pure ?_)
    exact wpAny_bind (wpAny_mono h₁ (fun r s₂ hr => wpAny_bind (wpAny_holding (wpAny_point (wpAny_pure hr)))) fun _ _ x => x)
end
end K13Z
namespace K13
open PySem PySem.Spec PyProof.Rows L2 K13Z RZ
/-- zip(a, b, strict=True), both tuples, of one length -/
def ItzS (K : PySem.W.Frag) (a b : Addr) : It :=
  ⟨fun i H => ∃ (xs ys : List V) (x y : V), SqT K H a xs ∧ SqT K H b ys ∧ xs[i]? = some x ∧ ys[i]? = some y,
    fun i H v H' => ∃ T x y, v = .ref T ∧ H T = none ∧ H' = upd H T (.tup [x, y]) ∧ (∀ xs, SqT K H a xs → xs[i]? = some x) ∧ ∀ ys, SqT K H b ys → ys[i]? = some y,
    fun i H => ∃ xs ys : List V, SqT K H a xs ∧ SqT K H b ys ∧ xs.length ≤ i ∧ ys.length ≤ i⟩
theorem turn_zipS {P : Program} {w : World} {K : PySem.W.Frag} {elts : List Expr} {kk : Nat} {tpos : Pos} {a b z TI TO i1 i2 : Addr} (D : ZipApart z TI TO i1 i2 a b) :
    Turn P w K (.Tuple elts kk tpos) (ItzS K a b) [z, TI, TO, i1, i2] z (fun i h => IsZipS h z TI TO .none ∧ IsPair h TI (.ref i1) (.ref i2) ∧ (∃ x y, IsPair h TO x y) ∧ h.IsTupleIter i1 a i ∧ h.IsTupleIter i2 b i) where
  mem := by simp
  obj := fun i h st c hc => by
    obtain ⟨hz, hTI, ⟨x, y, hTO⟩, ⟨o1, e1, _, d1⟩, ⟨o2, e2, _, d2⟩⟩ := st
    have e' : c = z ∨ c = TI ∨ c = TO ∨ c = i1 ∨ c = i2 := by simpa using hc
    rcases e' with q | q | q | q | q
    · rw [q]; exact ⟨_, hz, fun v q => nomatch q⟩
    · rw [q]; exact ⟨_, hTI, fun v q => nomatch q⟩
    · rw [q]; exact ⟨_, hTO, fun v q => nomatch q⟩
    · rw [q]; exact ⟨o1, e1, fun v q => by rw [d1] at q; cases q⟩
    · rw [q]; exact ⟨o2, e2, fun v q => by rw [d2] at q; cases q⟩
  keep := fun i h h' st k => by
    obtain ⟨hz, hTI, ⟨x, y, hTO⟩, h1, h2⟩ := st
    exact ⟨k z (by simp) _ hz, k TI (by simp) _ hTI, ⟨x, y, k TO (by simp) _ hTO⟩, h1.at fun o q => k i1 (by simp) o q, h2.at fun o q => k i2 (by simp) o q⟩
  item := by
    intro X hP hw hK hc i pins s σ H E I hf st hg
    subst hP hw hK
    obtain ⟨hz, hTI, ⟨x0, y0, hTO⟩, h1, h2⟩ := st
    obtain ⟨xs, ys, x, y, hqx, hqy, hx, hy⟩ := hg
    obtain ⟨its, rv, p, _⟩ := I.tuple hqx
    obtain ⟨its2, rv2, p2, _⟩ := I.tuple hqy
    obtain ⟨u, hu, ru⟩ := rv.get hx
    obtain ⟨u2, hu2, ru2⟩ := rv2.get hy
    have hzl : z < s.heap.objs.size := Heap.lt_size hz
    refine pyNext_zipS_item D hz hTI hTO h1 h2 p p2 (x := u) (y := u2) (by simpa using hu) (by simpa using hu2) fun h' z' TO' h1' h2' hT hsz hk => ?_
    refine ⟨_, rfl, letOwned_zipS (s := { s with heap := h' }) z' fun h'' z'' sb => ?_⟩
    have hT2 : h''.get? s.heap.objs.size = some { cls := .type "tuple", data := .seq #[u, u2] } := (sb.2 _ (Nat.ne_of_gt hzl)).trans hT
    have new : ObjOk X.prog X.w (upd H s.heap.objs.size (.tup [x, y])) h'' s.heap.objs.size (.tup [x, y]) :=
      ⟨by show 2 ≤ sizeLine; decide, [u, u2], .cons ru (.cons ru2 .nil), ⟨_, hT2, rfl, _, rfl⟩⟩
    have I1 : Inv X pins σ (upd H s.heap.objs.size (.tup [x, y])) { s with heap := h'' } :=
      I.turnedNew (t' := s.toks) (ch := [z, TI, TO, i1, i2]) (fun c o hb q => (sb.2 c (fun q' => hb (by simp [q']))).trans (hk c o (fun q' => hb (by simp [q'])) (fun q' => hb (by simp [q'])) (fun q' => hb (by simp [q'])) (fun q' => hb (by simp [q'])) q)) hf (Nat.le_refl _) new
    refine ⟨.ref s.heap.objs.size, _, I1, rfl, ⟨_, x, y, rfl, I.hok.fresh (Nat.le_refl _), rfl, fun l hl => by rw [I.tuple_inj hl hqx]; exact hx, fun l hl => by rw [I.tuple_inj hl hqy]; exact hy⟩, ⟨z'', ?_, ⟨u, u2, ?_⟩, ?_, ?_⟩, fun c hcm => ?_⟩
    · exact (sb.2 _ D.TIz).trans (hk _ _ D.TIz D.TITO D.TIi1 D.TIi2 hTI)
    · exact (sb.2 _ D.TOz).trans TO'
    · exact h1'.at fun o q => (sb.2 _ D.i1z).trans q
    · exact h2'.at fun o q => (sb.2 _ D.i2z).trans q
    · have hlt : c < s.heap.objs.size := by
        have e' : c = z ∨ c = TI ∨ c = TO ∨ c = i1 ∨ c = i2 := by simpa using hcm
        rcases e' with q | q | q | q | q
        · rw [q]; exact hzl
        · rw [q]; exact Heap.lt_size hTI
        · rw [q]; exact Heap.lt_size hTO
        · rw [q]; obtain ⟨_, e1, _⟩ := h1; exact Heap.lt_size e1
        · rw [q]; obtain ⟨_, e2, _⟩ := h2; exact Heap.lt_size e2
      rw [upd_ne (Nat.ne_of_lt hlt)]
      exact (hf c hcm).1
  done := by
    intro X hP hw hK hc i pins s σ H E I hf st hg
    subst hP hw hK
    obtain ⟨hz, hTI, ⟨x0, y0, hTO⟩, h1, h2⟩ := st
    obtain ⟨xs, ys, hqx, hqy, hx, hy⟩ := hg
    obtain ⟨its, rv, p, _⟩ := I.tuple hqx
    obtain ⟨its2, rv2, p2, _⟩ := I.tuple hqy
    have l1 := rv.length
    have l2 := rv2.length
    exact pyNext_zipS_end (I.ok.hd hc) D hz hTI hTO h1 h2 p p2 (by simp; omega) (by simp; omega) fun h' hk => ⟨rfl, I.turnedL (t' := s.toks) (ch := [z, TI, TO, i1, i2]) (fun c o hb q =>
      hk c o (fun q' => hb (by simp [q'])) (fun q' => hb (by simp [q'])) (fun q' => hb (by simp [q'])) (fun q' => hb (by simp [q'])) q) hf⟩
  self := fun A i s Q E st h => self_zipS st.1 h
def iZipS (K : PySem.W.Frag) (ta tk : TA) : TI := fun σ H R => ta σ H fun vs H1 => tk σ H1 fun zs H2 => ∃ a b xs ys, vs = [.ref a, .ref b] ∧ zs = [.bl true] ∧ SqT K H2 a xs ∧ SqT K H2 b ys ∧ R (ItzS K a b) H2
theorem pi_zipS {X : Cx} {e e2 : Expr} {ta tk : TA} {kws : List Keyword} {p pos tpos : Pos} {elts : List Expr} {kk : Nat} (hg : Gl X "zip") (hm : X.mg "zip" = none) (ha : PA X [e, e2] ta) (hk : PK X kws tk)
    (he : backTo pos (starEach [e, e2] X.env) = (false, eval e X.env) :: backTo pos (starEach [e2] X.env) := by rfl) (hpl : (backTo pos (starEach [e, e2] X.env)).any (·.1) = false := by rfl)
    (hall : (backToKw pos (keywordEach kws X.env)).all (·.1.isSome) = true := by rfl) (hnone : (backToKw pos (keywordEach kws X.env)).any (·.1.isNone) = false := by rfl) (hks : (backToKw pos (keywordEach kws X.env)).filterMap (·.1) = [Str.ofString "strict"] := by rfl) :
    PI X (.Tuple elts kk tpos) (.Call (.Name "zip" p) [e, e2] kws pos) (iZipS X.K ta tk) := by
  refine ⟨fun pins s σ H R I h => ?_⟩
  refine wpAny_Call_Name_kw (ld_blt I hg hm PyProof.Rows.boot_zip ?_)
  refine callWith_typeKw (thn (ha.run pos pins s σ H _ I h) fun us s1 ⟨vs, H1, I1, r1, q1⟩ => thn (hk.run pos pins s1 σ H1 _ I1 q1) fun ws s2 ⟨zs, H2, I2, r2, q2⟩ => ?_) he hpl hall hnone
  rw [hks]
  obtain ⟨a, b, xs, ys, ex, ez, hqx, hqy, q⟩ := q2
  subst ex ez
  cases r1 with
  | cons r rr =>
    cases rr with
    | cons r' rr =>
      cases rr
      cases r
      cases r'
      cases r2 with
      | cons rz rzz =>
        cases rzz
        cases rz
        have fresh5 : ∀ c, c ∈ [s2.heap.objs.size + 4, s2.heap.objs.size + 2, s2.heap.objs.size + 3, s2.heap.objs.size, s2.heap.objs.size + 1] → FpOk X pins H2 c := fun c hcm => by
          have e' : c = s2.heap.objs.size + 4 ∨ c = s2.heap.objs.size + 2 ∨ c = s2.heap.objs.size + 3 ∨ c = s2.heap.objs.size ∨ c = s2.heap.objs.size + 1 := by simpa using hcm
          have hle : s2.heap.objs.size ≤ c := by
            rcases e' with z | z | z | z | z
            · rw [z]; exact Nat.le_add_right _ _
            · rw [z]; exact Nat.le_add_right _ _
            · rw [z]; exact Nat.le_add_right _ _
            · rw [z]; exact Nat.le_refl _
            · rw [z]; exact Nat.le_add_right _ _
          exact I2.fpOk hle (I2.hok.fresh hle)
        obtain ⟨its, rv, p1, _⟩ := I2.tuple hqx
        obtain ⟨its2, rv2, p2, _⟩ := I2.tuple hqy
        obtain ⟨o1, ho1, _⟩ := id p1
        obtain ⟨o2, ho2, _⟩ := id p2
        refine call_zipS (show s2.heap.IsTuple a its.toArray from p1) (show s2.heap.IsTuple b its2.toArray from p2) fun h' hz hTI hTO h1 h2 hsz hk => self_zipS hz ?_
        have I3 : Inv X pins σ H2 { s2 with heap := h' } := I2.kept (t' := s2.toks) hk
        exact ⟨s2.heap.objs.size + 4, [s2.heap.objs.size + 4, s2.heap.objs.size + 2, s2.heap.objs.size + 3, s2.heap.objs.size, s2.heap.objs.size + 1], _, _, H2, rfl, I3, turn_zipS (PySem.W.ktu_apart s2.heap.objs.size a b (Heap.lt_size ho1) (Heap.lt_size ho2)), ⟨hz, hTI, ⟨_, _, hTO⟩, h1, h2⟩, fresh5, q⟩
theorem walk_zipS {K : PySem.W.Frag} {a b : Addr} {xs ys : List V} (hl : xs.length = ys.length) : Walk (ItzS K a b) xs.length (fun H => SqT K H a xs ∧ SqT K H b ys) (YPair (fun i => xs[i]?) (fun i => ys[i]?)) := by
  refine ⟨fun i _ hi q => ?_, fun _ q => ⟨xs, ys, q.1, q.2, Nat.le_refl _, by omega⟩, fun i H v H' _ q y => ?_⟩
  · have h2 : i < ys.length := by omega
    exact ⟨xs, ys, xs[i], ys[i], q.1, q.2, by simp [hi], by simp [h2]⟩
  · obtain ⟨T, x, z, h1, h2, h3, h4, h5⟩ := y
    exact ⟨T, x, z, h1, h2, h3, h4 xs q.1, h5 ys q.2⟩
end K13
namespace K13
open PySem PySem.Spec PyProof.Rows L2
/-! dict comprehensions whose keys are tuples of ints: turned from the library's rule for other keys -/
theorem dT_dictSet {X : Cx} {pins : List (Addr × Obj)} {σ : L2.St} {H : Hp} {s : Shared} {A : Around} {E : Value → Shared → Prop} {D b : Addr} {kvs : List (List Key × V)} {k : List Key} {v : V} {u r : Value} {Q : Unit → Shared → Prop} (hu : A.units + 1 < cLine)
    (I : Inv X pins σ H s) (hD : H D = some (.dT kvs)) (hz : kvs.length < sizeLine) (eb : H b = some (.tup (k.map kV))) (ry : RelV (.ref b) u) (rv : RelV v r)
    (h : ∀ s', Inv X pins σ (upd H D (.dT (putK kvs k v))) s' → Q () s') : wpAny (model X.prog X.w) A (dictSet D u r) Q E s := by
  cases (show u = Value.ref b from ry)
  obtain ⟨z, hd, xs, rel, dd⟩ := dt_of I.hok hD
  have hzx : xs.length ≤ sizeLine := by rw [← Paired.length rel]; exact z
  have hl : (putK kvs k v).length ≤ sizeLine := by have := length_putK kvs k v; omega
  refine wpAny_dictSet_heap (hsz := hzx) (show A.units < cLine by omega) (key_of I.hok eb) dd fun h' dd' hs => h _ ?_
  obtain ⟨q, es, ep, hq, h2, h3, h4, _, h5⟩ := dd'
  refine d_write I (by rw [hD]; exact True.intro) hs ⟨q, hq⟩ ⟨hl, hd, _, (rel.put k eb rv).keeps fun c ys ec => ?_, q, es, ep, hq, h2, h3, h4, h5⟩
  rw [upd_ne (ne_of ec hD (fun z => nomatch z))]
  exact ec
section
variable {X : Cx}
/-- {k: v for target in iter if ..}, the keys tuples: D the new dict -/
def tDcT (wi : TI) (g : TG) (tt : TT) (tk tv : TE) (vs : List Nat) : TE := fun σ H Q => wi σ H fun J H1 => ∀ D, H1 D = none → ∃ W : Nat → Nat → Hp → Prop, (∃ m, W 0 m (upd H1 D (.dT []))) ∧ ∀ i m H, W i m H →
  (J.stop i H ∧ Q (.ref D) H) ∨ (J.go i H ∧ ∃ Nx : Hp → Prop, (∀ H', Nx H' → ∃ m', m' < m ∧ W (i + 1) m' H') ∧ ∀ x H', J.yld i H x H' → g x (wipe σ vs) H' fun σ2 H2 => wipe σ2 vs = wipe σ vs ∧ tt σ2 H2 fun b H3 =>
    if b = true then tk σ2 H3 fun y H4 => tv σ2 H4 fun z H5 => ∃ (kvs : List (List Key × V)) (k : List Key) (kb : Addr), y = .ref kb ∧ H5 D = some (.dT kvs) ∧ H5 kb = some (.tup (k.map kV)) ∧ kvs.length < sizeLine ∧ Nx (upd H5 D (.dT (putK kvs k z))) else Nx H3)
theorem dcT_core {pins : List (Addr × Obj)} {s : Shared} {σ : L2.St} {H : Hp} {Q : VK} {kx vx tg iter : Expr} {ifs : List Expr} {scope : Scope} {own : List (Str × Nat)} {pos pos' : Pos} {wi : TI} {g : TG} {tt : TT} {tk tv : TE} {use : Option (Value → Sem Unit)} {Qf : Value → Shared → Prop}
    (hu : X.A.units + 1 < cLine) (hc : X.calm = true) (hN : X.N.Nodup) (I : Inv X pins σ H s) (hi : PI X tg iter wi) (ok : BlkOk X.N X.env.scope scope own)
    (hg : ∀ (s : Shared) (H : Hp) (C : Addr) (cl : List (Str × Addr)) (fp : List Addr), PG (X.blk s H scope (compEnvC scope cl C X.env) fp) tg g) (ht : ∀ (s : Shared) (H : Hp) (C : Addr) (cl : List (Str × Addr)) (fp : List Addr), PTs (X.blk s H scope (compEnvC scope cl C X.env) fp) ifs tt)
    (hk : ∀ (s : Shared) (H : Hp) (C : Addr) (cl : List (Str × Addr)) (fp : List Addr), PE (X.blk s H scope (compEnvC scope cl C X.env) fp) kx tk)
    (he : ∀ (s : Shared) (H : Hp) (C : Addr) (cl : List (Str × Addr)) (fp : List Addr), PE (X.blk s H scope (compEnvC scope cl C X.env) fp) vx tv) (hs : ∀ x, foldedSetIterable iter X.env x = pure x)
    (h : tDcT wi g tt tk tv (own.map (·.2)) σ H Q)
    (hRR : ∀ D C s' m H', Inv X pins σ H' s' → Q (.ref D) H' → s'.heap.Ns C m → FpOk X pins H' C → compPost (model X.prog X.w) X.A X.xe use Qf (.ref D) C (.ok .next) s') :
    wpAny (model X.prog X.w) X.A (comprehension (.DictComp kx vx [⟨tg, iter, ifs, 0⟩] scope pos) scope X.env pos' newDict false (eval iter X.env) use) Qf X.xe s := by
  have hfree : ∀ y ∈ scope.names, y.2 = .free → ∃ c, X.env.cells.lookup y.1 = some c := fun y hy e => by
    rcases ok.free y hy e with k | k
    · exact I.ok.has _ (.inl k)
    · exact I.ok.has _ (.inr k)
  refine wpAny_comprehension_free (use := use) rfl hs (closure_ok hfree) ok.kind (fun y hy e => by rw [ok.uniq y hy, e])
    (thn (hi.run pins s σ H _ I h) fun xv s1 hx => thn hx fun itv s2 h2 => ?_)
  obtain ⟨it, fp, tn, J, H2, e, I2, T, st2, f2, q⟩ := h2
  subst e
  refine wpAny_newObj_type (newEnv_comp ?_)
  generalize hD : s2.heap.objs.size = D
  have hDn : H2 D = none := I2.hok.fresh (Nat.le_of_eq hD)
  obtain ⟨W, ⟨m0, w0⟩, turn⟩ := q D hDn
  -- the new list
  generalize hs3 : ({ s2 with heap := s2.heap.push { cls := .type "dict", data := .dict #[] } } : Shared) = s3
  have I3 : Inv X pins σ (upd H2 D (.dT [])) s3 := by
    rw [← hs3]
    refine I2.laid (t' := s2.toks) (fun b o e => Heap.get?_push_of_some _ e) (Nat.le_of_eq hD) ?_
    rw [← hD]
    exact dt_empty s2.heap I2.big
  have h3 : s3.heap = s2.heap.push { cls := .type "dict", data := .dict #[] } := by rw [← hs3]
  have sz : ∀ b ∈ fp, b < s2.heap.objs.size := fun b hb => by
    obtain ⟨o, e, _⟩ := T.obj _ _ st2 b hb
    exact Heap.lt_size e
  have f3 : ∀ b ∈ fp, FpOk X pins (upd H2 D (.dT [])) b ∧ b < s3.heap.objs.size := fun b hb => by
    have hlt := sz b hb
    refine ⟨⟨?_, (f2 b hb).2⟩, by rw [h3, Heap.size_push]; exact Nat.lt_succ_of_lt hlt⟩
    rw [upd_ne (by rw [← hD]; exact Nat.ne_of_lt hlt)]
    exact (f2 b hb).1
  have st3 : tn 0 s3.heap := T.keep _ _ _ st2 fun b _ o e => by rw [h3]; exact Heap.get?_push_of_some _ e
  have I4 := block_start I3 ok hN f3
  have pg := hg s3 (upd H2 D (.dT [])) s3.heap.objs.size (cellsFrom (s3.heap.objs.size + 1) scope.names (cloFrom X.env.cells scope.names [])) fp
  have pt := ht s3 (upd H2 D (.dT [])) s3.heap.objs.size (cellsFrom (s3.heap.objs.size + 1) scope.names (cloFrom X.env.cells scope.names [])) fp
  have pk := hk s3 (upd H2 D (.dT [])) s3.heap.objs.size (cellsFrom (s3.heap.objs.size + 1) scope.names (cloFrom X.env.cells scope.names [])) fp
  have pe := he s3 (upd H2 D (.dT [])) s3.heap.objs.size (cellsFrom (s3.heap.objs.size + 1) scope.names (cloFrom X.env.cells scope.names [])) fp
  show codeAny _ _ (.compStart (.DictComp kx vx [⟨tg, iter, ifs, 0⟩] scope pos) 0 (.ref it) (.ref D) (compEnvC scope (cellsFrom (s3.heap.objs.size + 1) scope.names (cloFrom X.env.cells scope.names [])) s3.heap.objs.size X.env)) (compPost (model X.prog X.w) X.A X.xe use Qf (.ref D) s3.heap.objs.size) { s3 with heap := pushCells (s3.heap.push { cls := .type "dict", data := .dict #[] }) scope.names }
  have nfp : ∀ b ∈ fp, (upd H2 D (.dT [])) b = none := fun b hb => (f3 b hb).1.1
  generalize hce : compEnvC scope (cellsFrom (s3.heap.objs.size + 1) scope.names (cloFrom X.env.cells scope.names [])) s3.heap.objs.size X.env = ce at I4 pg pt pk pe ⊢
  have cL : ce.locals = s3.heap.objs.size := by subst hce; rfl
  generalize hH3 : upd H2 D (.dT []) = H3 at I3 I4 pg pt pk pe w0 nfp f3
  generalize hs4 : ({ s3 with heap := pushCells (s3.heap.push { cls := .type "dict", data := .dict #[] }) scope.names } : Shared) = s4 at I4 ⊢
  have st4 : tn 0 s4.heap := T.keep _ _ _ st3 fun b _ o e => by rw [← hs4]; exact pushCells_keeps _ _ _ _ (Heap.get?_push_of_some _ e)
  have stat : ∀ {σ' : L2.St} {H' : Hp} {s' : Shared}, Inv (X.blk s3 H3 scope ce fp) [] σ' H' s' → (∀ b ∈ fp, H' b = none) → ∀ b ∈ fp, FpOk (X.blk s3 H3 scope ce fp) [] H' b := fun {σ' H' s'} I' hn b hb =>
    ⟨hn b hb, (I'.ok.exf b hb).1, I'.ok.exfs b hb, .inl hb, fun x c e => (I'.ok.exf b hb).2 x c e, fun p hp => absurd (show p ∈ ([] : List (Addr × Obj)) ++ [] from hp) (by simp)⟩
  have loop : codeAny (model X.prog X.w) X.A (.compLoop (.DictComp kx vx [⟨tg, iter, ifs, 0⟩] scope pos) 0 (.ref it) (.ref D) ce) (compPost (model X.prog X.w) X.A X.xe use Qf (.ref D) s3.heap.objs.size) s4 := by
    refine compLoop_anyD (fun n s' => ∃ i H', Inv (X.blk s3 H3 scope ce fp) [] (wipe σ (own.map (·.2))) H' s' ∧ tn i s'.heap ∧ (∀ b ∈ fp, H' b = none) ∧ W i n H') ?_ m0 ⟨0, H3, I4, st4, nfp, w0⟩
    rintro n s5 ⟨i, H5, I5, st5, n5, w5⟩
    rcases turn i n H5 w5 with ⟨stop, qq⟩ | ⟨go, Nx, hNx, step⟩
    · have td := T.done (X.blk s3 H3 scope ce fp) rfl rfl rfl hc i [] s5 _ H5 (fun _ _ => False) I5 (stat I5 n5) st5 stop
      refine thnF td fun r s6 ⟨hr, I6⟩ => ?_
      subst hr
      -- back in the def's context
      have I7 : Inv X pins σ H5 s6 := I3.call' (ch := fp) I6.os I6.base I6.hok I6.bare fun b hb => ⟨(f3 b hb).1.2.2.2.1, (f3 b hb).1.2.1, (f3 b hb).1.2.2.2.2.1, (f3 b hb).1.2.2.2.2.2⟩
      have nC : H5 s3.heap.objs.size = none := by
        have z : H5 ce.locals = none := I6.free
        rw [cL] at z
        exact z
      obtain ⟨m, hn, _⟩ := I6.loc
      have hn : s6.heap.Ns ce.locals m := hn
      rw [cL] at hn
      exact hRR D s3.heap.objs.size s6 m H5 I7 qq hn (I3.fpOk (Nat.le_refl _) nC)
    · have ti := T.item (X.blk s3 H3 scope ce fp) rfl rfl rfl hc i [] s5 _ H5 (fun _ _ => False) I5 (stat I5 n5) st5 go
      refine thnF ti fun r s6 ⟨u, hr, h6⟩ => ?_
      subst hr
      refine thnF h6 fun _ s7 ⟨x, H7, I7, r7, y7, st7, n7⟩ => ?_
      have I7' := I7.pinned (stat I7 n7) (T.obj _ _ st7)
      refine thnF (pg.run _ s7 _ H7 x u _ I7' r7 (step x H7 y7)) fun _ s8 ⟨σ8, H8, I8, hw8, q8⟩ => ?_
      refine thnF (pt.run _ s8 σ8 H8 _ I8 q8) fun b s9 ⟨H9, I9, q9⟩ => ?_
      -- the turn's end
      have fin : ∀ {s' : Shared} {H' : Hp}, Inv (X.blk s3 H3 scope ce fp) ([] ++ pinsAt fp s7.heap) σ8 H' s' → Nx H' → ∃ m, m < n ∧ ∃ i H', Inv (X.blk s3 H3 scope ce fp) [] (wipe σ (own.map (·.2))) H' s' ∧ tn i s'.heap ∧ (∀ b ∈ fp, H' b = none) ∧ W i m H' := fun {s' H'} I' nx => by
        obtain ⟨m', hm, w'⟩ := hNx H' nx
        have pin' : ∀ b ∈ fp, ∀ o, s7.heap.get? b = some o → s'.heap.get? b = some o ∧ H' b = none := fun b hb o e =>
          let z := I'.pin (b, o) (List.mem_append_right _ (List.mem_append_right _ (mem_pinsAt hb e)))
          ⟨z.1, z.2.1⟩
        have hl : (wipe σ (own.map (·.2))).length = σ8.length := by rw [← hw8, wipe_length]
        refine ⟨m', hm, i + 1, H', (I'.unpinned (pins := [])).weak hl (fun j v e => ?_), T.keep _ _ _ st7 fun b hb o e => (pin' b hb o e).1, fun b hb => ?_, w'⟩
        · rw [← hw8] at e
          exact (wipe_some e).1
        · obtain ⟨o, e, _⟩ := T.obj _ _ st7 b hb
          exact (pin' b hb o e).2
      cases b with
      | false =>
        simp only [Bool.false_eq_true, if_false] at q9 ⊢
        exact fin I9 q9
      | true =>
        simp only [if_true] at q9 ⊢
        refine thnF (pk.run _ s9 σ8 H9 _ I9 q9) fun z s10 ⟨yk, H10, I10, r10, q10⟩ => ?_
        refine thnF (pe.run _ s10 σ8 H10 _ I10 q10) fun z2 s11 ⟨yv, H11, I11, r11, kvs, k, b, ek, hD11, eb, hz11, nx⟩ => ?_
        subst ek
        exact dT_dictSet (X := X.blk s3 H3 scope ce fp) hu I11 hD11 hz11 eb r10 r11 fun s12 I12 => fin I12 nx
  exact codeAny_compStart_dict loop (T.self X.A 0 _ _ _ st4 loop)

theorem pe_dcT {kx vx tg iter : Expr} {ifs : List Expr} {scope : Scope} {own : List (Str × Nat)} {pos : Pos} {wi : TI} {g : TG} {tt : TT} {tk tv : TE} (hu : X.A.units + 1 < cLine) (hc : X.calm = true) (hN : X.N.Nodup) (hi : PI X tg iter wi) (ok : BlkOk X.N X.env.scope scope own)
    (hg : ∀ (s : Shared) (H : Hp) (C : Addr) (cl : List (Str × Addr)) (fp : List Addr), PG (X.blk s H scope (compEnvC scope cl C X.env) fp) tg g) (ht : ∀ (s : Shared) (H : Hp) (C : Addr) (cl : List (Str × Addr)) (fp : List Addr), PTs (X.blk s H scope (compEnvC scope cl C X.env) fp) ifs tt)
    (hk : ∀ (s : Shared) (H : Hp) (C : Addr) (cl : List (Str × Addr)) (fp : List Addr), PE (X.blk s H scope (compEnvC scope cl C X.env) fp) kx tk)
    (he : ∀ (s : Shared) (H : Hp) (C : Addr) (cl : List (Str × Addr)) (fp : List Addr), PE (X.blk s H scope (compEnvC scope cl C X.env) fp) vx tv) (hs : ∀ x, foldedSetIterable iter X.env x = pure x := by intro _; rfl) :
    PE X (.DictComp kx vx [⟨tg, iter, ifs, 0⟩] scope pos) (tDcT wi g tt tk tv (own.map (·.2))) := by
  refine ⟨fun pins s σ H Q I h => ?_⟩
  rw [arm_eval_DictComp]
  refine dcT_core hu hc hN I hi ok hg ht hk he hs h fun D C s' m H' I' q hn f => ⟨m, hn, fun h'' sb => ?_⟩
  obtain ⟨f0, f1, f2, f3, f4, f5⟩ := f
  exact ⟨.ref D, H', I'.turned (t' := s'.toks) (fun b o hb e => (sb.2 b hb).trans e) f0 f1 f3 f4 f5, rfl, q⟩end
/-- over any walk -/
theorem dcT_it {J : It} {n : Nat} {G : Hp → Prop} {Y : Nat → Hp → V → Hp → Prop} (w : Walk J n G Y) {g : TG} {tt : TT} {tk tv : TE} {vs : List Nat} {σ : L2.St} {H1 : Hp} {D : Addr} {Qd : Hp → Prop} (Pv : Nat → Hp → Prop) (h0 : Pv 0 (upd H1 D (.dT []))) (hG : ∀ i H, i ≤ n → Pv i H → G H)
    (hs : ∀ i x H H', i < n → Pv i H → Y i H x H' → g x (wipe σ vs) H' fun σ2 H2 => wipe σ2 vs = wipe σ vs ∧ tt σ2 H2 fun b H3 =>
      if b = true then tk σ2 H3 fun y H4 => tv σ2 H4 fun z H5 => ∃ (kvs : List (List Key × V)) (k : List Key) (kb : Addr), y = .ref kb ∧ H5 D = some (.dT kvs) ∧ H5 kb = some (.tup (k.map kV)) ∧ kvs.length < sizeLine ∧ Pv (i + 1) (upd H5 D (.dT (putK kvs k z))) else Pv (i + 1) H3) (hd : ∀ H, Pv n H → Qd H) :
    ∃ W : Nat → Nat → Hp → Prop, (∃ m, W 0 m (upd H1 D (.dT []))) ∧ ∀ i m H, W i m H →
      (J.stop i H ∧ Qd H) ∨ (J.go i H ∧ ∃ Nx : Hp → Prop, (∀ H', Nx H' → ∃ m', m' < m ∧ W (i + 1) m' H') ∧ ∀ x H', J.yld i H x H' → g x (wipe σ vs) H' fun σ2 H2 => wipe σ2 vs = wipe σ vs ∧ tt σ2 H2 fun b H3 =>
        if b = true then tk σ2 H3 fun y H4 => tv σ2 H4 fun z H5 => ∃ (kvs : List (List Key × V)) (k : List Key) (kb : Addr), y = .ref kb ∧ H5 D = some (.dT kvs) ∧ H5 kb = some (.tup (k.map kV)) ∧ kvs.length < sizeLine ∧ Nx (upd H5 D (.dT (putK kvs k z))) else Nx H3) := by
  refine ⟨fun i m H => m = n - i ∧ i ≤ n ∧ Pv i H, ⟨n, by simp, Nat.zero_le _, h0⟩, ?_⟩
  rintro i m H ⟨rfl, hi, p⟩
  have q := hG i H hi p
  by_cases hlt : i < n
  · exact .inr ⟨w.goes i H hlt q, Pv (i + 1), fun H' p' => ⟨n - (i + 1), by omega, rfl, hlt, p'⟩, fun x H' y => hs i x H H' hlt p (w.yields i H x H' hlt q y)⟩
  · have e : i = n := by omega
    subst e
    exact .inl ⟨w.stops H q, hd H p⟩
end K13
namespace K13
open PySem PySem.Spec PyProof.Rows L2
/-! ** of greater ints -/
def CPowW (i j : Int) : Prop := 0 ≤ j ∧ (Builtin.Int.intBits i : Int) * j ≤ 2 ^ 27
theorem op_powW {X : Cx} : OpR X (binaryOp .Pow) (rI CPowW fun i j => .int (i ^ j.toNat)) := opI fun _ _ _ _ _ _ _ hc q => pow_int hc.1 hc.2 q
/-! a tuple taken 0 times or once -/
theorem tuple_mulSame (l : Addr) (items : Array Value) (n : Nat) (dd : Option Addr) (sl : Array (Option Value)) (u : Tok) :
    Meets (Builtin.«tuple.__mul__» ⟨[.ref l, .int 1 u], []⟩) (fun _ R s => s.heap.get? l = some { cls := .type "tuple", dict := dd, data := .seq items n, slots := sl } ∧
      R (.ok (.ret (Value.ref l))) s) :=
  .of_wp fun prog w A R s h => by
    obtain ⟨hp, g, d, tk, os⟩ := s
    obtain ⟨hl, h⟩ := h
    have f1 := AutoSeq1.idx_int
    wp_walk using wpAny_loadPart' hl
    exact ⟨_, rfl, h⟩
theorem tuple_mulNone (l : Addr) (items : Array Value) (n : Nat) (dd : Option Addr) (sl : Array (Option Value)) (u : Tok) (c : items.isEmpty = false) :
    Meets (Builtin.«tuple.__mul__» ⟨[.ref l, .int 0 u], []⟩) (fun _ R s => s.heap.get? l = some { cls := .type "tuple", dict := dd, data := .seq items n, slots := sl } ∧
      R (.ok (.ret (Value.ref s.heap.objs.size))) { s with heap := s.heap.push { cls := Value.type "tuple", data := Data.seq #[] }, toks := s.toks }) :=
  .of_wp fun prog w A R s h => by
    obtain ⟨hp, g, d, tk, os⟩ := s
    obtain ⟨hl, h⟩ := h
    have f1 := AutoSeq1.idx_int
    have c1 : (items.isEmpty || (0 : Int) == 1) = false := by rw [c]; rfl
    wp_walk using wpAny_loadPart' hl
    repeat (first
      | (refine wpAny_ite_false (decide_eq_false (by rw [c1]; exact Bool.false_ne_true)) ?_; wp_walk using wpAny_loadPart' hl))
    exact ⟨_, rfl, h⟩
def rRepA (K : PySem.W.Frag) : R2 := fun x y H Q => ∃ l k xs, x = .ref l ∧ y = .int k ∧ SqT K H l xs ∧ xs ≠ [] ∧ 0 ≤ k ∧ k ≤ 1000 ∧ xs.length ≤ 1000 ∧
  (k = 1 → Q (.ref l) H) ∧ (k ≠ 1 → ∀ p, H p = none → Q (.ref p) (upd H p (.tup (List.replicate k.toNat xs).flatten)))
theorem op_repA {X : Cx} : OpR X (binaryOp .Mult) (rRepA X.K) := by
  intro pins s σ H x y v u Q I rx ry h
  obtain ⟨l, k, xs, rfl, rfl, hT, hne, h1, h2, hz, q1, q2⟩ := h
  by_cases h3 : 2 ≤ k
  · exact op_repT pins s σ H _ _ v u Q I rx ry ⟨l, k, xs, rfl, rfl, hT, hne, h3, h2, hz, q2 (by omega)⟩
  · cases rx
    obtain ⟨t, rfl⟩ := ry
    obtain ⟨its, r, ⟨⟨cls, dd, data, sl⟩, ho, hc, n, hd⟩, hs⟩ := I.tuple hT
    simp only at hc hd
    subst hc hd
    have hle : its.length = xs.length := r.length.symm
    have hn : its ≠ [] := fun e => hne (by
      rw [e] at hle
      exact List.eq_nil_of_length_eq_zero hle.symm)
    have hi : its.toArray.isEmpty = false := by
      cases its with
      | nil => exact absurd rfl hn
      | cons a b => rfl
    have hk : k = 0 ∨ k = 1 := by omega
    rcases hk with rfl | rfl
    · refine wpAny_binaryOp_repeat_ref (T := "tuple") (U := "int") (by decide) ⟨_, ho, rfl⟩ (fun s' => typeIs_int s' 0 t) noFill_tuple_mul F.fills_int_mul F.slot_int_rmul repeat_tuple F.slot_int_index.lookup
        (call_meets F.slot_int_rmul (typeIs_int s 0 t) F.entry_int_rmul (F.args_int_rmul_2 _ _) (int_rmul_tuple 0 t l its.toArray n dd sl)
          ⟨ho, rfl, ⟨_, ho, rfl⟩, call_meets F.slot_tuple_mul ⟨_, ho, rfl⟩ F.entry_tuple_mul (F.args_tuple_mul_2 _ _) (tuple_mulNone l its.toArray n dd sl t hi) ⟨ho, ?_⟩⟩)
      refine ⟨.ref s.heap.objs.size, _, I.laid (t' := s.toks) (o := .tup (List.replicate (0 : Int).toNat xs).flatten) (fun b ob q => Heap.get?_push_of_some _ q) (Nat.le_refl _) ?_, rfl, q2 (by decide) _ (I.hok.fresh (Nat.le_refl _))⟩
      exact ⟨Nat.zero_le _, [], .nil, IsTup.new _ _⟩
    · refine wpAny_binaryOp_repeat_ref (T := "tuple") (U := "int") (by decide) ⟨_, ho, rfl⟩ (fun s' => typeIs_int s' 1 t) noFill_tuple_mul F.fills_int_mul F.slot_int_rmul repeat_tuple F.slot_int_index.lookup
        (call_meets F.slot_int_rmul (typeIs_int s 1 t) F.entry_int_rmul (F.args_int_rmul_2 _ _) (int_rmul_tuple 1 t l its.toArray n dd sl)
          ⟨ho, rfl, ⟨_, ho, rfl⟩, call_meets F.slot_tuple_mul ⟨_, ho, rfl⟩ F.entry_tuple_mul (F.args_tuple_mul_2 _ _) (tuple_mulSame l its.toArray n dd sl t) ⟨ho, ?_⟩⟩)
      exact ⟨.ref l, H, I, rfl, q1 rfl⟩
/-! calls of a def, its promise bundled -/
structure Fn (P : Program) (w : World) (K : PySem.W.Frag) (mg : Str → Option Value) (base : Heap) (CX : CXT) (k : Nat) (x : Str) (ps : List Str) (sp : Sp) : Prop where
  ex : ∃ f fd, mg x = some (.ref f) ∧ FnOk P w K mg base CX k f fd ps sp ∧ PySem.W.keepIn K (.ref f) = true ∧ Binds K fd ps []
section
variable {X : Cx} {CX : CXT} {k j : Nat} {ps : List Str} {sp : Sp} {E : XK} {x : Str} {p pos : Pos} {e : Expr} {es : List Expr} {t : TA}
theorem pe_f (c : Fn X.prog X.w X.K X.mg X.base CX k x ps sp) (hr : Room j X.A) (hk : k ≤ j) (hx : Passes CX X E) (hg : Gl X x) (ha : PA X (e :: es) t)
    (hdb : (x == ("__debug__" : Str)) = false := by decide) (he : starEach (e :: es) X.env = (false, eval e X.env) :: starEach es X.env := by rfl) (hpl : (backTo pos (starEach es X.env)).any (·.1) = false := by rfl) :
    PE X (.Call (.Name x p) (e :: es) [] pos) (tCall sp [] E t) := by
  obtain ⟨f, fd, hm, F, hkp, hb⟩ := c.ex
  exact pe_call F (hr.mono hk) hg hm hkp hb .nil hx ha hdb he hpl
end
end K13
namespace K13
open PySem PySem.Spec PyProof.Rows L2
/-! enumerate(a tuple) -/
theorem meets_enumT (l : Addr) (items : Array Value) :
    Meets (Builtin.«enumerate.__new__» ⟨[.type "enumerate", .ref l], []⟩) (fun _ R s => s.heap.IsTuple l items ∧
      R (.ok (.ret (.ref (s.heap.objs.size + 1))))
        { s with heap := (s.heap.push { cls := .type "tuple_iterator", data := .fields #[.ref l, .int 0 0] }).push { cls := .type "enumerate", data := .fields #[.none, .bool false, .ref s.heap.objs.size, rawInt 0, .none, .none] } }) :=
  .of_wp fun prog w A R s h => by
    obtain ⟨hp, g, d, tk, os⟩ := s; obtain ⟨hl, h⟩ := h
    have hsub := sub_enumerate
    have hL : Heap.IsTuple (Shared.heap ⟨hp, g, d, tk, os⟩) l items := hl
    have hz : (hp.push { cls := .type "tuple_iterator", data := .fields #[.ref l, .int 0 0] }).objs.size = hp.objs.size + 1 := Heap.size_push ..
    have h' : R (.ok (.ret (.ref (hp.push { cls := .type "tuple_iterator", data := .fields #[.ref l, .int 0 0] }).objs.size))) ⟨(hp.push { cls := .type "tuple_iterator", data := .fields #[.ref l, .int 0 0] }).push { cls := .type "enumerate", data := .fields #[.none, .bool false, .ref hp.objs.size, rawInt 0, .none, .none] }, g, d, tk, os⟩ := by
      rw [hz]
      exact h
    wp_walk
    refine wpAny_stack_any fun st => wpAny_pure ?_
    split
    · rename_i c _ _ _ _ _
      cases (c == Value.type "enumerate")
      · wp_walk using wpAny_pyIter_tuple hL
        exact ⟨_, rfl, h'⟩
      · wp_walk using wpAny_pyIter_tuple hL
        exact ⟨_, rfl, h'⟩
    · wp_walk using wpAny_pyIter_tuple hL
      exact ⟨_, rfl, h'⟩
section
variable {prog : Program} {w : World} {A : Around} {E : Value → Shared → Prop} {s : Shared}
theorem call_enumT {l : Addr} {items : Array Value} {Q : Value → Shared → Prop} (hl : s.heap.IsTuple l items)
    (h : ∀ h', IsEnum h' (s.heap.objs.size + 1) s.heap.objs.size 0 .none → h'.IsTupleIter s.heap.objs.size l 0 → h'.objs.size = s.heap.objs.size + 2 →
      (∀ b o, s.heap.get? b = some o → h'.get? b = some o) → Q (.ref (s.heap.objs.size + 1)) { s with heap := h' }) :
    wpAny (model prog w) A (call (.type "enumerate") [.ref l]) Q E s := by
  refine callType_new F.called_enumerate (by decide) (F.typeCall_enumerate_1 _) (F.newCall_enumerate_1 _) (fun obj => F.args_object_init_2 obj _) F.entry_enumerate_new
    (meets_enumT l items) ⟨hl, ?_⟩
  have hz : (s.heap.push { cls := .type "tuple_iterator", data := .fields #[.ref l, .int 0 0] }).objs.size = s.heap.objs.size + 1 := Heap.size_push ..
  have he : IsEnum ((s.heap.push { cls := .type "tuple_iterator", data := .fields #[.ref l, .int 0 0] }).push { cls := .type "enumerate", data := .fields #[.none, .bool false, .ref s.heap.objs.size, rawInt 0, .none, .none] }) (s.heap.objs.size + 1) s.heap.objs.size 0 .none := by
    have := Heap.get?_push_size (s.heap.push { cls := .type "tuple_iterator", data := .fields #[.ref l, .int 0 0] }) (o := { cls := .type "enumerate", data := .fields #[.none, .bool false, .ref s.heap.objs.size, rawInt 0, .none, .none] }) rfl
    rw [hz] at this; exact this
  exact ⟨⟨_, he, rfl⟩, h _ he ⟨_, Heap.get?_push_of_some _ (Heap.get?_push_size _ rfl), rfl, rfl⟩ (by rw [Heap.size_push, hz]) fun b o x => Heap.get?_push_of_some _ (Heap.get?_push_of_some _ x)⟩
end
def IteT (K : PySem.W.Frag) (a : Addr) : It :=
  ⟨fun i H => ∃ (xs : List V) (x : V), SqT K H a xs ∧ xs[i]? = some x, fun i H v H' => ∃ T x, v = .ref T ∧ H T = none ∧ H' = upd H T (.tup [.int (i : Nat), x]) ∧ ∀ xs, SqT K H a xs → xs[i]? = some x, fun i H => ∃ xs : List V, SqT K H a xs ∧ xs.length = i⟩
theorem turn_enumT {P : Program} {w : World} {K : PySem.W.Frag} {elts : List Expr} {kk : Nat} {tpos : Pos} (a e it : Addr) :
    Turn P w K (.Tuple elts kk tpos) (IteT K a) [e, it] e (fun i h => (∃ old, IsEnum h e it ((i : Nat) : Int) old) ∧ h.IsTupleIter it a i ∧ e ≠ it ∧ a ≠ it ∧ a ≠ e) where
  mem := by simp
  obj := fun i h st b hb => by
    obtain ⟨⟨old, he⟩, ⟨o, ho, hc, hd⟩, _⟩ := st
    have e' : b = e ∨ b = it := by simpa using hb
    rcases e' with z | z
    · rw [z]; exact ⟨_, he, fun v q => nomatch q⟩
    · rw [z]; exact ⟨o, ho, fun v q => by rw [hd] at q; cases q⟩
  keep := fun i h h' st k => let ⟨⟨old, he⟩, hi, hne⟩ := st; ⟨⟨old, k e (by simp) _ he⟩, hi.at fun o q => k it (by simp) o q, hne⟩
  item := by
    intro X hP hw hK hc i pins s σ H E I hf st hg
    subst hP hw hK
    obtain ⟨⟨old, he⟩, hit, hne, hai, hae⟩ := st
    obtain ⟨xs, x, hq, hx⟩ := hg
    obtain ⟨its, rv, p, hz⟩ := I.tuple hq
    obtain ⟨u, hu, ru⟩ := rv.get hx
    have hel : e < s.heap.objs.size := Heap.lt_size he
    have hil : it < s.heap.objs.size := by obtain ⟨_, q, _⟩ := hit; exact Heap.lt_size q
    have hlen : i < its.toArray.size := by
      have := (List.getElem?_eq_some_iff.mp hu).1
      simpa using this
    have hpt : s.heap.IsTuple a its.toArray := p
    refine wpAny_pyNext_enum_itemC (Draws.tuple (prog := X.prog) (w := X.w) (A := X.A.in1) (I.ok.hd hc) it a hai its.toArray) he ⟨hit, hpt⟩ hlen hne (by simp [hne, Ne.symm hae]) fun u' h' tk hP ho hs' hT hsz hk => ?_
    obtain rfl : u' = u := by
      have e1 : its.toArray[i]? = some u := by simpa using hu
      rw [e1] at hP
      exact (Option.some.inj hP).symm
    refine ⟨_, rfl, wpAny_letOwnedTupleGo_enum (s := { s with heap := h', toks := tk + 1 }) ho fun h'' he' sb => ?_⟩
    have hT2 : h''.get? s.heap.objs.size = some { cls := .type "tuple", data := .seq #[.int i tk, u'] } := (sb.2 _ (Nat.ne_of_gt hel)).trans hT
    have new : ObjOk X.prog X.w (upd H s.heap.objs.size (.tup [.int (i : Nat), x])) h'' s.heap.objs.size (.tup [.int (i : Nat), x]) :=
      ⟨by show 2 ≤ sizeLine; decide, [.int i tk, u'], .cons ⟨_, rfl⟩ (.cons ru .nil), ⟨_, hT2, rfl, _, rfl⟩⟩
    have I1 : Inv X pins σ (upd H s.heap.objs.size (.tup [.int (i : Nat), x])) { s with heap := h'', toks := tk + 1 } :=
      I.turnedNew (ch := [e, it]) (fun b ob hb q => (sb.2 b (fun z => hb (by simp [z]))).trans (hk b ob (fun z => hb (by simp [z])) (fun z => hb (by simp [z])) q)) hf (Nat.le_refl _) new
    refine ⟨.ref s.heap.objs.size, _, I1, rfl, ⟨_, x, rfl, I.hok.fresh (Nat.le_refl _), rfl, fun ys hy => by rw [I.tuple_inj hy hq]; exact hx⟩, ⟨⟨u', ?_⟩, hs'.1.at fun o q => (sb.2 it (Ne.symm hne)).trans q, hne, hai, hae⟩, fun b hb => ?_⟩
    · have e1 : ((i + 1 : Nat) : Int) = (i : Int) + 1 := by omega
      rw [e1]; exact he'
    · have hb' : b < s.heap.objs.size := by
        have e' : b = e ∨ b = it := by simpa using hb
        rcases e' with z | z
        · rw [z]; exact hel
        · rw [z]; exact hil
      rw [upd_ne (Nat.ne_of_lt hb')]
      exact (hf b hb).1
  done := by
    intro X hP hw hK hc i pins s σ H E I hf st hg
    subst hP hw hK
    obtain ⟨⟨old, he⟩, hit, hne, hai, hae⟩ := st
    obtain ⟨xs, hq, hx⟩ := hg
    obtain ⟨its, rv, p, hz⟩ := I.tuple hq
    obtain ⟨f0, f1, f2, f3, f4, f5⟩ := hf it (by simp)
    have hl := rv.length
    have hpt : s.heap.IsTuple a its.toArray := p
    have e1 : its.toArray.size = i := by rw [List.size_toArray]; omega
    subst e1
    exact wpAny_pyNext_enum_endD (Draws.tuple (prog := X.prog) (w := X.w) (A := X.A.in1) (I.ok.hd hc) it a hai its.toArray) he ⟨hit, hpt⟩ fun h' eb => ⟨rfl, I.turned (t' := s.toks) (fun b o hb q => eb b o hb q) f0 f1 f3 f4 f5⟩
  self := fun A i s Q E st h => let ⟨⟨_, he⟩, _⟩ := st; wpAny_pyIter_enum he h
def iEnumT (K : PySem.W.Frag) (ta : TA) : TI := fun σ H R => ta σ H fun vs H1 => ∃ a xs, vs = [.ref a] ∧ SqT K H1 a xs ∧ R (IteT K a) H1
theorem pi_enumT {X : Cx} {e : Expr} {ta : TA} {p pos tpos : Pos} {elts : List Expr} {kk : Nat} (hg : Gl X "enumerate") (hm : X.mg "enumerate" = none) (ha : PA X [e] ta) (hs : starEach [e] X.env = [(false, eval e X.env)] := by rfl) :
    PI X (.Tuple elts kk tpos) (.Call (.Name "enumerate" p) [e] [] pos) (iEnumT X.K ta) := by
  refine ⟨fun pins s σ H R I h => ?_⟩
  refine Call_ (ld_blt I hg hm boot_enumerate (PyProof.Rows.callWith_type1 (thn (ha.run pos pins s σ H _ I h) fun us s1 ⟨vs, H1, I1, r1, q1⟩ => ?_) hs rfl))
  obtain ⟨a, xs, ex, hq, q⟩ := q1
  subst ex
  cases r1 with
  | cons r rr =>
    cases rr
    cases r
    obtain ⟨its, rv, p', hz⟩ := I1.tuple hq
    have hpt : s1.heap.IsTuple a its.toArray := p'
    have hal : a < s1.heap.objs.size := by obtain ⟨_, q', _⟩ := p'; exact Heap.lt_size q'
    refine call_enumT hpt fun h' he hit hsz hk => wpAny_pyIter_enum he ?_
    have I2 : Inv X pins σ H1 { s1 with heap := h' } := I1.kept (t' := s1.toks) hk
    refine ⟨s1.heap.objs.size + 1, [s1.heap.objs.size + 1, s1.heap.objs.size], _, _, H1, rfl, I2, turn_enumT a (s1.heap.objs.size + 1) s1.heap.objs.size, ⟨⟨.none, he⟩, hit, Nat.succ_ne_self _, Nat.ne_of_lt hal, Nat.ne_of_lt (Nat.lt_succ_of_lt hal)⟩, fun b hb => ?_, q⟩
    have e' : b = s1.heap.objs.size + 1 ∨ b = s1.heap.objs.size := by simpa using hb
    have hle : s1.heap.objs.size ≤ b := by
      rcases e' with z | z
      · rw [z]; exact Nat.le_add_right _ _
      · rw [z]; exact Nat.le_refl _
    exact I1.fpOk hle (I1.hok.fresh hle)
theorem walk_enumT {K : PySem.W.Frag} {a : Addr} {xs : List V} : Walk (IteT K a) xs.length (fun H => SqT K H a xs) (YPair (fun i => some (.int (i : Nat))) (fun i => xs[i]?)) := by
  refine ⟨fun i _ hi q => ⟨xs, xs[i], q, by simp [hi]⟩, fun _ q => ⟨xs, q, rfl⟩, fun i H v H' _ q y => ?_⟩
  obtain ⟨T, x, h1, h2, h3, h4⟩ := y
  exact ⟨T, .int (i : Nat), x, h1, h2, h3, rfl, h4 xs q⟩
end K13
namespace K13
open PySem PySem.Spec PyProof.Rows L2
/-! sorted of tuples of ints, any number of them: a list's, a dict's -/
def IsTI (h : Heap) (v : Value) (ns : List Int) : Prop := ∃ (a : Addr) (o : Obj) (items : Array Value) (n : Nat), v = .ref a ∧ h.get? a = some o ∧ o.cls = .type "tuple" ∧ o.data = .seq items n ∧ IntsAre items.toList ns
theorem IsTI.keeps {h h' : Heap} {v : Value} {ns : List Int} (x : IsTI h v ns) (k : ∀ b o, o.cls = .type "tuple" → h.get? b = some o → h'.get? b = some o) : IsTI h' v ns := by
  obtain ⟨a, o, items, n, e, g, c, d, i⟩ := x
  exact ⟨a, o, items, n, e, k _ _ c g, c, d, i⟩
section
variable {prog : Program} {w : World} {A : Around} {E : Value → Shared → Prop} {s : Shared}
theorem katlex_ints {b : Bool} {Q : Bool → Shared → Prop} : ∀ {vs ws : List Value} {ns ms : List Int} (i : Nat), IntsAre vs ns → IntsAre ws ms → ns.length = ms.length → Q (HT.lexLt ns ms) s → PySem.W.KatLex prog w A b false Q (vs.zip ws) i s
  | _, _, _, _, i, .nil, .nil, _, h => PySem.W.kat_nil h
  | _, _, _, _, i, .nil, .cons _ _ _, hl, _ => absurd hl (by simp)
  | _, _, _, _, i, .cons _ _ _, .nil, hl, _ => absurd hl (by simp)
  | _, _, x :: ns, y :: ms, i, .cons _ t hv, .cons _ u hw, hl, h => by
    rw [List.zip_cons_cons]
    rw [HT.lexLt_cons] at h
    refine PySem.W.kat_cons (SeqAt.EqAt.int_int x t y u prog w _ _ ?_)
    refine PySem.W.kat_go (fun e1 => ?_) (fun e1 => ?_)
    · have ex : x = y := by simpa using e1
      rw [if_pos ex] at h
      exact PySem.W.kat_yes (katlex_ints (i + 1) hv hw (by simpa using hl) h)
    · have ex : ¬ x = y := by simpa using e1
      rw [if_neg ex] at h
      exact PySem.W.kat_no (TS.oneLt_ints _ h)
theorem ti_cmp {vs : List Value} {k : Value → List Int} {d : Nat} (hp : ∀ v ∈ vs, IsTI s.heap v (k v) ∧ (k v).length = d) : SrtO.Cmp prog w A s (tuples' true) (fun p => p.1 ∈ vs) (SrtO.lt2 fun v u => HT.lexLt (k v) (k u)) := by
  intro p q hm hm'
  obtain ⟨⟨a, o, items, n, e, ho, hc, hd, hi⟩, l1⟩ := hp _ hm
  obtain ⟨⟨a', o', items', n', e', ho', hc', hd', hi'⟩, l2⟩ := hp _ hm'
  show wpAny (model prog w) A (keyLt' (tuples' true) p.1 q.1) (fun r s' => s' = s ∧ r = HT.lexLt (k p.1) (k q.1)) (fun _ _ => False) s
  have z1 : items.size = (k p.1).length := by rw [← hi.length]; simp
  have z2 : items'.size = (k q.1).length := by rw [← hi'.length]; simp
  rw [e] at hi l1 z1 ⊢
  rw [e'] at hi' l2 z2 ⊢
  refine PySem.W.kat_lt ho hd ho' hd' ?_
  have ef : decide (items.size < items'.size) = false := decide_eq_false (by omega)
  rw [ef]
  exact katlex_ints 0 hi hi' (by omega) ⟨rfl, rfl⟩
theorem ti_firsts {h : Heap} {k : Value → List Int} : ∀ vs : List Value, (∀ v ∈ vs, IsTI h v (k v) ∧ 0 < (k v).length) → ∃ fs : List Value, PySem.W.KatTups h vs fs ∧ fs.length = vs.length ∧ ∀ f ∈ fs, ∃ i t, f = Value.int i t
  | [], _ => ⟨[], trivial, rfl, fun f hf => by cases hf⟩
  | v :: vs, hp => by
    obtain ⟨fs, h1, h2, h3⟩ := ti_firsts vs fun u hu => hp u (List.mem_cons_of_mem _ hu)
    obtain ⟨⟨a, o, ⟨items⟩, n, e, ho, hc, hd, hi⟩, hl⟩ := hp v List.mem_cons_self
    generalize k v = ns at hi hl
    cases hi with
    | nil => simp at hl
    | cons x t hi' =>
      refine ⟨.int x t :: fs, ⟨⟨a, o, _, n, e, ho, hc, hd, rfl⟩, h1⟩, congrArg Nat.succ h2, fun f hf => ?_⟩
      rcases List.mem_cons.mp hf with rfl | hf
      · exact ⟨x, t, rfl⟩
      · exact h3 f hf
theorem ti_sortable {a : Addr} {vs : List Value} {k : Value → List Int} {d : Nat} (h0 : 0 < vs.length) (hd : 0 < d) (hp : ∀ v ∈ vs, IsTI s.heap v (k v) ∧ (k v).length = d) (ha : ∀ o, s.heap.get? a = some o → o.cls ≠ .type "tuple") :
    SrtO.SortableO prog w A s a vs fun v u => HT.lexLt (k v) (k u) := by
  intro h' keep
  have hp' : ∀ v ∈ vs, IsTI h' v (k v) ∧ (k v).length = d := fun v hm => ⟨(hp v hm).1.keeps fun b o c e => keep b o (fun z => by subst z; exact ha o e c) e, (hp v hm).2⟩
  obtain ⟨fs, h1, h2, h3⟩ := ti_firsts (h := h') vs fun v hm => ⟨(hp' v hm).1, by rw [(hp' v hm).2]; exact hd⟩
  refine ⟨tuples' true, fun Q E hq => ?_, ti_cmp (s := { s with heap := h' }) hp'⟩
  refine PySem.W.kat_kind (s := { s with heap := h' }) (T := .type "int") h1 (by omega) (fun f hm => ?_) (by rfl) ?_
  · obtain ⟨x, t, rfl⟩ := h3 f hm
    exact PySem.W.Looks.now
  · have e : (Value.type "int" != Value.type "tuple") = true := by first | decide +kernel | rfl | decide
    rw [e]
    exact hq
end
/-- a tracked tuple of ints -/
theorem isTI_of {P : Program} {w : World} {H : Hp} {h : Heap} {t : Addr} {ns : List Int} (ok : HOk P w H h) (e : H t = some (.tup (ns.map V.int))) : IsTI h (.ref t) ns := by
  obtain ⟨_, its, r, o, ho, hc, n, hd⟩ := (show ObjOk P w H h t (.tup (ns.map V.int)) from ok t _ e)
  exact ⟨t, o, its.toArray, n, rfl, ho, hc, hd, by simpa using r.ints⟩
def rSortT (K : PySem.W.Frag) : List V → Hp → VK → Prop := fun vs H Q => ∃ (a : Addr) (ts : List Addr) (k : Addr → List Int) (d : Nat), vs = [V.ref a] ∧ SqL K H a (ts.map V.ref) ∧ 0 < d ∧ (∀ t ∈ ts, H t = some (.tup ((k t).map V.int)) ∧ (k t).length = d) ∧
  ∀ (ts' : List Addr) (p : Addr), ts'.Perm ts → ts'.Pairwise (fun p q => HT.lexLt (k q) (k p) = false) → H p = none → Q (.ref p) (upd H p (.lst (ts'.map V.ref)))
theorem out_refs {ts : List Addr} {out : List Value} (hp : out.Perm (ts.map Value.ref)) : out = (out.map adO).map Value.ref ∧ (out.map adO).Perm ts := by
  refine ⟨ref_map fun u hm => ?_, ?_⟩
  · obtain ⟨t, _, e⟩ := List.mem_map.mp (hp.mem_iff.mp hm)
    exact ⟨t, e.symm⟩
  · have p1 := hp.map adO
    rw [ad_map] at p1
    exact p1
section
variable {X : Cx}
theorem cr_sortT : CallR X (.builtin "sorted") (rSortT X.K) := by
  intro pins s σ H vs us Q I r h
  obtain ⟨a, ts, k, d, rfl, hs, hd, hx, q⟩ := h
  obtain ⟨its, rv, hl, hz⟩ := I.list hs
  obtain ⟨u, rfl, ru⟩ := vals1 r
  obtain rfl : u = Value.ref a := ru
  have ei := nts_of rv
  have hzs : its.length ≤ sizeLine := by rw [← rv.length]; exact hz
  have hv : ∀ u ∈ its, IsTI s.heap u (k (adO u)) ∧ (k (adO u)).length = d := fun u hm => by
    rw [ei] at hm
    obtain ⟨t, ht, rfl⟩ := List.mem_map.mp hm
    exact ⟨isTI_of I.hok (hx t ht).1, (hx t ht).2⟩
  refine SrtO.sorted_ord (NtL.swo_lexL fun u => k (adO u)) hl.isList hzs (fun h2 h₁ a' ha kk => ti_sortable (s := { s with heap := h₁ }) (by omega) hd (fun v hm => ⟨(hv v hm).1.keeps fun b o c e => (kk b o e).2, (hv v hm).2⟩) fun o e => ?_) fun out h1 h2 => ?_
  · have e' : some o = some (seqObj "list" its.toArray 0) := e.symm.trans ha
    cases e'
    intro c
    exact absurd (Value.type.inj c) (by decide)
  · have hp0 : out.Perm (ts.map Value.ref) := by rw [← ei]; exact h2.perm
    obtain ⟨eo, hp⟩ := out_refs hp0
    obtain ⟨ep, he'⟩ := PyProof.Rows.sortedAll_at s.heap its out.toArray
    have hlen : ((out.map adO).map V.ref).length ≤ sizeLine := by
      rw [List.length_map, hp.length_eq]
      rw [List.length_map] at hz
      exact hz
    have rvo : Vals ((out.map adO).map V.ref) out := by
      have z := of_nts (out.map adO)
      rw [← eo] at z
      exact z
    have hpw : (out.map adO).Pairwise (fun p q => HT.lexLt (k q) (k p) = false) := List.pairwise_map.mpr (h1.imp fun {x y} z => z)
    exact ⟨.ref _, upd H (s.heap.objs.size + 1) (.lst ((out.map adO).map V.ref)), I.laid (t' := s.toks) (fun _ _ => PyProof.Rows.sortedAll_old) (Nat.le_succ _) ⟨hlen, _, ep, rvo, he'⟩, rfl, q _ _ hp hpw (I.hok.fresh (Nat.le_succ _))⟩
/-- sorted(d), d's keys tuples of ints -/
def rSortD : List V → Hp → VK → Prop := fun vs H Q => ∃ (a : Addr) (kvs : List (List Key × V)) (ps : List (List Int)) (d : Nat), vs = [V.ref a] ∧ H a = some (.dT kvs) ∧ kvs.map (·.1) = ps.map (fun p => p.map Sum.inl) ∧ 0 < d ∧ (∀ p ∈ ps, p.length = d) ∧
  ∀ (ts : List Addr) (qs : List (List Int)) (p : Addr), qs.Perm ps → Paired (fun (t : Addr) (n : List Int) => H t = some (.tup (n.map V.int))) ts qs → H p = none → Q (.ref p) (upd H p (.lst (ts.map V.ref)))
theorem cr_sortD (hcalm : X.calm = true) : CallR X (.builtin "sorted") rSortD := by
  intro pins s σ H vs us Q I r h
  obtain ⟨a, kvs, ps, d, rfl, hd, hk, hd0, hl, q⟩ := h
  obtain ⟨u, rfl, ru⟩ := vals1 r
  obtain rfl : u = Value.ref a := ru
  obtain ⟨z, hs, ks, pr, o, es, ep, ho, hx, hdt, he, hn⟩ := (show ObjOk X.prog X.w H s.heap a (.dT kvs) from I.hok a _ hd)
  have l1 : es.size = ks.length := size_of_entries he
  have l2 : kvs.length = ks.length := Paired.length pr
  refine Calls.call_function_entry PyProof.Rows.kind_sorted PyProof.Rows.plain_sorted PyProof.Rows.entry_sorted (PyProof.Rows.args_sorted1 _) ?_
  unfold Builtin.«sorted»
  refine wpAny_bind (m := checkCount "sorted" 1 1 _) (wpAny_pure ?_)
  refine wpAny_bind (PySem.W.kdu_collect (A := X.A.in1) (kdl_raw hs hx hdt) (I.ok.hd hcalm) ho (by omega) fun h' tk acc hkp hacc => ?_)
  have ea : acc.toList = (ks.map fun x => x.2.1).map Value.ref := by
    rw [List.map_map]
    apply List.ext_getElem?
    intro j
    rw [List.getElem?_map]
    cases hj : acc.toList[j]? with
    | none =>
      have h1 := List.getElem?_eq_none_iff.mp hj
      have h2 : acc.toList.length = ks.length := by rw [Array.length_toList, hacc.1]; exact l1
      rw [List.getElem?_eq_none (by omega)] <;> rfl
    | some v =>
      obtain ⟨en, hen, hv⟩ := hacc.2 j v (by rw [← Array.getElem?_toList]; exact hj)
      have qe := entry_at he j
      rw [hen] at qe
      cases hb : ks[j]? with
      | none =>
        rw [hb] at qe
        exact nomatch (show some en = none from qe)
      | some b =>
        rw [hb] at qe
        have e2 : en = entryOfKey (tupleKind (mixKind X.prog X.w)) b := Option.some.inj qe
        rw [hv, e2] <;> rfl
  -- the key's numbers by its tuple
  have hkm : ∀ x ∈ ks, ∃ p ∈ ps, x.1 = p.map Sum.inl ∧ H x.2.1 = some (.tup (p.map V.int)) := by
    have gen : ∀ {kvs : List (List Key × V)} {ks : List (List Key × Addr × Value)} {ps : List (List Int)}, KT H kvs ks → kvs.map (·.1) = ps.map (fun p => p.map Sum.inl) → ∀ x ∈ ks, ∃ p ∈ ps, x.1 = p.map Sum.inl ∧ H x.2.1 = some (.tup (p.map V.int)) := by
      intro kvs ks ps pr
      induction pr generalizing ps with
      | nil => intro _ x hx; cases hx
      | @cons kv x0 kvs ks hh t ih =>
        intro hk x hx
        cases ps with
        | nil => simp at hk
        | cons p ps =>
          rw [List.map_cons, List.map_cons] at hk
          injection hk with hk1 hk2
          rcases List.mem_cons.mp hx with rfl | hx
          · refine ⟨p, List.mem_cons_self, by rw [← hh.1]; exact hk1, ?_⟩
            have := hh.2.1
            rw [hk1, List.map_map] at this
            exact this
          · obtain ⟨p', a1, a2⟩ := ih hk2 x hx
            exact ⟨p', List.mem_cons_of_mem _ a1, a2⟩
    exact gen pr hk
  have hkl : ks.map (·.1) = ps.map (fun p => p.map Sum.inl) := by
    rw [← hk]
    have gen : ∀ {kvs : List (List Key × V)} {ks : List (List Key × Addr × Value)}, KT H kvs ks → ks.map (·.1) = kvs.map (·.1) := by
      intro kvs ks pr
      induction pr with
      | nil => rfl
      | cons hh t ih => rw [List.map_cons, List.map_cons, hh.1, ih]
    exact gen pr
  -- numbers of a tuple, read off the heap
  have I1 : Inv X pins σ H { s with heap := h', toks := tk } := I.kept hkp
  let kk : Addr → List Int := fun t => match H t with
    | some (.tup xs) => xs.filterMap fun v => match v with
      | .int i => some i
      | _ => none
    | _ => []
  have kkp : ∀ {t : Addr} {p : List Int}, H t = some (.tup (p.map V.int)) → kk t = p := fun {t p} e => by
    show (match H t with | some (.tup xs) => _ | _ => _) = p
    rw [e]
    show (p.map V.int).filterMap _ = p
    rw [List.filterMap_map]
    exact List.filterMap_some
  have hv : ∀ u ∈ acc.toList, IsTI h' u (kk (adO u)) ∧ (kk (adO u)).length = d := fun u hm => by
    rw [ea] at hm
    obtain ⟨t, ht, rfl⟩ := List.mem_map.mp hm
    obtain ⟨x, hx', rfl⟩ := List.mem_map.mp ht
    obtain ⟨p, hp, _, e⟩ := hkm x hx'
    show IsTI h' (.ref x.2.1) (kk x.2.1) ∧ _
    rw [show adO (.ref x.2.1) = x.2.1 from rfl, kkp e]
    exact ⟨isTI_of I1.hok e, hl p hp⟩
  have hal : acc.toList.length = ks.length := by rw [ea, List.length_map, List.length_map]
  refine wpAny_bind (wpAny_newList ?_ (by omega))
  have hoL : (h'.push (seqObj "list" acc.toList.toArray 0)).get? h'.objs.size = some (seqObj "list" acc.toList.toArray 0) := Heap.get?_push_size _ rfl
  show wpAny _ _ _ _ _ { s with heap := h'.push (seqObj "list" acc.toList.toArray 0), toks := tk }
  refine wpAny_bind (wpAny_holding (wpAny_call_entry PyProof.Rows.slot_list_sort ⟨_, hoL, rfl⟩ PyProof.Rows.entry_list_sort
    (SrtO.list_sort_ord (s := { s with heap := h'.push (seqObj "list" acc.toList.toArray 0), toks := tk }) (NtL.swo_lexL fun u => kk (adO u)) hoL (by omega)
      (fun h2 => ti_sortable (s := { s with heap := h'.push (seqObj "list" acc.toList.toArray 0), toks := tk }) (by omega) hd0 (fun v hm => ⟨(hv v hm).1.keeps fun b o c e => Heap.get?_push_of_some _ e, (hv v hm).2⟩) fun o e => ?_) fun out h1 h2 => ⟨_, rfl, ?_⟩)
    (PyProof.Rows.args_list_sort _)))
  · have e' : some o = some (seqObj "list" acc.toList.toArray 0) := e.symm.trans hoL
    cases e'
    intro c
    exact absurd (Value.type.inj c) (by decide)
  · have hp0 : out.Perm ((ks.map fun x => x.2.1).map Value.ref) := by rw [← ea]; exact h2.perm
    obtain ⟨eo, hp⟩ := out_refs hp0
    obtain ⟨e', he'⟩ := PyProof.Rows.sortedHeap_at (vs := acc.toList) (out := out.toArray) hoL
    have hlen : ((out.map adO).map V.ref).length ≤ sizeLine := by
      rw [List.length_map, hp.length_eq, List.length_map]
      omega
    have rvo : Vals ((out.map adO).map V.ref) out := by
      have z := of_nts (out.map adO)
      rw [← eo] at z
      exact z
    have hq1 : ((out.map adO).map kk).Perm ps := by
      refine (hp.map kk).trans ?_
      have : (ks.map fun x => x.2.1).map kk = ps := by
        have gen : ∀ {ks : List (List Key × Addr × Value)} {ps : List (List Int)}, ks.map (·.1) = ps.map (fun p => p.map Sum.inl) → (∀ x ∈ ks, ∀ p : List Int, x.1 = p.map Sum.inl → H x.2.1 = some (.tup (p.map V.int))) → (ks.map fun x => x.2.1).map kk = ps := by
          intro ks
          induction ks with
          | nil =>
            intro ps e _
            cases ps with
            | nil => rfl
            | cons _ _ => simp at e
          | cons x ks ih =>
            intro ps e f
            cases ps with
            | nil => simp at e
            | cons p ps =>
              rw [List.map_cons, List.map_cons] at e
              injection e with e1 e2
              rw [List.map_cons, List.map_cons, kkp (f x List.mem_cons_self p e1), ih e2 fun y hy => f y (List.mem_cons_of_mem _ hy)]
        refine gen hkl fun x hx' p e => ?_
        obtain ⟨p', _, e1, e2⟩ := hkm x hx'
        have : p' = p := by
          have e3 := e1.symm.trans e
          exact (List.map_inj_right (fun _ _ h => Sum.inl.inj h)).mp e3
        rw [← this]
        exact e2
      rw [this]
    have hq2 : Paired (fun (t : Addr) (n : List Int) => H t = some (.tup (n.map V.int))) (out.map adO) ((out.map adO).map kk) := by
      have gen : ∀ l : List Addr, (∀ t ∈ l, ∃ p : List Int, H t = some (.tup (p.map V.int))) → Paired (fun (t : Addr) (n : List Int) => H t = some (.tup (n.map V.int))) l (l.map kk) := by
        intro l
        induction l with
        | nil => intro _; exact .nil
        | cons t l ih =>
          intro f
          obtain ⟨p, e⟩ := f t List.mem_cons_self
          exact .cons (by rw [kkp e]; exact e) (ih fun u hu => f u (List.mem_cons_of_mem _ hu))
      refine gen _ fun t ht => ?_
      have := hp.mem_iff.mp ht
      obtain ⟨x, hx', rfl⟩ := List.mem_map.mp this
      obtain ⟨p, _, _, e⟩ := hkm x hx'
      exact ⟨p, e⟩
    refine wpAny_pure ⟨_, rfl, .ref h'.objs.size, upd H h'.objs.size (.lst ((out.map adO).map V.ref)), I1.laid (t' := tk) (fun b u e => ?_) (Nat.le_refl _)
      (show ObjOk X.prog X.w _ _ _ (.lst ((out.map adO).map V.ref)) from ⟨hlen, out, e', rvo, he'⟩), rfl, q _ _ _ hq1 hq2 (I1.hok.fresh (Nat.le_refl _))⟩
    have hb : b < h'.objs.size := Heap.lt_size e
    rw [PyProof.Rows.sortedHeap_old (Nat.ne_of_lt hb) (by rw [size_push']; exact Nat.lt_succ_of_lt hb)]
    exact Heap.get?_push_of_some _ e
end
end K13
namespace K13
open PySem PySem.Spec L2 Evl
/-! what stays of a heap -/
def TEx (H H' : Hp) : Prop := ∀ a xs, H a = some (.tup xs) → H' a = some (.tup xs)
theorem TEx.refl (H : Hp) : TEx H H := fun _ _ h => h
theorem TEx.trans {H H1 H2 : Hp} (a : TEx H H1) (b : TEx H1 H2) : TEx H H2 := fun x o h => b x o (a x o h)
theorem tex {H H' : Hp} (e : Ex H H') : TEx H H' := fun a xs h => e a _ h
theorem TEx.mut {H : Hp} {l : Addr} {o o' : HO} (h : H l = some o) (hn : ∀ xs, o ≠ .tup xs) : TEx H (upd H l o') := fun a xs e => by
  have : a ≠ l := fun z => by
    rw [z, h] at e
    exact hn xs (Option.some.inj e)
  rw [upd_ne this]
  exact e
theorem TEx.lst {H : Hp} {l : Addr} {ys : List V} {o' : HO} (h : H l = some (.lst ys)) : TEx H (upd H l o') := TEx.mut h fun _ z => nomatch z
theorem TEx.dT {H : Hp} {l : Addr} {kvs : List (List Key × V)} {o' : HO} (h : H l = some (.dT kvs)) : TEx H (upd H l o') := TEx.mut h fun _ z => nomatch z
theorem TEx.new {H : Hp} {l : Addr} {o' : HO} (h : H l = none) : TEx H (upd H l o') := tex (Ex.new h)
/-! points, matrices, lists of points -/
abbrev Pt := List Int
abbrev PtA (H : Hp) (a : Addr) (p : Pt) : Prop := H a = some (.tup (p.map V.int))
abbrev Pts (H : Hp) (as : List Addr) (ps : List Pt) : Prop := Paired (PtA H) as ps
def PtV (H : Hp) (v : V) (p : Pt) : Prop := ∃ a, v = .ref a ∧ PtA H a p
/-- a tuple of points -/
def MxV (H : Hp) (v : V) (m : List Pt) : Prop := ∃ a as, v = .ref a ∧ H a = some (.tup (as.map V.ref)) ∧ Pts H as m
/-- a list of points -/
def PLV (H : Hp) (v : V) (ps : List Pt) : Prop := ∃ a as, v = .ref a ∧ H a = some (.lst (as.map V.ref)) ∧ Pts H as ps
section
variable {H H' : Hp} {a : Addr} {v : V} {p : Pt} {m ps : List Pt} {as : List Addr}
theorem Pts.tex (h : Pts H as ps) (e : TEx H H') : Pts H' as ps := Paired.mapP h fun _ _ q => e _ _ q
theorem Pts.ex (h : Pts H as ps) (e : Ex H H') : Pts H' as ps := h.tex (K13.tex e)
theorem PtV.tex (h : PtV H v p) (e : TEx H H') : PtV H' v p := let ⟨a, h1, h2⟩ := h; ⟨a, h1, e _ _ h2⟩
theorem PtV.ex (h : PtV H v p) (e : Ex H H') : PtV H' v p := h.tex (K13.tex e)
theorem MxV.tex (h : MxV H v m) (e : TEx H H') : MxV H' v m := let ⟨a, as, h1, h2, h3⟩ := h; ⟨a, as, h1, e _ _ h2, h3.tex e⟩
theorem MxV.ex (h : MxV H v m) (e : Ex H H') : MxV H' v m := h.tex (K13.tex e)
theorem PLV.ex (h : PLV H v ps) (e : Ex H H') : PLV H' v ps := let ⟨a, as, h1, h2, h3⟩ := h; ⟨a, as, h1, e _ _ h2, h3.ex e⟩
theorem Pts.get (h : Pts H as ps) : ∀ {i : Nat} {b : Addr}, as[i]? = some b → ∃ p, ps[i]? = some p ∧ PtA H b p := fun {i b} e => paired_get h e
theorem paired_get2 {α β : Type} {G : α → β → Prop} : ∀ {l₁ : List α} {l₂ : List β}, Paired G l₁ l₂ → ∀ {i : Nat} {b : β}, l₂[i]? = some b → ∃ a, l₁[i]? = some a ∧ G a b
  | _, _, .nil, i, b, e => by simp at e
  | _, _, .cons h t, 0, b, e => by simp at e; subst e; exact ⟨_, rfl, h⟩
  | _, _, .cons h t, i + 1, b, e => by
    obtain ⟨a, h1, h2⟩ := paired_get2 t (i := i) (b := b) (by simpa using e)
    exact ⟨a, by simpa using h1, h2⟩
theorem Pts.get2 (h : Pts H as ps) {i : Nat} {p : Pt} (e : ps[i]? = some p) : ∃ b, as[i]? = some b ∧ PtA H b p := paired_get2 h e
theorem Pts.len (h : Pts H as ps) : as.length = ps.length := Paired.length h
theorem paired_snoc {α β : Type} {G : α → β → Prop} {l₁ : List α} {l₂ : List β} {a : α} {b : β} : Paired G l₁ l₂ → G a b → Paired G (l₁ ++ [a]) (l₂ ++ [b])
  | .nil, h => .cons h .nil
  | .cons x t, h => .cons x (paired_snoc t h)
theorem paired_append {α β : Type} {G : α → β → Prop} {l₁ m₁ : List α} {l₂ m₂ : List β} : Paired G l₁ l₂ → Paired G m₁ m₂ → Paired G (l₁ ++ m₁) (l₂ ++ m₂)
  | .nil, h => h
  | .cons x t, h => .cons x (paired_append t h)
theorem paired_iff {α β : Type} {G : α → β → Prop} : ∀ {l₁ : List α} {l₂ : List β}, l₁.length = l₂.length → (∀ (i : Nat) (a : α) (b : β), l₁[i]? = some a → l₂[i]? = some b → G a b) → Paired G l₁ l₂
  | [], [], _, _ => .nil
  | [], _ :: _, h, _ => by simp at h
  | _ :: _, [], h, _ => by simp at h
  | a :: l₁, b :: l₂, h, f => .cons (f 0 a b rfl rfl) (paired_iff (by simpa using h) fun i x y h1 h2 => f (i + 1) x y (by simpa using h1) (by simpa using h2))
end
/-! what evaluates to a value of which P is true -/
def EvP (te : TE) (σ : L2.St) (H : Hp) (P : V → Hp → Prop) : Prop := ∀ H1, Ex H H1 → ∀ Q : VK, (∀ v H2, Ex H1 H2 → P v H2 → Q v H2) → te σ H1 Q
def RP (r : R2) (x y : V) (H : Hp) (P : V → Hp → Prop) : Prop := ∀ H1, Ex H H1 → ∀ Q : VK, (∀ v H2, Ex H1 H2 → P v H2 → Q v H2) → r x y H1 Q
def RCP (r : List V → Hp → VK → Prop) (vs : List V) (H : Hp) (P : V → Hp → Prop) : Prop := ∀ H1, Ex H H1 → ∀ Q : VK, (∀ v H2, Ex H1 H2 → P v H2 → Q v H2) → r vs H1 Q
def SpP (sp : Sp) (vs : List V) (H : Hp) (P : V → Hp → Prop) : Prop := ∀ H1, Ex H H1 → ∀ Q : VK, (∀ v H2, Ex H1 H2 → P v H2 → Q v H2) → ∀ E : XK, sp vs H1 Q E
section
variable {K : PySem.W.Frag} {σ : L2.St} {H H' : Hp} {ta tb tc te : TE} {t u : TT} {x y z v : V} {r : R2} {P Pa Pb Pc : V → Hp → Prop}
theorem EvP.run (h : EvP te σ H P) {Q : VK} (k : ∀ v H', Ex H H' → P v H' → Q v H') : te σ H Q := h H (Ex.refl H) Q k
theorem EvP.mono (e : Ex H H') (h : EvP te σ H P) : EvP te σ H' P := fun H1 a Q q => h H1 (e.trans a) Q q
theorem EvP.imp (h : EvP te σ H P) (k : ∀ v H', Ex H H' → P v H' → Pa v H') : EvP te σ H Pa := fun H1 e Q q => h H1 e Q fun v H2 e2 p => q v H2 e2 (k v H2 (e.trans e2) p)
theorem EvP.of (h : Ev te σ H v) (k : ∀ H', Ex H H' → P v H') : EvP te σ H P := fun H1 e Q q => h H1 e Q fun H2 e2 => q v H2 e2 (k H2 (e.trans e2))
theorem Ev.of (h : EvP te σ H fun x _ => x = v) : Ev te σ H v := fun H1 e Q q => h H1 e Q fun x H2 e2 p => by rw [p]; exact q H2 e2
theorem evp_var {i : Nat} (h : σ[i]? = some (some v)) (k : ∀ H', Ex H H' → P v H') : EvP (tVar i) σ H P := EvP.of (ev_var h) k
theorem evp_op (ha : EvP ta σ H Pa) (hb : ∀ x H1, Ex H H1 → Pa x H1 → ∃ Pb, EvP tb σ H1 Pb ∧ ∀ y H2, Ex H1 H2 → Pb y H2 → RP r x y H2 P) : EvP (tOp r ta tb) σ H P := fun H1 e Q q =>
  ha H1 e _ fun x H2 e2 px => by
    obtain ⟨Pb, h1, h2⟩ := hb x H2 (e.trans e2) px
    exact h1 H2 (Ex.refl H2) _ fun y H3 e3 py => h2 y H3 e3 py H3 (Ex.refl H3) Q fun v H4 e4 pv => q v H4 ((e2.trans e3).trans e4) pv
theorem evp_opV (ha : Ev ta σ H x) (hb : Ev tb σ H y) (hr : RP r x y H P) : EvP (tOp r ta tb) σ H P := fun H1 e Q q =>
  ha H1 e _ fun H2 e2 => hb H2 (e.trans e2) _ fun H3 e3 => hr H3 ((e.trans e2).trans e3) Q fun v H4 e4 pv => q v H4 ((e2.trans e3).trans e4) pv
theorem rp_of (h : RV r x y H z) : RP r x y H fun v _ => v = z := fun H1 e Q q => h H1 e Q fun H2 e2 => q z H2 e2 rfl
theorem evp_call1 {sp : Sp} {E : XK} (ha : EvP ta σ H Pa) (hs : ∀ x H1, Ex H H1 → Pa x H1 → SpP sp [x] H1 P) : EvP (tCall sp [] E (tCons ta tNil)) σ H P := fun H1 e Q q =>
  ha H1 e _ fun x H2 e2 px => hs x H2 (e.trans e2) px H2 (Ex.refl H2) Q (fun v H3 e3 pv => q v H3 (e2.trans e3) pv) E
theorem evp_call2 {sp : Sp} {E : XK} (ha : EvP ta σ H Pa) (hb : ∀ x H1, Ex H H1 → Pa x H1 → ∃ Pb, EvP tb σ H1 Pb ∧ ∀ y H2, Ex H1 H2 → Pb y H2 → SpP sp [x, y] H2 P) : EvP (tCall sp [] E (tCons ta (tCons tb tNil))) σ H P := fun H1 e Q q =>
  ha H1 e _ fun x H2 e2 px => by
    obtain ⟨Pb, h1, h2⟩ := hb x H2 (e.trans e2) px
    exact h1 H2 (Ex.refl H2) _ fun y H3 e3 py => h2 y H3 e3 py H3 (Ex.refl H3) Q (fun v H4 e4 pv => q v H4 ((e2.trans e3).trans e4) pv) E
theorem evp_call3 {sp : Sp} {E : XK} (ha : EvP ta σ H Pa) (hb : ∀ x H1, Ex H H1 → Pa x H1 → ∃ Pb, EvP tb σ H1 Pb ∧ ∀ y H2, Ex H1 H2 → Pb y H2 → ∃ Pc, EvP tc σ H2 Pc ∧ ∀ z H3, Ex H2 H3 → Pc z H3 → SpP sp [x, y, z] H3 P) :
    EvP (tCall sp [] E (tCons ta (tCons tb (tCons tc tNil)))) σ H P := fun H1 e Q q =>
  ha H1 e _ fun x H2 e2 px => by
    obtain ⟨Pb, h1, h2⟩ := hb x H2 (e.trans e2) px
    refine h1 H2 (Ex.refl H2) _ fun y H3 e3 py => ?_
    obtain ⟨Pc, h3, h4⟩ := h2 y H3 e3 py
    exact h3 H3 (Ex.refl H3) _ fun z H4 e4 pz => h4 z H4 e4 pz H4 (Ex.refl H4) Q (fun v H5 e5 pv => q v H5 (((e2.trans e3).trans e4).trans e5) pv) E
theorem evp_cb1 {r : List V → Hp → VK → Prop} (ha : EvP ta σ H Pa) (hs : ∀ x H1, Ex H H1 → Pa x H1 → RCP r [x] H1 P) : EvP (tCB r (tCons ta tNil)) σ H P := fun H1 e Q q =>
  ha H1 e _ fun x H2 e2 px => hs x H2 (e.trans e2) px H2 (Ex.refl H2) Q (fun v H3 e3 pv => q v H3 (e2.trans e3) pv)
theorem evp_cb2 {r : List V → Hp → VK → Prop} (ha : EvP ta σ H Pa) (hb : ∀ x H1, Ex H H1 → Pa x H1 → ∃ Pb, EvP tb σ H1 Pb ∧ ∀ y H2, Ex H1 H2 → Pb y H2 → RCP r [x, y] H2 P) : EvP (tCB r (tCons ta (tCons tb tNil))) σ H P := fun H1 e Q q =>
  ha H1 e _ fun x H2 e2 px => by
    obtain ⟨Pb, h1, h2⟩ := hb x H2 (e.trans e2) px
    exact h1 H2 (Ex.refl H2) _ fun y H3 e3 py => h2 y H3 e3 py H3 (Ex.refl H3) Q (fun v H4 e4 pv => q v H4 ((e2.trans e3).trans e4) pv)
theorem evp_if {b : Bool} (h : EvT t σ H b) (h1 : b = true → EvP ta σ H P) (h2 : b = false → EvP tb σ H P) : EvP (tIf t ta tb) σ H P := fun H1 e Q q => h H1 e _ fun H2 e2 => by
  cases b with
  | true => exact h1 rfl H2 (e.trans e2) Q fun v H3 e3 => q v H3 (e2.trans e3)
  | false => exact h2 rfl H2 (e.trans e2) Q fun v H3 e3 => q v H3 (e2.trans e3)
/-- a written tuple, list -/
theorem evp_tup {ta : TA} {vs : List V} (h : EvA ta σ H vs) (hl : vs.length ≤ 100000) : EvP (tTup ta) σ H fun v H' => ∃ t, v = .ref t ∧ H' t = some (.tup vs) := fun H1 e Q q =>
  h H1 e _ fun H2 e2 => ⟨sz_of hl, fun p hp => q _ _ (e2.trans (Ex.new hp)) ⟨p, rfl, upd_same⟩⟩
theorem evp_lst {ta : TA} {vs : List V} (h : EvA ta σ H vs) (hl : vs.length ≤ 100000) : EvP (tLst ta) σ H fun v H' => ∃ t, v = .ref t ∧ H t = none ∧ H' t = some (.lst vs) := fun H1 e Q q =>
  h H1 e _ fun H2 e2 => ⟨sz_of hl, fun p hp => q _ _ (e2.trans (Ex.new hp)) ⟨p, rfl, fresh_back (e.trans e2) hp, upd_same⟩⟩
/-! tuple(a new list) -/
def rTup (K : PySem.W.Frag) : List V → Hp → VK → Prop := fun xs H Q => ∃ p ys, xs = [.ref p] ∧ ((SqL K H p ys ∧ ∀ l, H l = none → Q (.ref l) (upd H l (.tup ys))) ∨ (SqT K H p ys ∧ Q (.ref p) H))
theorem cr_tup {X : Cx} : CallR X (.type "tuple") (rTup X.K) := call_tuple_of
theorem evp_tuple {Py : List V → Hp → Prop} (hst : ∀ ys H H', TEx H H' → Py ys H → Py ys H') (h : EvP ta σ H fun v H' => ∃ D ys, v = .ref D ∧ H' D = some (.lst ys) ∧ Py ys H') :
    EvP (tCB (rTup K) (tCons ta tNil)) σ H fun v H' => ∃ t ys, v = .ref t ∧ H' t = some (.tup ys) ∧ Py ys H' := fun H1 e Q q =>
  h H1 e _ fun v H2 e2 ⟨D, ys, ev, hD, py⟩ => ⟨D, ys, by rw [ev], Or.inl ⟨sq_of hD, fun l hl => q _ _ (e2.trans (Ex.new hl)) ⟨l, ys, rfl, upd_same, hst ys _ _ (TEx.new hl) py⟩⟩⟩
/-! walks -/
structure Wk (J : It) (n : Nat) (G : Hp → Prop) (y : Nat → V → Hp → Prop) : Prop where
  goes : ∀ i H, i < n → G H → J.go i H
  stops : ∀ H, G H → J.stop n H
  yields : ∀ i H x H', i < n → G H → J.yld i H x H' → Ex H H' ∧ y i x H'
/-- an iterable of n turns; what it gives at turn i is told by y -/
def EvI (wi : TI) (σ : L2.St) (H : Hp) (n : Nat) (y : Nat → V → Hp → Prop) : Prop := ∀ H1, Ex H H1 → ∀ R : It → Hp → Prop, (∀ J G H2, Ex H1 H2 → Wk J n G y → (∀ H3, Ex H2 H3 → G H3) → R J H2) → wi σ H1 R
theorem EvI.imp {wi : TI} {n : Nat} {y y' : Nat → V → Hp → Prop} (h : EvI wi σ H n y) (k : ∀ i x H', i < n → y i x H' → y' i x H') : EvI wi σ H n y' := fun H1 e R q => h H1 e R fun J G H2 e2 w g =>
  q J G H2 e2 ⟨w.goes, w.stops, fun i H x H' hi hg hy => ⟨(w.yields i H x H' hi hg hy).1, k i x H' hi (w.yields i H x H' hi hg hy).2⟩⟩ g
theorem evi_list {a : Addr} {xs : List V} {tl : TE} (h : Ev tl σ H (.ref a)) (hx : SqL K H a xs) : EvI (iList K tl) σ H xs.length (fun i x _ => xs[i]? = some x) := fun H1 e R q => h H1 e _ fun H2 e2 =>
  ⟨a, rfl, ⟨xs, ex_l (e.trans e2) hx⟩, q _ (fun H => SqL K H a xs) H2 e2 ⟨walk_list.goes, walk_list.stops, fun i H x H' hi hg hy => by
    obtain ⟨e1, e2⟩ := walk_list.yields i H x H' hi hg hy
    exact ⟨by rw [e1]; exact Ex.refl H, e2⟩⟩ fun H3 e3 => ex_l ((e.trans e2).trans e3) hx⟩
theorem evi_tup {a : Addr} {xs : List V} {tl : TE} (h : Ev tl σ H (.ref a)) (hx : SqT K H a xs) : EvI (iTup K tl) σ H xs.length (fun i x _ => xs[i]? = some x) := fun H1 e R q => h H1 e _ fun H2 e2 =>
  ⟨a, rfl, ⟨xs, ex_t (e.trans e2) hx⟩, q _ (fun H => SqT K H a xs) H2 e2 ⟨walk_tup.goes, walk_tup.stops, fun i H x H' hi hg hy => by
    obtain ⟨e1, e2⟩ := walk_tup.yields i H x H' hi hg hy
    exact ⟨by rw [e1]; exact Ex.refl H, e2⟩⟩ fun H3 e3 => ex_t ((e.trans e2).trans e3) hx⟩
/-- over a list that is made for it -/
theorem evi_listP {n : Nat} {tl : TE} {Px : List V → Hp → Prop} (hst : ∀ ys H H', Ex H H' → Px ys H → Px ys H') (h : EvP tl σ H fun v H' => ∃ a xs, v = .ref a ∧ H' a = some (.lst xs) ∧ xs.length = n ∧ Px xs H') :
    EvI (iList K tl) σ H n (fun i x H' => ∃ xs, xs[i]? = some x ∧ Px xs H') := fun H1 e R q => h H1 e _ fun v H2 e2 ⟨a, xs, ev, ha, hl, px⟩ =>
  ⟨a, ev, ⟨xs, sq_of ha⟩, q _ (fun H => SqL K H a xs ∧ Px xs H) H2 e2 ⟨fun i H hi hg => walk_list.goes i H (by omega) hg.1, fun H hg => hl ▸ walk_list.stops H hg.1, fun i H x H' hi hg hy => by
    obtain ⟨e1, e2⟩ := walk_list.yields i H x H' (by omega) hg.1 hy
    exact ⟨by rw [e1]; exact Ex.refl H, xs, e2, by rw [e1]; exact hg.2⟩⟩ fun H3 e3 => ⟨ex_l e3 (sq_of ha), hst xs _ _ e3 px⟩⟩
theorem evi_rng1 {ta : TE} {n : Int} (h : Ev ta σ H (.int n)) (hn : -100000000 ≤ n ∧ n ≤ 100000000) : EvI (iRng1 (tCons ta tNil)) σ H n.toNat (fun i x _ => x = .int (i : Int)) := fun H1 e R q => h H1 e _ fun H2 e2 =>
  ⟨n, rfl, by omega, by omega, q _ (fun _ => True) H2 e2 ⟨walk_range.goes, walk_range.stops, fun i H x H' hi hg hy => by
    obtain ⟨e1, e2⟩ := walk_range.yields i H x H' hi hg hy
    exact ⟨by rw [e1]; exact Ex.refl H, by rw [e2]; show V.int (0 + (i : Int)) = _; rw [Int.zero_add]⟩⟩ fun _ _ => trivial⟩
theorem evi_rng2 {ta tb : TE} {lo n : Int} (h : Ev ta σ H (.int lo)) (h' : Ev tb σ H (.int n)) (hn : -100000000 ≤ n ∧ n ≤ 100000000) (hl : -100000000 ≤ lo ∧ lo ≤ 100000000) :
    EvI (iRng2 (tCons ta (tCons tb tNil))) σ H (n - lo).toNat (fun i x _ => x = .int (lo + (i : Int))) := fun H1 e R q => h H1 e _ fun H2 e2 => h' H2 (e.trans e2) _ fun H3 e3 =>
  ⟨lo, n, rfl, by omega, q _ (fun _ => True) H3 (e2.trans e3) ⟨walk_range.goes, walk_range.stops, fun i H x H' hi hg hy => by
    obtain ⟨e1, e2⟩ := walk_range.yields i H x H' hi hg hy
    exact ⟨by rw [e1]; exact Ex.refl H, by rw [e2]⟩⟩ fun _ _ => trivial⟩
theorem evi_enumT {a : Addr} {xs : List V} {tl : TE} (h : Ev tl σ H (.ref a)) (hx : SqT K H a xs) : EvI (iEnumT K (tCons tl tNil)) σ H xs.length (fun i v H' => ∃ T x, v = .ref T ∧ xs[i]? = some x ∧ H' T = some (.tup [.int (i : Int), x])) := fun H1 e R q => h H1 e _ fun H2 e2 =>
  ⟨a, xs, rfl, ex_t (e.trans e2) hx, q _ (fun H => SqT K H a xs) H2 e2 ⟨walk_enumT.goes, walk_enumT.stops, fun i H v H' hi hg hy => by
    obtain ⟨T, x, y, h1, h2, h3, h4, h5⟩ := walk_enumT.yields i H v H' hi hg hy
    obtain rfl := Option.some.inj h4
    exact ⟨by rw [h3]; exact Ex.new h2, T, y, h1, h5, by rw [h3]; exact upd_same⟩⟩ fun H3 e3 => ex_t ((e.trans e2).trans e3) hx⟩
theorem evi_enumL {a : Addr} {xs : List V} {tl : TE} (h : Ev tl σ H (.ref a)) (hx : SqL K H a xs) : EvI (iEnum K (tCons tl tNil)) σ H xs.length (fun i v H' => ∃ T x, v = .ref T ∧ xs[i]? = some x ∧ H' T = some (.tup [.int (i : Int), x])) := fun H1 e R q => h H1 e _ fun H2 e2 =>
  ⟨a, xs, rfl, ex_l (e.trans e2) hx, q _ (fun H => SqL K H a xs) H2 e2 ⟨walk_enum.goes, walk_enum.stops, fun i H v H' hi hg hy => by
    obtain ⟨T, x, y, h1, h2, h3, h4, h5⟩ := walk_enum.yields i H v H' hi hg hy
    obtain rfl := Option.some.inj h4
    exact ⟨by rw [h3]; exact Ex.new h2, T, y, h1, h5, by rw [h3]; exact upd_same⟩⟩ fun H3 e3 => ex_l ((e.trans e2).trans e3) hx⟩
theorem evi_zipS {a b : Addr} {xs ys : List V} {tl tr : TE} (h : Ev tl σ H (.ref a)) (h' : Ev tr σ H (.ref b)) (hx : SqT K H a xs) (hy : SqT K H b ys) (hl : xs.length = ys.length) :
    EvI (iZipS K (tCons tl (tCons tr tNil)) (tCons (tC (.bl true)) tNil)) σ H xs.length (fun i v H' => ∃ T x y, v = .ref T ∧ xs[i]? = some x ∧ ys[i]? = some y ∧ H' T = some (.tup [x, y])) := fun H1 e R q => h H1 e _ fun H2 e2 => h' H2 (e.trans e2) _ fun H3 e3 =>
  ⟨a, b, xs, ys, rfl, rfl, ex_t ((e.trans e2).trans e3) hx, ex_t ((e.trans e2).trans e3) hy, q _ (fun H => SqT K H a xs ∧ SqT K H b ys) H3 (e2.trans e3) ⟨(walk_zipS hl).goes, (walk_zipS hl).stops, fun i H v H' hi hg hy => by
    obtain ⟨T, x, y, h1, h2, h3, h4, h5⟩ := (walk_zipS hl).yields i H v H' hi hg hy
    exact ⟨by rw [h3]; exact Ex.new h2, T, x, y, h1, h4, h5, by rw [h3]; exact upd_same⟩⟩ fun H4 e4 => ⟨ex_t (((e.trans e2).trans e3).trans e4) hx, ex_t (((e.trans e2).trans e3).trans e4) hy⟩⟩
/-! a comprehension: D its list -/
theorem evp_lcG {wi : TI} {g : TG} {tt : TT} {te : TE} {vs : List Nat} {n : Nat} {y : Nat → V → Hp → Prop} (hi : EvI wi σ H n y) (f : Nat → Bool) (Pe : Addr → Nat → V → Hp → Prop) (hn : n ≤ sizeLine)
    (hst : ∀ D i v H H', (∀ a o, a ≠ D → H a = some o → H' a = some o) → Pe D i v H → Pe D i v H')
    (hb : ∀ i x D acc H', i < n → Ex H H' → H D = none → H' D = some (.lst acc) → y i x H' → ∃ σ2, (∀ Q, Q σ2 H' → g x (wipe σ vs) H' Q) ∧ wipe σ2 vs = wipe σ vs ∧ EvT tt σ2 H' (f i) ∧ (f i = true → EvP te σ2 H' (Pe D i))) :
    EvP (tLc wi g tt te vs) σ H fun v H' => ∃ D ys, v = .ref D ∧ H D = none ∧ H' D = some (.lst ys) ∧ Paired (fun i u => Pe D i u H') ((List.range n).filter f) ys := fun H0 e Q q => hi H0 e _ fun J G H1 e1 w hG D hD => by
  have hD0 : H D = none := fresh_back (e.trans e1) hD
  refine ⟨fun i m H' => m = n - i ∧ i ≤ n ∧ Ex H1 H' ∧ ∃ ys, H' D = some (.lst ys) ∧ ys.length ≤ i ∧ Paired (fun j u => Pe D j u H') ((List.range i).filter f) ys, ⟨n, by simp, Nat.zero_le _, Ex.new hD, [], upd_same, Nat.le_refl _, .nil⟩, ?_⟩
  rintro i m H' ⟨rfl, hin, ex, ys, hys, hyl, hp⟩
  by_cases hlt : i < n
  · refine .inr ⟨w.goes i H' hlt (hG H' ex), fun H'' => Ex H1 H'' ∧ ∃ ys, H'' D = some (.lst ys) ∧ ys.length ≤ i + 1 ∧ Paired (fun j u => Pe D j u H'') ((List.range (i + 1)).filter f) ys, fun H'' ⟨a, b⟩ => ⟨n - (i + 1), by omega, rfl, hlt, a, b⟩, fun x H2 hy => ?_⟩
    obtain ⟨e2, hy2⟩ := w.yields i H' x H2 hlt (hG H' ex) hy
    obtain ⟨σ2, hg, hw, ht, he⟩ := hb i x D ys H2 hlt (((e.trans e1).trans ex).trans e2) hD0 (e2 D _ hys) hy2
    refine hg _ ⟨hw, ht H2 (Ex.refl H2) _ fun H3 e3 => ?_⟩
    have hp3 : ∀ {H4 : Hp}, Ex H' H4 → Paired (fun j u => Pe D j u H4) ((List.range i).filter f) ys := fun {H4} e4 => Paired.mapP hp fun a b z => hst D a b _ _ (fun a o _ h => e4 a o h) z
    cases hf : f i with
    | false =>
      refine ⟨(ex.trans e2).trans e3, ys, e3 D _ (e2 D _ hys), by omega, ?_⟩
      rw [List.range_succ, List.filter_append, List.filter_cons, if_neg (by rw [hf]; decide)]
      rw [show List.filter f [] = [] from rfl, List.append_nil]
      exact hp3 (e2.trans e3)
    | true =>
      refine he hf H3 e3 _ fun u H4 e4 pu => ⟨ys, e4 D _ (e3 D _ (e2 D _ hys)), (by omega), Ex.mut (((ex.trans e2).trans e3).trans e4) hD, ys ++ [u], upd_same, by simp; omega, ?_⟩
      rw [List.range_succ, List.filter_append, List.filter_cons, if_pos hf]
      rw [show List.filter f [] = [] from rfl]
      have out : ∀ a o, a ≠ D → H4 a = some o → upd H4 D (.lst (ys ++ [u])) a = some o := fun a o h z => by rw [upd_ne h]; exact z
      exact paired_snoc (Paired.mapP (hp3 ((e2.trans e3).trans e4)) fun a b z => hst D a b _ _ out z) (hst D i u _ _ out pu)
  · have hin' : i = n := by omega
    subst hin'
    exact .inl ⟨w.stops H' (hG H' ex), q _ H' (e1.trans ex) ⟨D, ys, rfl, hD0, hys, hp⟩⟩
/-- its items told by tuples alone -/
theorem evp_lc {wi : TI} {g : TG} {tt : TT} {te : TE} {vs : List Nat} {n : Nat} {y : Nat → V → Hp → Prop} (hi : EvI wi σ H n y) (f : Nat → Bool) (Pe : Nat → V → Hp → Prop) (hn : n ≤ sizeLine)
    (hst : ∀ i v H H', TEx H H' → Pe i v H → Pe i v H')
    (hb : ∀ i x H', i < n → Ex H H' → y i x H' → ∃ σ2, (∀ Q, Q σ2 H' → g x (wipe σ vs) H' Q) ∧ wipe σ2 vs = wipe σ vs ∧ EvT tt σ2 H' (f i) ∧ (f i = true → EvP te σ2 H' (Pe i))) :
    EvP (tLc wi g tt te vs) σ H fun v H' => ∃ D ys, v = .ref D ∧ H D = none ∧ H' D = some (.lst ys) ∧ Paired (fun i u => Pe i u H') ((List.range n).filter f) ys := fun H0 e Q q => hi H0 e _ fun J G H1 e1 w hG D hD => by
  have hD0 : H D = none := fresh_back (e.trans e1) hD
  refine ⟨fun i m H' => m = n - i ∧ i ≤ n ∧ Ex H1 H' ∧ ∃ ys, H' D = some (.lst ys) ∧ ys.length ≤ i ∧ Paired (fun j u => Pe j u H') ((List.range i).filter f) ys, ⟨n, by simp, Nat.zero_le _, Ex.new hD, [], upd_same, Nat.le_refl _, .nil⟩, ?_⟩
  rintro i m H' ⟨rfl, hin, ex, ys, hys, hyl, hp⟩
  by_cases hlt : i < n
  · refine .inr ⟨w.goes i H' hlt (hG H' ex), fun H'' => Ex H1 H'' ∧ ∃ ys, H'' D = some (.lst ys) ∧ ys.length ≤ i + 1 ∧ Paired (fun j u => Pe j u H'') ((List.range (i + 1)).filter f) ys, fun H'' ⟨a, b⟩ => ⟨n - (i + 1), by omega, rfl, hlt, a, b⟩, fun x H2 hy => ?_⟩
    obtain ⟨e2, hy2⟩ := w.yields i H' x H2 hlt (hG H' ex) hy
    obtain ⟨σ2, hg, hw, ht, he⟩ := hb i x H2 hlt (((e.trans e1).trans ex).trans e2) hy2
    refine hg _ ⟨hw, ht H2 (Ex.refl H2) _ fun H3 e3 => ?_⟩
    have hp3 : ∀ {H4 : Hp}, Ex H' H4 → Paired (fun j u => Pe j u H4) ((List.range i).filter f) ys := fun {H4} e4 => Paired.mapP hp fun a b z => hst a b _ _ (K13.tex e4) z
    cases hf : f i with
    | false =>
      refine ⟨(ex.trans e2).trans e3, ys, e3 D _ (e2 D _ hys), by omega, ?_⟩
      rw [List.range_succ, List.filter_append, List.filter_cons, if_neg (by rw [hf]; decide)]
      rw [show List.filter f [] = [] from rfl, List.append_nil]
      exact hp3 (e2.trans e3)
    | true =>
      refine he hf H3 e3 _ fun u H4 e4 pu => ?_
      have hD4 := e4 D _ (e3 D _ (e2 D _ hys))
      refine ⟨ys, hD4, (by omega), Ex.mut (((ex.trans e2).trans e3).trans e4) hD, ys ++ [u], upd_same, by simp; omega, ?_⟩
      rw [List.range_succ, List.filter_append, List.filter_cons, if_pos hf]
      rw [show List.filter f [] = [] from rfl]
      exact paired_snoc (Paired.mapP (hp3 ((e2.trans e3).trans e4)) fun a b z => hst a b _ _ (TEx.lst hD4) z) (hst i u _ _ (TEx.lst hD4) pu)
  · have hin' : i = n := by omega
    subst hin'
    exact .inl ⟨w.stops H' (hG H' ex), q _ H' (e1.trans ex) ⟨D, ys, rfl, hD0, hys, hp⟩⟩
theorem filter_yes (n : Nat) : (List.range n).filter (fun _ => true) = List.range n := List.filter_eq_self.mpr fun _ _ => rfl
theorem filter_no (n : Nat) : (List.range n).filter (fun _ => false) = [] := List.filter_eq_nil_iff.mpr fun _ _ => by decide
theorem et_yes : EvT tYes σ H true := fun H1 e Q q => q H1 (Ex.refl H1)
theorem paired_eq {α β : Type} {f : α → β} : ∀ {l : List α} {ys : List β}, Paired (fun i u => u = f i) l ys → ys = l.map f
  | _, _, .nil => rfl
  | _, _, .cons h t => by rw [List.map_cons, h, paired_eq t]
theorem Wk.mono {J : It} {n : Nat} {G : Hp → Prop} {y y' : Nat → V → Hp → Prop} (w : Wk J n G y) (k : ∀ i x H', i < n → y i x H' → y' i x H') : Wk J n G y' := ⟨w.goes, w.stops, fun i H x H' hi hg hy => ⟨(w.yields i H x H' hi hg hy).1, k i x H' hi (w.yields i H x H' hi hg hy).2⟩⟩
theorem EvI.ex {wi : TI} {n : Nat} {y : Nat → V → Hp → Prop} (h : EvI wi σ H n y) (e : Ex H H') : EvI wi σ H' n y := fun H1 e1 R q => h H1 (e.trans e1) R q
/-- values told exactly -/
theorem evp_lcV {wi : TI} {g : TG} {te : TE} {vs : List Nat} {n : Nat} {y : Nat → V → Hp → Prop} (hi : EvI wi σ H n y) (val : Nat → V) (hn : n ≤ sizeLine)
    (hb : ∀ i x H', i < n → Ex H H' → y i x H' → ∃ σ2, (∀ Q, Q σ2 H' → g x (wipe σ vs) H' Q) ∧ wipe σ2 vs = wipe σ vs ∧ Ev te σ2 H' (val i)) :
    EvL (tLc wi g tYes te vs) σ H ((List.range n).map val) := fun H1 e Q q => by
  refine evp_lc (y := y) (hi.ex e) (fun _ => true) (fun i u _ => u = val i) hn (fun i v H H' _ h => h) (fun i x H' hin e' hy => ?_) H1 (Ex.refl H1) Q fun v H2 e2 ⟨D, ys, ev, h0, hD, hp⟩ => ?_
  · obtain ⟨σ2, h1, h2, h3⟩ := hb i x H' hin (e.trans e') hy
    exact ⟨σ2, h1, h2, et_yes, fun _ => EvP.of h3 fun _ _ => rfl⟩
  · rw [filter_yes] at hp
    rw [paired_eq hp] at hD
    rw [ev]
    exact q D H2 h0 e2 hD
end
/-! promises of defs that change nothing -/
def PureSp (Φ : List V → Hp → (V → Hp → Prop) → Prop) : Sp := fun vs H Q _ => ∃ P, Φ vs H P ∧ ∀ v H', Ex H H' → P v H' → Q v H'
theorem PureSp.use {Φ : List V → Hp → (V → Hp → Prop) → Prop} {vs : List V} {H : Hp} {P : V → Hp → Prop} (h : ∀ H1, Ex H H1 → Φ vs H1 P) : SpP (PureSp Φ) vs H P := fun H1 e Q q E => ⟨P, h H1 e, q⟩
end K13
namespace K13
open PySem PySem.Spec PyProof.Rows L2 Evl
def top (i : Nat) : Stmt := PySem.Challenge.pw_planedigits_k13_whole_which_points_have.main.body.getD i (.Pass ⟨0, 0, 0, 0⟩)
def tops1 : List (Str × Nat) := [("is_whole", 8), ("is_between", 9), ("is_point_for", 10), ("are_points", 11), ("zero_point", 12), ("unit_points", 13), ("added", 14), ("is_matrix_for", 16), ("is_any_matrix", 17), ("check_matrix", 18), ("dot", 19), ("moved_by", 20), ("turned_over", 21), ("product_of", 22), ("without", 23), ("determinant_of", 24), ("adjugate_of", 25), ("greatest_sum", 27), ("trace_of", 28), ("minor_sum", 29)]
def tops2 : List (Str × Nat) := [("broken_in_space", 30), ("broken_by", 31), ("stretching_of", 32), ("check_writing_matrix", 36), ("numbers_of_keys", 37), ("rests_by", 38), ("check_writing", 40), ("digit_and_rest", 41), ("walked", 43), ("row_or_none", 44), ("carries_of", 47), ("closed_of", 48), ("closed_unit_points", 49), ("first_rowless", 50), ("points_of_cube", 52), ("all_have_rows", 53), ("ends_at_zero", 54), ("first_without_row", 55)]
def tops3 : List (Str × Nat) := [("_law_cell", 57), ("_law_hash", 58), ("_law_generator", 59), ("_law_random", 60), ("_law_det", 61), ("_law_adjugate", 62), ("_law_moved", 63), ("_law_sum", 64), ("_law_less", 65), ("_law_key", 66), ("_law_step", 67), ("_law_plane", 68), ("_law_matrix", 69), ("_law_boxes", 70), ("_law_digits", 71), ("_law_way_of", 72), ("_law_way", 73), ("_law_walk", 74), ("_law_row", 75), ("_law_units", 76)]
def tops4 : List (Str × Nat) := [("_law_closed", 77), ("_law_family", 78), ("_law_any_way", 79), ("_law_greatest", 80), ("_law_shell", 81), ("_law_first_right", 82), ("_law_caught", 83), ("_law_way_right", 84), ("law", 85)]
def frees : List Str := ["isinstance", "int", "bool", "tuple", "list", "len", "range", "sorted", "zip", "sum", "enumerate", "max", "min", "abs", "super"]
/-! what the program's top has left -/
def wFields : List Str := ["_matrix", "_adjugate", "_whole", "_led", "_numbers", "_digits"]
def wMeths : List (Str × Nat × Str) := [("matrix", 1, "Writing.matrix"), ("digits", 2, "Writing.digits"), ("size", 3, "Writing.size"), ("many", 4, "Writing.many"), ("_parted", 6, "Writing._parted")]
/-- C: the class Writing -/
structure Glo (K : PySem.W.Frag) (mg : Str → Option Value) (C : Addr) : Prop where
  wcls : mg "Writing" = some (.ref C)
  insc : C8.InsC K C
  noat : ∀ f ∈ wFields, NoAttr K C f
  wmk : ∃ (f : Addr) (fd : FuncData), Mk K C f ∧ FunD K "__init__" "Writing.__init__" (defArgs (inClass (top 39) 0)) (defBody (inClass (top 39) 0)) (defScope (inClass (top 39) 0)) [] [] f fd
  meth : ∀ (m : Str) (i : Nat) (q : Str), (m, i, q) ∈ wMeths → ∃ (f : Addr) (fd : FuncData), Meth K C m f ∧ FunD K m q (defArgs (inClass (top 39) i)) (defBody (inClass (top 39) i)) (defScope (inClass (top 39) i)) [] [] f fd
  fn : ∀ (x : Str) (i : Nat), ((x, i) ∈ tops1 ∨ (x, i) ∈ tops2 ∨ (x, i) ∈ tops3 ∨ (x, i) ∈ tops4) → ∃ (f : Addr) (fd : FuncData), mg x = some (.ref f) ∧ FunD K x x (defArgs (top i)) (defBody (top i)) (defScope (top i)) [] [] f fd
  free : ∀ x ∈ frees, mg x = none
  mostSize : ∃ t, mg "MOST_SIZE" = some (.int 3 t)
  mostNumber : ∃ t, mg "MOST_NUMBER" = some (.int 12 t)
  mostDigits : ∃ t, mg "MOST_DIGITS" = some (.int 12 t)
  mostCarries : ∃ t, mg "MOST_CARRIES" = some (.int 600 t)
section
variable {P : Program} {w : World} {K : PySem.W.Frag} {mg : Str → Option Value} {base : Heap} {C : Addr}
theorem Glo.ok (G : Glo K mg C) {x : Str} {i k : Nat} {N ps : List Str} {sp : Sp} (hx : (x, i) ∈ tops1 ∨ (x, i) ∈ tops2 ∨ (x, i) ∈ tops3 ∨ (x, i) ∈ tops4) (S : FnScope N ps (defScope (top i)))
    (hb : ∀ (kV doc pm : Value) (an : Option Addr) (cdv ct : Value) (us : List Value), us.length = ps.length → bindArgs (PySem.W.fnOf x x (defArgs (top i)) (defBody (top i)) (defScope (top i)) .none kV doc pm an cdv ct) ⟨us, []⟩ = pure (ps.zip us))
    (len : ∀ vs H Q E, sp vs H Q E → vs.length = ps.length)
    (hbody : ∀ (f : Addr) (cdv : Value) (A : Around) (outer : List Env) (s : Shared) (H : Hp) (vs : List V) (Q : VK) (E : XK), Room k (A.deeper (envOfC x (defScope (top i)) s.heap.objs.size f cdv)) → sp vs H Q E →
      ∃ t, PSs (cxOf (L2.CX P w) P w K mg base N x (defScope (top i)) f cdv A outer s H E) (defBody (top i)) t ∧ t { nx := fun _ H' => Q .non H', rt := Q } (start N vs) H) :
    Fn P w K mg base (L2.CX P w) (k + 1) x ps sp := by
  obtain ⟨f, fd, hm, F⟩ := G.fn x i hx
  exact ⟨f, fd, hm, F.ok S len fun cdv A outer s H vs Q E hr h => hbody f cdv A outer s H vs Q E hr h, F.kp, F.bindsN hb⟩
end
/-! rules with K told -/
section
variable {X : Cx} (K : PySem.W.Frag) (hK : X.K = K)
include hK
theorem ixL : IxR X (rIxL K) := hK ▸ ix_list
theorem ixT : IxR X (rIxT K) := hK ▸ ix_tup
end
end K13
namespace K13
open PySem PySem.Spec PyProof.Rows L2 Evl
/-- the text of TooMany.__init__ -/
abbrev sTm : Stmt := inClass (top 5) 0
/-! ## What the top leaves, read by a Hook -/
abbrev mkD (p : Str × Nat) : He.DefD := ⟨(p.1, none), p.1, p.1, defArgs (top p.2), defBody (top p.2), defScope (top p.2), [], []⟩
abbrev mkM (p : Str × Nat × Str) : He.DefD := ⟨("Writing", some p.1), p.1, p.2.2, defArgs (inClass (top 39) p.2.1), defBody (inClass (top 39) p.2.1), defScope (inClass (top 39) p.2.1), [], []⟩
def wAll : List (Str × Nat × Str) := ("__init__", 0, "Writing.__init__") :: wMeths
def tAll : List (Str × Nat) := tops1 ++ (tops2 ++ (tops3 ++ tops4))
def hfn : List He.DefD := tAll.map mkD ++ wAll.map mkM
def hfa : List He.Fa := tAll.map (fun p => .glo p.1) ++ (frees.map .free ++ (wFields.map (.noat "Writing") ++ (wMeths.map (fun p => .meth "Writing" p.1) ++ [.glo "Writing", .glo "TooMany", .int "MOST_SIZE" 3, .int "MOST_NUMBER" 12, .int "MOST_DIGITS" 12, .int "MOST_CARRIES" 600, .cls "Writing", .mkr "Writing", .exm "TooMany" "TooMany" true])))
def oexB (K : PySem.W.Frag) (C : Addr) : Bool := match K.lookup C with
  | some ⟨.type "type", _, .cls cd, sl⟩ => (match cd.mro, sl.toList with
    | .ref C' :: bm, [_, _, _, _, some (.builtin n), _] => C' == C && n == "ValueError.__new__" && !cd.hasDel && cd.hasDict && PySem.HandSPX.refsVE bm
    | _, _ => false)
  | _ => false
theorem oexB_ok {K : PySem.W.Frag} {C : Addr} (q : oexB K C = true) : ∃ nm q N bs bm sn sub ab col dd k0 k1 k2 k3 k5, K.lookup C = some (excClassObj nm q C N bs bm true sn sub ab col dd k0 k1 k2 k3 k5 "ValueError.__new__") ∧ PySem.HandSPX.refsVE bm = true := by
  unfold oexB at q
  split at q
  · rename_i dd cd sl ho
    split at q
    · rename_i C' bm k0 k1 k2 k3 n k5 hm hs
      simp only [Bool.and_eq_true, beq_iff_eq, Bool.not_eq_true'] at q
      obtain ⟨⟨⟨⟨rfl, rfl⟩, hdel⟩, hdi⟩, ht⟩ := q
      obtain ⟨nm, bs, mro, ns, qn, hd, sn, sub, ab, col, del⟩ := cd
      dsimp only at hm hdel hdi
      subst hm hdel hdi
      have hsl : sl = #[k0, k1, k2, k3, some (.builtin "ValueError.__new__"), k5] := by
        obtain ⟨l⟩ := sl
        simp only at hs
        rw [hs]
      subst hsl
      exact ⟨_, _, _, _, _, _, _, _, _, _, _, _, _, _, _, ho, ht⟩
    · cases q
  · cases q
abbrev TmO : Type := Option (Str × Str × Arguments × FuncBody × Scope × Addr × List Str × Addr)
abbrev tmC (K : PySem.W.Frag) : Addr := He.ga K "TooMany"
abbrev tmF (K : PySem.W.Frag) : Addr := He.ma K (tmC K) "__init__"
def tmW (K : PySem.W.Frag) : TmO := match K.lookup (tmF K) with
  | some ⟨_, _, .func fd, _⟩ => some (fd.name, fd.qualname, fd.params, fd.body, fd.scope, fd.globals, fd.closure.map (·.1), fd.builtins)
  | _ => none
def tmVal : TmO := some ("__init__", "TooMany.__init__", defArgs sTm, .stmts (defBody sTm), defScope sTm, mainGlobals, ["__class__"], builtinsNs)
def cellB (K : PySem.W.Frag) (cc C : Addr) : Bool := match K.lookup cc with
  | some ⟨_, _, .cell (some (.ref D)), _⟩ => decide (D = C)
  | _ => false
def fileB (K : PySem.W.Frag) (c : Addr) (file0 : Str) : Bool := match K.lookup c with
  | some ⟨_, _, .fields vs, _⟩ => (match vs.toList with
    | _ :: _ :: .str file _ :: _ => (file0 == file)
    | _ => false)
  | _ => false
def dflB1 (K : PySem.W.Frag) (T : Addr) : Bool := match K.lookup T with
  | some ⟨_, _, .seq its _, _⟩ => (match its.toList with
    | [_] => true
    | _ => false)
  | _ => false
def tmB (K : PySem.W.Frag) (file0 : Str) : Bool := match K.lookup (tmF K) with
  | some ⟨_, _, .func fd, _⟩ => (match fd.closure, fd.code, fd.defaults with
    | [(_, cc)], .ref c, .ref T => PySem.W.codeIn K (.ref c) "TooMany.__init__" && (cellB K cc (tmC K) && (fileB K c file0 && dflB1 K T))
    | _, _, _ => false)
  | _ => false
def exB (K : PySem.W.Frag) : Bool :=
  He.eqO (PySem.W.findIn K (.ref (He.ga K "Writing")) "__class__") (some (some (.builtin "object.__class__"))) && (He.eqO (PySem.W.specialIn K (.builtin "object.__class__") "__get__") (some (some (.builtin "getset_descriptor.__get__"))) && (decide (PySem.W.takesIn K (.builtin "object.__class__") = some true) && (decide (PySem.W.mroIn K (He.ga K "Writing") (.type "object") = some true) && (decide (PySem.W.kitOne K (.ref (He.ga K "Writing")) (.ref (He.ga K "Writing")) = some true) &&
  (oexB K (tmC K) && (He.eqO (PySem.W.findIn K (.ref (tmC K)) "__setattr__") (some (some (.builtin "object.__setattr__"))) && (decide (PySem.W.subIn K (.ref (tmC K)) (.type "BaseException") = some true) && (decide (PySem.W.typeIn K (.ref (tmC K)) = some (.type "type")) && (PySem.W.keepIn K (.ref (tmC K)) && (He.eqO (PySem.W.findIn K (.ref (tmC K)) "__init__") (some (some (.ref (tmF K)))) && (decide (PySem.W.typeIn K (.ref (tmF K)) = some (.type "function")) &&
  (He.eqO (PySem.W.findIn K (.ref (tmC K)) "value") (some none) && (He.eqO (PySem.W.nsIn K cStatics "thirdparty.any") (some none) && (He.eqO (PySem.W.ks_superIn K (tmC K) (tmC K) "__init__") (some (some (.builtin "ValueError.__init__"))) && (decide (PySem.W.subIn K (.ref (tmC K)) (.type "ValueError") = some true) && (decide (PySem.W.subIn K (.ref (tmC K)) (.ref (tmC K)) = some true) && xfB K (tmC K)))))))))))))))))
abbrev HAl : Type := He.AlD × TmO
def hobs (file0 : Str) (K : PySem.W.Frag) : HAl := (((hfa.all fun f => f.ok K) && ((hfn.all fun d => d.ok K) && (exB K && tmB K file0)), hfn.map fun d => He.fnW K d.at_), tmW K)
def hval : HAl := ((true, hfn.map He.DefD.val), tmVal)
def hasA (g : Addr → Option Obj) : List Addr := He.asD g 4 ++ [cStatics]
def hobsG (g : Addr → Option Obj) : HAl := hobs PySem.Challenge.pw_planedigits_k13_whole_which_points_have.main.file (He.frG g (hasA g))
def HSays (K : PySem.W.Frag) : Prop := hobs PySem.Challenge.pw_planedigits_k13_whole_which_points_have.main.file K = hval
def hk : PySem.W.Hook where
  α := HAl
  obs := fun s => hobsG s.heap.get?
  val := fun _ => hval
  says := fun _ h => ∃ K : PySem.W.Frag, K.In h ∧ HSays K
  of := fun _ _ e => ⟨_, He.frG_in, e⟩
  keeps := fun _ _ _ ⟨K, hK, c⟩ k => ⟨K, PySem.W.Frag.In.keeps hK k, c⟩
def ob (s : PySem.W.SharedT) : HAl := hobsG (HandSHeadRun.getT s)
theorem ob_eq (s : PySem.W.SharedT) : ob s = hk.obs s.abs := by
  have e : HandSHeadRun.getT s = s.abs.heap.get? := funext (HandSHeadRun.getT_eq s)
  show hobsG (HandSHeadRun.getT s) = hobsG s.abs.heap.get?
  rw [e]
end K13
namespace K13
open PySem PySem.Spec PyProof.Rows L2 Evl
abbrev R : PySem.W.OpenRow := PySem.W.OpenLaw.row PySem.Challenge.rw_planedigits_k13_whole_which_points_have
def loose1 : List Str := ["PlaneError", "InvalidMatrix", "InvalidList", "InvalidWriting", "TooMany", "MOST_SIZE", "is_whole", "is_between", "is_point_for", "are_points", "zero_point", "unit_points", "added", "is_matrix_for", "is_any_matrix", "check_matrix", "dot", "moved_by", "turned_over", "product_of"]
def loose2 : List Str := ["without", "determinant_of", "adjugate_of", "greatest_sum", "trace_of", "minor_sum", "broken_in_space", "broken_by", "stretching_of", "MOST_NUMBER", "MOST_DIGITS", "check_writing_matrix", "numbers_of_keys", "rests_by", "Writing", "check_writing", "digit_and_rest", "walked", "row_or_none", "MOST_CARRIES"]
def loose3 : List Str := ["carries_of", "closed_of", "closed_unit_points", "first_rowless", "points_of_cube", "all_have_rows", "ends_at_zero", "first_without_row", "_law_cell", "_law_hash", "_law_generator", "_law_random", "_law_det", "_law_adjugate", "_law_moved", "_law_sum", "_law_less", "_law_key", "_law_step", "_law_plane"]
def loose4 : List Str := ["_law_matrix", "_law_boxes", "_law_digits", "_law_way_of", "_law_way", "_law_walk", "_law_row", "_law_units", "_law_closed", "_law_family", "_law_any_way", "_law_greatest", "_law_shell", "_law_first_right", "_law_caught", "_law_way_right"]
def loose : List Str := loose1 ++ (loose2 ++ (loose3 ++ (loose4)))
theorem run (w : World) : HandSHeadRun.RunEq R (PySem.W.view R.prog [85]) hk ob 6000 loose w := by
  intro os
  kernel_rfl
end K13
namespace K13
open PySem PySem.Spec PyProof.Rows L2 Evl
theorem boot_isinstance : bootBuiltins "isinstance" = some (.builtin "isinstance") := by decide +kernel
theorem boot_int : bootBuiltins "int" = some (.type "int") := by decide +kernel
theorem boot_bool : bootBuiltins "bool" = some (.type "bool") := by decide +kernel
theorem boot_tuple : bootBuiltins "tuple" = some (.type "tuple") := by decide +kernel
theorem boot_list : bootBuiltins "list" = some (.type "list") := by decide +kernel
theorem boot_len : bootBuiltins "len" = some (.builtin "len") := by decide +kernel
theorem boot_sorted : bootBuiltins "sorted" = some (.builtin "sorted") := by decide +kernel
theorem boot_sum : bootBuiltins "sum" = some (.builtin "sum") := by decide +kernel
theorem boot_max : bootBuiltins "max" = some (.builtin "max") := by decide +kernel
theorem boot_min : bootBuiltins "min" = some (.builtin "min") := by decide +kernel
theorem boot_abs : bootBuiltins "abs" = some (.builtin "abs") := by decide +kernel
section
variable {K : PySem.W.Frag} {mg : Str → Option Value} {C : Addr}
theorem Glo.g_isinstance (G : Glo K mg C) : mg "isinstance" = none := G.free _ (by decide)
theorem Glo.g_int (G : Glo K mg C) : mg "int" = none := G.free _ (by decide)
theorem Glo.g_bool (G : Glo K mg C) : mg "bool" = none := G.free _ (by decide)
theorem Glo.g_tuple (G : Glo K mg C) : mg "tuple" = none := G.free _ (by decide)
theorem Glo.g_list (G : Glo K mg C) : mg "list" = none := G.free _ (by decide)
theorem Glo.g_len (G : Glo K mg C) : mg "len" = none := G.free _ (by decide)
theorem Glo.g_range (G : Glo K mg C) : mg "range" = none := G.free _ (by decide)
theorem Glo.g_sorted (G : Glo K mg C) : mg "sorted" = none := G.free _ (by decide)
theorem Glo.g_zip (G : Glo K mg C) : mg "zip" = none := G.free _ (by decide)
theorem Glo.g_sum (G : Glo K mg C) : mg "sum" = none := G.free _ (by decide)
theorem Glo.g_enumerate (G : Glo K mg C) : mg "enumerate" = none := G.free _ (by decide)
theorem Glo.g_max (G : Glo K mg C) : mg "max" = none := G.free _ (by decide)
theorem Glo.g_min (G : Glo K mg C) : mg "min" = none := G.free _ (by decide)
theorem Glo.g_abs (G : Glo K mg C) : mg "abs" = none := G.free _ (by decide)
end
/-! rules with K told -/
section
variable {X : Cx} (K : PySem.W.Frag) (hK : X.K = K)
include hK
theorem slLK : SlR X (rSlL K) := hK ▸ sl_list
theorem slAK : SlR X (rSlA K) := hK ▸ sl_tupA
theorem catAK : OpR X (binaryOp .Add) (rCatA K) := hK ▸ op_catA
theorem repAK : OpR X (binaryOp .Mult) (rRepA K) := hK ▸ op_repA
theorem eqDK (hu : X.A.units + 64 < cLine) : OpR X (compareOp .Eq) (rEqD K) := hK ▸ op_eqD hu
theorem neDK (hu : X.A.units + 64 < cLine) : OpR X (compareOp .NotEq) (rNeD K) := hK ▸ op_neD hu
theorem cSumK (hc : X.calm = true) : CallR X (.builtin "sum") (rSum K) := hK ▸ cr_sum hc
theorem cMaxK (hc : X.calm = true) : CallR X (.builtin "max") (rMax K) := hK ▸ cr_max hc
theorem cMinK (hc : X.calm = true) : CallR X (.builtin "min") (rMin K) := hK ▸ cr_min hc
theorem cLenK : CallR X (.builtin "len") (rLenS K) := hK ▸ call_len_seq
theorem cListK : CallR X (.type "list") (rListS K) := hK ▸ call_list_of
theorem cTupK : CallR X (.type "tuple") (rTup K) := hK ▸ call_tuple_of
theorem cIsiK : CallR X (.builtin "isinstance") (rIsi K) := hK ▸ call_isi
theorem cSortTK : CallR X (.builtin "sorted") (rSortT K) := hK ▸ cr_sortT
theorem pgT {es : List Expr} {k : Nat} {pos : Pos} {t : TGs} {n : Nat} (hc : X.calm = true) (h : PGs X es t) (hn : (assignEach es X.env).length = n := by rfl) (hst : (assignEach es X.env).findIdx? (·.1) = none := by rfl) : PG X (.Tuple es k pos) (gTup K n t) := hK ▸ pg_tup hc h hn hst
theorem piL {tg l : Expr} {tl : TE} (hl : PE X l tl) : PI X tg l (iList K tl) := hK ▸ pi_list hl
theorem piT {tg l : Expr} {tl : TE} (hl : PE X l tl) : PI X tg l (iTup K tl) := hK ▸ pi_tup hl
theorem pe_fldK {e : Expr} {f : Str} {pos : Pos} {ta : TE} (he : PE X e ta) (hb : attributeBase e f X.env (eval e X.env) = eval e X.env) : PE X (.Attribute e f pos) (tFld K ta f) := hK ▸ pe_fld he hb
theorem ps_fldK {o value : Expr} {f : Str} {pos pos' : Pos} {ta tv : TE} (ha : PE X o ta) (hv : PE X value tv) (hs : swapsWith value (some (.Attribute o f pos')) pos.line X.env = pure false) : PS X (.Assign [.Attribute o f pos'] value pos) (sFld K ta tv f) := hK ▸ ps_fld ha hv hs
theorem piZipS {e e2 : Expr} {ta tk : TA} {kws : List Keyword} {p pos tpos : Pos} {elts : List Expr} {kk : Nat} (hg : Gl X "zip") (hm : X.mg "zip" = none) (ha : PA X [e, e2] ta) (hk : PK X kws tk)
    (he : backTo pos (starEach [e, e2] X.env) = (false, eval e X.env) :: backTo pos (starEach [e2] X.env) := by rfl) (hpl : (backTo pos (starEach [e, e2] X.env)).any (·.1) = false := by rfl)
    (hall : (backToKw pos (keywordEach kws X.env)).all (·.1.isSome) = true := by rfl) (hnone : (backToKw pos (keywordEach kws X.env)).any (·.1.isNone) = false := by rfl) (hks : (backToKw pos (keywordEach kws X.env)).filterMap (·.1) = [Str.ofString "strict"] := by rfl) :
    PI X (.Tuple elts kk tpos) (.Call (.Name "zip" p) [e, e2] kws pos) (iZipS K ta tk) := hK ▸ pi_zipS hg hm ha hk he hpl hall hnone hks
theorem piEnumL {e : Expr} {ta : TA} {p pos tpos : Pos} {elts : List Expr} {kk : Nat} (hg : Gl X "enumerate") (hm : X.mg "enumerate" = none) (ha : PA X [e] ta) (hs : starEach [e] X.env = [(false, eval e X.env)] := by rfl) :
    PI X (.Tuple elts kk tpos) (.Call (.Name "enumerate" p) [e] [] pos) (iEnum K ta) := hK ▸ pi_enum hg hm ha hs
theorem piEnumT {e : Expr} {ta : TA} {p pos tpos : Pos} {elts : List Expr} {kk : Nat} (hg : Gl X "enumerate") (hm : X.mg "enumerate" = none) (ha : PA X [e] ta) (hs : starEach [e] X.env = [(false, eval e X.env)] := by rfl) :
    PI X (.Tuple elts kk tpos) (.Call (.Name "enumerate" p) [e] [] pos) (iEnumT K ta) := hK ▸ pi_enumT hg hm ha hs
theorem pe_bm0K {o : Expr} {to : TE} {name : Str} {apos cpos : Pos} {T id : String} {r : V → List V → Hp → VK → Prop} (pa : PlainAttrs T) (slot : Slot T name id) (hty : typeOf (.builtin id) = pure (.type "method_descriptor")) (hm : MtR X id r) (ho : PE X o to)
    (hbase : attributeBase o name X.env (eval o X.env) = eval o X.env := by rfl) (hline : (apos.endLine == cpos.line) = true := by rfl) : PE X (.Call (.Attribute o name apos) [] [] cpos) (tBM0 K T r to) := hK ▸ pe_bm0 pa slot hty hm ho hbase hline
theorem pe_bmK {o e : Expr} {es : List Expr} {to : TE} {t : TA} {name : Str} {apos cpos : Pos} {T id : String} {r : V → List V → Hp → VK → Prop} (pa : PlainAttrs T) (slot : Slot T name id) (hty : typeOf (.builtin id) = pure (.type "method_descriptor")) (hm : MtR X id r) (ho : PE X o to) (ha : PA X (e :: es) t)
    (hbase : attributeBase o name X.env (eval o X.env) = eval o X.env := by rfl)
    (hfew : ((backTo cpos (starEach (e :: es) X.env)).all (fun x => !x.1) && (backToKw cpos (keywordEach [] X.env)).all (fun x => x.1.isSome)
      && decide ((e :: es).length + ([] : List Keyword).length + (if ([] : List Keyword).isEmpty then 0 else 1) < 30)) = true := by rfl)
    (hline : (apos.endLine == cpos.line) = true := by rfl) (hs : starEach (e :: es) X.env = (false, eval e X.env) :: starEach es X.env := by rfl) (hplain : (backTo cpos (starEach es X.env)).any (·.1) = false := by rfl) :
    PE X (.Call (.Attribute o name apos) (e :: es) [] cpos) (tBM K T r to t) := hK ▸ pe_bm pa slot hty hm ho ha hbase hfew hline hs hplain
end
section
variable {X : Cx}
theorem pe_gi {x : Str} {i : Int} {pos : Pos} (hg : Gl X x) (h : ∃ t, X.mg x = some (.int i t)) (hd : (x == ("__debug__" : Str)) = false := by decide) : PE X (.Name x pos) (tC (.int i)) := by
  obtain ⟨t, h⟩ := h
  exact pe_glob hg h ⟨t, rfl⟩ hd
theorem pe_ty {x : Str} {T : String} {pos : Pos} (hg : Gl X x) (hm : X.mg x = none) (hv : bootBuiltins x = some (.type T)) (hn : x ≠ "__name__" := by decide) (hd : (x == ("__debug__" : Str)) = false := by decide) : PE X (.Name x pos) (tC (.ty T)) := pe_bltn hg hm hv rfl hn hd
theorem pe_cls {x : Str} {C : Addr} {pos : Pos} (hg : Gl X x) (hm : X.mg x = some (.ref C)) (hd : (x == ("__debug__" : Str)) = false := by decide) : PE X (.Name x pos) (tC (.ref C)) := pe_glob hg hm rfl hd
def rIsC (C : Addr) : List V → Hp → VK → Prop := fun xs H Q => ∃ a dx fs, xs = [.ref a, .ref C] ∧ H a = some (.ins C dx fs) ∧ Q (.bl true) H
theorem call_isC' {C : Addr} (c : C8.InsC X.K C) : CallR X (.builtin "isinstance") (rIsC C) := C8.call_isC c
theorem pe_and1 {e : Expr} {t : TE} {pos : Pos} (h : PE X e t) : PE X (.BoolOp .And [e] pos) t := pe_one h
theorem pe_or1 {e : Expr} {t : TE} {pos : Pos} (h : PE X e t) : PE X (.BoolOp .Or [e] pos) t := pe_one h
theorem pt_and {a b : Expr} {rest : List Expr} {t u : TT} {pos : Pos} (ha : PT X a t) (hb : PW X (.BoolOp .And (b :: rest) pos) u) : PW X (.BoolOp .And (a :: b :: rest) pos) (tAnd t u) := pw_and ha hb
theorem pt_and1 {a : Expr} {t : TT} {pos : Pos} (ha : PT X a t) : PW X (.BoolOp .And [a] pos) t := pw_and1 ha
theorem pt_or {a b : Expr} {rest : List Expr} {t u : TT} {pos : Pos} (ha : PT X a t) (hb : PW X (.BoolOp .Or (b :: rest) pos) u) : PW X (.BoolOp .Or (a :: b :: rest) pos) (tOr t u) := pw_or ha hb
theorem pt_or1 {a : Expr} {t : TT} {pos : Pos} (ha : PT X a t) : PW X (.BoolOp .Or [a] pos) t := pw_or1 ha
def rAbs1 : List V → Hp → VK → Prop := fun xs H Q => ∃ i, xs = [.int i] ∧ Q (.int (if i < 0 then -i else i)) H
theorem call_abs1 : CallR X (.builtin "abs") rAbs1 := call_abs
def rMax2' : List V → Hp → VK → Prop := fun xs H Q => ∃ i j, xs = [.int i, .int j] ∧ Q (.int (if j > i then j else i)) H
def rMin2' : List V → Hp → VK → Prop := fun xs H Q => ∃ i j, xs = [.int i, .int j] ∧ Q (.int (if j < i then j else i)) H
theorem call_max2' (hc : X.calm = true) : CallR X (.builtin "max") rMax2' := call_max2 hc
theorem call_min2' (hc : X.calm = true) : CallR X (.builtin "min") rMin2' := call_min2 hc
def rInt1 : List V → Hp → VK → Prop := fun xs H Q => (∃ i, xs = [.int i] ∧ Q (.int i) H) ∨ ∃ k, xs = [.bl k] ∧ Q (.int (if k then 1 else 0)) H
theorem call_int1' : CallR X (.type "int") rInt1 := call_int1
def rListD : List V → Hp → VK → Prop := fun xs H Q => ∃ d kvs, xs = [V.ref d] ∧ Rd H d (.dT kvs) ∧ ∀ p bs, H p = none → IsKeys H kvs bs → Q (.ref p) (upd H p (.lst (bs.map V.ref)))
theorem cListD (hc : X.calm = true) : CallR X (.type "list") rListD := call_list_dT hc
end
/-! methods and the class, bundled -/
structure Mth (P : Program) (w : World) (K : PySem.W.Frag) (mg : Str → Option Value) (base : Heap) (k : Nat) (C : Addr) (m : Str) (ps : List Str) (sp : Sp) : Prop where
  ex : ∃ (f : Addr) (fd : FuncData), Cls K C ∧ Meth K C m f ∧ FnOk P w K mg base (L2.CX P w) k f fd ps sp ∧ Binds K fd ps []
structure Mkr (P : Program) (w : World) (K : PySem.W.Frag) (mg : Str → Option Value) (base : Heap) (k : Nat) (x : Str) (C : Addr) (ps : List Str) (sp : Sp) : Prop where
  ex : ∃ (f : Addr) (fd : FuncData), Mk K C f ∧ FnOk P w K mg base (L2.CX P w) k f fd ps sp ∧ mg x = some (.ref C) ∧ Binds K fd ps []
section
variable {P : Program} {w : World} {K : PySem.W.Frag} {mg : Str → Option Value} {base : Heap} {C : Addr}
theorem Glo.okM (G : Glo K mg C) {m q : Str} {i k : Nat} {N ps : List Str} {sp : Sp} (hx : (m, i, q) ∈ wMeths) (S : FnScope N ps (defScope (inClass (top 39) i)))
    (hb : ∀ (kV doc pm : Value) (an : Option Addr) (cdv ct : Value) (us : List Value), us.length = ps.length → bindArgs (PySem.W.fnOf m q (defArgs (inClass (top 39) i)) (defBody (inClass (top 39) i)) (defScope (inClass (top 39) i)) .none kV doc pm an cdv ct) ⟨us, []⟩ = pure (ps.zip us))
    (len : ∀ vs H Q E, sp vs H Q E → vs.length = ps.length)
    (hbody : ∀ (f : Addr) (cdv : Value) (A : Around) (outer : List Env) (s : Shared) (H : Hp) (vs : List V) (Q : VK) (E : XK), Room k (A.deeper (envOfC q (defScope (inClass (top 39) i)) s.heap.objs.size f cdv)) → sp vs H Q E →
      ∃ t, PSs (cxOf (L2.CX P w) P w K mg base N q (defScope (inClass (top 39) i)) f cdv A outer s H E) (defBody (inClass (top 39) i)) t ∧ t { nx := fun _ H' => Q .non H', rt := Q } (start N vs) H) :
    Mth P w K mg base (k + 1) C m ps sp := by
  obtain ⟨f, fd, hm, F⟩ := G.meth m i q hx
  exact ⟨f, fd, G.insc.cl, hm, F.ok S len fun cdv A outer s H vs Q E hr h => hbody f cdv A outer s H vs Q E hr h, F.bindsN hb⟩
theorem Glo.okI (G : Glo K mg C) {k : Nat} {N ps : List Str} {sp : Sp} (S : FnScope N ps (defScope (inClass (top 39) 0)))
    (hb : ∀ (kV doc pm : Value) (an : Option Addr) (cdv ct : Value) (us : List Value), us.length = ps.length → bindArgs (PySem.W.fnOf "__init__" "Writing.__init__" (defArgs (inClass (top 39) 0)) (defBody (inClass (top 39) 0)) (defScope (inClass (top 39) 0)) .none kV doc pm an cdv ct) ⟨us, []⟩ = pure (ps.zip us))
    (len : ∀ vs H Q E, sp vs H Q E → vs.length = ps.length)
    (hbody : ∀ (f : Addr) (cdv : Value) (A : Around) (outer : List Env) (s : Shared) (H : Hp) (vs : List V) (Q : VK) (E : XK), Room k (A.deeper (envOfC "Writing.__init__" (defScope (inClass (top 39) 0)) s.heap.objs.size f cdv)) → sp vs H Q E →
      ∃ t, PSs (cxOf (L2.CX P w) P w K mg base N "Writing.__init__" (defScope (inClass (top 39) 0)) f cdv A outer s H E) (defBody (inClass (top 39) 0)) t ∧ t { nx := fun _ H' => Q .non H', rt := Q } (start N vs) H) :
    Mkr P w K mg base (k + 1) "Writing" C ps sp := by
  obtain ⟨f, fd, hm, F⟩ := G.wmk
  exact ⟨f, fd, hm, F.ok S len fun cdv A outer s H vs Q E hr h => hbody f cdv A outer s H vs Q E hr h, G.wcls, F.bindsN hb⟩
end
section
variable {X : Cx} {k j : Nat} {C : Addr} {x m : Str} {ps : List Str} {sp : Sp} {E : XK} {p pos apos : Pos} {e o : Expr} {es : List Expr} {ta : TE} {t : TA}
theorem pe_mkW (c : Mkr X.prog X.w X.K X.mg X.base k x C ps sp) (hr : Room j X.A) (hk : k + 1 ≤ j) (hx : Passes (L2.CX X.prog X.w) X E) (hg : Gl X x) (ha : PA X (e :: es) t)
    (hdb : (x == ("__debug__" : Str)) = false := by decide) (he : starEach (e :: es) X.env = (false, eval e X.env) :: starEach es X.env := by rfl) (hpl : (backTo pos (starEach es X.env)).any (·.1) = false := by rfl) :
    PE X (.Call (.Name x p) (e :: es) [] pos) (tMake C sp [] E t) := by
  obtain ⟨f, fd, M, F, hm, b⟩ := c.ex
  exact pe_make M F (hr.mono hk) hg hm b .nil hx ha hdb he hpl
theorem pe_m {pl : Sem Bool} (c : Mth X.prog X.w X.K X.mg X.base k C m ps sp) (hr : Room j X.A) (hk : k ≤ j) (hx : Passes (L2.CX X.prog X.w) X E) (he : PE X o ta) (ha : PA X (e :: es) t)
    (hst : starEach (e :: es) X.env = (false, eval e X.env) :: starEach es X.env := by rfl) (hpl : (backTo pos (starEach es X.env)).any (·.1) = false := by rfl)
    (ht : eval (.Call (.Attribute o m apos) (e :: es) [] pos) X.env = (do
      let ov ← eval o X.env
      standAt apos.atName
      let (f, first) ← holding [ov] (getMethod ov m pl)
      callWith pos f first (backTo pos (starEach (e :: es) X.env)) (backToKw pos (keywordEach [] X.env))) := by rfl) :
    PE X (.Call (.Attribute o m apos) (e :: es) [] pos) (tMeth C m sp [] E ta t) := by
  obtain ⟨f, fd, hc, hm, F, b⟩ := c.ex
  exact pe_meth (pl := pl) he hc hm F (hr.mono hk) b .nil hx ha hst hpl ht
theorem pe_m0 {pl : Sem Bool} (c : Mth X.prog X.w X.K X.mg X.base k C m ps sp) (hr : Room j X.A) (hk : k ≤ j) (hx : Passes (L2.CX X.prog X.w) X E) (he : PE X o ta)
    (ht : eval (.Call (.Attribute o m apos) [] [] pos) X.env = (do
      let ov ← eval o X.env
      standAt apos.atName
      let (f, first) ← holding [ov] (getMethod ov m pl)
      callWith pos f first (backTo pos (starEach [] X.env)) (backToKw pos (keywordEach [] X.env))) := by rfl) :
    PE X (.Call (.Attribute o m apos) [] [] pos) (tMeth C m sp [] E ta tNil) := by
  obtain ⟨f, fd, hc, hm, F, b⟩ := c.ex
  exact pe_meth0 (pl := pl) he hc hm F (hr.mono hk) b .nil hx ht
end
end K13
namespace K13
open PySem PySem.Spec PyProof.Rows L2 Evl
abbrev Mx := List Pt
/-! what the program computes -/
def addP (a b : Pt) : Pt := List.zipWith (fun x y => x + y) a b
def dotI (r p : Pt) : Int := (List.zipWith (fun x y => x * y) r p).sum
def movM (m : Mx) (p : Pt) : Pt := m.map fun r => dotI r p
def colsM (m : Mx) : Mx := (List.range (m.headD []).length).map fun j => m.map fun r => r.getD j 0
def mulM (a b : Mx) : Mx := a.map fun r => (colsM b).map fun c => dotI r c
def cutR (r : Pt) (c : Nat) : Pt := r.take c ++ r.drop (c + 1)
def witM (m : Mx) (r c : Nat) : Mx := ((List.range m.length).filter fun i => decide (i ≠ r)).map fun i => cutR (m.getD i []) c
def sumR (n : Nat) (f : Nat → Int) : Int := ((List.range n).map f).sum
def sgn (k : Nat) : Int := if k % 2 = 1 then -1 else 1
/-- by the first row; the first number: the size -/
def detN : Nat → Mx → Int
  | 0, _ => 1
  | n + 1, m => sumR (n + 1) fun j => sgn j * (m.headD []).getD j 0 * detN n (witM m 0 j)
def detM (m : Mx) : Int := detN m.length m
def adjM (m : Mx) : Mx := (List.range m.length).map fun i => (List.range m.length).map fun j => sgn (i + j) * detN (m.length - 1) (witM m j i)
def zeroP (n : Nat) : Pt := List.replicate n 0
def unitP (n i : Nat) (v : Int) : Pt := List.replicate i 0 ++ v :: List.replicate (n - i - 1) 0
def unitsL (n : Nat) : List Pt := (List.range n).flatMap fun i => [unitP n i 1, unitP n i (-1)]
def absI (x : Int) : Int := if x < 0 then -x else x
def maxL : List Int → Int
  | [] => 0
  | [a] => a
  | a :: b :: r => max a (maxL (b :: r))
def normM (m : Mx) : Int := maxL (m.map fun r => (r.map absI).sum)
def trM (m : Mx) : Int := sumR m.length fun i => (m.getD i []).getD i 0
def ent (m : Mx) (i j : Nat) : Int := (m.getD i []).getD j 0
def minI (m : Mx) (f : Int) (l h : Nat) : Int := f + ent m l l * ent m h h - ent m l h * ent m h l
def minS (m : Mx) : Int := minI m (minI m (minI m 0 0 1) 0 2) 1 2
def bisL (w t mn : Int) : List Int := (if w ≠ 0 ∧ absI (mn + 1) ≥ (if w > 0 then w + t else -w - t) then [2] else []) ++ (if absI (w * t - mn) ≥ w * w - 1 then [3] else [])
def brkL (m : Mx) : List Int := (if absI (detM m) < 2 then [0] else []) ++ (if m.length = 2 ∧ absI (trM m) ≥ absI (detM m + 1) then [1] else []) ++ (if m.length = 3 then bisL (detM m) (trM m) (minS m) else [])
def smB (m : Mx) : Bool := m.all fun r => r.all fun x => decide (-(2 ^ 64) < x) && decide (x < 2 ^ 64)
/-- the loop of stretching_of ends within so many turns -/
def strGo : Nat → Mx → Int → Mx → Int → Bool
  | 0, p, b, _, _ => decide (normM p < b)
  | n + 1, p, b, s, w => decide (normM p < b) || (smB p && strGo n (mulM p s) (b * w) s w)
/-- a matrix of n rows of n numbers -/
def Sq (n : Nat) (m : Mx) : Prop := m.length = n ∧ ∀ r ∈ m, r.length = n
def Mok (n : Nat) (m : Mx) : Prop := Sq n m ∧ 1 ≤ n ∧ n ≤ 3 ∧ (∀ r ∈ m, ∀ x ∈ r, -12 ≤ x ∧ x ≤ 12) ∧ -12 ≤ detM m ∧ detM m ≤ 12 ∧ detM m ≠ 0 ∧ brkL m = [] ∧ strGo 10 (adjM m) (absI (detM m)) (adjM m) (absI (detM m)) = true ∧ -(2 ^ 40) < trM m ∧ trM m < 2 ^ 40
/-! promises -/
/-- the arguments vs are what A tells; the answer is what R tells -/
def spP (A : List V → Hp → (V → Hp → Prop) → Prop) : Sp := fun vs H Q _ => ∃ R, A vs H R ∧ ∀ v H', Ex H H' → R v H' → Q v H'
def isV (x : V) : V → Hp → Prop := fun v _ => v = x
def sp_is_whole : Sp := spP fun vs _ R => ∃ (i : Int), vs = [.int i] ∧ R = isV (.bl true)
def sp_is_between : Sp := spP fun vs _ R => ∃ (i : Int) (lo : Int) (hi : Int), vs = [.int i, .int lo, .int hi] ∧ R = isV (.bl (decide (lo ≤ i ∧ i ≤ hi)))
def sp_is_point_for : Sp := spP fun vs H R => ∃ (n : Int) (v : V) (p : Pt), vs = [.int n, v] ∧ PtV H v p ∧ (p.length : Int) = n ∧ p.length ≤ 1000 ∧ R = isV (.bl true)
def sp_are_points : Sp := spP fun vs H R => ∃ (n : Nat) (v : V) (ps : List Pt), vs = [.int n, v] ∧ PLV H v ps ∧ n ≤ 1000 ∧ ps.length ≤ 1000 ∧ (∀ p ∈ ps, p.length = n) ∧ R = isV (.bl true)
def sp_zero_point : Sp := spP fun vs _ R => ∃ n : Nat, vs = [.int n] ∧ n ≤ 1000 ∧ R = fun v H' => PtV H' v (zeroP n)
def sp_unit_points : Sp := spP fun vs _ R => ∃ n : Nat, vs = [.int n] ∧ 0 < n ∧ n ≤ 1000 ∧ R = fun v H' => ∃ ps : List Pt, ps.Perm (unitsL n) ∧ PLV H' v ps
def sp_added : Sp := spP fun vs H R => ∃ (a : V) (b : V) (p : Pt) (q : Pt), vs = [a, b] ∧ PtV H a p ∧ PtV H b q ∧ p.length = q.length ∧ p.length ≤ 1000 ∧ R = fun v H' => PtV H' v (addP p q)
def sp_is_matrix_for : Sp := spP fun vs H R => ∃ (n : Nat) (v : V) (m : Mx), vs = [.int n, v] ∧ MxV H v m ∧ Sq n m ∧ n ≤ 1000 ∧ R = isV (.bl true)
def sp_is_any_matrix : Sp := spP fun vs H R => ∃ (n : Nat) (v : V) (m : Mx), vs = [v] ∧ MxV H v m ∧ Sq n m ∧ 1 ≤ n ∧ n ≤ 3 ∧ R = isV (.bl true)
def sp_check_matrix : Sp := spP fun vs H R => ∃ (n : Nat) (v : V) (m : Mx), vs = [v] ∧ MxV H v m ∧ Sq n m ∧ 1 ≤ n ∧ n ≤ 3 ∧ R = isV .non
def Sm (p : Pt) : Prop := ∀ x ∈ p, -(2 ^ 64) < x ∧ x < 2 ^ 64
def sp_dot : Sp := spP fun vs H R => ∃ (a : V) (b : V) (r : Pt) (p : Pt), vs = [a, b] ∧ PtV H a r ∧ PtV H b p ∧ r.length = p.length ∧ r.length ≤ 1000 ∧ Sm r ∧ R = isV (.int (dotI r p))
def sp_moved_by : Sp := spP fun vs H R => ∃ (n : Nat) (a : V) (b : V) (m : Mx) (p : Pt), vs = [a, b] ∧ MxV H a m ∧ PtV H b p ∧ Sq n m ∧ p.length = n ∧ n ≤ 1000 ∧ (∀ r ∈ m, Sm r) ∧ R = fun v H' => PtV H' v (movM m p)
def sp_turned_over : Sp := spP fun vs H R => ∃ (n : Nat) (a : V) (m : Mx), vs = [a] ∧ MxV H a m ∧ Sq n m ∧ 0 < n ∧ n ≤ 1000 ∧ R = fun v H' => MxV H' v (colsM m)
def sp_product_of : Sp := spP fun vs H R => ∃ (n : Nat) (a : V) (b : V) (m : Mx) (o : Mx), vs = [a, b] ∧ MxV H a m ∧ MxV H b o ∧ Sq n m ∧ Sq n o ∧ 0 < n ∧ n ≤ 1000 ∧ (∀ r ∈ m, Sm r) ∧ R = fun v H' => MxV H' v (mulM m o)
def sp_without : Sp := spP fun vs H R => ∃ (n : Nat) (a : V) (m : Mx) (r c : Nat), vs = [a, .int r, .int c] ∧ MxV H a m ∧ Sq n m ∧ n ≤ 1000 ∧ c < n ∧ R = fun v H' => MxV H' v (witM m r c)
/-- a new list of numbers -/
def NL (H : Hp) (v : V) (ns : List Int) : Prop := ∃ a, v = .ref a ∧ H a = some (.lst (ns.map V.int))
def sp_detF : Nat → Sp
  | 0 => fun _ _ _ _ => False
  | f + 1 => spP fun vs H R => ∃ (n : Nat) (a : V) (m : Mx), vs = [a] ∧ MxV H a m ∧ Sq n m ∧ n ≤ f ∧ n ≤ 1000 ∧ (∀ r ∈ m, Sm r) ∧ R = isV (.int (detN n m))
def sp_adjugate_of : Sp := spP fun vs H R => ∃ (n : Nat) (a : V) (m : Mx), vs = [a] ∧ MxV H a m ∧ Sq n m ∧ 1 ≤ n ∧ n ≤ 3 ∧ (∀ r ∈ m, Sm r) ∧ R = fun v H' => MxV H' v (adjM m)
def sp_greatest_sum : Sp := spP fun vs H R => ∃ (n : Nat) (a : V) (m : Mx), vs = [a] ∧ MxV H a m ∧ Sq n m ∧ 1 ≤ n ∧ n ≤ 1000 ∧ R = isV (.int (normM m))
def sp_trace_of : Sp := spP fun vs H R => ∃ (n : Nat) (a : V) (m : Mx), vs = [a] ∧ MxV H a m ∧ Sq n m ∧ n ≤ 1000 ∧ R = isV (.int (trM m))
def sp_minor_sum : Sp := spP fun vs H R => ∃ (a : V) (m : Mx), vs = [a] ∧ MxV H a m ∧ Sq 3 m ∧ (∀ r ∈ m, Sm r) ∧ R = isV (.int (minS m))
def sp_broken_in_space : Sp := spP fun vs H R => ∃ (i : Int) (lo : Int) (hi : Int), vs = [.int i, .int lo, .int hi] ∧ -(2 ^ 64) < i ∧ i < 2 ^ 64 ∧ R = fun v H' => NL H' v (bisL i lo hi)
def sp_broken_by : Sp := spP fun vs H R => ∃ (n : Nat) (a : V) (m : Mx), vs = [a] ∧ MxV H a m ∧ Mok n m ∧ R = fun v H' => NL H' v (brkL m)
def sp_stretching_of : Sp := spP fun vs H R => ∃ (n : Nat) (a : V) (m : Mx), vs = [a] ∧ MxV H a m ∧ Mok n m ∧ R = fun v _ => ∃ i : Int, v = .int i
def sp_check_writing_matrix : Sp := spP fun vs H R => ∃ (n : Nat) (a : V) (m : Mx), vs = [a] ∧ MxV H a m ∧ Mok n m ∧ R = isV .non
end K13
namespace K13
open PySem PySem.Spec PyProof.Rows L2 Evl
section
variable {P : Program} {w : World} {K : PySem.W.Frag} {mg : Str → Option Value} {base : Heap} {C : Addr}
theorem sc_is_whole : FnScope ["value"] ["value"] (defScope (top 8)) := ⟨rfl, rfl, rfl, by decide +kernel, rfl, by decide +kernel, by decide +kernel⟩
def t_is_whole (K : PySem.W.Frag) : TS :=
    (tRet (tAndV (tCB (rIsi K) (tCons (tVar 0) (tCons (tC (.ty "int")) tNil))) (tNotV (tCB (rIsi K) (tCons (tVar 0) (tCons (tC (.ty "bool")) tNil))))))
theorem d_is_whole (G : Glo K mg C)  {f : Addr} {cdv : Value} {A : Around} {outer : List Env} {s : Shared} {H : Hp} {E : XK} (hr : Room 0 (A.deeper (envOfC "is_whole" (defScope (top 8)) s.heap.objs.size f cdv))) :
    PSs (cxOf (L2.CX P w) P w K mg base ["value"] "is_whole" (defScope (top 8)) f cdv A outer s H E).nox (defBody (top 8)) (t_is_whole K) :=
    (pss_one (ps_ret (pe_and (pe_callB (cIsiK K rfl) (by rfl) G.g_isinstance boot_isinstance (pa_cons (pv 0) (pa_cons (pe_ty (by rfl) G.g_int boot_int) pa_nil))) (pe_and1 (pe_not (pe_callB (cIsiK K rfl) (by rfl) G.g_isinstance boot_isinstance (pa_cons (pv 0) (pa_cons (pe_ty (by rfl) G.g_bool boot_bool) pa_nil))))))))
theorem sc_is_between : FnScope ["value", "low", "high"] ["value", "low", "high"] (defScope (top 9)) := ⟨rfl, rfl, rfl, by decide +kernel, rfl, by decide +kernel, by decide +kernel⟩
def t_is_between (K : PySem.W.Frag) : TS :=
    (tSeq (tIfS (tNot (tB (tCall sp_is_whole [] E0 (tCons (tVar 0) tNil)))) (tRet (tC (.bl false))) tNext)
    (tRet (tAndV (tOrV (tOp rIsN (tVar 1) (tC .non)) (tOp (rI0 fun i j => .bl (decide (j ≤ i))) (tVar 0) (tVar 1))) (tOrV (tOp rIsN (tVar 2) (tC .non)) (tOp (rI0 fun i j => .bl (decide (i ≤ j))) (tVar 0) (tVar 2))))))
theorem d_is_between (G : Glo K mg C) (c_is_whole : Fn P w K mg base (L2.CX P w) 1 "is_whole" ["value"] sp_is_whole) {f : Addr} {cdv : Value} {A : Around} {outer : List Env} {s : Shared} {H : Hp} {E : XK} (hr : Room 1 (A.deeper (envOfC "is_between" (defScope (top 9)) s.heap.objs.size f cdv))) :
    PSs (cxOf (L2.CX P w) P w K mg base ["value", "low", "high"] "is_between" (defScope (top 9)) f cdv A outer s H E).nox (defBody (top 9)) (t_is_between K) :=
    (pss_cons (ps_if (pt_not (pt_val (pe_f c_is_whole hr (by decide) passL (by rfl) (pa_cons (pv 0) pa_nil)))) (pss_one (ps_ret pe_bl)) pss_nil)
    (pss_one (ps_ret (pe_and (pe_or (pe_cmpR op_isN1 (pv 1) pe_non (nomark _)) (pe_or1 (pe_cmpR op_ge (pv 0) (pv 1) (nomark _)))) (pe_and1 (pe_or (pe_cmpR op_isN1 (pv 2) pe_non (nomark _)) (pe_or1 (pe_cmpR op_le (pv 0) (pv 2) (nomark _)))))))))
theorem sc_is_point_for : FnScope ["size", "value", "item"] ["size", "value"] (defScope (top 10)) := ⟨rfl, rfl, rfl, by decide +kernel, rfl, by decide +kernel, by decide +kernel⟩
def t_is_point_for (K : PySem.W.Frag) : TS :=
    (tRet (tAndV (tCB (rIsi K) (tCons (tVar 1) (tCons (tC (.ty "tuple")) tNil))) (tAndV (tOp rEq (tCB (rLenS K) (tCons (tVar 1) tNil)) (tVar 0)) (tOp (rEqD K) (tLc (iTup K (tVar 1)) (gName 2) (tNot (tB (tCall sp_is_whole [] E0 (tCons (tVar 2) tNil)))) (tVar 2) [2]) (tLst tNil)))))
theorem d_is_point_for (G : Glo K mg C) (c_is_whole : Fn P w K mg base (L2.CX P w) 1 "is_whole" ["value"] sp_is_whole) {f : Addr} {cdv : Value} {A : Around} {outer : List Env} {s : Shared} {H : Hp} {E : XK} (hr : Room 1 (A.deeper (envOfC "is_point_for" (defScope (top 10)) s.heap.objs.size f cdv))) :
    PSs (cxOf (L2.CX P w) P w K mg base ["size", "value", "item"] "is_point_for" (defScope (top 10)) f cdv A outer s H E).nox (defBody (top 10)) (t_is_point_for K) :=
    (pss_one (ps_ret (pe_and (pe_callB (cIsiK K rfl) (by rfl) G.g_isinstance boot_isinstance (pa_cons (pv 1) (pa_cons (pe_ty (by rfl) G.g_tuple boot_tuple) pa_nil))) (pe_and (pe_cmpR op_eq (pe_callB (cLenK K rfl) (by rfl) G.g_len boot_len (pa_cons (pv 1) pa_nil)) (pv 0) (nomark _)) (pe_and1 (pe_cmpR (eqDK K rfl hr.units) (pe_lc (own := [("item", 2)]) rfl sc_is_point_for.nd (piT K rfl (pv 1)) (blkOk_by (N := ["size", "value", "item"]) (sc := defScope (top 10)) (by decide +kernel)) (fun _ _ _ _ _ => (pg_name (i := 2) sc_is_point_for.nd rfl (by first | exact .inl rfl | exact .inr rfl))) (fun _ _ _ _ _ => (pts_one (pt_not (pt_val (pe_f c_is_whole hr (by decide) passL (by rfl) (pa_cons (pv 2) pa_nil)))))) (fun _ _ _ _ _ => (pv 2))) (pe_lst pa_nil) (nomark _)))))))
theorem sc_are_points : FnScope ["size", "value", "item"] ["size", "value"] (defScope (top 11)) := ⟨rfl, rfl, rfl, by decide +kernel, rfl, by decide +kernel, by decide +kernel⟩
def t_are_points (K : PySem.W.Frag) : TS :=
    (tRet (tAndV (tCB (rIsi K) (tCons (tVar 1) (tCons (tC (.ty "list")) tNil))) (tOp (rEqD K) (tLc (iList K (tVar 1)) (gName 2) (tNot (tB (tCall sp_is_point_for [] E0 (tCons (tVar 0) (tCons (tVar 2) tNil))))) (tVar 2) [2]) (tLst tNil))))
theorem d_are_points (G : Glo K mg C) (c_is_point_for : Fn P w K mg base (L2.CX P w) 2 "is_point_for" ["size", "value"] sp_is_point_for) {f : Addr} {cdv : Value} {A : Around} {outer : List Env} {s : Shared} {H : Hp} {E : XK} (hr : Room 2 (A.deeper (envOfC "are_points" (defScope (top 11)) s.heap.objs.size f cdv))) :
    PSs (cxOf (L2.CX P w) P w K mg base ["size", "value", "item"] "are_points" (defScope (top 11)) f cdv A outer s H E).nox (defBody (top 11)) (t_are_points K) :=
    (pss_one (ps_ret (pe_and (pe_callB (cIsiK K rfl) (by rfl) G.g_isinstance boot_isinstance (pa_cons (pv 1) (pa_cons (pe_ty (by rfl) G.g_list boot_list) pa_nil))) (pe_and1 (pe_cmpR (eqDK K rfl hr.units) (pe_lc (own := [("item", 2)]) rfl sc_are_points.nd (piL K rfl (pv 1)) (blkOk_by (N := ["size", "value", "item"]) (sc := defScope (top 11)) (by decide +kernel)) (fun _ _ _ _ _ => (pg_name (i := 2) sc_are_points.nd rfl (by first | exact .inl rfl | exact .inr rfl))) (fun _ _ _ _ _ => (pts_one (pt_not (pt_val (pe_f c_is_point_for hr (by decide) passL (by rfl) (pa_cons (pv 0) (pa_cons (pv 2) pa_nil))))))) (fun _ _ _ _ _ => (pv 2))) (pe_lst pa_nil) (nomark _))))))
theorem sc_zero_point : FnScope ["size"] ["size"] (defScope (top 12)) := ⟨rfl, rfl, rfl, by decide +kernel, rfl, by decide +kernel, by decide +kernel⟩
def t_zero_point (K : PySem.W.Frag) : TS :=
    (tRet (tOp (rRepA K) (tTup (tCons (tC (.int 0)) tNil)) (tVar 0)))
theorem d_zero_point (G : Glo K mg C)  {f : Addr} {cdv : Value} {A : Around} {outer : List Env} {s : Shared} {H : Hp} {E : XK} (hr : Room 0 (A.deeper (envOfC "zero_point" (defScope (top 12)) s.heap.objs.size f cdv))) :
    PSs (cxOf (L2.CX P w) P w K mg base ["size"] "zero_point" (defScope (top 12)) f cdv A outer s H E).nox (defBody (top 12)) (t_zero_point K) :=
    (pss_one (ps_ret (pe_op (repAK K rfl) (pe_tup (pa_cons pe_int pa_nil)) (pv 0))))
theorem sc_unit_points : FnScope ["size", "found", "at", "number"] ["size"] (defScope (top 13)) := ⟨rfl, rfl, rfl, by decide +kernel, rfl, by decide +kernel, by decide +kernel⟩
def t_unit_points (K : PySem.W.Frag) : TS :=
    (tSeq (tAsg (tLst tNil) (gName 1))
    (tSeq (tFor (iRng1 (tCons (tVar 0) tNil)) (gName 2) (tFor (iList K (tLst (tCons (tC (.int 1)) (tCons (tUn (rU fun i => .int (-i)) (tC (.int 1))) tNil)))) (gName 3) (tDrop (tBM K "list" rAppend (tVar 1) (tCons (tOp (rCatA K) (tOp (rCatA K) (tOp (rRepA K) (tTup (tCons (tC (.int 0)) tNil)) (tVar 2)) (tTup (tCons (tVar 3) tNil))) (tOp (rRepA K) (tTup (tCons (tC (.int 0)) tNil)) (tOp (rI0 fun i j => .int (i - j)) (tOp (rI0 fun i j => .int (i - j)) (tVar 0) (tVar 2)) (tC (.int 1))))) tNil)))))
    (tRet (tCB (rSortT K) (tCons (tVar 1) tNil)))))
theorem d_unit_points (G : Glo K mg C)  {f : Addr} {cdv : Value} {A : Around} {outer : List Env} {s : Shared} {H : Hp} {E : XK} (hr : Room 0 (A.deeper (envOfC "unit_points" (defScope (top 13)) s.heap.objs.size f cdv))) :
    PSs (cxOf (L2.CX P w) P w K mg base ["size", "found", "at", "number"] "unit_points" (defScope (top 13)) f cdv A outer s H E).nox (defBody (top 13)) (t_unit_points K) :=
    (pss_cons (ps_set (i := 1) sc_unit_points.nd rfl (by first | exact .inl rfl | exact .inr rfl) (pe_lst pa_nil))
    (pss_cons (ps_for PassesOwn.never rfl (pi_range1 (by rfl) G.g_range (pa_cons (pv 0) pa_nil)) (pg_name (i := 2) sc_unit_points.nd rfl (by first | exact .inl rfl | exact .inr rfl)) (pss_one (ps_for PassesOwn.never rfl (piL K rfl (pe_lst (pa_cons pe_int (pa_cons (pe_un un_neg pe_int) pa_nil)))) (pg_name (i := 3) sc_unit_points.nd rfl (by first | exact .inl rfl | exact .inr rfl)) (pss_one (ps_expr (pe_bmK K rfl PySem.F.plainAttrs_list PySem.F.slot_list_append PySem.F.type_list_append mt_append (pv 1) (pa_cons (pe_op (catAK K rfl) (pe_op (catAK K rfl) (pe_op (repAK K rfl) (pe_tup (pa_cons pe_int pa_nil)) (pv 2)) (pe_tup (pa_cons (pv 3) pa_nil))) (pe_op (repAK K rfl) (pe_tup (pa_cons pe_int pa_nil)) (pe_op op_sub (pe_op op_sub (pv 0) (pv 2)) pe_int))) pa_nil)))))))
    (pss_one (ps_ret (pe_callB (cSortTK K rfl) (by rfl) G.g_sorted boot_sorted (pa_cons (pv 1) pa_nil))))))
theorem sc_added : FnScope ["one", "other", "low", "high"] ["one", "other"] (defScope (top 14)) := ⟨rfl, rfl, rfl, by decide +kernel, rfl, by decide +kernel, by decide +kernel⟩
def t_added (K : PySem.W.Frag) : TS :=
    (tRet (tCB (rTup K) (tCons (tLc (iZipS K (tCons (tVar 0) (tCons (tVar 1) tNil)) (tCons (tC (.bl true)) tNil)) (gTup K 2 (gCons (gName 2) (gCons (gName 3) gNil))) tYes (tOp (rI0 fun i j => .int (i + j)) (tVar 2) (tVar 3)) [2, 3]) tNil)))
theorem d_added (G : Glo K mg C)  {f : Addr} {cdv : Value} {A : Around} {outer : List Env} {s : Shared} {H : Hp} {E : XK} (hr : Room 0 (A.deeper (envOfC "added" (defScope (top 14)) s.heap.objs.size f cdv))) :
    PSs (cxOf (L2.CX P w) P w K mg base ["one", "other", "low", "high"] "added" (defScope (top 14)) f cdv A outer s H E).nox (defBody (top 14)) (t_added K) :=
    (pss_one (ps_ret (pe_callTy (cTupK K rfl) (by rfl) G.g_tuple boot_tuple (pa_cons (pe_lc (own := [("low", 2), ("high", 3)]) rfl sc_added.nd (piZipS K rfl (by rfl) G.g_zip (pa_cons (pv 0) (pa_cons (pv 1) pa_nil)) (pk_cons pe_bl pk_nil)) (blkOk_by (N := ["one", "other", "low", "high"]) (sc := defScope (top 14)) (by decide +kernel)) (fun _ _ _ _ _ => (pgT K rfl rfl (pgs_cons (pg_name (i := 2) sc_added.nd rfl (by first | exact .inl rfl | exact .inr rfl)) (pgs_cons (pg_name (i := 3) sc_added.nd rfl (by first | exact .inl rfl | exact .inr rfl)) pgs_nil)))) (fun _ _ _ _ _ => pts_nil) (fun _ _ _ _ _ => (pe_op op_add (pv 2) (pv 3)))) pa_nil))))
theorem sc_is_matrix_for : FnScope ["size", "value", "row"] ["size", "value"] (defScope (top 16)) := ⟨rfl, rfl, rfl, by decide +kernel, rfl, by decide +kernel, by decide +kernel⟩
def t_is_matrix_for (K : PySem.W.Frag) : TS :=
    (tSeq (tIfS (tOr (tNot (tB (tCB (rIsi K) (tCons (tVar 1) (tCons (tC (.ty "tuple")) tNil))))) (tTest (tOp rNe (tCB (rLenS K) (tCons (tVar 1) tNil)) (tVar 0)))) (tRet (tC (.bl false))) tNext)
    (tRet (tOp (rEqD K) (tLc (iTup K (tVar 1)) (gName 2) (tNot (tB (tCall sp_is_point_for [] E0 (tCons (tVar 0) (tCons (tVar 2) tNil))))) (tVar 2) [2]) (tLst tNil))))
theorem d_is_matrix_for (G : Glo K mg C) (c_is_point_for : Fn P w K mg base (L2.CX P w) 2 "is_point_for" ["size", "value"] sp_is_point_for) {f : Addr} {cdv : Value} {A : Around} {outer : List Env} {s : Shared} {H : Hp} {E : XK} (hr : Room 2 (A.deeper (envOfC "is_matrix_for" (defScope (top 16)) s.heap.objs.size f cdv))) :
    PSs (cxOf (L2.CX P w) P w K mg base ["size", "value", "row"] "is_matrix_for" (defScope (top 16)) f cdv A outer s H E).nox (defBody (top 16)) (t_is_matrix_for K) :=
    (pss_cons (ps_if (PW.pt (pt_or (pt_not (pt_val (pe_callB (cIsiK K rfl) (by rfl) G.g_isinstance boot_isinstance (pa_cons (pv 1) (pa_cons (pe_ty (by rfl) G.g_tuple boot_tuple) pa_nil))))) (pt_or1 (pt_cmpR op_ne (pe_callB (cLenK K rfl) (by rfl) G.g_len boot_len (pa_cons (pv 1) pa_nil)) (pv 0) (nomark _))))) (pss_one (ps_ret pe_bl)) pss_nil)
    (pss_one (ps_ret (pe_cmpR (eqDK K rfl hr.units) (pe_lc (own := [("row", 2)]) rfl sc_is_matrix_for.nd (piT K rfl (pv 1)) (blkOk_by (N := ["size", "value", "row"]) (sc := defScope (top 16)) (by decide +kernel)) (fun _ _ _ _ _ => (pg_name (i := 2) sc_is_matrix_for.nd rfl (by first | exact .inl rfl | exact .inr rfl))) (fun _ _ _ _ _ => (pts_one (pt_not (pt_val (pe_f c_is_point_for hr (by decide) passL (by rfl) (pa_cons (pv 0) (pa_cons (pv 2) pa_nil))))))) (fun _ _ _ _ _ => (pv 2))) (pe_lst pa_nil) (nomark _)))))
theorem sc_is_any_matrix : FnScope ["value"] ["value"] (defScope (top 17)) := ⟨rfl, rfl, rfl, by decide +kernel, rfl, by decide +kernel, by decide +kernel⟩
def t_is_any_matrix (K : PySem.W.Frag) : TS :=
    (tRet (tAndV (tCB (rIsi K) (tCons (tVar 0) (tCons (tC (.ty "tuple")) tNil))) (tAndV (tChain (rI0 fun i j => .bl (decide (i ≤ j))) (rI0 fun i j => .bl (decide (i ≤ j))) (tC (.int 1)) (tCB (rLenS K) (tCons (tVar 0) tNil)) (tC (.int 3))) (tCall sp_is_matrix_for [] E0 (tCons (tCB (rLenS K) (tCons (tVar 0) tNil)) (tCons (tVar 0) tNil))))))
theorem d_is_any_matrix (G : Glo K mg C) (c_is_matrix_for : Fn P w K mg base (L2.CX P w) 3 "is_matrix_for" ["size", "value"] sp_is_matrix_for) {f : Addr} {cdv : Value} {A : Around} {outer : List Env} {s : Shared} {H : Hp} {E : XK} (hr : Room 3 (A.deeper (envOfC "is_any_matrix" (defScope (top 17)) s.heap.objs.size f cdv))) :
    PSs (cxOf (L2.CX P w) P w K mg base ["value"] "is_any_matrix" (defScope (top 17)) f cdv A outer s H E).nox (defBody (top 17)) (t_is_any_matrix K) :=
    (pss_one (ps_ret (pe_and (pe_callB (cIsiK K rfl) (by rfl) G.g_isinstance boot_isinstance (pa_cons (pv 0) (pa_cons (pe_ty (by rfl) G.g_tuple boot_tuple) pa_nil))) (pe_and (pe_chain op_le op_le pe_int (pe_callB (cLenK K rfl) (by rfl) G.g_len boot_len (pa_cons (pv 0) pa_nil)) (pe_gi (by rfl) G.mostSize)) (pe_and1 (pe_f c_is_matrix_for hr (by decide) passL (by rfl) (pa_cons (pe_callB (cLenK K rfl) (by rfl) G.g_len boot_len (pa_cons (pv 0) pa_nil)) (pa_cons (pv 0) pa_nil))))))))
theorem sc_check_matrix : FnScope ["matrix"] ["matrix"] (defScope (top 18)) := ⟨rfl, rfl, rfl, by decide +kernel, rfl, by decide +kernel, by decide +kernel⟩
def t_check_matrix (K : PySem.W.Frag) : TS :=
    (tIfS (tNot (tB (tCall sp_is_any_matrix [] E0 (tCons (tVar 0) tNil)))) tNever tNext)
theorem d_check_matrix (G : Glo K mg C) (c_is_any_matrix : Fn P w K mg base (L2.CX P w) 4 "is_any_matrix" ["value"] sp_is_any_matrix) {f : Addr} {cdv : Value} {A : Around} {outer : List Env} {s : Shared} {H : Hp} {E : XK} (hr : Room 4 (A.deeper (envOfC "check_matrix" (defScope (top 18)) s.heap.objs.size f cdv))) :
    PSs (cxOf (L2.CX P w) P w K mg base ["matrix"] "check_matrix" (defScope (top 18)) f cdv A outer s H E).nox (defBody (top 18)) (t_check_matrix K) :=
    (pss_one (ps_if (pt_not (pt_val (pe_f c_is_any_matrix hr (by decide) passL (by rfl) (pa_cons (pv 0) pa_nil)))) (pss_one ps_never) pss_nil))
theorem sc_dot : FnScope ["row", "point", "left", "right"] ["row", "point"] (defScope (top 19)) := ⟨rfl, rfl, rfl, by decide +kernel, rfl, by decide +kernel, by decide +kernel⟩
def t_dot (K : PySem.W.Frag) : TS :=
    (tRet (tCB (rSum K) (tCons (tLc (iZipS K (tCons (tVar 0) (tCons (tVar 1) tNil)) (tCons (tC (.bl true)) tNil)) (gTup K 2 (gCons (gName 2) (gCons (gName 3) gNil))) tYes (tOp (rI CMul fun i j => .int (i * j)) (tVar 2) (tVar 3)) [2, 3]) tNil)))
theorem d_dot (G : Glo K mg C)  {f : Addr} {cdv : Value} {A : Around} {outer : List Env} {s : Shared} {H : Hp} {E : XK} (hr : Room 0 (A.deeper (envOfC "dot" (defScope (top 19)) s.heap.objs.size f cdv))) :
    PSs (cxOf (L2.CX P w) P w K mg base ["row", "point", "left", "right"] "dot" (defScope (top 19)) f cdv A outer s H E).nox (defBody (top 19)) (t_dot K) :=
    (pss_one (ps_ret (pe_callB (cSumK K rfl rfl) (by rfl) G.g_sum boot_sum (pa_cons (pe_lc (own := [("left", 2), ("right", 3)]) rfl sc_dot.nd (piZipS K rfl (by rfl) G.g_zip (pa_cons (pv 0) (pa_cons (pv 1) pa_nil)) (pk_cons pe_bl pk_nil)) (blkOk_by (N := ["row", "point", "left", "right"]) (sc := defScope (top 19)) (by decide +kernel)) (fun _ _ _ _ _ => (pgT K rfl rfl (pgs_cons (pg_name (i := 2) sc_dot.nd rfl (by first | exact .inl rfl | exact .inr rfl)) (pgs_cons (pg_name (i := 3) sc_dot.nd rfl (by first | exact .inl rfl | exact .inr rfl)) pgs_nil)))) (fun _ _ _ _ _ => pts_nil) (fun _ _ _ _ _ => (pe_op op_mul (pv 2) (pv 3)))) pa_nil))))
theorem sc_moved_by : FnScope ["matrix", "point", "row"] ["matrix", "point"] (defScope (top 20)) := ⟨rfl, rfl, rfl, by decide +kernel, rfl, by decide +kernel, by decide +kernel⟩
def t_moved_by (K : PySem.W.Frag) : TS :=
    (tRet (tCB (rTup K) (tCons (tLc (iTup K (tVar 0)) (gName 2) tYes (tCall sp_dot [] E0 (tCons (tVar 2) (tCons (tVar 1) tNil))) [2]) tNil)))
theorem d_moved_by (G : Glo K mg C) (c_dot : Fn P w K mg base (L2.CX P w) 1 "dot" ["row", "point"] sp_dot) {f : Addr} {cdv : Value} {A : Around} {outer : List Env} {s : Shared} {H : Hp} {E : XK} (hr : Room 1 (A.deeper (envOfC "moved_by" (defScope (top 20)) s.heap.objs.size f cdv))) :
    PSs (cxOf (L2.CX P w) P w K mg base ["matrix", "point", "row"] "moved_by" (defScope (top 20)) f cdv A outer s H E).nox (defBody (top 20)) (t_moved_by K) :=
    (pss_one (ps_ret (pe_callTy (cTupK K rfl) (by rfl) G.g_tuple boot_tuple (pa_cons (pe_lc (own := [("row", 2)]) rfl sc_moved_by.nd (piT K rfl (pv 0)) (blkOk_by (N := ["matrix", "point", "row"]) (sc := defScope (top 20)) (by decide +kernel)) (fun _ _ _ _ _ => (pg_name (i := 2) sc_moved_by.nd rfl (by first | exact .inl rfl | exact .inr rfl))) (fun _ _ _ _ _ => pts_nil) (fun _ _ _ _ _ => (pe_f c_dot hr (by decide) passL (by rfl) (pa_cons (pv 2) (pa_cons (pv 1) pa_nil))))) pa_nil))))
theorem sc_turned_over : FnScope ["matrix", "at", "row"] ["matrix"] (defScope (top 21)) := ⟨rfl, rfl, rfl, by decide +kernel, rfl, by decide +kernel, by decide +kernel⟩
def t_turned_over (K : PySem.W.Frag) : TS :=
    (tRet (tCB (rTup K) (tCons (tLc (iRng1 (tCons (tCB (rLenS K) (tCons (tOp (rIxT K) (tVar 0) (tC (.int 0))) tNil)) tNil)) (gName 1) tYes (tCB (rTup K) (tCons (tLc (iTup K (tVar 0)) (gName 2) tYes (tOp (rIxT K) (tVar 2) (tVar 1)) [2]) tNil)) [1]) tNil)))
theorem d_turned_over (G : Glo K mg C)  {f : Addr} {cdv : Value} {A : Around} {outer : List Env} {s : Shared} {H : Hp} {E : XK} (hr : Room 0 (A.deeper (envOfC "turned_over" (defScope (top 21)) s.heap.objs.size f cdv))) :
    PSs (cxOf (L2.CX P w) P w K mg base ["matrix", "at", "row"] "turned_over" (defScope (top 21)) f cdv A outer s H E).nox (defBody (top 21)) (t_turned_over K) :=
    (pss_one (ps_ret (pe_callTy (cTupK K rfl) (by rfl) G.g_tuple boot_tuple (pa_cons (pe_lc (own := [("at", 1)]) rfl sc_turned_over.nd (pi_range1 (by rfl) G.g_range (pa_cons (pe_callB (cLenK K rfl) (by rfl) G.g_len boot_len (pa_cons (pe_ix (ixT K rfl) (pv 0) pe_int (fun _ _ => rfl)) pa_nil)) pa_nil)) (blkOk_by (N := ["matrix", "at", "row"]) (sc := defScope (top 21)) (by decide +kernel)) (fun _ _ _ _ _ => (pg_name (i := 1) sc_turned_over.nd rfl (by first | exact .inl rfl | exact .inr rfl))) (fun _ _ _ _ _ => pts_nil) (fun _ _ _ _ _ => (pe_callTy (cTupK K rfl) (by rfl) G.g_tuple boot_tuple (pa_cons (pe_lc (own := [("row", 2)]) rfl sc_turned_over.nd (piT K rfl (pv 0)) (blkOk_by (N := ["matrix", "at", "row"]) (by kernel_rfl)) (fun _ _ _ _ _ => (pg_name (i := 2) sc_turned_over.nd rfl (by first | exact .inl rfl | exact .inr rfl))) (fun _ _ _ _ _ => pts_nil) (fun _ _ _ _ _ => (pe_ix (ixT K rfl) (pv 2) (pv 1) (fun _ _ => rfl)))) pa_nil)))) pa_nil))))
theorem sc_product_of : FnScope ["one", "other", "columns", "row", "column"] ["one", "other"] (defScope (top 22)) := ⟨rfl, rfl, rfl, by decide +kernel, rfl, by decide +kernel, by decide +kernel⟩
def t_product_of (K : PySem.W.Frag) : TS :=
    (tSeq (tAsg (tCall sp_turned_over [] E0 (tCons (tVar 1) tNil)) (gName 2))
    (tRet (tCB (rTup K) (tCons (tLc (iTup K (tVar 0)) (gName 3) tYes (tCB (rTup K) (tCons (tLc (iTup K (tVar 2)) (gName 4) tYes (tCall sp_dot [] E0 (tCons (tVar 3) (tCons (tVar 4) tNil))) [4]) tNil)) [3]) tNil))))
theorem d_product_of (G : Glo K mg C) (c_turned_over : Fn P w K mg base (L2.CX P w) 1 "turned_over" ["matrix"] sp_turned_over) (c_dot : Fn P w K mg base (L2.CX P w) 1 "dot" ["row", "point"] sp_dot) {f : Addr} {cdv : Value} {A : Around} {outer : List Env} {s : Shared} {H : Hp} {E : XK} (hr : Room 1 (A.deeper (envOfC "product_of" (defScope (top 22)) s.heap.objs.size f cdv))) :
    PSs (cxOf (L2.CX P w) P w K mg base ["one", "other", "columns", "row", "column"] "product_of" (defScope (top 22)) f cdv A outer s H E).nox (defBody (top 22)) (t_product_of K) :=
    (pss_cons (ps_set (i := 2) sc_product_of.nd rfl (by first | exact .inl rfl | exact .inr rfl) (pe_f c_turned_over hr (by decide) passL (by rfl) (pa_cons (pv 1) pa_nil)))
    (pss_one (ps_ret (pe_callTy (cTupK K rfl) (by rfl) G.g_tuple boot_tuple (pa_cons (pe_lc (own := [("row", 3)]) rfl sc_product_of.nd (piT K rfl (pv 0)) (blkOk_by (N := ["one", "other", "columns", "row", "column"]) (sc := defScope (top 22)) (by decide +kernel)) (fun _ _ _ _ _ => (pg_name (i := 3) sc_product_of.nd rfl (by first | exact .inl rfl | exact .inr rfl))) (fun _ _ _ _ _ => pts_nil) (fun _ _ _ _ _ => (pe_callTy (cTupK K rfl) (by rfl) G.g_tuple boot_tuple (pa_cons (pe_lc (own := [("column", 4)]) rfl sc_product_of.nd (piT K rfl (pv 2)) (blkOk_by (N := ["one", "other", "columns", "row", "column"]) (by kernel_rfl)) (fun _ _ _ _ _ => (pg_name (i := 4) sc_product_of.nd rfl (by first | exact .inl rfl | exact .inr rfl))) (fun _ _ _ _ _ => pts_nil) (fun _ _ _ _ _ => (pe_f c_dot hr (by decide) passL (by rfl) (pa_cons (pv 3) (pa_cons (pv 4) pa_nil))))) pa_nil)))) pa_nil)))))
theorem sc_without : FnScope ["matrix", "row", "column", "at", "line"] ["matrix", "row", "column"] (defScope (top 23)) := ⟨rfl, rfl, rfl, by decide +kernel, rfl, by decide +kernel, by decide +kernel⟩
def t_without (K : PySem.W.Frag) : TS :=
    (tRet (tCB (rTup K) (tCons (tLc (iEnumT K (tCons (tVar 0) tNil)) (gTup K 2 (gCons (gName 3) (gCons (gName 4) gNil))) (tTest (tOp rNe (tVar 3) (tVar 1))) (tOp (rCatA K) (tSl (rSlA K) (tVar 4) tNoPart (tPart (tVar 2))) (tSl (rSlA K) (tVar 4) (tPart (tOp (rI0 fun i j => .int (i + j)) (tVar 2) (tC (.int 1)))) tNoPart)) [3, 4]) tNil)))
theorem d_without (G : Glo K mg C)  {f : Addr} {cdv : Value} {A : Around} {outer : List Env} {s : Shared} {H : Hp} {E : XK} (hr : Room 0 (A.deeper (envOfC "without" (defScope (top 23)) s.heap.objs.size f cdv))) :
    PSs (cxOf (L2.CX P w) P w K mg base ["matrix", "row", "column", "at", "line"] "without" (defScope (top 23)) f cdv A outer s H E).nox (defBody (top 23)) (t_without K) :=
    (pss_one (ps_ret (pe_callTy (cTupK K rfl) (by rfl) G.g_tuple boot_tuple (pa_cons (pe_lc (own := [("at", 3), ("line", 4)]) rfl sc_without.nd (piEnumT K rfl (by rfl) G.g_enumerate (pa_cons (pv 0) pa_nil)) (blkOk_by (N := ["matrix", "row", "column", "at", "line"]) (sc := defScope (top 23)) (by decide +kernel)) (fun _ _ _ _ _ => (pgT K rfl rfl (pgs_cons (pg_name (i := 3) sc_without.nd rfl (by first | exact .inl rfl | exact .inr rfl)) (pgs_cons (pg_name (i := 4) sc_without.nd rfl (by first | exact .inl rfl | exact .inr rfl)) pgs_nil)))) (fun _ _ _ _ _ => (pts_one (pt_cmpR op_ne (pv 3) (pv 1) (nomark _)))) (fun _ _ _ _ _ => (pe_op (catAK K rfl) (pe_slice (slAK K rfl) (pv 4) po_none (po_some (pv 2))) (pe_slice (slAK K rfl) (pv 4) (po_some (pe_op op_add (pv 2) pe_int)) po_none)))) pa_nil))))
end
end K13
namespace K13
open PySem PySem.Spec PyProof.Rows L2 Evl
section
variable {P : Program} {w : World} {K : PySem.W.Frag} {mg : Str → Option Value} {base : Heap} {C : Addr}
theorem sc_determinant_of : FnScope ["matrix", "found", "at", "number"] ["matrix"] (defScope (top 24)) := ⟨rfl, rfl, rfl, by decide +kernel, rfl, by decide +kernel, by decide +kernel⟩
def t_determinant_of (K : PySem.W.Frag) (n : Nat) : TS :=
    (tSeq (tIfS (tTest (tOp rEq (tCB (rLenS K) (tCons (tVar 0) tNil)) (tC (.int 0)))) (tRet (tC (.int 1))) tNext)
    (tSeq (tAsg (tC (.int 0)) (gName 1))
    (tSeq (tFor (iEnumT K (tCons (tOp (rIxT K) (tVar 0) (tC (.int 0))) tNil)) (gTup K 2 (gCons (gName 2) (gCons (gName 3) gNil))) (tIfS (tTest (tOp rNe (tVar 3) (tC (.int 0)))) (tAsg (tOp (rI0 fun i j => .int (i + j)) (tVar 1) (tOp (rI CMul fun i j => .int (i * j)) (tOp (rI CMul fun i j => .int (i * j)) (tIf (tTest (tOp rEq (tOp (rI (fun _ j => 0 < j) fun i j => .int (i % j)) (tVar 2) (tC (.int 2))) (tC (.int 1)))) (tUn (rU fun i => .int (-i)) (tC (.int 1))) (tC (.int 1))) (tVar 3)) (tCall (sp_detF n) [] E0 (tCons (tCall sp_without [] E0 (tCons (tVar 0) (tCons (tC (.int 0)) (tCons (tVar 2) tNil)))) tNil)))) (gName 1)) tNext))
    (tRet (tVar 1)))))
theorem d_determinant_of {n : Nat} (G : Glo K mg C) (c_determinant_of : Fn P w K mg base (L2.CX P w) (n + 1) "determinant_of" ["matrix"] (sp_detF n)) (c_without : Fn P w K mg base (L2.CX P w) 1 "without" ["matrix", "row", "column"] sp_without) {f : Addr} {cdv : Value} {A : Around} {outer : List Env} {s : Shared} {H : Hp} {E : XK} (hr : Room (n + 1) (A.deeper (envOfC "determinant_of" (defScope (top 24)) s.heap.objs.size f cdv))) :
    PSs (cxOf (L2.CX P w) P w K mg base ["matrix", "found", "at", "number"] "determinant_of" (defScope (top 24)) f cdv A outer s H E).nox (defBody (top 24)) (t_determinant_of K n) :=
    (pss_cons (ps_if (pt_cmpR op_eq (pe_callB (cLenK K rfl) (by rfl) G.g_len boot_len (pa_cons (pv 0) pa_nil)) pe_int (nomark _)) (pss_one (ps_ret pe_int)) pss_nil)
    (pss_cons (ps_set (i := 1) sc_determinant_of.nd rfl (by first | exact .inl rfl | exact .inr rfl) pe_int)
    (pss_cons (ps_for PassesOwn.never rfl (piEnumT K rfl (by rfl) G.g_enumerate (pa_cons (pe_ix (ixT K rfl) (pv 0) pe_int (fun _ _ => rfl)) pa_nil)) (pgT K rfl rfl (pgs_cons (pg_name (i := 2) sc_determinant_of.nd rfl (by first | exact .inl rfl | exact .inr rfl)) (pgs_cons (pg_name (i := 3) sc_determinant_of.nd rfl (by first | exact .inl rfl | exact .inr rfl)) pgs_nil))) (pss_one (ps_if (pt_cmpR op_ne (pv 3) pe_int (nomark _)) (pss_one (ps_set (i := 1) sc_determinant_of.nd rfl (by first | exact .inl rfl | exact .inr rfl) (pe_op op_add (pv 1) (pe_op op_mul (pe_op op_mul (pe_ifExp (pt_cmpR op_eq (pe_op op_mod (pv 2) pe_int) pe_int (nomark _)) (pe_un un_neg pe_int) pe_int) (pv 3)) (pe_f c_determinant_of hr (Nat.le_refl _) passL (by rfl) (pa_cons (pe_f c_without hr (Nat.succ_le_succ (Nat.zero_le _)) passL (by rfl) (pa_cons (pv 0) (pa_cons pe_int (pa_cons (pv 2) pa_nil)))) pa_nil)))))) pss_nil)))
    (pss_one (ps_ret (pv 1))))))
theorem sc_adjugate_of : FnScope ["matrix", "found", "row", "line", "column", "sign"] ["matrix"] (defScope (top 25)) := ⟨rfl, rfl, rfl, by decide +kernel, rfl, by decide +kernel, by decide +kernel⟩
def t_adjugate_of (K : PySem.W.Frag) : TS :=
    (tSeq (tAsg (tLst tNil) (gName 1))
    (tSeq (tFor (iRng1 (tCons (tCB (rLenS K) (tCons (tVar 0) tNil)) tNil)) (gName 2) (tSeq (tAsg (tLst tNil) (gName 3))
    (tSeq (tFor (iRng1 (tCons (tCB (rLenS K) (tCons (tVar 0) tNil)) tNil)) (gName 4) (tSeq (tAsg (tIf (tTest (tOp rEq (tOp (rI (fun _ j => 0 < j) fun i j => .int (i % j)) (tOp (rI0 fun i j => .int (i + j)) (tVar 2) (tVar 4)) (tC (.int 2))) (tC (.int 1)))) (tUn (rU fun i => .int (-i)) (tC (.int 1))) (tC (.int 1))) (gName 5))
    (tDrop (tBM K "list" rAppend (tVar 3) (tCons (tOp (rI CMul fun i j => .int (i * j)) (tVar 5) (tCall (sp_detF 4) [] E0 (tCons (tCall sp_without [] E0 (tCons (tVar 0) (tCons (tVar 4) (tCons (tVar 2) tNil)))) tNil))) tNil)))))
    (tDrop (tBM K "list" rAppend (tVar 1) (tCons (tCB (rTup K) (tCons (tVar 3) tNil)) tNil))))))
    (tRet (tCB (rTup K) (tCons (tVar 1) tNil)))))
theorem d_adjugate_of (G : Glo K mg C) (c_without : Fn P w K mg base (L2.CX P w) 1 "without" ["matrix", "row", "column"] sp_without) (c_determinant_of : Fn P w K mg base (L2.CX P w) 5 "determinant_of" ["matrix"] (sp_detF 4)) {f : Addr} {cdv : Value} {A : Around} {outer : List Env} {s : Shared} {H : Hp} {E : XK} (hr : Room 5 (A.deeper (envOfC "adjugate_of" (defScope (top 25)) s.heap.objs.size f cdv))) :
    PSs (cxOf (L2.CX P w) P w K mg base ["matrix", "found", "row", "line", "column", "sign"] "adjugate_of" (defScope (top 25)) f cdv A outer s H E).nox (defBody (top 25)) (t_adjugate_of K) :=
    (pss_cons (ps_set (i := 1) sc_adjugate_of.nd rfl (by first | exact .inl rfl | exact .inr rfl) (pe_lst pa_nil))
    (pss_cons (ps_for PassesOwn.never rfl (pi_range1 (by rfl) G.g_range (pa_cons (pe_callB (cLenK K rfl) (by rfl) G.g_len boot_len (pa_cons (pv 0) pa_nil)) pa_nil)) (pg_name (i := 2) sc_adjugate_of.nd rfl (by first | exact .inl rfl | exact .inr rfl)) (pss_cons (ps_set (i := 3) sc_adjugate_of.nd rfl (by first | exact .inl rfl | exact .inr rfl) (pe_lst pa_nil))
    (pss_cons (ps_for PassesOwn.never rfl (pi_range1 (by rfl) G.g_range (pa_cons (pe_callB (cLenK K rfl) (by rfl) G.g_len boot_len (pa_cons (pv 0) pa_nil)) pa_nil)) (pg_name (i := 4) sc_adjugate_of.nd rfl (by first | exact .inl rfl | exact .inr rfl)) (pss_cons (ps_set (i := 5) sc_adjugate_of.nd rfl (by first | exact .inl rfl | exact .inr rfl) (pe_ifExp (pt_cmpR op_eq (pe_op op_mod (pe_op op_add (pv 2) (pv 4)) pe_int) pe_int (nomark _)) (pe_un un_neg pe_int) pe_int))
    (pss_one (ps_expr (pe_bmK K rfl PySem.F.plainAttrs_list PySem.F.slot_list_append PySem.F.type_list_append mt_append (pv 3) (pa_cons (pe_op op_mul (pv 5) (pe_f c_determinant_of hr (by decide) passL (by rfl) (pa_cons (pe_f c_without hr (by decide) passL (by rfl) (pa_cons (pv 0) (pa_cons (pv 4) (pa_cons (pv 2) pa_nil)))) pa_nil))) pa_nil))))))
    (pss_one (ps_expr (pe_bmK K rfl PySem.F.plainAttrs_list PySem.F.slot_list_append PySem.F.type_list_append mt_append (pv 1) (pa_cons (pe_callTy (cTupK K rfl) (by rfl) G.g_tuple boot_tuple (pa_cons (pv 3) pa_nil)) pa_nil)))))))
    (pss_one (ps_ret (pe_callTy (cTupK K rfl) (by rfl) G.g_tuple boot_tuple (pa_cons (pv 1) pa_nil))))))
theorem sc_greatest_sum : FnScope ["matrix", "row", "number"] ["matrix"] (defScope (top 27)) := ⟨rfl, rfl, rfl, by decide +kernel, rfl, by decide +kernel, by decide +kernel⟩
def t_greatest_sum (K : PySem.W.Frag) : TS :=
    (tRet (tCB (rMax K) (tCons (tLc (iTup K (tVar 0)) (gName 1) tYes (tCB (rSum K) (tCons (tLc (iTup K (tVar 1)) (gName 2) tYes (tCB rAbs1 (tCons (tVar 2) tNil)) [2]) tNil)) [1]) tNil)))
theorem d_greatest_sum (G : Glo K mg C)  {f : Addr} {cdv : Value} {A : Around} {outer : List Env} {s : Shared} {H : Hp} {E : XK} (hr : Room 0 (A.deeper (envOfC "greatest_sum" (defScope (top 27)) s.heap.objs.size f cdv))) :
    PSs (cxOf (L2.CX P w) P w K mg base ["matrix", "row", "number"] "greatest_sum" (defScope (top 27)) f cdv A outer s H E).nox (defBody (top 27)) (t_greatest_sum K) :=
    (pss_one (ps_ret (pe_callB (cMaxK K rfl rfl) (by rfl) G.g_max boot_max (pa_cons (pe_lc (own := [("row", 1)]) rfl sc_greatest_sum.nd (piT K rfl (pv 0)) (blkOk_by (N := ["matrix", "row", "number"]) (sc := defScope (top 27)) (by decide +kernel)) (fun _ _ _ _ _ => (pg_name (i := 1) sc_greatest_sum.nd rfl (by first | exact .inl rfl | exact .inr rfl))) (fun _ _ _ _ _ => pts_nil) (fun _ _ _ _ _ => (pe_callB (cSumK K rfl rfl) (by rfl) G.g_sum boot_sum (pa_cons (pe_lc (own := [("number", 2)]) rfl sc_greatest_sum.nd (piT K rfl (pv 1)) (blkOk_by (N := ["matrix", "row", "number"]) (by kernel_rfl)) (fun _ _ _ _ _ => (pg_name (i := 2) sc_greatest_sum.nd rfl (by first | exact .inl rfl | exact .inr rfl))) (fun _ _ _ _ _ => pts_nil) (fun _ _ _ _ _ => (pe_callB call_abs1 (by rfl) G.g_abs boot_abs (pa_cons (pv 2) pa_nil)))) pa_nil)))) pa_nil))))
theorem sc_trace_of : FnScope ["matrix", "at", "row"] ["matrix"] (defScope (top 28)) := ⟨rfl, rfl, rfl, by decide +kernel, rfl, by decide +kernel, by decide +kernel⟩
def t_trace_of (K : PySem.W.Frag) : TS :=
    (tRet (tCB (rSum K) (tCons (tLc (iEnumT K (tCons (tVar 0) tNil)) (gTup K 2 (gCons (gName 1) (gCons (gName 2) gNil))) tYes (tOp (rIxT K) (tVar 2) (tVar 1)) [1, 2]) tNil)))
theorem d_trace_of (G : Glo K mg C)  {f : Addr} {cdv : Value} {A : Around} {outer : List Env} {s : Shared} {H : Hp} {E : XK} (hr : Room 0 (A.deeper (envOfC "trace_of" (defScope (top 28)) s.heap.objs.size f cdv))) :
    PSs (cxOf (L2.CX P w) P w K mg base ["matrix", "at", "row"] "trace_of" (defScope (top 28)) f cdv A outer s H E).nox (defBody (top 28)) (t_trace_of K) :=
    (pss_one (ps_ret (pe_callB (cSumK K rfl rfl) (by rfl) G.g_sum boot_sum (pa_cons (pe_lc (own := [("at", 1), ("row", 2)]) rfl sc_trace_of.nd (piEnumT K rfl (by rfl) G.g_enumerate (pa_cons (pv 0) pa_nil)) (blkOk_by (N := ["matrix", "at", "row"]) (sc := defScope (top 28)) (by decide +kernel)) (fun _ _ _ _ _ => (pgT K rfl rfl (pgs_cons (pg_name (i := 1) sc_trace_of.nd rfl (by first | exact .inl rfl | exact .inr rfl)) (pgs_cons (pg_name (i := 2) sc_trace_of.nd rfl (by first | exact .inl rfl | exact .inr rfl)) pgs_nil)))) (fun _ _ _ _ _ => pts_nil) (fun _ _ _ _ _ => (pe_ix (ixT K rfl) (pv 2) (pv 1) (fun _ _ => rfl)))) pa_nil))))
theorem sc_minor_sum : FnScope ["matrix", "found", "low", "high"] ["matrix"] (defScope (top 29)) := ⟨rfl, rfl, rfl, by decide +kernel, rfl, by decide +kernel, by decide +kernel⟩
def t_minor_sum (K : PySem.W.Frag) : TS :=
    (tSeq (tAsg (tC (.int 0)) (gName 1))
    (tSeq (tFor (iList K (tLst (tCons (tTup (tCons (tC (.int 0)) (tCons (tC (.int 1)) tNil))) (tCons (tTup (tCons (tC (.int 0)) (tCons (tC (.int 2)) tNil))) (tCons (tTup (tCons (tC (.int 1)) (tCons (tC (.int 2)) tNil))) tNil))))) (gTup K 2 (gCons (gName 2) (gCons (gName 3) gNil))) (tAsg (tOp (rI0 fun i j => .int (i - j)) (tOp (rI0 fun i j => .int (i + j)) (tVar 1) (tOp (rI CMul fun i j => .int (i * j)) (tOp (rIxT K) (tOp (rIxT K) (tVar 0) (tVar 2)) (tVar 2)) (tOp (rIxT K) (tOp (rIxT K) (tVar 0) (tVar 3)) (tVar 3)))) (tOp (rI CMul fun i j => .int (i * j)) (tOp (rIxT K) (tOp (rIxT K) (tVar 0) (tVar 2)) (tVar 3)) (tOp (rIxT K) (tOp (rIxT K) (tVar 0) (tVar 3)) (tVar 2)))) (gName 1)))
    (tRet (tVar 1))))
theorem d_minor_sum (G : Glo K mg C)  {f : Addr} {cdv : Value} {A : Around} {outer : List Env} {s : Shared} {H : Hp} {E : XK} (hr : Room 0 (A.deeper (envOfC "minor_sum" (defScope (top 29)) s.heap.objs.size f cdv))) :
    PSs (cxOf (L2.CX P w) P w K mg base ["matrix", "found", "low", "high"] "minor_sum" (defScope (top 29)) f cdv A outer s H E).nox (defBody (top 29)) (t_minor_sum K) :=
    (pss_cons (ps_set (i := 1) sc_minor_sum.nd rfl (by first | exact .inl rfl | exact .inr rfl) pe_int)
    (pss_cons (ps_for PassesOwn.never rfl (piL K rfl (pe_lst (pa_cons (pe_tup (pa_cons pe_int (pa_cons pe_int pa_nil))) (pa_cons (pe_tup (pa_cons pe_int (pa_cons pe_int pa_nil))) (pa_cons (pe_tup (pa_cons pe_int (pa_cons pe_int pa_nil))) pa_nil))))) (pgT K rfl rfl (pgs_cons (pg_name (i := 2) sc_minor_sum.nd rfl (by first | exact .inl rfl | exact .inr rfl)) (pgs_cons (pg_name (i := 3) sc_minor_sum.nd rfl (by first | exact .inl rfl | exact .inr rfl)) pgs_nil))) (pss_one (ps_set (i := 1) sc_minor_sum.nd rfl (by first | exact .inl rfl | exact .inr rfl) (pe_op op_sub (pe_op op_add (pv 1) (pe_op op_mul (pe_ix (ixT K rfl) (pe_ix (ixT K rfl) (pv 0) (pv 2) (fun _ _ => rfl)) (pv 2) (fun _ _ => rfl)) (pe_ix (ixT K rfl) (pe_ix (ixT K rfl) (pv 0) (pv 3) (fun _ _ => rfl)) (pv 3) (fun _ _ => rfl)))) (pe_op op_mul (pe_ix (ixT K rfl) (pe_ix (ixT K rfl) (pv 0) (pv 2) (fun _ _ => rfl)) (pv 3) (fun _ _ => rfl)) (pe_ix (ixT K rfl) (pe_ix (ixT K rfl) (pv 0) (pv 3) (fun _ _ => rfl)) (pv 2) (fun _ _ => rfl)))))))
    (pss_one (ps_ret (pv 1)))))
theorem sc_broken_in_space : FnScope ["whole", "trace", "minors", "found"] ["whole", "trace", "minors"] (defScope (top 30)) := ⟨rfl, rfl, rfl, by decide +kernel, rfl, by decide +kernel, by decide +kernel⟩
def t_broken_in_space (K : PySem.W.Frag) : TS :=
    (tSeq (tAsg (tLst tNil) (gName 3))
    (tSeq (tIfS (tAnd (tTest (tOp rNe (tVar 0) (tC (.int 0)))) (tTest (tOp (rI0 fun i j => .bl (decide (j ≤ i))) (tCB rAbs1 (tCons (tOp (rI0 fun i j => .int (i + j)) (tVar 2) (tC (.int 1))) tNil)) (tIf (tTest (tOp (rI0 fun i j => .bl (decide (j < i))) (tVar 0) (tC (.int 0)))) (tOp (rI0 fun i j => .int (i + j)) (tVar 0) (tVar 1)) (tOp (rI0 fun i j => .int (i - j)) (tUn (rU fun i => .int (-i)) (tVar 0)) (tVar 1)))))) (tDrop (tBM K "list" rAppend (tVar 3) (tCons (tC (.int 2)) tNil))) tNext)
    (tSeq (tIfS (tTest (tOp (rI0 fun i j => .bl (decide (j ≤ i))) (tCB rAbs1 (tCons (tOp (rI0 fun i j => .int (i - j)) (tOp (rI CMul fun i j => .int (i * j)) (tVar 0) (tVar 1)) (tVar 2)) tNil)) (tOp (rI0 fun i j => .int (i - j)) (tOp (rI CMul fun i j => .int (i * j)) (tVar 0) (tVar 0)) (tC (.int 1))))) (tDrop (tBM K "list" rAppend (tVar 3) (tCons (tC (.int 3)) tNil))) tNext)
    (tRet (tVar 3)))))
theorem d_broken_in_space (G : Glo K mg C)  {f : Addr} {cdv : Value} {A : Around} {outer : List Env} {s : Shared} {H : Hp} {E : XK} (hr : Room 0 (A.deeper (envOfC "broken_in_space" (defScope (top 30)) s.heap.objs.size f cdv))) :
    PSs (cxOf (L2.CX P w) P w K mg base ["whole", "trace", "minors", "found"] "broken_in_space" (defScope (top 30)) f cdv A outer s H E).nox (defBody (top 30)) (t_broken_in_space K) :=
    (pss_cons (ps_set (i := 3) sc_broken_in_space.nd rfl (by first | exact .inl rfl | exact .inr rfl) (pe_lst pa_nil))
    (pss_cons (ps_if (PW.pt (pt_and (pt_cmpR op_ne (pv 0) pe_int (nomark _)) (pt_and1 (pt_cmpR op_ge (pe_callB call_abs1 (by rfl) G.g_abs boot_abs (pa_cons (pe_op op_add (pv 2) pe_int) pa_nil)) (pe_ifExp (pt_cmpR op_gt (pv 0) pe_int (nomark _)) (pe_op op_add (pv 0) (pv 1)) (pe_op op_sub (pe_un un_neg (pv 0)) (pv 1))) (nomark _))))) (pss_one (ps_expr (pe_bmK K rfl PySem.F.plainAttrs_list PySem.F.slot_list_append PySem.F.type_list_append mt_append (pv 3) (pa_cons pe_int pa_nil)))) pss_nil)
    (pss_cons (ps_if (pt_cmpR op_ge (pe_callB call_abs1 (by rfl) G.g_abs boot_abs (pa_cons (pe_op op_sub (pe_op op_mul (pv 0) (pv 1)) (pv 2)) pa_nil)) (pe_op op_sub (pe_op op_mul (pv 0) (pv 0)) pe_int) (nomark _)) (pss_one (ps_expr (pe_bmK K rfl PySem.F.plainAttrs_list PySem.F.slot_list_append PySem.F.type_list_append mt_append (pv 3) (pa_cons pe_int pa_nil)))) pss_nil)
    (pss_one (ps_ret (pv 3))))))
theorem sc_broken_by : FnScope ["matrix", "whole", "trace", "found"] ["matrix"] (defScope (top 31)) := ⟨rfl, rfl, rfl, by decide +kernel, rfl, by decide +kernel, by decide +kernel⟩
def t_broken_by (K : PySem.W.Frag) : TS :=
    (tSeq (tPar3 1 2 3 (tCons (tCall (sp_detF 4) [] E0 (tCons (tVar 0) tNil)) (tCons (tCall sp_trace_of [] E0 (tCons (tVar 0) tNil)) (tCons (tLst tNil) tNil))))
    (tSeq (tIfS (tTest (tOp (rI0 fun i j => .bl (decide (i < j))) (tCB rAbs1 (tCons (tVar 1) tNil)) (tC (.int 2)))) (tDrop (tBM K "list" rAppend (tVar 3) (tCons (tC (.int 0)) tNil))) tNext)
    (tSeq (tIfS (tAnd (tTest (tOp rEq (tCB (rLenS K) (tCons (tVar 0) tNil)) (tC (.int 2)))) (tTest (tOp (rI0 fun i j => .bl (decide (j ≤ i))) (tCB rAbs1 (tCons (tVar 2) tNil)) (tCB rAbs1 (tCons (tOp (rI0 fun i j => .int (i + j)) (tVar 1) (tC (.int 1))) tNil))))) (tDrop (tBM K "list" rAppend (tVar 3) (tCons (tC (.int 1)) tNil))) tNext)
    (tSeq (tIfS (tTest (tOp rEq (tCB (rLenS K) (tCons (tVar 0) tNil)) (tC (.int 3)))) (tAsg (tOp rCat (tVar 3) (tCall sp_broken_in_space [] E0 (tCons (tVar 1) (tCons (tVar 2) (tCons (tCall sp_minor_sum [] E0 (tCons (tVar 0) tNil)) tNil))))) (gName 3)) tNext)
    (tRet (tVar 3))))))
theorem d_broken_by (G : Glo K mg C) (c_trace_of : Fn P w K mg base (L2.CX P w) 1 "trace_of" ["matrix"] sp_trace_of) (c_determinant_of : Fn P w K mg base (L2.CX P w) 5 "determinant_of" ["matrix"] (sp_detF 4)) (c_minor_sum : Fn P w K mg base (L2.CX P w) 1 "minor_sum" ["matrix"] sp_minor_sum) (c_broken_in_space : Fn P w K mg base (L2.CX P w) 1 "broken_in_space" ["whole", "trace", "minors"] sp_broken_in_space) {f : Addr} {cdv : Value} {A : Around} {outer : List Env} {s : Shared} {H : Hp} {E : XK} (hr : Room 5 (A.deeper (envOfC "broken_by" (defScope (top 31)) s.heap.objs.size f cdv))) :
    PSs (cxOf (L2.CX P w) P w K mg base ["matrix", "whole", "trace", "found"] "broken_by" (defScope (top 31)) f cdv A outer s H E).nox (defBody (top 31)) (t_broken_by K) :=
    (pss_cons (ps_par3 rfl sc_broken_by.nd (i := 1) (j := 2) (l := 3) rfl rfl rfl (by decide) (by decide) (by decide) rfl rfl rfl (pa_cons (pe_f c_determinant_of hr (by decide) passL (by rfl) (pa_cons (pv 0) pa_nil)) (pa_cons (pe_f c_trace_of hr (by decide) passL (by rfl) (pa_cons (pv 0) pa_nil)) (pa_cons (pe_lst pa_nil) pa_nil))) (by rfl))
    (pss_cons (ps_if (pt_cmpR op_lt (pe_callB call_abs1 (by rfl) G.g_abs boot_abs (pa_cons (pv 1) pa_nil)) pe_int (nomark _)) (pss_one (ps_expr (pe_bmK K rfl PySem.F.plainAttrs_list PySem.F.slot_list_append PySem.F.type_list_append mt_append (pv 3) (pa_cons pe_int pa_nil)))) pss_nil)
    (pss_cons (ps_if (PW.pt (pt_and (pt_cmpR op_eq (pe_callB (cLenK K rfl) (by rfl) G.g_len boot_len (pa_cons (pv 0) pa_nil)) pe_int (nomark _)) (pt_and1 (pt_cmpR op_ge (pe_callB call_abs1 (by rfl) G.g_abs boot_abs (pa_cons (pv 2) pa_nil)) (pe_callB call_abs1 (by rfl) G.g_abs boot_abs (pa_cons (pe_op op_add (pv 1) pe_int) pa_nil)) (nomark _))))) (pss_one (ps_expr (pe_bmK K rfl PySem.F.plainAttrs_list PySem.F.slot_list_append PySem.F.type_list_append mt_append (pv 3) (pa_cons pe_int pa_nil)))) pss_nil)
    (pss_cons (ps_if (pt_cmpR op_eq (pe_callB (cLenK K rfl) (by rfl) G.g_len boot_len (pa_cons (pv 0) pa_nil)) pe_int (nomark _)) (pss_one (ps_set (i := 3) sc_broken_by.nd rfl (by first | exact .inl rfl | exact .inr rfl) (pe_op op_cat (pv 3) (pe_f c_broken_in_space hr (by decide) passL (by rfl) (pa_cons (pv 1) (pa_cons (pv 2) (pa_cons (pe_f c_minor_sum hr (by decide) passL (by rfl) (pa_cons (pv 0) pa_nil)) pa_nil))))))) pss_nil)
    (pss_one (ps_ret (pv 3)))))))
theorem sc_stretching_of : FnScope ["matrix", "step", "whole", "many", "power", "bound"] ["matrix"] (defScope (top 32)) := ⟨rfl, rfl, rfl, by decide +kernel, rfl, by decide +kernel, by decide +kernel⟩
def t_stretching_of (K : PySem.W.Frag) : TS :=
    (tSeq (tIfS (tTest (tOp (rNeD K) (tCall sp_broken_by [] E0 (tCons (tVar 0) tNil)) (tLst tNil))) (tRet (tC .non)) tNext)
    (tSeq (tPar3 1 2 3 (tCons (tCall sp_adjugate_of [] E0 (tCons (tVar 0) tNil)) (tCons (tCB rAbs1 (tCons (tCall (sp_detF 4) [] E0 (tCons (tVar 0) tNil)) tNil)) (tCons (tC (.int 1)) tNil))))
    (tSeq (tPar 4 5 (tCons (tVar 1) (tCons (tVar 2) tNil)))
    (tSeq (tWhile (tTest (tOp (rI0 fun i j => .bl (decide (j ≤ i))) (tCall sp_greatest_sum [] E0 (tCons (tVar 4) tNil)) (tVar 5))) (tPar3 4 5 3 (tCons (tCall sp_product_of [] E0 (tCons (tVar 4) (tCons (tVar 1) tNil))) (tCons (tOp (rI CMul fun i j => .int (i * j)) (tVar 5) (tVar 2)) (tCons (tOp (rI0 fun i j => .int (i + j)) (tVar 3) (tC (.int 1))) tNil)))))
    (tRet (tVar 3))))))
theorem d_stretching_of (G : Glo K mg C) (c_broken_by : Fn P w K mg base (L2.CX P w) 6 "broken_by" ["matrix"] sp_broken_by) (c_determinant_of : Fn P w K mg base (L2.CX P w) 5 "determinant_of" ["matrix"] (sp_detF 4)) (c_adjugate_of : Fn P w K mg base (L2.CX P w) 6 "adjugate_of" ["matrix"] sp_adjugate_of) (c_greatest_sum : Fn P w K mg base (L2.CX P w) 1 "greatest_sum" ["matrix"] sp_greatest_sum) (c_product_of : Fn P w K mg base (L2.CX P w) 2 "product_of" ["one", "other"] sp_product_of) {f : Addr} {cdv : Value} {A : Around} {outer : List Env} {s : Shared} {H : Hp} {E : XK} (hr : Room 6 (A.deeper (envOfC "stretching_of" (defScope (top 32)) s.heap.objs.size f cdv))) :
    PSs (cxOf (L2.CX P w) P w K mg base ["matrix", "step", "whole", "many", "power", "bound"] "stretching_of" (defScope (top 32)) f cdv A outer s H E).nox (defBody (top 32)) (t_stretching_of K) :=
    (pss_cons (ps_if (pt_cmpR (neDK K rfl hr.units) (pe_f c_broken_by hr (by decide) passL (by rfl) (pa_cons (pv 0) pa_nil)) (pe_lst pa_nil) (nomark _)) (pss_one (ps_ret pe_non)) pss_nil)
    (pss_cons (ps_par3 rfl sc_stretching_of.nd (i := 1) (j := 2) (l := 3) rfl rfl rfl (by decide) (by decide) (by decide) rfl rfl rfl (pa_cons (pe_f c_adjugate_of hr (by decide) passL (by rfl) (pa_cons (pv 0) pa_nil)) (pa_cons (pe_callB call_abs1 (by rfl) G.g_abs boot_abs (pa_cons (pe_f c_determinant_of hr (by decide) passL (by rfl) (pa_cons (pv 0) pa_nil)) pa_nil)) (pa_cons pe_int pa_nil))) (by rfl))
    (pss_cons (ps_par rfl sc_stretching_of.nd (i := 4) (j := 5) rfl rfl (by decide) rfl rfl (pa_cons (pv 1) (pa_cons (pv 2) pa_nil)) (by rfl))
    (pss_cons (ps_while PassesOwn.never (pt_cmpR op_ge (pe_f c_greatest_sum hr (by decide) passL (by rfl) (pa_cons (pv 4) pa_nil)) (pv 5) (nomark _)) (pss_one (ps_par3 rfl sc_stretching_of.nd (i := 4) (j := 5) (l := 3) rfl rfl rfl (by decide) (by decide) (by decide) rfl rfl rfl (pa_cons (pe_f c_product_of hr (by decide) passL (by rfl) (pa_cons (pv 4) (pa_cons (pv 1) pa_nil))) (pa_cons (pe_op op_mul (pv 5) (pv 2)) (pa_cons (pe_op op_add (pv 3) pe_int) pa_nil))) (by rfl))))
    (pss_one (ps_ret (pv 3)))))))
theorem sc_check_writing_matrix : FnScope ["matrix", "row", "number"] ["matrix"] (defScope (top 36)) := ⟨rfl, rfl, rfl, by decide +kernel, rfl, by decide +kernel, by decide +kernel⟩
def t_check_writing_matrix (K : PySem.W.Frag) : TS :=
    (tSeq (tDrop (tCall sp_check_matrix [] E0 (tCons (tVar 0) tNil)))
    (tSeq (tFor (iTup K (tVar 0)) (gName 1) (tIfS (tTest (tOp (rNeD K) (tLc (iTup K (tVar 1)) (gName 2) (tNot (tB (tCall sp_is_between [] E0 (tCons (tVar 2) (tCons (tUn (rU fun i => .int (-i)) (tC (.int 12))) (tCons (tC (.int 12)) tNil)))))) (tVar 2) [2]) (tLst tNil))) tNever tNext))
    (tSeq (tIfS (tTest (tOp rIsN (tCall sp_stretching_of [] E0 (tCons (tVar 0) tNil)) (tC .non))) tNever tNext)
    (tIfS (tTest (tOp (rI0 fun i j => .bl (decide (j < i))) (tCB rAbs1 (tCons (tCall (sp_detF 4) [] E0 (tCons (tVar 0) tNil)) tNil)) (tC (.int 12)))) tNever tNext))))
theorem d_check_writing_matrix (G : Glo K mg C) (c_check_matrix : Fn P w K mg base (L2.CX P w) 5 "check_matrix" ["matrix"] sp_check_matrix) (c_is_between : Fn P w K mg base (L2.CX P w) 2 "is_between" ["value", "low", "high"] sp_is_between) (c_stretching_of : Fn P w K mg base (L2.CX P w) 7 "stretching_of" ["matrix"] sp_stretching_of) (c_determinant_of : Fn P w K mg base (L2.CX P w) 5 "determinant_of" ["matrix"] (sp_detF 4)) {f : Addr} {cdv : Value} {A : Around} {outer : List Env} {s : Shared} {H : Hp} {E : XK} (hr : Room 7 (A.deeper (envOfC "check_writing_matrix" (defScope (top 36)) s.heap.objs.size f cdv))) :
    PSs (cxOf (L2.CX P w) P w K mg base ["matrix", "row", "number"] "check_writing_matrix" (defScope (top 36)) f cdv A outer s H E).nox (defBody (top 36)) (t_check_writing_matrix K) :=
    (pss_cons (ps_expr (pe_f c_check_matrix hr (by decide) passL (by rfl) (pa_cons (pv 0) pa_nil)))
    (pss_cons (ps_for PassesOwn.never rfl (piT K rfl (pv 0)) (pg_name (i := 1) sc_check_writing_matrix.nd rfl (by first | exact .inl rfl | exact .inr rfl)) (pss_one (ps_if (pt_cmpR (neDK K rfl hr.units) (pe_lc (own := [("number", 2)]) rfl sc_check_writing_matrix.nd (piT K rfl (pv 1)) (blkOk_by (N := ["matrix", "row", "number"]) (sc := defScope (top 36)) (by decide +kernel)) (fun _ _ _ _ _ => (pg_name (i := 2) sc_check_writing_matrix.nd rfl (by first | exact .inl rfl | exact .inr rfl))) (fun _ _ _ _ _ => (pts_one (pt_not (pt_val (pe_f c_is_between hr (by decide) passL (by rfl) (pa_cons (pv 2) (pa_cons (pe_un un_neg (pe_gi (by rfl) G.mostNumber)) (pa_cons (pe_gi (by rfl) G.mostNumber) pa_nil)))))))) (fun _ _ _ _ _ => (pv 2))) (pe_lst pa_nil) (nomark _)) (pss_one ps_never) pss_nil)))
    (pss_cons (ps_if (pt_cmpR op_isN1 (pe_f c_stretching_of hr (by decide) passL (by rfl) (pa_cons (pv 0) pa_nil)) pe_non (nomark _)) (pss_one ps_never) pss_nil)
    (pss_one (ps_if (pt_cmpR op_gt (pe_callB call_abs1 (by rfl) G.g_abs boot_abs (pa_cons (pe_f c_determinant_of hr (by decide) passL (by rfl) (pa_cons (pv 0) pa_nil)) pa_nil)) (pe_gi (by rfl) G.mostDigits) (nomark _)) (pss_one ps_never) pss_nil)))))
end
end K13
namespace K13
open PySem PySem.Spec PyProof.Rows L2 Evl
section
variable {K : PySem.W.Frag} {σ : L2.St} {H H' : Hp} {ta tb tc te : TE} {t u : TT} {x y z v : V} {r : R2} {P Pa Pb Pc : V → Hp → Prop}
theorem spp_use {A : List V → Hp → (V → Hp → Prop) → Prop} {vs : List V} (h : ∀ H1, Ex H H1 → A vs H1 P) : SpP (spP A) vs H P := fun H1 e Q q E => ⟨P, h H1 e, fun v H' e' r => q v H' e' r⟩
theorem evp_callA {sp : Sp} {E : XK} {ta : TA} {vs : List V} (h : EvA ta σ H vs) (hs : SpP sp vs H P) : EvP (tCall sp [] E ta) σ H P := fun H1 e Q q =>
  h H1 e _ fun H2 e2 => by
    rw [List.append_nil]
    exact hs H2 (e.trans e2) Q (fun v H3 e3 p => q v H3 (e2.trans e3) p) E
theorem ev_callV {sp : Sp} {E : XK} {ta : TA} {vs : List V} (h : EvA ta σ H vs) (hs : SpP sp vs H (isV z)) : Ev (tCall sp [] E ta) σ H z := Ev.of (evp_callA h hs)
theorem evp_of_ev (h : Ev te σ H v) : EvP te σ H (isV v) := EvP.of h fun _ _ => rfl
/-- the answer of a def whose body is one return -/
theorem ret_of {A : V → Hp → Prop} {Q : VK} {D : Ends} (h : EvP te σ H A) (hD : D.rt = Q) (k : ∀ v H', Ex H H' → A v H' → Q v H') : tRet te D σ H := by
  show te σ H D.rt
  rw [hD]
  exact h.run k
theorem ret_ev {Q : VK} {D : Ends} (h : Ev te σ H v) (hD : D.rt = Q) (k : ∀ v' H', Ex H H' → isV v v' H' → Q v' H') : tRet te D σ H := ret_of (evp_of_ev h) hD k
/-! points -/
theorem pt_get {p : Pt} {i : Nat} {x : V} (h : (p.map V.int)[i]? = some x) : x = .int (p.getD i 0) ∧ i < p.length := by
  rw [List.getElem?_map] at h
  cases e : p[i]? with
  | none =>
    rw [e] at h
    cases h
  | some y =>
    rw [e] at h
    obtain rfl := Option.some.inj h
    refine ⟨?_, (List.getElem?_eq_some_iff.mp e).1⟩
    rw [List.getD_eq_getElem?_getD, e]
    rfl
theorem get_pt {p : Pt} {i : Nat} (h : i < p.length) : (p.map V.int)[i]? = some (.int (p.getD i 0)) := by
  rw [List.getElem?_map, List.getElem?_eq_getElem h, List.getD_eq_getElem?_getD, List.getElem?_eq_getElem h]
  rfl
theorem get_some {α : Type} {l : List α} {i : Nat} (h : i < l.length) (d : α) : l[i]? = some (l.getD i d) := by
  rw [List.getD_eq_getElem?_getD, List.getElem?_eq_getElem h]
  rfl
theorem getD_of {α : Type} {l : List α} {i : Nat} {a d : α} (h : l[i]? = some a) : l.getD i d = a := by
  rw [List.getD_eq_getElem?_getD, h]
  rfl
theorem map_range {α β : Type} (l : List α) (d : α) (f : α → β) : l.map f = (List.range l.length).map fun i => f (l.getD i d) := by
  refine List.ext_getElem? fun i => ?_
  rw [List.getElem?_map, List.getElem?_map]
  by_cases h : i < l.length
  · rw [List.getElem?_range h, get_some h d]
    rfl
  · rw [List.getElem?_eq_none (by omega), List.getElem?_eq_none (by rw [List.length_range]; omega)]
    rfl
theorem zipWith_range {α β γ : Type} (f : α → β → γ) (a : List α) (b : List β) (d : α) (e : β) (h : a.length = b.length) : List.zipWith f a b = (List.range a.length).map fun i => f (a.getD i d) (b.getD i e) := by
  refine List.ext_getElem? fun i => ?_
  rw [List.getElem?_zipWith, List.getElem?_map]
  by_cases hi : i < a.length
  · rw [List.getElem?_range hi, get_some hi d, get_some (show i < b.length by omega) e]
    rfl
  · rw [List.getElem?_eq_none (show a.length ≤ i by omega), List.getElem?_eq_none (show (List.range a.length).length ≤ i by rw [List.length_range]; omega)]
    rfl
/-! targets -/
theorem g_pair {i j : Nat} {T : Addr} (hT : H T = some (.tup [x, y])) : ∀ Q : L2.St → Hp → Prop, Q ((σ.set i (some x)).set j (some y)) H → gTup K 2 (gCons (gName i) (gCons (gName j) gNil)) (.ref T) σ H Q := fun Q q => ⟨T, [x, y], rfl, st_of hT, rfl, x, [y], rfl, y, [], rfl, rfl, q⟩
/-! calls on lists made for it -/
theorem ev_sumL {ns : List Int} (h : EvL te σ H (ns.map V.int)) : Ev (tCB (rSum K) (tCons te tNil)) σ H (.int ns.sum) := fun H1 e Q q => h H1 e _ fun p H2 _ e2 hp => ⟨p, ns, rfl, sq_of hp, q H2 e2⟩
theorem evp_tupI {ns : List Int} (h : EvL te σ H (ns.map V.int)) : EvP (tCB (rTup K) (tCons te tNil)) σ H fun v H' => PtV H' v ns := fun H1 e Q q => h H1 e _ fun p H2 _ e2 hp => ⟨p, ns.map V.int, rfl, Or.inl ⟨sq_of hp, fun l hl => q _ _ (e2.trans (Ex.new hl)) ⟨l, rfl, upd_same⟩⟩⟩
theorem pts_of {m : Mx} {ys : List V} (hp : Paired (fun r u => PtV H u r) m ys) : ∃ as : List Addr, ys = as.map V.ref ∧ Pts H as m := by
  induction hp with
  | nil => exact ⟨[], rfl, .nil⟩
  | cons h _ ih =>
    obtain ⟨as, rfl, q⟩ := ih
    obtain ⟨a, rfl, ha⟩ := h
    exact ⟨a :: as, rfl, .cons ha q⟩
theorem evp_tupM {m : Mx} (h : EvP te σ H fun v H' => ∃ D ys, v = .ref D ∧ H' D = some (.lst ys) ∧ Paired (fun r u => PtV H' u r) m ys) : EvP (tCB (rTup K) (tCons te tNil)) σ H fun v H' => MxV H' v m :=
  (evp_tuple (Py := fun ys H => Paired (fun r u => PtV H u r) m ys) (fun ys H H' e h => Paired.mapP h fun _ _ q => q.tex e) h).imp fun v H' _ ⟨t, ys, ev, ht, hp⟩ => by
    obtain ⟨as, rfl, q⟩ := pts_of hp
    exact ⟨t, as, ev, ht, q⟩
theorem paired_map_l {α β γ : Type} {G : β → γ → Prop} {f : α → β} : ∀ {l : List α} {ys : List γ}, Paired (fun a y => G (f a) y) l ys → Paired G (l.map f) ys
  | _, _, .nil => .nil
  | _, _, .cons h t => .cons h (paired_map_l t)
end
end K13
namespace K13
open PySem PySem.Spec PyProof.Rows L2 Evl
/-! what a loop keeps: all but the objects at mu; tuples -/
def Kp (mu : List Addr) (H H' : Hp) : Prop := (∀ a o, a ∉ mu → H a = some o → H' a = some o) ∧ TEx H H'
section
variable {mu : List Addr} {H H' H'' : Hp}
theorem Kp.refl : Kp mu H H := ⟨fun _ _ _ h => h, TEx.refl H⟩
theorem Kp.trans (a : Kp mu H H') (b : Kp mu H' H'') : Kp mu H H'' := ⟨fun x o hx h => b.1 x o hx (a.1 x o hx h), a.2.trans b.2⟩
theorem Kp.ex (e : Ex H H') : Kp mu H H' := ⟨fun a o _ h => e a o h, K13.tex e⟩
theorem Kp.lst {l : Addr} {xs : List V} {o : HO} (hl : l ∈ mu) (h : H l = some (.lst xs)) : Kp mu H (upd H l o) := ⟨fun a u ha q => by
  rw [upd_ne (fun z => ha (by rw [z]; exact hl))]
  exact q, TEx.lst h⟩
theorem Kp.dT {l : Addr} {xs : List (List Key × V)} {o : HO} (hl : l ∈ mu) (h : H l = some (.dT xs)) : Kp mu H (upd H l o) := ⟨fun a u ha q => by
  rw [upd_ne (fun z => ha (by rw [z]; exact hl))]
  exact q, TEx.dT h⟩
theorem Kp.at (k : Kp mu H H') {a : Addr} {o : HO} (ha : a ∉ mu) (h : H a = some o) : H' a = some o := k.1 a o ha h
end
def EvF (wi : TI) (σ : L2.St) (H : Hp) (mu : List Addr) (n : Nat) (y : Nat → V → Hp → Prop) : Prop := ∀ H1, Ex H H1 → ∀ R : It → Hp → Prop, (∀ J G H2, Ex H1 H2 → Wk J n G y → (∀ H3, Kp mu H2 H3 → G H3) → R J H2) → wi σ H1 R
section
variable {K : PySem.W.Frag} {σ : L2.St} {H H' : Hp} {ta tb tc te tl : TE} {t u : TT} {x z v : V} {r : R2} {P Pa Pb : V → Hp → Prop} {wi : TI} {n : Nat} {y : Nat → V → Hp → Prop} {mu : List Addr} {D : Ends} {tu tw tz : TS} {g : TG}
theorem EvF.i (h : EvF wi σ H mu n y) : EvI wi σ H n y := fun H1 e R q => h H1 e R fun J G H2 e2 w k => q J G H2 e2 w fun H3 e3 => k H3 (Kp.ex e3)
theorem EvF.imp {y' : Nat → V → Hp → Prop} (h : EvF wi σ H mu n y) (k : ∀ i x H', i < n → y i x H' → y' i x H') : EvF wi σ H mu n y' := fun H1 e R q => h H1 e R fun J G H2 e2 w g => q J G H2 e2 (w.mono k) g
theorem EvF.ex (h : EvF wi σ H mu n y) (e : Ex H H') : EvF wi σ H' mu n y := fun H1 e1 R q => h H1 (e.trans e1) R q
theorem evf_list {a : Addr} {xs : List V} (h : Ev tl σ H (.ref a)) (hx : H a = some (.lst xs)) (ha : a ∉ mu) : EvF (iList K tl) σ H mu xs.length (fun i x _ => xs[i]? = some x) := fun H1 e R q => h H1 e _ fun H2 e2 =>
  ⟨a, rfl, ⟨xs, ex_l (e.trans e2) (sq_of hx)⟩, q _ (fun H => SqL K H a xs) H2 e2 ⟨walk_list.goes, walk_list.stops, fun i H x H' hi hg hy => by
    obtain ⟨e1, e2⟩ := walk_list.yields i H x H' hi hg hy
    exact ⟨by rw [e1]; exact Ex.refl H, e2⟩⟩ fun H3 e3 => sq_of (e3.at ha ((e.trans e2) a _ hx))⟩
theorem evf_tup {a : Addr} {xs : List V} (h : Ev tl σ H (.ref a)) (hx : H a = some (.tup xs)) : EvF (iTup K tl) σ H mu xs.length (fun i x _ => xs[i]? = some x) := fun H1 e R q => h H1 e _ fun H2 e2 =>
  ⟨a, rfl, ⟨xs, ex_t (e.trans e2) (st_of hx)⟩, q _ (fun H => SqT K H a xs) H2 e2 ⟨walk_tup.goes, walk_tup.stops, fun i H x H' hi hg hy => by
    obtain ⟨e1, e2⟩ := walk_tup.yields i H x H' hi hg hy
    exact ⟨by rw [e1]; exact Ex.refl H, e2⟩⟩ fun H3 e3 => st_of (e3.2 a _ ((e.trans e2) a _ hx))⟩
theorem evf_rng1 {n : Int} (h : Ev ta σ H (.int n)) (hn : -100000000 ≤ n ∧ n ≤ 100000000) : EvF (iRng1 (tCons ta tNil)) σ H mu n.toNat (fun i x _ => x = .int (i : Int)) := fun H1 e R q => h H1 e _ fun H2 e2 =>
  ⟨n, rfl, by omega, by omega, q _ (fun _ => True) H2 e2 ⟨walk_range.goes, walk_range.stops, fun i H x H' hi hg hy => by
    obtain ⟨e1, e2⟩ := walk_range.yields i H x H' hi hg hy
    exact ⟨by rw [e1]; exact Ex.refl H, by rw [e2]; show V.int (0 + (i : Int)) = _; rw [Int.zero_add]⟩⟩ fun _ _ => trivial⟩
theorem evf_rng2 {lo n : Int} (h : Ev ta σ H (.int lo)) (h' : Ev tb σ H (.int n)) (hn : -100000000 ≤ n ∧ n ≤ 100000000) (hl : -100000000 ≤ lo ∧ lo ≤ 100000000) :
    EvF (iRng2 (tCons ta (tCons tb tNil))) σ H mu (n - lo).toNat (fun i x _ => x = .int (lo + (i : Int))) := fun H1 e R q => h H1 e _ fun H2 e2 => h' H2 (e.trans e2) _ fun H3 e3 =>
  ⟨lo, n, rfl, by omega, q _ (fun _ => True) H3 (e2.trans e3) ⟨walk_range.goes, walk_range.stops, fun i H x H' hi hg hy => by
    obtain ⟨e1, e2⟩ := walk_range.yields i H x H' hi hg hy
    exact ⟨by rw [e1]; exact Ex.refl H, by rw [e2]⟩⟩ fun _ _ => trivial⟩
theorem evf_enumT {a : Addr} {xs : List V} (h : Ev tl σ H (.ref a)) (hx : H a = some (.tup xs)) : EvF (iEnumT K (tCons tl tNil)) σ H mu xs.length (fun i v H' => ∃ T x, v = .ref T ∧ xs[i]? = some x ∧ H' T = some (.tup [.int (i : Int), x])) := fun H1 e R q => h H1 e _ fun H2 e2 =>
  ⟨a, xs, rfl, ex_t (e.trans e2) (st_of hx), q _ (fun H => SqT K H a xs) H2 e2 ⟨walk_enumT.goes, walk_enumT.stops, fun i H v H' hi hg hy => by
    obtain ⟨T, x, y, h1, h2, h3, h4, h5⟩ := walk_enumT.yields i H v H' hi hg hy
    obtain rfl := Option.some.inj h4
    exact ⟨by rw [h3]; exact Ex.new h2, T, y, h1, h5, by rw [h3]; exact upd_same⟩⟩ fun H3 e3 => st_of (e3.2 a _ ((e.trans e2) a _ hx))⟩
/-- over a list made for it -/
theorem evf_listP {Px : List V → Hp → Prop} (hmu : ∀ b ∈ mu, H b ≠ none) (hst : ∀ ys H H', TEx H H' → Px ys H → Px ys H') (h : EvP tl σ H fun v H' => ∃ a xs, v = .ref a ∧ H a = none ∧ H' a = some (.lst xs) ∧ xs.length = n ∧ Px xs H') :
    EvF (iList K tl) σ H mu n (fun i x H' => ∃ xs, xs[i]? = some x ∧ xs.length = n ∧ Px xs H') := fun H1 e R q => h H1 e _ fun v H2 e2 ⟨a, xs, ev, h0, ha, hl, px⟩ =>
  ⟨a, ev, ⟨xs, sq_of ha⟩, q _ (fun H => SqL K H a xs ∧ Px xs H) H2 e2 ⟨fun i H hi hg => walk_list.goes i H (by omega) hg.1, fun H hg => hl ▸ walk_list.stops H hg.1, fun i H x H' hi hg hy => by
    obtain ⟨e1, e2⟩ := walk_list.yields i H x H' (by omega) hg.1 hy
    exact ⟨by rw [e1]; exact Ex.refl H, xs, e2, hl, by rw [e1]; exact hg.2⟩⟩ fun H3 e3 => ⟨sq_of (e3.at (fun z => hmu a z h0) ha), hst xs _ _ e3.2 px⟩⟩
/-- THE LOOP; B: the heap behind the iterable -/
theorem s_forF (hi : EvF wi σ H mu n y) (Pv : Nat → L2.St → Hp → Prop) (hst : ∀ i σ' H' H'', Ex H' H'' → Pv i σ' H' → Pv i σ' H'') (h0 : Pv 0 σ H)
    (hs : ∀ B i x σ' H', i < n → Ex H B → Kp mu B H' → Pv i σ' H' → y i x H' → g x σ' H' fun σ2 H2 => tu { D with nx := fun σ3 H3 => Pv (i + 1) σ3 H3 ∧ Kp mu B H3, ct := fun σ3 H3 => Pv (i + 1) σ3 H3 ∧ Kp mu B H3, bk := D.nx } σ2 H2)
    (hd : ∀ σ' H', Kp mu H H' → Pv n σ' H' → D.nx σ' H') : tFor wi g tu D σ H := hi H (Ex.refl H) _ fun J G H1 e1 w hG => by
  refine ⟨fun i m σ' H' => m = n - i ∧ i ≤ n ∧ Pv i σ' H' ∧ Kp mu H1 H', ⟨n, by simp, Nat.zero_le _, hst 0 σ H H1 e1 h0, Kp.refl⟩, ?_⟩
  rintro i m σ' H' ⟨rfl, hin, pv, kp⟩
  by_cases hlt : i < n
  · refine .inr ⟨w.goes i H' hlt (hG H' kp), fun σ3 H3 => Pv (i + 1) σ3 H3 ∧ Kp mu H1 H3, fun σ3 H3 ⟨a, b⟩ => ⟨n - (i + 1), by omega, rfl, hlt, a, b⟩, fun x H2 hy => ?_⟩
    obtain ⟨e2, hy2⟩ := w.yields i H' x H2 hlt (hG H' kp) hy
    exact hs H1 i x σ' H2 hlt e1 (kp.trans (Kp.ex e2)) (hst i σ' H' H2 e2 pv) hy2
  · have hin' : i = n := by omega
    subst hin'
    exact .inl ⟨w.stops H' (hG H' kp), hd σ' H' ((Kp.ex e1).trans kp) pv⟩
theorem q_forF (hi : EvF wi σ H mu n y) (Pv : Nat → L2.St → Hp → Prop) (hst : ∀ i σ' H' H'', Ex H' H'' → Pv i σ' H' → Pv i σ' H'') (h0 : Pv 0 σ H)
    (hs : ∀ B i x σ' H', i < n → Ex H B → Kp mu B H' → Pv i σ' H' → y i x H' → g x σ' H' fun σ2 H2 => tu { D with nx := fun σ3 H3 => Pv (i + 1) σ3 H3 ∧ Kp mu B H3, ct := fun σ3 H3 => Pv (i + 1) σ3 H3 ∧ Kp mu B H3, bk := tz D } σ2 H2)
    (hd : ∀ σ' H', Kp mu H H' → Pv n σ' H' → tz D σ' H') : tSeq (tFor wi g tu) tz D σ H := s_forF (D := { D with nx := tz D }) hi Pv hst h0 hs hd
/-! statements with EvP -/
theorem s_asgP {i : Nat} (h : EvP te σ H P) (k : ∀ v H1, Ex H H1 → P v H1 → D.nx (σ.set i (some v)) H1) : tAsg te (gName i) D σ H := h.run k
theorem q_asgP {i : Nat} (h : EvP te σ H P) (k : ∀ v H1, Ex H H1 → P v H1 → tz D (σ.set i (some v)) H1) : tSeq (tAsg te (gName i)) tz D σ H := h.run k
theorem s_asgG (h : EvP te σ H P) (k : ∀ v H1, Ex H H1 → P v H1 → g v σ H1 D.nx) : tAsg te g D σ H := h.run k
theorem q_asgG (h : EvP te σ H P) (k : ∀ v H1, Ex H H1 → P v H1 → g v σ H1 (tz D)) : tSeq (tAsg te g) tz D σ H := h.run k
theorem s_retP {Q : VK} (h : EvP te σ H P) (k : ∀ v H1, Ex H H1 → P v H1 → D.rt v H1) : tRet te D σ H := h.run k
theorem s_dropP (h : EvP te σ H P) (k : ∀ v H1, Ex H H1 → P v H1 → D.nx σ H1) : tDrop te D σ H := h.run k
theorem q_dropP (h : EvP te σ H P) (k : ∀ v H1, Ex H H1 → P v H1 → tz D σ H1) : tSeq (tDrop te) tz D σ H := h.run k
theorem s_appP {l : Addr} {xs : List V} (hl : H l = some (.lst xs)) (ha : Ev ta σ H (.ref l)) (h : EvP te σ H P) (hz : xs.length < sizeLine) (k : ∀ v H1, Ex H H1 → P v H1 → D.nx σ (upd H1 l (.lst (xs ++ [v])))) : tDrop (tBM K "list" rAppend ta (tCons te tNil)) D σ H :=
  ha H (Ex.refl H) _ fun H1 e1 => ⟨Or.inl ⟨rfl, xs, sq_of (e1 l _ hl)⟩, h H1 e1 _ fun v H2 e2 p => ⟨l, xs, v, rfl, rfl, e2 l _ (e1 l _ hl), hz, k v H2 (e1.trans e2) p⟩⟩
theorem q_appP {l : Addr} {xs : List V} (hl : H l = some (.lst xs)) (ha : Ev ta σ H (.ref l)) (h : EvP te σ H P) (hz : xs.length < sizeLine) (k : ∀ v H1, Ex H H1 → P v H1 → tz D σ (upd H1 l (.lst (xs ++ [v])))) : tSeq (tDrop (tBM K "list" rAppend ta (tCons te tNil))) tz D σ H :=
  s_appP (D := { D with nx := tz D }) hl ha h hz k
theorem s_par {i j : Nat} (ha : EvP ta σ H Pa) (hb : ∀ x H1, Ex H H1 → Pa x H1 → EvP tb σ H1 Pb) (k : ∀ x y H1 H2, Ex H H1 → Pa x H1 → Ex H1 H2 → Pb y H2 → D.nx ((σ.set i (some x)).set j (some y)) H2) : tPar i j (tCons ta (tCons tb tNil)) D σ H :=
  ha H (Ex.refl H) _ fun x H1 e1 p1 => hb x H1 e1 p1 H1 (Ex.refl H1) _ fun y H2 e2 p2 => ⟨x, y, rfl, k x y H1 H2 e1 p1 e2 p2⟩
theorem q_par {i j : Nat} (ha : EvP ta σ H Pa) (hb : ∀ x H1, Ex H H1 → Pa x H1 → EvP tb σ H1 Pb) (k : ∀ x y H1 H2, Ex H H1 → Pa x H1 → Ex H1 H2 → Pb y H2 → tz D ((σ.set i (some x)).set j (some y)) H2) : tSeq (tPar i j (tCons ta (tCons tb tNil))) tz D σ H :=
  s_par (D := { D with nx := tz D }) ha hb k
/-! comprehension that gives none, equality with [] -/
theorem el_none {vs : List Nat} (hi : EvI wi σ H n y) (hn : n ≤ sizeLine) (hb : ∀ i x H', i < n → Ex H H' → y i x H' → ∃ σ2, (∀ Q, Q σ2 H' → g x (wipe σ vs) H' Q) ∧ wipe σ2 vs = wipe σ vs ∧ EvT t σ2 H' false) : EvL (tLc wi g t te vs) σ H [] := fun H1 e Q q => by
  refine evp_lc (y := y) (hi.ex e) (fun _ => false) (fun _ _ _ => True) hn (fun _ _ _ _ _ h => h) (fun i x H' hin e' hy => ?_) H1 (Ex.refl H1) Q fun v H2 e2 ⟨D, ys, ev, h0, hD, hp⟩ => ?_
  · obtain ⟨σ2, h1, h2, h3⟩ := hb i x H' hin (e.trans e') hy
    exact ⟨σ2, h1, h2, h3, fun z => by cases z⟩
  · rw [filter_no] at hp
    cases hp
    rw [ev]
    exact q D H2 h0 e2 hD
theorem ev_eqNil (h : EvL te σ H []) : Ev (tOp (rEqD K) te (tLst tNil)) σ H (.bl true) := ev_opLL h (el_lst ea_nil (by decide)) fun p q H1 hp hq e H2 e2 Q k =>
  ⟨.list [], .list [], .lst (sq_of (e2 _ _ hp)) .nil, .lst (sq_of (e2 _ _ hq)) .nil, rfl, rfl, k H2 (Ex.refl H2)⟩
/-! tuples of numbers -/
theorem rep_flat (c : Int) : ∀ k : Nat, (List.replicate k [V.int c]).flatten = (List.replicate k c).map V.int
  | 0 => rfl
  | k + 1 => by
    rw [List.replicate_succ, List.replicate_succ, List.flatten_cons, rep_flat c k]
    rfl
theorem evp_catA {p q : Pt} (hz : p.length + q.length ≤ sizeLine) (ha : EvP ta σ H fun v H' => PtV H' v p) (hb : ∀ H1, Ex H H1 → EvP tb σ H1 fun v H' => PtV H' v q) : EvP (tOp (rCatA K) ta tb) σ H fun v H' => PtV H' v (p ++ q) := fun H1 e Q k =>
  ha H1 e _ fun x H2 e2 ⟨a, ex, hpa⟩ => hb H2 (e.trans e2) H2 (Ex.refl H2) _ fun z H3 e3 ⟨b, ez, hqb⟩ => by
    subst ex ez
    refine ⟨a, b, p.map V.int, q.map V.int, rfl, rfl, st_of (e3 _ _ hpa), st_of hqb, by rw [List.length_map, List.length_map]; exact hz, fun h => ?_, fun _ h => ?_, fun _ _ l hl => ?_⟩
    · rw [List.map_eq_nil_iff] at h
      subst h
      exact k _ H3 (e2.trans e3) ⟨b, rfl, hqb⟩
    · rw [List.map_eq_nil_iff] at h
      subst h
      rw [List.append_nil] at k
      exact k _ H3 (e2.trans e3) ⟨a, rfl, e3 _ _ hpa⟩
    · refine k _ _ ((e2.trans e3).trans (Ex.new hl)) ⟨l, rfl, ?_⟩
      unfold PtA
      rw [List.map_append]
      exact upd_same
theorem evp_repA {c : Int} {k : Nat} (hk : k ≤ 1000) (ha : EvP ta σ H fun v H' => PtV H' v [c]) (hb : ∀ H1, Ex H H1 → Ev tb σ H1 (.int k)) : EvP (tOp (rRepA K) ta tb) σ H fun v H' => PtV H' v (List.replicate k c) := fun H1 e Q q =>
  ha H1 e _ fun x H2 e2 ⟨a, ex, hpa⟩ => hb H2 (e.trans e2) H2 (Ex.refl H2) _ fun H3 e3 => by
    subst ex
    refine ⟨a, k, [.int c], rfl, rfl, st_of (e3 _ _ hpa), by simp, Int.natCast_nonneg k, by omega, by simp, fun h => ?_, fun h l hl => ?_⟩
    · have : k = 1 := by omega
      subst this
      exact q _ H3 (e2.trans e3) ⟨a, rfl, e3 _ _ hpa⟩
    · refine q _ _ ((e2.trans e3).trans (Ex.new hl)) ⟨l, rfl, ?_⟩
      unfold PtA
      rw [upd_same, Int.toNat_natCast, rep_flat]
theorem evp_pt {ta : TA} {p : Pt} (h : EvA ta σ H (p.map V.int)) (hl : p.length ≤ 100000) : EvP (tTup ta) σ H fun v H' => PtV H' v p := (evp_tup h (by rw [List.length_map]; exact hl)).imp fun v H' _ ⟨t, ev, ht⟩ => ⟨t, ev, ht⟩
theorem evp_varPt {i : Nat} {p : Pt} {v : V} (h : σ[i]? = some (some v)) (hp : PtV H v p) : EvP (tVar i) σ H fun v H' => PtV H' v p := evp_var h fun _ e => hp.ex e
def cutI (p : Pt) (lo hi : Option Int) : Pt := (p.drop (HT.sIx p.length 0 lo)).take (HT.sIx p.length p.length hi - HT.sIx p.length 0 lo)
theorem cutV_map (p : Pt) (lo hi : Option Int) : cutV (p.map V.int) lo hi = (cutI p lo hi).map V.int := by
  unfold cutV cutI
  rw [List.length_map, List.map_take, List.map_drop]
theorem evp_slA {p : Pt} {a : Addr} {tl th : TO} {lo hi : Option Int} (h : Ev te σ H (.ref a)) (h1 : EvO tl σ H lo) (h2 : EvO th σ H hi) (hp : PtA H a p) : EvP (tSl (rSlA K) te tl th) σ H fun v H' => PtV H' v (cutI p lo hi) := fun H1 e Q q =>
  h H1 e _ fun H2 e2 => h1 H2 (e.trans e2) _ fun H3 e3 => h2 H3 ((e.trans e2).trans e3) _ fun H4 e4 => by
    have ee := (e2.trans e3).trans e4
    refine ⟨a, p.map V.int, rfl, st_of ((e.trans ee) a _ hp), fun hw => ?_, fun _ l hl => ?_⟩
    · refine q _ H4 ee ⟨a, rfl, ?_⟩
      have : cutI p lo hi = p := by
        unfold cutI
        rw [List.length_map] at hw
        rw [hw.1, hw.2, List.drop_zero, Nat.sub_zero, List.take_length]
      rw [this]
      exact (e.trans ee) a _ hp
    · refine q _ _ (ee.trans (Ex.new hl)) ⟨l, rfl, ?_⟩
      unfold PtA
      rw [upd_same, cutV_map]
end
end K13
namespace K13
open PySem PySem.Spec PyProof.Rows L2 Evl
abbrev En (Q : VK) : Ends := { nx := fun _ H' => Q .non H', rt := Q }
section
variable {K : PySem.W.Frag} {σ : L2.St} {H : Hp} {ta tb te tl : TE}
theorem ev_isi {x : V} {T U : String} {b : Bool} (h : Ev te σ H x) (ht : ∀ H1, Ex H H1 → TyX K H1 x (.type T)) (hk : kitB T U = some b) : Ev (tCB (rIsi K) (tCons te (tCons (tC (.ty U)) tNil))) σ H (.bl b) :=
  ev_cb (ea_cons h (ea_cons ev_c ea_nil)) fun H1 e Q q => ⟨x, .ty U, .type T, .type U, b, rfl, .ty _, ht H1 e, kit_ty hk, q H1 (Ex.refl H1)⟩
theorem ev_lenT {a : Addr} {xs : List V} (h : Ev te σ H (.ref a)) (hx : H a = some (.tup xs)) : Ev (tCB (rLenS K) (tCons te tNil)) σ H (.int (xs.length : Int)) := ev_cb (ea_cons h ea_nil) fun H1 e Q q => ⟨a, xs, rfl, .inr (st_of (e _ _ hx)), q H1 (Ex.refl H1)⟩
theorem ev_lenL {a : Addr} {xs : List V} (h : Ev te σ H (.ref a)) (hx : H a = some (.lst xs)) : Ev (tCB (rLenS K) (tCons te tNil)) σ H (.int (xs.length : Int)) := ev_cb (ea_cons h ea_nil) fun H1 e Q q => ⟨a, xs, rfl, .inl (sq_of (e _ _ hx)), q H1 (Ex.refl H1)⟩
theorem ev_ixP {a : Addr} {p : Pt} {i : Nat} (h : Ev ta σ H (.ref a)) (h' : Ev tb σ H (.int (i : Int))) (hx : PtA H a p) (hi : i < p.length) : Ev (tOp (rIxT K) ta tb) σ H (.int (p.getD i 0)) := ev_op h h' (rv_ixT (st_of hx) (atI_nat (get_pt hi)))
/-- the row of a matrix -/
theorem ev_ixM {a : Addr} {as : List Addr} {b : Addr} {i : Nat} (h : Ev ta σ H (.ref a)) (h' : Ev tb σ H (.int (i : Int))) (hx : H a = some (.tup (as.map V.ref))) (hi : as[i]? = some b) : Ev (tOp (rIxT K) ta tb) σ H (.ref b) := ev_op h h' (rv_ixT (st_of hx) (atI_nat (by rw [List.getElem?_map, hi]; rfl)))
theorem evi_tupR {a : Addr} {as : List Addr} (h : Ev tl σ H (.ref a)) (hx : H a = some (.tup (as.map V.ref))) : EvI (iTup K tl) σ H as.length (fun i x _ => ∃ b, as[i]? = some b ∧ x = .ref b) := by
  have hi := evi_tup (K := K) h (st_of hx)
  rw [List.length_map] at hi
  refine hi.imp fun i x H' hin hy => ?_
  rw [List.getElem?_map] at hy
  cases ea : as[i]? with
  | none =>
    rw [ea] at hy
    cases hy
  | some c =>
    rw [ea] at hy
    exact ⟨c, rfl, (Option.some.inj hy).symm⟩
theorem evi_listR {a : Addr} {as : List Addr} (h : Ev tl σ H (.ref a)) (hx : H a = some (.lst (as.map V.ref))) : EvI (iList K tl) σ H as.length (fun i x _ => ∃ b, as[i]? = some b ∧ x = .ref b) := by
  have hi := evi_list (K := K) h (sq_of hx)
  rw [List.length_map] at hi
  refine hi.imp fun i x H' hin hy => ?_
  rw [List.getElem?_map] at hy
  cases ea : as[i]? with
  | none =>
    rw [ea] at hy
    cases hy
  | some c =>
    rw [ea] at hy
    exact ⟨c, rfl, (Option.some.inj hy).symm⟩
end
section
variable {K : PySem.W.Frag}
theorem p_is_whole (vs : List V) (H : Hp) (Q : VK) (E : XK) (h : sp_is_whole vs H Q E) : t_is_whole K (En Q) (start ["value"] vs) H := by
  obtain ⟨R, ⟨i, rfl, rfl⟩, k⟩ := h
  refine ret_ev (v := .bl true) ?_ rfl k
  exact ev_is (ev_andV (a := true) (b := true) (ev_isi (T := "int") (ev_var rfl) (fun _ _ => .base (.int i)) (by decide +kernel)) fun _ => ev_is (ev_notV (a := false) (ev_isi (T := "int") (ev_var rfl) (fun _ _ => .base (.int i)) (by decide +kernel))) rfl) rfl
theorem p_is_between (vs : List V) (H : Hp) (Q : VK) (E : XK) (h : sp_is_between vs H Q E) : t_is_between K (En Q) (start ["value", "low", "high"] vs) H := by
  obtain ⟨R, ⟨i, lo, hi, rfl, rfl⟩, k⟩ := h
  refine q_when (b := false) (ev_callV (z := .bl true) (ea_cons (ev_var rfl) ea_nil) (spp_use fun H1 _ => ⟨i, rfl, rfl⟩) |> fun z => et_is (et_not (et_B z)) rfl) (fun z => by cases z) fun _ H1 e => ?_
  refine ret_ev (v := .bl (decide (lo ≤ i ∧ i ≤ hi))) ?_ rfl fun v H' e' r => k v H' (e.trans e') r
  have h1 : Ev (tOp rIsN (tVar 1) (tC .non)) (start ["value", "low", "high"] [.int i, .int lo, .int hi]) H1 (.bl false) := ev_op (ev_var rfl) ev_c fun H2 _ Q q => ⟨rfl, q H2 (Ex.refl H2)⟩
  have h2 : Ev (tOp rIsN (tVar 2) (tC .non)) (start ["value", "low", "high"] [.int i, .int lo, .int hi]) H1 (.bl false) := ev_op (ev_var rfl) ev_c fun H2 _ Q q => ⟨rfl, q H2 (Ex.refl H2)⟩
  refine ev_is (ev_andV (ev_orV h1 fun _ => ev_op (ev_var rfl) (ev_var rfl) rv_I0) fun _ => ev_orV h2 fun _ => ev_op (ev_var rfl) (ev_var rfl) rv_I0) ?_
  simp [Bool.decide_and]
theorem p_is_point_for (vs : List V) (H : Hp) (Q : VK) (E : XK) (h : sp_is_point_for vs H Q E) : t_is_point_for K (En Q) (start ["size", "value", "item"] vs) H := by
  obtain ⟨R, ⟨n, v, p, rfl, ⟨a, rfl, ha⟩, hn, hz, rfl⟩, k⟩ := h
  refine ret_ev (v := .bl true) ?_ rfl k
  refine ev_is (ev_andV (a := true) (b := true) (ev_isi (T := "tuple") (ev_var rfl) (fun _ e => .base (.tup (e _ _ ha))) (by decide +kernel)) fun _ => ev_is (ev_andV (a := true) (b := true) (ev_is (ev_op (ev_lenT (ev_var rfl) ha) (ev_var rfl) (rv_eq rfl)) ?_) fun _ => ev_eqNil ?_) rfl) rfl
  · rw [List.length_map, hn]
    exact congrArg V.bl (decide_eq_true rfl)
  · refine el_none (evi_tup (ev_var rfl) (st_of ha)) (by rw [List.length_map]; exact Nat.le_trans hz (by decide)) fun i x H' hi e hy => ?_
    obtain ⟨rfl, _⟩ := pt_get hy
    exact ⟨_, fun Q q => q, rfl, et_is (et_not (et_B (ev_callV (z := .bl true) (ea_cons (ev_var rfl) ea_nil) (spp_use fun H1 _ => ⟨_, rfl, rfl⟩)))) rfl⟩
theorem p_are_points (vs : List V) (H : Hp) (Q : VK) (E : XK) (h : sp_are_points vs H Q E) : t_are_points K (En Q) (start ["size", "value", "item"] vs) H := by
  obtain ⟨R, ⟨n, v, ps, rfl, ⟨a, as, rfl, ha, has⟩, hn, hz, hp, rfl⟩, k⟩ := h
  refine ret_ev (v := .bl true) ?_ rfl k
  refine ev_is (ev_andV (a := true) (b := true) (ev_isi (T := "list") (ev_var rfl) (fun _ e => .base (.lst (e _ _ ha))) (by decide +kernel)) fun _ => ev_eqNil ?_) rfl
  refine el_none (evi_listR (ev_var rfl) ha) (by rw [has.len]; exact Nat.le_trans hz (by decide)) fun i x H' hi e ⟨b, hb, hx⟩ => ?_
  subst hx
  obtain ⟨p, hpi, hpb⟩ := has.get hb
  exact ⟨_, fun Q q => q, rfl, et_is (et_not (et_B (ev_callV (z := .bl true) (ea_cons (ev_var rfl) (ea_cons (ev_var rfl) ea_nil)) (spp_use fun H1 e1 => ⟨_, _, p, rfl, ⟨b, rfl, e1 _ _ (e _ _ hpb)⟩, by rw [hp p (List.mem_of_getElem? hpi)], by rw [hp p (List.mem_of_getElem? hpi)]; exact hn, rfl⟩)))) rfl⟩
theorem p_zero_point (vs : List V) (H : Hp) (Q : VK) (E : XK) (h : sp_zero_point vs H Q E) : t_zero_point K (En Q) (start ["size"] vs) H := by
  obtain ⟨R, ⟨n, rfl, hz, rfl⟩, k⟩ := h
  refine ret_of ?_ rfl k
  exact evp_repA hz (evp_pt (p := [0]) (ea_cons ev_c ea_nil) (by decide)) fun _ _ => ev_var rfl
theorem p_added (vs : List V) (H : Hp) (Q : VK) (E : XK) (h : sp_added vs H Q E) : t_added K (En Q) (start ["one", "other", "low", "high"] vs) H := by
  obtain ⟨R, ⟨a, b, r, p, rfl, ⟨a', rfl, ha⟩, ⟨b', rfl, hb⟩, hl, hz, rfl⟩, k⟩ := h
  refine ret_of ?_ rfl k
  refine evp_tupI ?_
  unfold addP
  rw [zipWith_range _ r p 0 0 hl, List.map_map]
  have hi := evi_zipS (K := K) (σ := start ["one", "other", "low", "high"] [.ref a', .ref b']) (tl := tVar 0) (tr := tVar 1) (ev_var rfl) (ev_var rfl) (st_of ha) (st_of hb) (by rw [List.length_map, List.length_map, hl])
  rw [List.length_map] at hi
  refine evp_lcV hi _ (Nat.le_trans hz (by decide)) fun i v H' hin e hy => ?_
  obtain ⟨T, x, y, rfl, hx, hy', hT⟩ := hy
  obtain ⟨rfl, hir⟩ := pt_get hx
  obtain ⟨rfl, _⟩ := pt_get hy'
  exact ⟨_, g_pair hT, rfl, ev_op (ev_var rfl) (ev_var rfl) rv_I0⟩
theorem p_is_matrix_for (vs : List V) (H : Hp) (Q : VK) (E : XK) (h : sp_is_matrix_for vs H Q E) : t_is_matrix_for K (En Q) (start ["size", "value", "row"] vs) H := by
  obtain ⟨R, ⟨n, v, m, rfl, ⟨a, as, rfl, ha, has⟩, hm, hz, rfl⟩, k⟩ := h
  have hl : (as.map V.ref).length = n := by rw [List.length_map, has.len, hm.1]
  refine q_when (b := false) (et_is (et_or (a := false) (b := false) (et_is (et_not (et_B (ev_isi (b := true) (T := "tuple") (ev_var rfl) (fun _ e => .base (.tup (e _ _ ha))) (by decide +kernel)))) rfl) fun _ => et_test (ev_is (ev_op (ev_lenT (ev_var rfl) ha) (ev_var rfl) (rv_ne rfl)) ?_)) rfl) (fun z => by cases z) fun _ H1 e => ?_
  · rw [hl, decide_eq_true rfl]
    rfl
  · refine ret_ev (v := .bl true) (ev_eqNil ?_) rfl fun v H' e' r => k v H' (e.trans e') r
    refine el_none (evi_tupR (ev_var rfl) (e _ _ ha)) (by rw [has.len, hm.1]; exact Nat.le_trans hz (by decide)) fun i x H' hi e2 ⟨b, hb, hx⟩ => ?_
    subst hx
    obtain ⟨p, hpi, hpb⟩ := has.get hb
    have hpm := hm.2 p (List.mem_of_getElem? hpi)
    exact ⟨_, fun Q q => q, rfl, et_is (et_not (et_B (ev_callV (z := .bl true) (ea_cons (ev_var rfl) (ea_cons (ev_var rfl) ea_nil)) (spp_use fun H1 e1 => ⟨_, _, p, rfl, ⟨b, rfl, e1 _ _ (e2 _ _ (e _ _ hpb))⟩, by rw [hpm], by rw [hpm]; exact hz, rfl⟩)))) rfl⟩
theorem p_is_any_matrix (vs : List V) (H : Hp) (Q : VK) (E : XK) (h : sp_is_any_matrix vs H Q E) : t_is_any_matrix K (En Q) (start ["value"] vs) H := by
  obtain ⟨R, ⟨n, v, m, rfl, ⟨a, as, rfl, ha, has⟩, hm, h1, h3, rfl⟩, k⟩ := h
  have hl : (as.map V.ref).length = n := by rw [List.length_map, has.len, hm.1]
  refine ret_ev (v := .bl true) ?_ rfl k
  refine ev_is (ev_andV (a := true) (b := true) (ev_isi (T := "tuple") (ev_var rfl) (fun _ e => .base (.tup (e _ _ ha))) (by decide +kernel)) fun _ => ev_is (ev_andV (a := true) (b := true) (fun H1 e Q q => ?_) fun _ => ?_) rfl) rfl
  · refine ev_lenT (K := K) (te := tVar 0) (ev_var rfl) ha H1 e _ fun H2 e2 => ⟨1, _, rfl, rfl, true, congrArg V.bl (decide_eq_true ?_), ?_⟩
    · rw [hl]
      omega
    · refine ⟨_, _, rfl, rfl, ?_⟩
      have : decide (((as.map V.ref).length : Int) ≤ 3) = true := decide_eq_true (by rw [hl]; omega)
      show Q (.bl (decide (((as.map V.ref).length : Int) ≤ 3))) H2
      rw [this]
      exact q H2 e2
  · refine ev_callV (z := .bl true) (ea_cons (ev_lenT (ev_var rfl) ha) (ea_cons (ev_var rfl) ea_nil)) (spp_use fun H1 e1 => ⟨n, .ref a, m, by rw [hl], ⟨a, as, rfl, e1 _ _ ha, has.ex e1⟩, hm, by omega, rfl⟩)
theorem p_check_matrix (vs : List V) (H : Hp) (Q : VK) (E : XK) (h : sp_check_matrix vs H Q E) : t_check_matrix K (En Q) (start ["matrix"] vs) H := by
  obtain ⟨R, ⟨n, v, m, rfl, hv, hm, h1, h3, rfl⟩, k⟩ := h
  refine s_when (b := false) (et_is (et_not (et_B (ev_callV (z := .bl true) (ea_cons (ev_var rfl) ea_nil) (spp_use fun H1 e1 => ⟨n, v, m, rfl, hv.ex e1, hm, h1, h3, rfl⟩)))) rfl) (fun z => by cases z) fun _ H1 e => k _ _ e rfl
theorem p_dot (vs : List V) (H : Hp) (Q : VK) (E : XK) (h : sp_dot vs H Q E) : t_dot K (En Q) (start ["row", "point", "left", "right"] vs) H := by
  obtain ⟨R, ⟨a, b, r, p, rfl, ⟨a', rfl, ha⟩, ⟨b', rfl, hb⟩, hl, hz, hs, rfl⟩, k⟩ := h
  refine ret_ev (v := .int (dotI r p)) ?_ rfl k
  unfold dotI
  rw [zipWith_range _ r p 0 0 hl]
  refine ev_sumL ?_
  rw [List.map_map]
  have hi := evi_zipS (K := K) (σ := start ["row", "point", "left", "right"] [.ref a', .ref b']) (tl := tVar 0) (tr := tVar 1) (ev_var rfl) (ev_var rfl) (st_of ha) (st_of hb) (by rw [List.length_map, List.length_map, hl])
  rw [List.length_map] at hi
  refine evp_lcV hi _ (Nat.le_trans hz (by decide)) fun i v H' hin e hy => ?_
  obtain ⟨T, x, y, rfl, hx, hy', hT⟩ := hy
  obtain ⟨rfl, hir⟩ := pt_get hx
  obtain ⟨rfl, _⟩ := pt_get hy'
  refine ⟨_, g_pair hT, rfl, ev_op (ev_var rfl) (ev_var rfl) (rv_I (.inl ?_))⟩
  exact hs _ (by rw [List.getD_eq_getElem?_getD, List.getElem?_eq_getElem hir]; exact List.getElem_mem hir)
theorem p_moved_by (vs : List V) (H : Hp) (Q : VK) (E : XK) (h : sp_moved_by vs H Q E) : t_moved_by K (En Q) (start ["matrix", "point", "row"] vs) H := by
  obtain ⟨R, ⟨n, a, b, m, p, rfl, ⟨a', as, rfl, ha, has⟩, ⟨b', rfl, hb⟩, hm, hp, hz, hs, rfl⟩, k⟩ := h
  refine ret_of ?_ rfl k
  refine evp_tupI ?_
  unfold movM
  rw [map_range m [], List.map_map]
  have hi := evi_tupR (K := K) (σ := start ["matrix", "point", "row"] [.ref a', .ref b']) (tl := tVar 0) (ev_var rfl) ha
  rw [has.len] at hi
  refine evp_lcV hi _ (by rw [hm.1]; exact Nat.le_trans hz (by decide)) fun i v H' hin e ⟨c, ea, hx⟩ => ?_
  subst hx
  obtain ⟨r, hr, hc⟩ := has.get ea
  have hrm : r ∈ m := List.mem_of_getElem? hr
  refine ⟨_, fun Q q => q, rfl, ev_callV (ea_cons (ev_var rfl) (ea_cons (ev_var rfl) ea_nil)) (spp_use fun H1 e1 => ⟨_, _, r, p, rfl, ⟨c, rfl, e1 _ _ (e _ _ hc)⟩, ⟨b', rfl, e1 _ _ (e _ _ hb)⟩, by rw [hm.2 r hrm, hp], by rw [hm.2 r hrm]; exact hz, hs r hrm, ?_⟩)⟩
  rw [Function.comp, getD_of hr]
theorem p_turned_over (vs : List V) (H : Hp) (Q : VK) (E : XK) (h : sp_turned_over vs H Q E) : t_turned_over K (En Q) (start ["matrix", "at", "row"] vs) H := by
  obtain ⟨R, ⟨n, a, m, rfl, ⟨a', as, rfl, ha, has⟩, hm, h0, hz, rfl⟩, k⟩ := h
  refine ret_of ?_ rfl k
  obtain ⟨r0, rs, em⟩ : ∃ r0 rs, m = r0 :: rs := by
    cases m with
    | nil => exact absurd hm.1 (by simp; omega)
    | cons r0 rs => exact ⟨r0, rs, rfl⟩
  have h0m : m[0]? = some r0 := by rw [em]; rfl
  obtain ⟨b, hb0, hb⟩ := has.get2 h0m
  have hr0 : r0.length = n := hm.2 r0 (List.mem_of_getElem? h0m)
  have hlen : Ev (tCB (rLenS K) (tCons (tOp (rIxT K) (tVar 0) (tC (.int 0))) tNil)) (start ["matrix", "at", "row"] [.ref a']) H (.int (n : Int)) := by
    refine ev_is (ev_lenT (ev_ixM (i := 0) (ev_var rfl) ev_c ha hb0) hb) ?_
    rw [List.length_map, hr0]
  have hi := evi_rng1 hlen (by omega)
  rw [Int.toNat_natCast] at hi
  have hcols : colsM m = (List.range n).map fun j => m.map fun r => r.getD j 0 := by
    unfold colsM
    rw [em]
    show (List.range r0.length).map _ = _
    rw [hr0]
  refine (evp_tupM (m := colsM m) ((evp_lc hi (fun _ => true) (fun j u H' => PtV H' u (m.map fun (r : Pt) => r.getD j 0)) (Nat.le_trans hz (by decide)) (fun _ _ _ _ e q => q.tex e) fun i x H' hin e hy => ?_).imp fun v H' _ ⟨D, ys, ev, _, hD, hp⟩ => ⟨D, ys, ev, hD, ?_⟩))
  · subst hy
    refine ⟨_, fun Q q => q, rfl, et_yes, fun _ => evp_tupI ?_⟩
    rw [map_range m [], List.map_map]
    have hi2 := evi_tupR (K := K) (σ := start ["matrix", "at", "row"] [.ref a'] |>.set 1 none |>.set 1 (some (.int (i : Int)))) (tl := tVar 0) (ev_var rfl) (e _ _ ha)
    rw [has.len] at hi2
    refine evp_lcV hi2 _ (by rw [hm.1]; exact Nat.le_trans hz (by decide)) fun j x H2 hjn e2 ⟨c, ec, hx⟩ => ?_
    subst hx
    obtain ⟨r, hr, hc⟩ := has.get ec
    refine ⟨_, fun Q q => q, rfl, ev_is (ev_ixP (i := i) (ev_var rfl) (ev_var rfl) (e2 _ _ (e _ _ hc)) (by rw [hm.2 r (List.mem_of_getElem? hr)]; exact hin)) ?_⟩
    rw [Function.comp, getD_of hr]
  · rw [hcols]
    rw [filter_yes] at hp
    exact paired_map_l hp
theorem colsM_sq {n : Nat} {m : Mx} (hm : Sq n m) (h0 : 0 < n) : Sq n (colsM m) := by
  obtain ⟨r0, rs, em⟩ : ∃ r0 rs, m = r0 :: rs := by
    cases m with
    | nil => exact absurd hm.1 (by simp; omega)
    | cons r0 rs => exact ⟨r0, rs, rfl⟩
  have hr0 : r0.length = n := hm.2 r0 (by rw [em]; exact List.mem_cons_self ..)
  unfold colsM
  refine ⟨?_, fun r hr => ?_⟩
  · rw [List.length_map, List.length_range, em]
    exact hr0
  · obtain ⟨j, _, rfl⟩ := List.mem_map.mp hr
    rw [List.length_map, hm.1]
theorem p_product_of (vs : List V) (H : Hp) (Q : VK) (E : XK) (h : sp_product_of vs H Q E) : t_product_of K (En Q) (start ["one", "other", "columns", "row", "column"] vs) H := by
  obtain ⟨R, ⟨n, a, b, m, o, rfl, ⟨a', as, rfl, ha, has⟩, hb, hm, ho, h0, hz, hs, rfl⟩, k⟩ := h
  refine q_asgP (P := fun v H' => MxV H' v (colsM o)) (evp_callA (ea_cons (ev_var rfl) ea_nil) (spp_use fun H1 e => ⟨n, b, o, rfl, hb.ex e, ho, h0, hz, rfl⟩)) fun v H1 e ⟨c, cs, ev, hc, hcs⟩ => ?_
  subst ev
  refine ret_of ?_ rfl fun v H' e' r => k v H' (e.trans e') r
  have hcq := colsM_sq ho h0
  have hi := evi_tupR (K := K) (σ := start ["one", "other", "columns", "row", "column"] [.ref a', b] |>.set 2 (some (.ref c))) (tl := tVar 0) (ev_var rfl) (e _ _ ha)
  rw [has.len] at hi
  refine (evp_tupM (m := mulM m o) ((evp_lc hi (fun _ => true) (fun j u H' => PtV H' u ((colsM o).map fun q => dotI (m.getD j []) q)) (by rw [hm.1]; exact Nat.le_trans hz (by decide)) (fun _ _ _ _ e q => q.tex e) fun i x H' hin e1 ⟨d, ed, hx⟩ => ?_).imp fun v H' _ ⟨D, ys, ev, _, hD, hp⟩ => ⟨D, ys, ev, hD, ?_⟩))
  · subst hx
    obtain ⟨r, hr, hd⟩ := has.get ed
    refine ⟨_, fun Q q => q, rfl, et_yes, fun _ => evp_tupI ?_⟩
    rw [map_range (colsM o) [], List.map_map, getD_of hr]
    have hi2 := evi_tupR (K := K) (σ := start ["one", "other", "columns", "row", "column"] [.ref a', b] |>.set 2 (some (.ref c)) |>.set 3 none |>.set 3 (some (.ref d))) (tl := tVar 2) (ev_var rfl) (e1 _ _ hc)
    rw [hcs.len] at hi2
    refine evp_lcV hi2 _ (by rw [hcq.1]; exact Nat.le_trans hz (by decide)) fun j x H2 hjn e2 ⟨c2, ec, hx⟩ => ?_
    subst hx
    obtain ⟨q, hq, hc2⟩ := hcs.get ec
    have hrm : r ∈ m := List.mem_of_getElem? hr
    refine ⟨_, fun Q q => q, rfl, ev_callV (ea_cons (ev_var rfl) (ea_cons (ev_var rfl) ea_nil)) (spp_use fun H3 e3 => ⟨_, _, r, q, rfl, ⟨d, rfl, e3 _ _ (e2 _ _ (e1 _ _ (e _ _ hd)))⟩, ⟨c2, rfl, e3 _ _ (e2 _ _ (e1 _ _ hc2))⟩, by rw [hm.2 r hrm, hcq.2 q (List.mem_of_getElem? hq)], by rw [hm.2 r hrm]; exact hz, hs r hrm, ?_⟩)⟩
    rw [Function.comp, getD_of hq]
  · unfold mulM
    rw [map_range m []]
    rw [filter_yes] at hp
    exact paired_map_l hp
theorem cutI_lo {p : Pt} {c : Nat} (h : c ≤ p.length) : cutI p none (some (c : Int)) = p.take c := by
  unfold cutI
  have h1 : HT.sIx p.length 0 none = 0 := rfl
  have h2 : HT.sIx p.length p.length (some (c : Int)) = c := by
    have hc : ¬ ((c : Int) < 0) := by omega
    simp [HT.sIx, hc]
    omega
  rw [h1, h2, List.drop_zero, Nat.sub_zero]
theorem cutI_hi {p : Pt} {c : Nat} (h : c ≤ p.length) : cutI p (some (c : Int)) none = p.drop c := by
  unfold cutI
  have h1 : HT.sIx p.length p.length none = p.length := rfl
  have h2 : HT.sIx p.length 0 (some (c : Int)) = c := by
    have hc : ¬ ((c : Int) < 0) := by omega
    simp [HT.sIx, hc]
    omega
  rw [h1, h2, List.take_of_length_le (by rw [List.length_drop]; omega)]
theorem p_without (vs : List V) (H : Hp) (Q : VK) (E : XK) (h : sp_without vs H Q E) : t_without K (En Q) (start ["matrix", "row", "column", "at", "line"] vs) H := by
  obtain ⟨R, ⟨n, a, m, r, c, rfl, ⟨a', as, rfl, ha, has⟩, hm, hz, hc, rfl⟩, k⟩ := h
  refine ret_of ?_ rfl k
  have hi := evi_enumT (K := K) (σ := start ["matrix", "row", "column", "at", "line"] [.ref a', .int (r : Int), .int (c : Int)]) (tl := tVar 0) (ev_var rfl) (st_of ha)
  rw [List.length_map, has.len] at hi
  refine (evp_tupM (m := witM m r c) ((evp_lc hi (fun i => decide (i ≠ r)) (fun j u H' => PtV H' u (cutR (m.getD j []) c)) (by rw [hm.1]; exact Nat.le_trans hz (by decide)) (fun _ _ _ _ e q => q.tex e) fun i x H' hin e1 ⟨T, y, hx, hy, hT⟩ => ?_).imp fun v H' _ ⟨D, ys, ev, _, hD, hp⟩ => ⟨D, ys, ev, hD, ?_⟩))
  · subst hx
    rw [List.getElem?_map] at hy
    cases ea : as[i]? with
    | none =>
      rw [ea] at hy
      cases hy
    | some d =>
      rw [ea] at hy
      obtain rfl := Option.some.inj hy
      obtain ⟨q, hq, hd⟩ := has.get ea
      have hqn := hm.2 q (List.mem_of_getElem? hq)
      refine ⟨_, g_pair hT, rfl, et_test (ev_is (ev_op (ev_var rfl) (ev_var rfl) (rv_ne rfl)) ?_), fun _ => ?_⟩
      · congr 1
        by_cases h : i = r
        · subst h
          simp
        · have : ¬ V.int (i : Int) = V.int (r : Int) := fun z => h (by injection z with z; omega)
          simp [h, this]
      · rw [getD_of hq]
        unfold cutR
        refine evp_catA ?_ ((evp_slA (ev_var rfl) eo_none (eo_some (ev_var rfl)) (e1 _ _ hd)).imp fun v H' _ q => ?_) fun H2 e2 => (evp_slA (lo := some ((c + 1 : Nat) : Int)) (ev_var rfl) (eo_some (ev_op (ev_var rfl) ev_c rv_I0)) eo_none (e2 _ _ (e1 _ _ hd))).imp fun v H' _ q => ?_
        · rw [List.length_take, List.length_drop]
          have : sizeLine = 16777216 := sizeLine_eq
          omega
        · rw [cutI_lo (by omega)] at q
          exact q
        · rw [cutI_hi (by omega)] at q
          exact q
  · exact paired_map_l hp
end
end K13
namespace K13
open PySem PySem.Spec PyProof.Rows L2 Evl
/-! a list of points at l -/
def LA (H : Hp) (l : Addr) (ps : List Pt) : Prop := ∃ as : List Addr, H l = some (.lst (as.map V.ref)) ∧ Pts H as ps
section
variable {K : PySem.W.Frag} {σ : L2.St} {H H' : Hp} {ta tb tc te tl : TE} {x z v : V} {l : Addr} {ps : List Pt} {p : Pt} {D : Ends} {tu tw tz : TS} {P : V → Hp → Prop}
theorem LA.ex (h : LA H l ps) (e : Ex H H') : LA H' l ps := let ⟨as, h1, h2⟩ := h; ⟨as, e _ _ h1, h2.ex e⟩
theorem LA.ne (h : LA H l ps) : H l ≠ none := by
  obtain ⟨as, h1, _⟩ := h
  rw [h1]
  exact fun z => by cases z
theorem LA.nil (h : H l = some (.lst [])) : LA H l [] := ⟨[], h, .nil⟩
theorem LA.pl (h : LA H l ps) : PLV H (.ref l) ps := let ⟨as, h1, h2⟩ := h; ⟨l, as, rfl, h1, h2⟩
theorem LA.kp {mu : List Addr} (h : LA H l ps) (hl : l ∉ mu) (k : Kp mu H H') : LA H' l ps := let ⟨as, h1, h2⟩ := h; ⟨as, k.1 _ _ hl h1, h2.tex k.2⟩
theorem s_appPt (h : LA H l ps) (ha : Ev ta σ H (.ref l)) (he : EvP te σ H fun v H' => PtV H' v p) (hz : ps.length < sizeLine) (k : ∀ H1, LA H1 l (ps ++ [p]) → (∀ mu, l ∈ mu → Kp mu H H1) → D.nx σ H1) : tDrop (tBM K "list" rAppend ta (tCons te tNil)) D σ H := by
  obtain ⟨as, h1, h2⟩ := h
  refine s_appP h1 ha he (by rw [List.length_map, h2.len]; exact hz) fun v H1 e ⟨a, ev, hp⟩ => ?_
  subst ev
  refine k _ ⟨as ++ [a], ?_, ?_⟩ fun mu hm => (Kp.ex e).trans (Kp.lst hm (e _ _ h1))
  · rw [List.map_append]
    exact upd_same
  · exact paired_snoc ((h2.ex e).tex (TEx.lst (e _ _ h1))) (TEx.lst (e _ _ h1) _ _ hp)
theorem q_appPt (h : LA H l ps) (ha : Ev ta σ H (.ref l)) (he : EvP te σ H fun v H' => PtV H' v p) (hz : ps.length < sizeLine) (k : ∀ H1, LA H1 l (ps ++ [p]) → (∀ mu, l ∈ mu → Kp mu H H1) → tz D σ H1) : tSeq (tDrop (tBM K "list" rAppend ta (tCons te tNil))) tz D σ H := s_appPt (D := { D with nx := tz D }) h ha he hz k
def rd (H : Hp) (a : Addr) : Pt := match H a with
  | some (.tup xs) => xs.map fun x => match x with
    | .int i => i
    | _ => 0
  | _ => []
theorem rd_of {a : Addr} (h : PtA H a p) : rd H a = p := by
  unfold rd
  rw [h]
  show (p.map V.int).map _ = p
  rw [List.map_map]
  exact List.map_id _
theorem pts_rd {as : List Addr} (h : Pts H as ps) : ps = as.map (rd H) ∧ ∀ a ∈ as, PtA H a (rd H a) ∧ rd H a ∈ ps := by
  induction h with
  | nil => exact ⟨rfl, fun a h => by cases h⟩
  | cons h t ih =>
    have e := rd_of h
    refine ⟨by rw [List.map_cons, e, ← ih.1], fun a ha => ?_⟩
    rcases List.mem_cons.mp ha with rfl | ha
    · exact ⟨by rw [e]; exact h, by rw [e]; exact List.mem_cons_self ..⟩
    · exact ⟨(ih.2 a ha).1, List.mem_cons_of_mem _ (ih.2 a ha).2⟩
theorem pts_by {as : List Addr} (h : ∀ a ∈ as, PtA H a (rd H a)) : Pts H as (as.map (rd H)) := by
  induction as with
  | nil => exact .nil
  | cons a r ih => exact .cons (h a (List.mem_cons_self ..)) (ih fun b hb => h b (List.mem_cons_of_mem _ hb))
theorem evp_sortT {d : Nat} (h0 : 0 < d) (hd : ∀ p ∈ ps, p.length = d) (h : EvP te σ H fun v H' => ∃ l, v = .ref l ∧ LA H' l ps) : EvP (tCB (rSortT K) (tCons te tNil)) σ H fun v H' => ∃ ps' : List Pt, ps'.Perm ps ∧ PLV H' v ps' := fun H1 e Q q =>
  h H1 e _ fun v H2 e2 ⟨l, ev, as, h1, h2⟩ => by
    obtain ⟨e1, e3⟩ := pts_rd h2
    refine ⟨l, as, rd H2, d, by rw [ev], sq_of h1, h0, fun t ht => ⟨(e3 t ht).1, hd _ (e3 t ht).2⟩, fun ts' a hp _ ha => ?_⟩
    refine q _ _ (e2.trans (Ex.new ha)) ⟨ts'.map (rd H2), by rw [e1]; exact hp.map _, a, ts', rfl, upd_same, ?_⟩
    exact (pts_by fun t ht => (e3 t (hp.mem_iff.mp ht)).1).ex (Ex.new ha)
theorem kp_ex {mu : List Addr} {H1 : Hp} (e : Ex H H1) (k : Kp mu H1 H') (hm : ∀ b ∈ mu, H b = none) : Ex H H' := fun a o h => k.1 a o (fun z => by
  rw [hm a z] at h
  cases h) (e a o h)
theorem none1 (h : H l = none) : ∀ b ∈ [l], H b = none := fun b hb => by
  rcases List.mem_cons.mp hb with rfl | hb
  · exact h
  · cases hb
theorem sumR_succ (n : Nat) (f : Nat → Int) : sumR (n + 1) f = sumR n f + f n := by
  unfold sumR
  rw [List.range_succ, List.map_append, List.sum_append]
  simp
theorem sumR_congr {n : Nat} {f g : Nat → Int} (h : ∀ i, i < n → f i = g i) : sumR n f = sumR n g := by
  unfold sumR
  congr 1
  exact List.map_congr_left fun i hi => h i (List.mem_range.mp hi)
theorem max_eq : ∀ {ns : List Int} {m : Int}, m ∈ ns → (∀ y ∈ ns, y ≤ m) → m = maxL ns
  | [a], m, h, _ => by
    rcases List.mem_cons.mp h with rfl | h
    · rfl
    · cases h
  | a :: b :: r, m, h, hm => by
    have h1 := hm a (List.mem_cons_self ..)
    show m = max a (maxL (b :: r))
    by_cases hr : m ∈ b :: r
    · rw [← max_eq hr fun y hy => hm y (List.mem_cons_of_mem _ hy)]
      omega
    · rcases List.mem_cons.mp h with rfl | h
      · have : maxL (b :: r) ≤ m := by
          have : ∀ (l : List Int) (c : Int), (∀ y ∈ c :: l, y ≤ m) → maxL (c :: l) ≤ m := by
            intro l
            induction l with
            | nil => exact fun c hc => hc c (List.mem_cons_self ..)
            | cons d l ih =>
              intro c hc
              have h1 := hc c (List.mem_cons_self ..)
              have h2 := ih d fun y hy => hc y (List.mem_cons_of_mem _ hy)
              show max c (maxL (d :: l)) ≤ m
              omega
          exact this r b fun y hy => hm y (List.mem_cons_of_mem _ hy)
        omega
      · exact absurd h hr
theorem ev_maxL {ns : List Int} (h : EvL te σ H (ns.map V.int)) (h0 : 0 < ns.length) : Ev (tCB (rMax K) (tCons te tNil)) σ H (.int (maxL ns)) := fun H1 e Q q => h H1 e _ fun p H2 _ e2 hp => ⟨p, ns, rfl, sq_of hp, h0, fun m hm hy => by
  rw [max_eq hm hy]
  exact q H2 e2⟩
theorem ev_abs {i : Int} (h : Ev te σ H (.int i)) : Ev (tCB rAbs1 (tCons te tNil)) σ H (.int (absI i)) := ev_cb (ea_cons h ea_nil) fun H1 e Q q => ⟨i, rfl, q H1 (Ex.refl H1)⟩
theorem ev_neg1 : Ev (tUn (rU fun i => .int (-i)) (tC (.int 1))) σ H (.int (-1)) := ev_un ev_c ru_neg
theorem ev_sgn {k : Nat} (h : Ev te σ H (.int (k : Int))) : Ev (tIf (tTest (tOp rEq (tOp (rI (fun _ j => 0 < j) fun i j => .int (i % j)) te (tC (.int 2))) (tC (.int 1)))) (tUn (rU fun i => .int (-i)) (tC (.int 1))) (tC (.int 1))) σ H (.int (sgn k)) := by
  refine ev_if (b := decide (k % 2 = 1)) (et_test (ev_is (ev_op (ev_op h ev_c (rv_I (by decide))) ev_c (rv_eq rfl)) ?_)) (fun hb => ?_) fun hb => ?_
  · congr 1
    by_cases hk : k % 2 = 1
    · have : ((k : Int) % 2) = 1 := by omega
      rw [this, decide_eq_true hk]
      rfl
    · have : ((k : Int) % 2) = 0 := by omega
      rw [this, decide_eq_false hk]
      rfl
  · unfold sgn
    rw [if_pos (of_decide_eq_true hb)]
    exact ev_neg1
  · unfold sgn
    rw [if_neg (of_decide_eq_false hb)]
    exact ev_c
theorem sgn_sm (k : Nat) {x : Int} (h : -(2 ^ 64) < x ∧ x < 2 ^ 64) : -(2 ^ 64) < sgn k * x ∧ sgn k * x < 2 ^ 64 := by
  unfold sgn
  by_cases hk : k % 2 = 1
  · rw [if_pos hk]
    omega
  · rw [if_neg hk]
    omega
theorem head_of {n : Nat} {m : Mx} (hm : Sq (n + 1) m) : ∃ r0 rs, m = r0 :: rs ∧ r0.length = n + 1 := by
  cases m with
  | nil => exact absurd hm.1 (by simp)
  | cons r0 rs => exact ⟨r0, rs, rfl, hm.2 r0 (List.mem_cons_self ..)⟩
theorem filter_ne_len (n r : Nat) (h : r < n) : ((List.range n).filter fun i => decide (i ≠ r)).length = n - 1 := by
  induction n with
  | zero => omega
  | succ n ih =>
    rw [List.range_succ, List.filter_append, List.length_append]
    by_cases hr : r = n
    · subst hr
      have : (List.range r).filter (fun i => decide (i ≠ r)) = List.range r := List.filter_eq_self.mpr fun a ha => by
        have := List.mem_range.mp ha
        simp
        omega
      rw [this]
      simp
    · have hf : [n].filter (fun i => decide (i ≠ r)) = [n] := List.filter_eq_self.mpr fun a ha => by
        rw [List.mem_singleton.mp ha]
        exact decide_eq_true fun z => hr z.symm
      rw [ih (by omega), hf]
      simp
      omega
theorem witM_sq {n : Nat} {m : Mx} {r c : Nat} (hm : Sq (n + 1) m) (hr : r < n + 1) (hc : c < n + 1) : Sq n (witM m r c) := by
  refine ⟨?_, fun q hq => ?_⟩
  · unfold witM
    rw [List.length_map, hm.1, filter_ne_len _ _ hr]
    omega
  · unfold witM at hq
    obtain ⟨i, hi, rfl⟩ := List.mem_map.mp hq
    have hi2 := List.mem_range.mp (List.mem_filter.mp hi).1
    have hl : (m.getD i []).length = n + 1 := hm.2 _ (List.mem_of_getElem? (get_some hi2 []))
    unfold cutR
    rw [List.length_append, List.length_take, List.length_drop, hl]
    omega
theorem witM_sm {m : Mx} {r c : Nat} (h : ∀ q ∈ m, Sm q) : ∀ q ∈ witM m r c, Sm q := fun q hq => by
  unfold witM at hq
  obtain ⟨i, hi, rfl⟩ := List.mem_map.mp hq
  have hi2 := List.mem_range.mp (List.mem_filter.mp hi).1
  have hs := h _ (List.mem_of_getElem? (get_some hi2 []))
  intro x hx
  unfold cutR at hx
  rcases List.mem_append.mp hx with hx | hx
  · exact hs x (List.mem_of_mem_take hx)
  · exact hs x (List.mem_of_mem_drop hx)
theorem getD_mem {α : Type} {l : List α} {i : Nat} (h : i < l.length) (d : α) : l.getD i d ∈ l := List.mem_of_getElem? (get_some h d)
end
section
variable {K : PySem.W.Frag}
theorem p_unit_points (vs : List V) (H : Hp) (Q : VK) (E : XK) (h : sp_unit_points vs H Q E) : t_unit_points K (En Q) (start ["size", "found", "at", "number"] vs) H := by
  obtain ⟨R, ⟨n, rfl, h0, hz, rfl⟩, k⟩ := h
  refine q_asgL (el_lst ea_nil (by decide)) fun l H1 hl e1 h1 => ?_
  have hb : ∀ b ∈ [l], H1 b ≠ none := fun b hb => by
    rcases List.mem_cons.mp hb with rfl | hb
    · rw [h1]; exact fun z => by cases z
    · cases hb
  have L : ∀ i, ((List.range i).flatMap fun i => [unitP n i 1, unitP n i (-1)]).length = 2 * i := fun i => by
    induction i with
    | zero => rfl
    | succ i ih => rw [List.range_succ, List.flatMap_append, List.length_append, ih]; simp; omega
  refine q_forF (mu := [l]) (evf_rng1 (n := n) (ev_var rfl) (by omega)) (fun i σ' H' => (∃ x y, σ' = [some (.int n), some (.ref l), x, y]) ∧ LA H' l ((List.range i).flatMap fun i => [unitP n i 1, unitP n i (-1)])) (fun i σ' H' H'' e q => ⟨q.1, q.2.ex e⟩) ⟨⟨none, none, rfl⟩, LA.nil h1⟩ (fun B i x σ' H' hi eB kp ⟨⟨a, b, es⟩, la⟩ hy => ?_) fun σ' H' kp ⟨⟨a, b, es⟩, la⟩ => ?_
  · subst hy es
    rw [Int.toNat_natCast] at hi
    refine s_forF (mu := [l]) (y := fun j x _ => ∃ xs, xs[j]? = some x ∧ xs.length = 2 ∧ xs = [.int 1, .int (-1)]) (evf_listP (Px := fun xs _ => xs = [.int 1, .int (-1)]) (fun b hb => ?_) (fun _ _ _ _ h => h) ((evp_lst (ea_cons ev_c (ea_cons ev_neg1 ea_nil)) (by decide)).imp fun v H' e ⟨t, ev, h0, ht⟩ => ⟨t, _, ev, h0, ht, rfl, rfl⟩))
      (fun j σ' H' => (∃ y, σ' = [some (.int n), some (.ref l), some (.int i), y]) ∧ LA H' l (((List.range i).flatMap fun i => [unitP n i 1, unitP n i (-1)]) ++ [unitP n i 1, unitP n i (-1)].take j)) (fun i σ' H' H'' e q => ⟨q.1, q.2.ex e⟩) ⟨⟨b, rfl⟩, by rw [List.take_zero, List.append_nil]; exact la⟩ (fun B2 j x σ' H2 hj eB2 kp2 ⟨⟨y, es⟩, la2⟩ ⟨xs, hx, _, ex⟩ => ?_) fun σ' H2 kp2 ⟨⟨y, es⟩, la2⟩ => ⟨⟨⟨some (.int i), y, es⟩, ?_⟩, kp.trans kp2⟩
    · rcases List.mem_cons.mp hb with rfl | hb
      · exact la.ne
      · cases hb
    · subst es ex
      obtain ⟨c, hc, rfl⟩ : ∃ c : Int, [unitP n i 1, unitP n i (-1)].take (j + 1) = [unitP n i 1, unitP n i (-1)].take j ++ [unitP n i c] ∧ x = .int c := by
        match j, hj with
        | 0, _ => exact ⟨1, rfl, (Option.some.inj hx).symm⟩
        | 1, _ => exact ⟨-1, rfl, (Option.some.inj hx).symm⟩
      refine s_appPt (p := unitP n i c) la2 (ev_var rfl) ?_ ?_ fun H3 la3 k3 => ⟨⟨⟨some (.int c), rfl⟩, ?_⟩, kp2.trans (k3 _ (List.mem_cons_self ..))⟩
      · have e1 : EvP (tOp (rCatA K) (tOp (rRepA K) (tTup (tCons (tC (.int 0)) tNil)) (tVar 2)) (tTup (tCons (tVar 3) tNil))) [some (.int n), some (.ref l), some (.int i), some (.int c)] H2 fun v H' => PtV H' v (List.replicate i 0 ++ [c]) :=
          evp_catA (by rw [List.length_replicate]; have : sizeLine = 16777216 := sizeLine_eq; simp; omega) (evp_repA (by omega) (evp_pt (p := [0]) (ea_cons ev_c ea_nil) (by decide)) fun _ _ => ev_var rfl) fun _ _ => evp_pt (p := [c]) (ea_cons (ev_var rfl) ea_nil) (by simp)
        refine (evp_catA (p := List.replicate i 0 ++ [c]) (q := List.replicate (n - i - 1) 0) (by have : sizeLine = 16777216 := sizeLine_eq; simp; omega) e1 fun _ _ => evp_repA (by omega) (evp_pt (p := [0]) (ea_cons ev_c ea_nil) (by decide)) fun _ _ => ev_is (ev_op (ev_op (ev_var rfl) (ev_var rfl) rv_I0) ev_c rv_I0) (by congr 1; omega)).imp fun v H' _ q => ?_
        unfold unitP
        rw [List.append_assoc] at q
        exact q
      · rw [List.length_append, L, List.length_take]
        have : sizeLine = 16777216 := sizeLine_eq
        simp
        omega
      · rw [hc, ← List.append_assoc]
        exact la3
    · rw [List.range_succ, List.flatMap_append]
      simpa using la2
  · subst es
    rw [Int.toNat_natCast] at la
    refine ret_of (evp_sortT (d := n) h0 (fun p hp => ?_) (evp_var (v := .ref l) rfl fun H2 e2 => ⟨l, rfl, la.ex e2⟩)) rfl fun v H2 e2 r => k v H2 ?_ r
    · obtain ⟨i, hi, hp⟩ := List.mem_flatMap.mp hp
      have hi := List.mem_range.mp hi
      have hu : ∀ c, (unitP n i c).length = n := fun c => by
        unfold unitP
        rw [List.length_append, List.length_cons, List.length_replicate, List.length_replicate]
        omega
      rcases List.mem_cons.mp hp with rfl | hp
      · exact hu _
      · rcases List.mem_cons.mp hp with rfl | hp
        · exact hu _
        · cases hp
    · exact (kp_ex e1 kp (none1 hl)).trans e2
end
end K13
namespace K13
open PySem PySem.Spec PyProof.Rows L2 Evl
section
variable {K : PySem.W.Frag}
theorem p_determinant_of (n0 : Nat) (vs : List V) (H : Hp) (Q : VK) (E : XK) (h : sp_detF (n0 + 1) vs H Q E) : t_determinant_of K n0 (En Q) (start ["matrix", "found", "at", "number"] vs) H := by
  obtain ⟨R, ⟨n, a, m, rfl, ⟨a', as, rfl, ha, has⟩, hm, hn, hz, hs, rfl⟩, k⟩ := h
  have hl : (as.map V.ref).length = n := by rw [List.length_map, has.len, hm.1]
  have ht : EvT (tTest (tOp rEq (tCB (rLenS K) (tCons (tVar 0) tNil)) (tC (.int 0)))) (start ["matrix", "found", "at", "number"] [V.ref a']) H (decide (n = 0)) := by
    refine et_test (ev_is (ev_op (ev_lenT (ev_var rfl) ha) ev_c (rv_eq rfl)) ?_)
    rw [hl]
    congr 1
    by_cases h0 : n = 0
    · subst h0; rfl
    · have : ¬ V.int (n : Int) = V.int 0 := fun z => h0 (by injection z with z; omega)
      simp [h0, this]
  refine q_when ht (fun hb H1 e => ?_) fun hb H1 e => ?_
  · obtain rfl := of_decide_eq_true hb
    exact ret_ev (v := .int 1) ev_c rfl fun v H' e' r => k v H' (e.trans e') r
  · have h0 := of_decide_eq_false hb
    obtain ⟨n, rfl⟩ : ∃ j, n = j + 1 := ⟨n - 1, by omega⟩
    obtain ⟨r0, rs, em, hr0⟩ := head_of hm
    have h0m : m[0]? = some r0 := by rw [em]; rfl
    obtain ⟨b, hb0, hb⟩ := has.get2 h0m
    have hhd : m.headD [] = r0 := by rw [em]; rfl
    refine q_asg ev_c fun H2 e2 => ?_
    have e12 := e.trans e2
    have hi := evf_enumT (K := K) (mu := []) (σ := [some (V.ref a'), some (.int 0), none, none]) (tl := tOp (rIxT K) (tVar 0) (tC (.int 0))) (ev_ixM (i := 0) (ev_var rfl) ev_c (e12 _ _ ha) hb0) (e12 _ _ hb)
    rw [List.length_map, hr0] at hi
    refine q_forF hi (fun i σ' H' => ∃ x y, σ' = [some (V.ref a'), some (.int (sumR i fun j => sgn j * r0.getD j 0 * detN n (witM m 0 j))), x, y]) (fun i σ' H' H'' e q => q) ⟨none, none, rfl⟩ (fun B i x σ' H' hin eB kp ⟨u, y, es⟩ ⟨T, w, hx, hw, hT⟩ => ?_) fun σ' H' kp ⟨u, y, es⟩ => ?_
    · subst hx es
      obtain ⟨rfl, _⟩ := pt_get hw
      have ek : Ex H H' := fun c o hc => kp.1 c o (by simp) (eB c o (e12 c o hc))
      refine g_pair hT _ ?_
      have hsm : -(2 ^ 64) < r0.getD i 0 ∧ r0.getD i 0 < 2 ^ 64 := hs r0 (List.mem_of_getElem? h0m) _ (getD_mem (by omega) 0)
      have hdet : EvP (tCall sp_without [] E0 (tCons (tVar 0) (tCons (tC (.int 0)) (tCons (tVar 2) tNil)))) [some (V.ref a'), some (.int (sumR i fun j => sgn j * r0.getD j 0 * detN n (witM m 0 j))), some (.int (i : Int)), some (.int (r0.getD i 0))] H' fun v H' => MxV H' v (witM m 0 i) :=
        evp_callA (ea_cons (ev_var rfl) (ea_cons ev_c (ea_cons (ev_var rfl) ea_nil))) (spp_use fun H3 e3 => ⟨n + 1, _, m, 0, i, rfl, ⟨a', as, rfl, e3 _ _ (ek _ _ ha), (has.ex ek).ex e3⟩, hm, hz, hin, rfl⟩)
      have hd2 : Ev (tCall (sp_detF n0) [] E0 (tCons (tCall sp_without [] E0 (tCons (tVar 0) (tCons (tC (.int 0)) (tCons (tVar 2) tNil)))) tNil)) [some (V.ref a'), some (.int (sumR i fun j => sgn j * r0.getD j 0 * detN n (witM m 0 j))), some (.int (i : Int)), some (.int (r0.getD i 0))] H' (.int (detN n (witM m 0 i))) := by
        refine Ev.of (evp_call1 hdet fun x H3 e3 hx => ?_)
        obtain ⟨n1, rfl⟩ : ∃ j, n0 = j + 1 := ⟨n0 - 1, by omega⟩
        exact spp_use fun H4 e4 => ⟨n, x, witM m 0 i, rfl, hx.ex e4, witM_sq hm (by omega) hin, by omega, by omega, witM_sm hs, rfl⟩
      refine s_when (b := !decide (V.int (r0.getD i 0) = V.int 0)) (et_test (ev_op (ev_var rfl) ev_c (rv_ne rfl))) (fun _ H3 e3 => s_asg (v := .int (sumR (i + 1) fun j => sgn j * r0.getD j 0 * detN n (witM m 0 j))) ?_ fun H4 e4 => ⟨⟨_, _, rfl⟩, kp.trans ((Kp.ex e3).trans (Kp.ex e4))⟩) fun hb H3 e3 => ⟨⟨some (.int (i : Int)), some (.int (r0.getD i 0)), ?_⟩, kp.trans (Kp.ex e3)⟩
      · rw [sumR_succ]
        exact ev_op (ev_var rfl) (ev_op (ev_op (ev_sgn (k := i) (ev_var rfl)) (ev_var rfl) (rv_I (.inr hsm))) (hd2.mono e3) (rv_I (.inl (sgn_sm i hsm)))) rv_I0
      · have hz0 : r0.getD i 0 = 0 := by
          have h := hb
          simp at h
          simpa using h
        rw [sumR_succ, hz0, Int.mul_zero, Int.zero_mul, Int.add_zero]
        rfl
    · subst es
      refine ret_ev (v := .int (detN (n + 1) m)) (ev_is (ev_var rfl) ?_) rfl fun v H3 e3 r => k v H3 (fun c o hc => e3 c o (kp.1 c o (by simp) (e12 c o hc))) r
      show V.int _ = V.int (sumR (n + 1) fun j => sgn j * (m.headD []).getD j 0 * detN n (witM m 0 j))
      rw [hhd]
theorem p_greatest_sum (vs : List V) (H : Hp) (Q : VK) (E : XK) (h : sp_greatest_sum vs H Q E) : t_greatest_sum K (En Q) (start ["matrix", "row", "number"] vs) H := by
  obtain ⟨R, ⟨n, a, m, rfl, ⟨a', as, rfl, ha, has⟩, hm, h1, hz, rfl⟩, k⟩ := h
  refine ret_ev (v := .int (normM m)) ?_ rfl k
  have hi := evi_tupR (K := K) (σ := start ["matrix", "row", "number"] [.ref a']) (tl := tVar 0) (ev_var rfl) ha
  rw [has.len] at hi
  refine ev_maxL (ns := m.map fun r => (r.map absI).sum) ?_ (by rw [List.length_map, hm.1]; omega)
  rw [map_range m [], List.map_map]
  refine evp_lcV hi _ (by rw [hm.1]; exact Nat.le_trans hz (by decide)) fun i v H' hin e ⟨c, ea, hx⟩ => ?_
  subst hx
  obtain ⟨r, hr, hc⟩ := has.get ea
  have hrl := hm.2 r (List.mem_of_getElem? hr)
  refine ⟨_, fun Q q => q, rfl, ?_⟩
  rw [Function.comp, getD_of hr]
  refine ev_sumL ?_
  have hi2 := evi_tup (K := K) (σ := start ["matrix", "row", "number"] [.ref a'] |>.set 1 none |>.set 1 (some (.ref c))) (tl := tVar 1) (ev_var rfl) (st_of (e _ _ hc))
  rw [List.length_map] at hi2
  rw [map_range r 0, List.map_map]
  refine evp_lcV hi2 _ (by rw [hrl]; exact Nat.le_trans hz (by decide)) fun j x H2 hjn e2 hx => ?_
  obtain ⟨rfl, _⟩ := pt_get hx
  exact ⟨_, fun Q q => q, rfl, ev_abs (ev_var rfl)⟩
theorem p_trace_of (vs : List V) (H : Hp) (Q : VK) (E : XK) (h : sp_trace_of vs H Q E) : t_trace_of K (En Q) (start ["matrix", "at", "row"] vs) H := by
  obtain ⟨R, ⟨n, a, m, rfl, ⟨a', as, rfl, ha, has⟩, hm, hz, rfl⟩, k⟩ := h
  refine ret_ev (v := .int (trM m)) ?_ rfl k
  unfold trM sumR
  refine ev_sumL ?_
  have hi := evi_enumT (K := K) (σ := start ["matrix", "at", "row"] [.ref a']) (tl := tVar 0) (ev_var rfl) (st_of ha)
  rw [List.length_map, has.len] at hi
  rw [List.map_map]
  refine evp_lcV hi _ (by rw [hm.1]; exact Nat.le_trans hz (by decide)) fun i v H' hin e ⟨T, y, hx, hy, hT⟩ => ?_
  subst hx
  rw [List.getElem?_map] at hy
  cases ea : as[i]? with
  | none =>
    rw [ea] at hy
    cases hy
  | some d =>
    rw [ea] at hy
    obtain rfl := Option.some.inj hy
    obtain ⟨q, hq, hd⟩ := has.get ea
    refine ⟨_, g_pair hT, rfl, ?_⟩
    rw [Function.comp, getD_of hq]
    exact ev_ixP (ev_var rfl) (ev_var rfl) (e _ _ hd) (by rw [hm.2 q (List.mem_of_getElem? hq), ← hm.1]; exact hin)
end
end K13
namespace K13
open PySem PySem.Spec PyProof.Rows L2 Evl
section
variable {K : PySem.W.Frag} {σ : L2.St} {H H' : Hp} {ta tb tc te tl : TE} {t u : TT} {x z v : V} {l : Addr} {ps : List Pt} {p : Pt} {D : Ends} {tu tw tz : TS} {P Pa Pb Pc : V → Hp → Prop} {mu : List Addr}
/-- points written one by one -/
def EvPA (ta : TA) (σ : L2.St) (H : Hp) (ps : List Pt) : Prop := ∀ H1, Ex H H1 → ∀ Q : List V → Hp → Prop, (∀ (as : List Addr) H2, Ex H1 H2 → Pts H2 as ps → Q (as.map V.ref) H2) → ta σ H1 Q
theorem epa_nil : EvPA tNil σ H [] := fun H1 _ _ q => q [] H1 (Ex.refl H1) .nil
theorem epa_cons {tr : TA} (he : EvP te σ H fun v H' => PtV H' v p) (hr : ∀ H1, Ex H H1 → EvPA tr σ H1 ps) : EvPA (tCons te tr) σ H (p :: ps) := fun H1 e Q q =>
  he H1 e _ fun v H2 e2 ⟨a, ev, hp⟩ => hr H2 (e.trans e2) H2 (Ex.refl H2) _ fun as H3 e3 hs => by
    subst ev
    exact q (a :: as) H3 (e2.trans e3) (.cons (e3 _ _ hp) hs)
theorem evp_lstPts {ta : TA} (h : EvPA ta σ H ps) (hl : ps.length ≤ 100000) : EvP (tLst ta) σ H fun v H' => ∃ l, v = .ref l ∧ H l = none ∧ LA H' l ps := fun H1 e Q q =>
  h H1 e _ fun as H2 e2 hs => ⟨by rw [List.length_map, hs.len]; exact sz_of hl, fun p hp => q _ _ (e2.trans (Ex.new hp)) ⟨p, rfl, fresh_back (e.trans e2) hp, as, upd_same, hs.ex (Ex.new hp)⟩⟩
theorem evp_tupPts {ta : TA} (h : EvPA ta σ H ps) (hl : ps.length ≤ 100000) : EvP (tTup ta) σ H fun v H' => MxV H' v ps := fun H1 e Q q =>
  h H1 e _ fun as H2 e2 hs => ⟨by rw [List.length_map, hs.len]; exact sz_of hl, fun p hp => q _ _ (e2.trans (Ex.new hp)) ⟨p, as, rfl, upd_same, hs.ex (Ex.new hp)⟩⟩
theorem pts_V {as : List Addr} (h : Pts H as ps) : Paired (fun v p => PtV H v p) (as.map V.ref) ps := by
  induction h with
  | nil => exact .nil
  | cons h t ih => exact .cons ⟨_, rfl, h⟩ ih
theorem evf_listPts (hmu : ∀ b ∈ mu, H b ≠ none) (h : EvP tl σ H fun v H' => ∃ l, v = .ref l ∧ H l = none ∧ LA H' l ps) : EvF (iList K tl) σ H mu ps.length (fun i x H' => ∃ p, ps[i]? = some p ∧ PtV H' x p) :=
  (evf_listP (Px := fun xs H => Paired (fun v p => PtV H v p) xs ps) hmu (fun ys H H' e h => Paired.mapP h fun _ _ q => q.tex e) (h.imp fun v H' _ ⟨l, ev, h0, as, h1, h2⟩ => ⟨l, as.map V.ref, ev, h0, h1, by rw [List.length_map, h2.len], pts_V h2⟩)).imp fun i x H' hi ⟨xs, hx, hl, hp⟩ => paired_get hp hx
/-- over a list of points that stands -/
theorem evf_LA {a : Addr} (h : Ev tl σ H (.ref a)) (hx : LA H a ps) (ha : a ∉ mu) (hmu : ∀ H', Kp mu H H' → True) : EvF (iList K tl) σ H mu ps.length (fun i x H' => ∃ p, ps[i]? = some p ∧ ∃ b, x = .ref b ∧ PtA H b p) := by
  obtain ⟨as, h1, h2⟩ := hx
  have hi := evf_list (K := K) h h1 ha
  rw [List.length_map, h2.len] at hi
  refine hi.imp fun i x H' hin hy => ?_
  rw [List.getElem?_map] at hy
  cases ea : as[i]? with
  | none =>
    rw [ea] at hy
    cases hy
  | some c =>
    rw [ea] at hy
    obtain ⟨p, hp, hc⟩ := h2.get ea
    exact ⟨p, hp, c, (Option.some.inj hy).symm, hc⟩
theorem evp_tupLI {a : Addr} {ns : List Int} (h : Ev te σ H (.ref a)) (hx : H a = some (.lst (ns.map V.int))) : EvP (tCB (rTup K) (tCons te tNil)) σ H fun v H' => PtV H' v ns := fun H1 e Q q => h H1 e _ fun H2 e2 => ⟨a, ns.map V.int, rfl, Or.inl ⟨sq_of ((e.trans e2) _ _ hx), fun l hl => q _ _ (e2.trans (Ex.new hl)) ⟨l, rfl, upd_same⟩⟩⟩
theorem evp_tupLA {a : Addr} (h : Ev te σ H (.ref a)) (hx : LA H a ps) : EvP (tCB (rTup K) (tCons te tNil)) σ H fun v H' => MxV H' v ps := fun H1 e Q q => h H1 e _ fun H2 e2 => by
  obtain ⟨as, h1, h2⟩ := hx.ex (e.trans e2)
  exact ⟨a, as.map V.ref, rfl, Or.inl ⟨sq_of h1, fun l hl => q _ _ (e2.trans (Ex.new hl)) ⟨l, as, rfl, upd_same, h2.ex (Ex.new hl)⟩⟩⟩
theorem s_par3 {i j k : Nat} (ha : EvP ta σ H Pa) (hb : ∀ x H1, Ex H H1 → Pa x H1 → EvP tb σ H1 Pb) (hc : ∀ x y H1 H2, Ex H H1 → Pa x H1 → Ex H1 H2 → Pb y H2 → EvP tc σ H2 Pc)
    (kk : ∀ x y z H1 H2 H3, Ex H H1 → Pa x H1 → Ex H1 H2 → Pb y H2 → Ex H2 H3 → Pc z H3 → D.nx (((σ.set i (some x)).set j (some y)).set k (some z)) H3) : tPar3 i j k (tCons ta (tCons tb (tCons tc tNil))) D σ H :=
  ha H (Ex.refl H) _ fun x H1 e1 p1 => hb x H1 e1 p1 H1 (Ex.refl H1) _ fun y H2 e2 p2 => hc x y H1 H2 e1 p1 e2 p2 H2 (Ex.refl H2) _ fun z H3 e3 p3 => ⟨x, y, z, rfl, kk x y z H1 H2 H3 e1 p1 e2 p2 e3 p3⟩
theorem q_par3 {i j k : Nat} (ha : EvP ta σ H Pa) (hb : ∀ x H1, Ex H H1 → Pa x H1 → EvP tb σ H1 Pb) (hc : ∀ x y H1 H2, Ex H H1 → Pa x H1 → Ex H1 H2 → Pb y H2 → EvP tc σ H2 Pc)
    (kk : ∀ x y z H1 H2 H3, Ex H H1 → Pa x H1 → Ex H1 H2 → Pb y H2 → Ex H2 H3 → Pc z H3 → tz D (((σ.set i (some x)).set j (some y)).set k (some z)) H3) : tSeq (tPar3 i j k (tCons ta (tCons tb (tCons tc tNil)))) tz D σ H := s_par3 (D := { D with nx := tz D }) ha hb hc kk
/-- append of a number -/
theorem s_appI {ns : List Int} {i : Int} (h : H l = some (.lst (ns.map V.int))) (ha : Ev ta σ H (.ref l)) (he : Ev te σ H (.int i)) (hz : ns.length < sizeLine) (k : ∀ H1, H1 l = some (.lst ((ns ++ [i]).map V.int)) → (∀ mu, l ∈ mu → Kp mu H H1) → (∀ H0, H0 l = none → Ex H0 H → Ex H0 H1) → D.nx σ H1) : tDrop (tBM K "list" rAppend ta (tCons te tNil)) D σ H := by
  refine s_appP h ha (evp_of_ev he) (by rw [List.length_map]; exact hz) fun v H1 e ev => ?_
  obtain rfl : v = .int i := ev
  refine k _ ?_ (fun mu hm => (Kp.ex e).trans (Kp.lst hm (e _ _ h))) fun H0 h0 e0 => Ex.mut (e0.trans e) h0
  rw [List.map_append]
  exact upd_same
theorem ent_ev {a : Addr} {as : List Addr} {m : Mx} {n i j : Nat} (h : Ev ta σ H (.ref a)) (hi : Ev tb σ H (.int (i : Int))) (hj : Ev tc σ H (.int (j : Int))) (hx : H a = some (.tup (as.map V.ref))) (has : Pts H as m) (hm : Sq n m) (h1 : i < n) (h2 : j < n) : Ev (tOp (rIxT K) (tOp (rIxT K) ta tb) tc) σ H (.int (ent m i j)) := by
  have hr : m[i]? = some (m.getD i []) := get_some (by rw [hm.1]; exact h1) []
  obtain ⟨b, hb, hpb⟩ := has.get2 hr
  exact ev_ixP (ev_ixM h hi hx hb) hj hpb (by rw [hm.2 _ (List.mem_of_getElem? hr)]; exact h2)
theorem ent_sm {m : Mx} {n i j : Nat} (hs : ∀ r ∈ m, Sm r) (hm : Sq n m) (h1 : i < n) (h2 : j < n) : -(2 ^ 64) < ent m i j ∧ ent m i j < 2 ^ 64 := by
  have hr : m[i]? = some (m.getD i []) := get_some (by rw [hm.1]; exact h1) []
  have hrm := List.mem_of_getElem? hr
  exact hs _ hrm _ (getD_mem (by rw [hm.2 _ hrm]; exact h2) 0)
end
section
variable {K : PySem.W.Frag}
theorem p_minor_sum (vs : List V) (H : Hp) (Q : VK) (E : XK) (h : sp_minor_sum vs H Q E) : t_minor_sum K (En Q) (start ["matrix", "found", "low", "high"] vs) H := by
  obtain ⟨R, ⟨a, m, rfl, ⟨a', as, rfl, ha, has⟩, hm, hs, rfl⟩, k⟩ := h
  refine q_asg ev_c fun H1 e1 => ?_
  have pr : ∀ {σ : L2.St} {H : Hp} (x y : Int), EvP (tTup (tCons (tC (.int x)) (tCons (tC (.int y)) tNil))) σ H fun v H' => PtV H' v [x, y] := fun x y => evp_pt (p := [x, y]) (ea_cons ev_c (ea_cons ev_c ea_nil)) (by simp)
  have hl := evp_lstPts (σ := [some (V.ref a'), some (.int 0), none, none]) (H := H1) (epa_cons (pr 0 1) fun _ _ => epa_cons (pr 0 2) fun _ _ => epa_cons (pr 1 2) fun _ _ => epa_nil) (by simp)
  refine q_forF (mu := []) (evf_listPts (K := K) (fun b hb => by cases hb) hl) (fun i σ' H' => ∃ x y, σ' = [some (V.ref a'), some (.int ([[0, 1], [0, 2], [1, 2]].take i |>.foldl (fun f (p : List Nat) => minI m f (p.getD 0 0) (p.getD 1 0)) 0)), x, y]) (fun i σ' H' H'' e q => q) ⟨none, none, rfl⟩ (fun B i x σ' H' hin eB kp ⟨u, y, es⟩ ⟨p, hp, T, hx, hT⟩ => ?_) fun σ' H' kp ⟨u, y, es⟩ => ?_
  · subst hx es
    have ek : Ex H H' := fun c o hc => kp.1 c o (by simp) (eB c o (e1 c o hc))
    have fin : ∀ (lo hi : Nat) (f : Int) (x : Int), p = [(lo : Int), (hi : Int)] → lo < 3 → hi < 3 → minI m f lo hi = x → gTup K 2 (gCons (gName 2) (gCons (gName 3) gNil)) (.ref T) [some (V.ref a'), some (.int f), u, y] H' fun σ2 H2 => tAsg (tOp (rI0 fun i j => .int (i - j)) (tOp (rI0 fun i j => .int (i + j)) (tVar 1) (tOp (rI CMul fun i j => .int (i * j)) (tOp (rIxT K) (tOp (rIxT K) (tVar 0) (tVar 2)) (tVar 2)) (tOp (rIxT K) (tOp (rIxT K) (tVar 0) (tVar 3)) (tVar 3)))) (tOp (rI CMul fun i j => .int (i * j)) (tOp (rIxT K) (tOp (rIxT K) (tVar 0) (tVar 2)) (tVar 3)) (tOp (rIxT K) (tOp (rIxT K) (tVar 0) (tVar 3)) (tVar 2)))) (gName 1) { En Q with nx := fun σ3 H3 => (∃ u y, σ3 = [some (V.ref a'), some (.int x), u, y]) ∧ Kp [] B H3, ct := fun σ3 H3 => (∃ u y, σ3 = [some (V.ref a'), some (.int x), u, y]) ∧ Kp [] B H3, bk := fun σ' H' => tRet (tVar 1) (En Q) σ' H' } σ2 H2 := by
      intro lo hi f x ep h1 h2 hx
      subst ep hx
      refine g_pair hT _ ?_
      have en : ∀ {i j : Nat} {ta tb : TE}, i < 3 → j < 3 → Ev ta [some (V.ref a'), some (.int f), some (.int (lo : Int)), some (.int (hi : Int))] H' (.int (i : Int)) → Ev tb [some (V.ref a'), some (.int f), some (.int (lo : Int)), some (.int (hi : Int))] H' (.int (j : Int)) → Ev (tOp (rIxT K) (tOp (rIxT K) (tVar 0) ta) tb) [some (V.ref a'), some (.int f), some (.int (lo : Int)), some (.int (hi : Int))] H' (.int (ent m i j)) := fun h1 h2 hi hj => ent_ev (ev_var rfl) hi hj (ek _ _ ha) (has.ex ek) hm h1 h2
      refine s_asg (v := .int (minI m f lo hi)) ?_ fun H3 e3 => ⟨⟨_, _, rfl⟩, kp.trans (Kp.ex e3)⟩
      exact ev_op (ev_op (ev_var rfl) (ev_op (en h1 h1 (ev_var rfl) (ev_var rfl)) (en h2 h2 (ev_var rfl) (ev_var rfl)) (rv_I (.inl (ent_sm hs hm h1 h1)))) rv_I0) (ev_op (en h1 h2 (ev_var rfl) (ev_var rfl)) (en h2 h1 (ev_var rfl) (ev_var rfl)) (rv_I (.inl (ent_sm hs hm h1 h2)))) rv_I0
    match i, hin with
    | 0, _ => exact fin 0 1 _ _ (Option.some.inj hp).symm (by decide) (by decide) rfl
    | 1, _ => exact fin 0 2 _ _ (Option.some.inj hp).symm (by decide) (by decide) rfl
    | 2, _ => exact fin 1 2 _ _ (Option.some.inj hp).symm (by decide) (by decide) rfl
  · subst es
    exact ret_ev (v := .int (minS m)) (ev_var rfl) rfl fun v H3 e3 r => k v H3 (fun c o hc => e3 c o (kp.1 c o (by simp) (e1 c o hc))) r
theorem p_broken_in_space (vs : List V) (H : Hp) (Q : VK) (E : XK) (h : sp_broken_in_space vs H Q E) : t_broken_in_space K (En Q) (start ["whole", "trace", "minors", "found"] vs) H := by
  obtain ⟨R, ⟨w, t, mn, rfl, h1, h2, rfl⟩, k⟩ := h
  refine q_asgL (el_lst ea_nil (by decide)) fun l H1 hl e1 hl1 => ?_
  have fin : ∀ L H', H' l = some (.lst (L.map V.int)) → L.length < 5 → Ex H H' → (∀ v H'', Ex H H'' → NL H'' v (L ++ if absI (w * t - mn) ≥ w * w - 1 then [3] else []) → Q v H'') → tSeq (tIfS (tTest (tOp (rI0 fun i j => .bl (decide (j ≤ i))) (tCB rAbs1 (tCons (tOp (rI0 fun i j => .int (i - j)) (tOp (rI CMul fun i j => .int (i * j)) (tVar 0) (tVar 1)) (tVar 2)) tNil)) (tOp (rI0 fun i j => .int (i - j)) (tOp (rI CMul fun i j => .int (i * j)) (tVar 0) (tVar 0)) (tC (.int 1))))) (tDrop (tBM K "list" rAppend (tVar 3) (tCons (tC (.int 3)) tNil))) tNext)
    (tRet (tVar 3)) (En Q) [some (.int w), some (.int t), some (.int mn), some (.ref l)] H' := by
    intro L H' hL hz e k
    refine q_when (b := decide (w * w - 1 ≤ absI (w * t - mn))) (et_test (ev_op (ev_abs (ev_op (ev_op (ev_var rfl) (ev_var rfl) (rv_I (.inl ⟨h1, h2⟩))) (ev_var rfl) rv_I0)) (ev_op (ev_op (ev_var rfl) (ev_var rfl) (rv_I (.inl ⟨h1, h2⟩))) ev_c rv_I0) rv_I0)) (fun hb H2 e2 => ?_) fun hb H2 e2 => ?_
    · refine s_appI (e2 _ _ hL) (ev_var rfl) ev_c (by have : sizeLine = 16777216 := sizeLine_eq; omega) fun H3 h3 _ ke => ?_
      exact ret_ev (v := .ref l) (ev_var rfl) rfl fun v H4 e4 r => k v H4 ((ke H hl (e.trans e2)).trans e4) ⟨l, r, by rw [if_pos (of_decide_eq_true hb)]; exact e4 _ _ h3⟩
    · exact ret_ev (v := .ref l) (ev_var rfl) rfl fun v H4 e4 r => k v H4 ((e.trans e2).trans e4) ⟨l, r, by rw [if_neg (of_decide_eq_false hb), List.append_nil]; exact e4 _ _ (e2 _ _ hL)⟩
  have hab : Ev (tCB rAbs1 (tCons (tOp (rI0 fun i j => .int (i + j)) (tVar 2) (tC (.int 1))) tNil)) [some (.int w), some (.int t), some (.int mn), some (.ref l)] H1 (.int (absI (mn + 1))) := ev_abs (ev_op (ev_var rfl) ev_c rv_I0)
  have hif : Ev (tIf (tTest (tOp (rI0 fun i j => .bl (decide (j < i))) (tVar 0) (tC (.int 0)))) (tOp (rI0 fun i j => .int (i + j)) (tVar 0) (tVar 1)) (tOp (rI0 fun i j => .int (i - j)) (tUn (rU fun i => .int (-i)) (tVar 0)) (tVar 1))) [some (.int w), some (.int t), some (.int mn), some (.ref l)] H1 (.int (if w > 0 then w + t else -w - t)) := by
    refine ev_if (b := decide (0 < w)) (et_test (ev_op (ev_var rfl) ev_c rv_I0)) (fun hb => ?_) fun hb => ?_
    · rw [if_pos (of_decide_eq_true hb)]
      exact ev_op (ev_var rfl) (ev_var rfl) rv_I0
    · rw [if_neg (of_decide_eq_false hb)]
      exact ev_op (ev_un (ev_var rfl) ru_neg) (ev_var rfl) rv_I0
  refine q_when (et_and (a := !decide (V.int w = V.int 0)) (b := decide ((if w > 0 then w + t else -w - t) ≤ absI (mn + 1))) (et_test (ev_op (ev_var rfl) ev_c (rv_ne rfl))) fun _ => et_test (ev_op hab hif rv_I0)) (fun hb H2 e2 => ?_) fun hb H2 e2 => ?_
  · refine s_appI (ns := []) (e2 _ _ hl1) (ev_var rfl) ev_c (by decide) fun H3 h3 _ ke => fin [2] H3 h3 (by decide) (ke H hl (e1.trans e2)) ?_
    have hc : w ≠ 0 ∧ absI (mn + 1) ≥ (if w > 0 then w + t else -w - t) := by
      simp only [Bool.and_eq_true, Bool.not_eq_true', decide_eq_false_iff_not, decide_eq_true_eq, V.int.injEq] at hb
      exact hb
    intro v H4 e4 r
    refine k v H4 e4 ?_
    unfold bisL
    rw [if_pos hc]
    exact r
  · refine fin [] H2 (e2 _ _ hl1) (by decide) (e1.trans e2) ?_
    have hc : ¬ (w ≠ 0 ∧ absI (mn + 1) ≥ (if w > 0 then w + t else -w - t)) := by
      intro hc
      have : (!decide (V.int w = V.int 0) && decide ((if w > 0 then w + t else -w - t) ≤ absI (mn + 1))) = true := by
        simp only [Bool.and_eq_true, Bool.not_eq_true', decide_eq_false_iff_not, decide_eq_true_eq, V.int.injEq]
        exact hc
      rw [this] at hb
      cases hb
    intro v H4 e4 r
    refine k v H4 e4 ?_
    unfold bisL
    rw [if_neg hc]
    exact r
end
end K13
namespace K13
open PySem PySem.Spec PyProof.Rows L2 Evl
section
variable {K : PySem.W.Frag}
theorem szl (n : Nat) (h : n ≤ 100000 := by omega) : n < sizeLine := by
  have : sizeLine = 16777216 := sizeLine_eq
  omega
theorem bisL_len (w t mn : Int) : (bisL w t mn).length ≤ 2 := by
  have h : ∀ (c : Prop) [Decidable c] (x : Int), (if c then [x] else []).length ≤ 1 := fun c _ x => by
    by_cases h : c
    · rw [if_pos h]; exact Nat.le_refl 1
    · rw [if_neg h]; exact Nat.zero_le 1
  unfold bisL
  rw [List.length_append]
  have h1 := h (w ≠ 0 ∧ absI (mn + 1) ≥ (if w > 0 then w + t else -w - t)) 2
  have h2 := h (absI (w * t - mn) ≥ w * w - 1) 3
  omega
theorem range_map_snoc {α : Type} (n : Nat) (f : Nat → α) : (List.range (n + 1)).map f = (List.range n).map f ++ [f n] := by
  rw [List.range_succ, List.map_append]
  rfl
theorem p_adjugate_of (vs : List V) (H : Hp) (Q : VK) (E : XK) (h : sp_adjugate_of vs H Q E) : t_adjugate_of K (En Q) (start ["matrix", "found", "row", "line", "column", "sign"] vs) H := by
  obtain ⟨R, ⟨n, a, m, rfl, ⟨a', as, rfl, ha, has⟩, hm, h1, h3, hs, rfl⟩, k⟩ := h
  have hl0 : (as.map V.ref).length = n := by rw [List.length_map, has.len, hm.1]
  refine q_asgL (el_lst ea_nil (by decide)) fun l H1 hl e1 hl1 => ?_
  have lenE : ∀ (σ : L2.St) (H' : Hp), σ[0]? = some (some (V.ref a')) → H' a' = some (.tup (as.map V.ref)) → Ev (tCB (rLenS K) (tCons (tVar 0) tNil)) σ H' (.int (n : Int)) := fun σ H' h0 ha => ev_is (ev_lenT (ev_var h0) ha) (by rw [hl0])
  have hi := evf_rng1 (mu := [l]) (lenE [some (V.ref a'), some (.ref l), none, none, none, none] H1 rfl (e1 _ _ ha)) (by omega)
  rw [Int.toNat_natCast] at hi
  refine q_forF hi (fun i σ' H' => (∃ x y z w, σ' = [some (V.ref a'), some (.ref l), x, y, z, w]) ∧ LA H' l ((List.range i).map fun i => (List.range n).map fun j => sgn (i + j) * detN (n - 1) (witM m j i))) (fun i σ' H' H'' e q => ⟨q.1, q.2.ex e⟩) ⟨⟨none, none, none, none, rfl⟩, LA.nil hl1⟩ (fun B i x σ' H' hin eB kp ⟨⟨x1, x2, x3, x4, es⟩, la⟩ hy => ?_) fun σ' H' kp ⟨⟨x1, x2, x3, x4, es⟩, la⟩ => ?_
  · subst hy es
    have hB : ∀ c o, H c = some o → B c = some o := fun c o hc => eB c o (e1 c o hc)
    have hHl : H l = none := hl
    have ek : Ex H H' := kp_ex (H1 := B) hB kp (none1 hHl)
    refine q_asgL (el_lst ea_nil (by decide)) fun l2 H2 hl2 e2 h2 => ?_
    have hi2 := evf_rng1 (mu := [l2]) (lenE [some (V.ref a'), some (.ref l), some (.int (i : Int)), some (.ref l2), x3, x4] H2 rfl (e2 _ _ (ek _ _ ha))) (by omega)
    rw [Int.toNat_natCast] at hi2
    refine q_forF hi2 (fun j σ' H' => (∃ z w, σ' = [some (V.ref a'), some (.ref l), some (.int (i : Int)), some (.ref l2), z, w]) ∧ H' l2 = some (.lst (((List.range j).map fun j => sgn (i + j) * detN (n - 1) (witM m j i)).map V.int))) (fun i σ' H' H'' e q => ⟨q.1, e _ _ q.2⟩) ⟨⟨x3, x4, rfl⟩, h2⟩ (fun B2 j x σ' H3 hjn eB2 kp2 ⟨⟨y3, y4, es⟩, li⟩ hy => ?_) fun σ' H3 kp2 ⟨⟨y3, y4, es⟩, li⟩ => ?_
    · subst hy es
      have ek2 : Ex H' H3 := kp_ex (H1 := B2) (fun c o hc => eB2 c o (e2 c o hc)) kp2 (none1 hl2)
      have ekk := ek.trans ek2
      refine q_asg (v := .int (sgn (i + j))) (ev_sgn (k := i + j) (ev_is (ev_op (ev_var rfl) (ev_var rfl) rv_I0) (by rw [Int.natCast_add]))) fun H4 e4 => ?_
      refine s_appI (e4 _ _ li) (ev_var rfl) (i := sgn (i + j) * detN (n - 1) (witM m j i)) (ev_op (y := .int (detN (n - 1) (witM m j i))) (ev_var rfl) ?_ (rv_I (.inl ?_))) (szl _ (by rw [List.length_map, List.length_range]; omega)) fun H5 h5 k5 _ => ⟨⟨⟨_, _, rfl⟩, ?_⟩, kp2.trans ((Kp.ex e4).trans (k5 _ (List.mem_cons_self ..)))⟩
      · refine Ev.of (evp_call1 (Pa := fun v H' => MxV H' v (witM m j i)) (evp_callA (ea_cons (ev_var rfl) (ea_cons (ev_var rfl) (ea_cons (ev_var rfl) ea_nil))) (spp_use fun H6 e6 => ⟨n, _, m, j, i, rfl, ⟨a', as, rfl, e6 _ _ (e4 _ _ (ekk _ _ ha)), ((has.ex ekk).ex e4).ex e6⟩, hm, by omega, hin, rfl⟩)) fun x H6 e6 hx => ?_)
        obtain ⟨n1, rfl⟩ : ∃ j, n = j + 1 := ⟨n - 1, by omega⟩
        exact spp_use fun H7 e7 => ⟨n1, x, witM m j i, rfl, hx.ex e7, witM_sq hm hjn hin, by show n1 ≤ 3; omega, by omega, witM_sm hs, rfl⟩
      · have := sgn_sm (i + j) (x := 1) (by decide)
        rw [Int.mul_one] at this
        exact this
      · rw [range_map_snoc]
        exact h5
    · subst es
      have ek2 : Ex H' H3 := kp_ex e2 kp2 (none1 hl2)
      refine s_appPt (la.ex ek2) (ev_var rfl) (evp_tupLI (ev_var rfl) li) (szl _ (by rw [List.length_map, List.length_range]; omega)) fun H4 la4 k4 => ⟨⟨⟨_, _, _, _, rfl⟩, ?_⟩, kp.trans ((Kp.ex ek2).trans (k4 _ (List.mem_cons_self ..)))⟩
      rw [range_map_snoc]
      exact la4
  · subst es
    refine ret_of (evp_tupLA (ev_var rfl) la) rfl fun v H3 e3 r => k v H3 ((kp_ex e1 kp (none1 hl)).trans e3) ?_
    unfold adjM
    rw [hm.1]
    exact r
theorem p_broken_by (vs : List V) (H : Hp) (Q : VK) (E : XK) (h : sp_broken_by vs H Q E) : t_broken_by K (En Q) (start ["matrix", "whole", "trace", "found"] vs) H := by
  obtain ⟨R, ⟨n, a, m, rfl, ⟨a', as, rfl, ha, has⟩, hok, rfl⟩, k⟩ := h
  obtain ⟨hm, h1, h3, hen, d1, d2, d3, hbr, hgo, t1, t2⟩ := hok
  have hs : ∀ r ∈ m, Sm r := fun r hr x hx => by have := hen r hr x hx; omega
  have hl0 : (as.map V.ref).length = n := by rw [List.length_map, has.len, hm.1]
  refine q_par3 (Pa := isV (.int (detM m))) (Pb := isV (.int (trM m))) (Pc := fun v H' => ∃ l, v = .ref l ∧ H l = none ∧ H' l = some (.lst [])) ?_ (fun x H1 e1 _ => ?_) (fun x y H1 H2 e1 _ e2 _ => ?_) fun x y z H1 H2 H3 e1 hx e2 hy e3 ⟨l, ez, hl, hl3⟩ => ?_
  · exact evp_callA (ea_cons (ev_var rfl) ea_nil) (spp_use fun H1 e => ⟨n, _, m, rfl, ⟨a', as, rfl, e _ _ ha, has.ex e⟩, hm, by omega, by omega, hs, by unfold detM; rw [hm.1]⟩)
  · exact evp_callA (ea_cons (ev_var rfl) ea_nil) (spp_use fun H2 e => ⟨n, _, m, rfl, ⟨a', as, rfl, e _ _ (e1 _ _ ha), (has.ex e1).ex e⟩, hm, by omega, rfl⟩)
  · exact (evp_lst ea_nil (by decide)).imp fun v H' e ⟨l, ev, h0, h⟩ => ⟨l, ev, fresh_back (e1.trans e2) h0, h⟩
  obtain rfl : x = .int (detM m) := hx
  obtain rfl : y = .int (trM m) := hy
  subst ez
  have ee : Ex H H3 := (e1.trans e2).trans e3
  -- the last test
  have last : ∀ (L : List Int) H', H' l = some (.lst (L.map V.int)) → L.length < 5 → Ex H H' → (∀ v H'', Ex H H'' → NL H'' v (L ++ if n = 3 then bisL (detM m) (trM m) (minS m) else []) → Q v H'') →
      tSeq (tIfS (tTest (tOp rEq (tCB (rLenS K) (tCons (tVar 0) tNil)) (tC (.int 3)))) (tAsg (tOp rCat (tVar 3) (tCall sp_broken_in_space [] E0 (tCons (tVar 1) (tCons (tVar 2) (tCons (tCall sp_minor_sum [] E0 (tCons (tVar 0) tNil)) tNil))))) (gName 3)) tNext) (tRet (tVar 3)) (En Q) [some (V.ref a'), some (.int (detM m)), some (.int (trM m)), some (.ref l)] H' := by
    intro L H' hL hz e k
    have hb : decide (V.int ((as.map V.ref).length : Int) = V.int 3) = decide (n = 3) := by
      rw [hl0]
      by_cases h : n = 3
      · subst h; rfl
      · have : ¬ V.int (n : Int) = V.int 3 := fun z => h (by injection z with z; omega)
        rw [decide_eq_false h, decide_eq_false this]
    refine q_when (b := decide (n = 3)) (et_test (ev_is (ev_op (ev_lenT (ev_var rfl) (e _ _ ha)) ev_c (rv_eq rfl)) (by rw [hb]))) (fun hb H4 e4 => ?_) fun hb H4 e4 => ?_
    · have h3 := of_decide_eq_true hb
      subst h3
      have hmin : Ev (tCall sp_minor_sum [] E0 (tCons (tVar 0) tNil)) [some (V.ref a'), some (.int (detM m)), some (.int (trM m)), some (.ref l)] H4 (.int (minS m)) := ev_callV (ea_cons (ev_var rfl) ea_nil) (spp_use fun H5 e5 => ⟨_, m, rfl, ⟨a', as, rfl, e5 _ _ (e4 _ _ (e _ _ ha)), ((has.ex e).ex e4).ex e5⟩, hm, hs, rfl⟩)
      have hbis : EvP (tCall sp_broken_in_space [] E0 (tCons (tVar 1) (tCons (tVar 2) (tCons (tCall sp_minor_sum [] E0 (tCons (tVar 0) tNil)) tNil)))) [some (V.ref a'), some (.int (detM m)), some (.int (trM m)), some (.ref l)] H4 fun v H' => NL H' v (bisL (detM m) (trM m) (minS m)) :=
        evp_callA (ea_cons (ev_var rfl) (ea_cons (ev_var rfl) (ea_cons hmin ea_nil))) (spp_use fun H5 e5 => ⟨_, _, _, rfl, by omega, by omega, rfl⟩)
      have hcat : EvP (tOp rCat (tVar 3) (tCall sp_broken_in_space [] E0 (tCons (tVar 1) (tCons (tVar 2) (tCons (tCall sp_minor_sum [] E0 (tCons (tVar 0) tNil)) tNil))))) [some (V.ref a'), some (.int (detM m)), some (.int (trM m)), some (.ref l)] H4 fun v H' => NL H' v (L ++ bisL (detM m) (trM m) (minS m)) := by
        refine evp_op (evp_of_ev (ev_var rfl)) fun x H5 e5 hx => ⟨_, hbis.mono e5, fun y H6 e6 ⟨b, ey, hb⟩ => ?_⟩
        obtain rfl : x = .ref l := hx
        subst ey
        intro H7 e7 Q q
        refine ⟨l, b, L.map V.int, (bisL (detM m) (trM m) (minS m)).map V.int, rfl, rfl, e7 _ _ (e6 _ _ (e5 _ _ (e4 _ _ hL))), e7 _ _ hb, ?_, fun p hp => q _ _ (Ex.new hp) ⟨p, rfl, by rw [List.map_append]; exact upd_same⟩⟩
        rw [List.length_map, List.length_map]
        have := bisL_len (detM m) (trM m) (minS m)
        have : sizeLine = 16777216 := sizeLine_eq
        omega
      refine s_asgP hcat fun v H5 e5 hv => ?_
      refine ret_of (A := fun v H6 => NL H6 v (L ++ bisL (detM m) (trM m) (minS m))) (evp_var rfl fun H6 e6 => (show NL H6 v (L ++ bisL (detM m) (trM m) (minS m)) from let ⟨b, eb, hb⟩ := hv; ⟨b, eb, e6 _ _ hb⟩)) rfl fun v' H6 e6 r => k v' H6 (((e.trans e4).trans e5).trans e6) ?_
      rw [if_pos rfl]
      exact r
    · have h3 := of_decide_eq_false hb
      exact ret_ev (v := .ref l) (ev_var rfl) rfl fun v H6 e6 r => k v H6 ((e.trans e4).trans e6) (by rw [if_neg h3, List.append_nil]; exact ⟨l, r, e6 _ _ (e4 _ _ hL)⟩)
  -- brkL m = [], so nothing is appended ahead
  have b0 : ¬ absI (detM m) < 2 := fun h => by
    unfold brkL at hbr
    rw [if_pos h] at hbr
    simp at hbr
  have b1 : ¬ (m.length = 2 ∧ absI (trM m) ≥ absI (detM m + 1)) := fun h => by
    unfold brkL at hbr
    rw [if_pos h] at hbr
    simp at hbr
  refine q_when (b := decide (absI (detM m) < 2)) (et_test (ev_op (ev_abs (ev_var rfl)) ev_c rv_I0)) (fun hb => absurd (of_decide_eq_true hb) b0) fun _ H4 e4 => ?_
  have hb2 : decide (V.int ((as.map V.ref).length : Int) = V.int 2) = decide (n = 2) := by
    rw [hl0]
    by_cases h : n = 2
    · subst h; rfl
    · have : ¬ V.int (n : Int) = V.int 2 := fun z => h (by injection z with z; omega)
      rw [decide_eq_false h, decide_eq_false this]
  refine q_when (et_and (a := decide (n = 2)) (b := decide (absI (detM m + 1) ≤ absI (trM m))) (et_test (ev_is (ev_op (ev_lenT (ev_var rfl) (e4 _ _ (ee _ _ ha))) ev_c (rv_eq rfl)) (by rw [hb2]))) fun _ => et_test (ev_op (ev_abs (ev_var rfl)) (ev_abs (ev_op (ev_var rfl) ev_c rv_I0)) rv_I0)) (fun hb => absurd ?_ b1) fun _ H5 e5 => ?_
  · rw [Bool.and_eq_true] at hb
    exact ⟨hm.1.trans (of_decide_eq_true hb.1), of_decide_eq_true hb.2⟩
  · refine last [] H5 (e5 _ _ (e4 _ _ hl3)) (by decide) ((ee.trans e4).trans e5) fun v H6 e6 r => k v H6 e6 ?_
    unfold brkL
    rw [if_neg b0, if_neg b1, hm.1]
    exact r
end
end K13
namespace K13
open PySem PySem.Spec PyProof.Rows L2 Evl
section
variable {K : PySem.W.Frag}
theorem mulM_sq {n : Nat} {m o : Mx} (hm : Sq n m) (ho : Sq n o) (h0 : 0 < n) : Sq n (mulM m o) := by
  refine ⟨by unfold mulM; rw [List.length_map, hm.1], fun r hr => ?_⟩
  unfold mulM at hr
  obtain ⟨q, hq, rfl⟩ := List.mem_map.mp hr
  rw [List.length_map, (colsM_sq ho h0).1]
theorem adjM_sq {n : Nat} {m : Mx} (hm : Sq n m) : Sq n (adjM m) := by
  refine ⟨by unfold adjM; rw [List.length_map, List.length_range, hm.1], fun r hr => ?_⟩
  unfold adjM at hr
  obtain ⟨i, hi, rfl⟩ := List.mem_map.mp hr
  rw [List.length_map, List.length_range, hm.1]
theorem smB_of {m : Mx} (h : smB m = true) : ∀ r ∈ m, Sm r := fun r hr x hx => by
  unfold smB at h
  have h1 := List.all_eq_true.mp (List.all_eq_true.mp h r hr) x hx
  rw [Bool.and_eq_true] at h1
  exact ⟨of_decide_eq_true h1.1, of_decide_eq_true h1.2⟩
theorem p_stretching_of (vs : List V) (H : Hp) (Q : VK) (E : XK) (h : sp_stretching_of vs H Q E) : t_stretching_of K (En Q) (start ["matrix", "step", "whole", "many", "power", "bound"] vs) H := by
  obtain ⟨R, ⟨n, a, m, rfl, hmv, hok, rfl⟩, k⟩ := h
  have hok' := hok
  obtain ⟨hm, h1, h3, hen, d1, d2, d3, hbr, hgo, t1, t2⟩ := hok
  have hs : ∀ r ∈ m, Sm r := fun r hr x hx => by have := hen r hr x hx; omega
  refine q_when (b := false) (et_test (Ev.of (evp_op (P := isV (.bl false)) (Pa := fun v H' => NL H' v (brkL m)) (evp_callA (ea_cons (ev_var rfl) ea_nil) (spp_use fun H1 e => ⟨n, a, m, rfl, hmv.ex e, hok', rfl⟩)) fun x H1 e1 ⟨b, ex, hb⟩ => ⟨_, evp_lst ea_nil (by decide), fun y H2 e2 ⟨c, ey, hc0, hc⟩ => ?_⟩))) (fun z => by cases z) fun _ H1 e1 => ?_
  · subst ex ey
    rw [hbr] at hb
    intro H3 e3 Q q
    exact ⟨.list [], .list [], .lst (sq_of (e3 _ _ (e2 _ _ hb))) .nil, .lst (sq_of (e3 _ _ hc)) .nil, rfl, rfl, q _ H3 (Ex.refl H3) rfl⟩
  refine q_par3 (Pa := fun v H' => MxV H' v (adjM m)) (Pb := isV (.int (absI (detM m)))) (Pc := isV (.int 1)) ?_ (fun x H2 e2 _ => ?_) (fun x y H2 H3 e2 _ e3 _ => evp_of_ev ev_c) fun x y z H2 H3 H4 e2 hx e3 hy e4 hz => ?_
  · exact evp_callA (ea_cons (ev_var rfl) ea_nil) (spp_use fun H2 e => ⟨n, a, m, rfl, (hmv.ex e1).ex e, hm, h1, h3, hs, rfl⟩)
  · exact evp_of_ev (ev_abs (ev_callV (ea_cons (ev_var rfl) ea_nil) (spp_use fun H3 e => ⟨n, a, m, rfl, ((hmv.ex e1).ex e2).ex e, hm, by show n ≤ 3; omega, by omega, hs, by unfold detM; rw [hm.1]⟩)))
  obtain rfl : y = .int (absI (detM m)) := hy
  obtain rfl : z = .int 1 := hz
  have hx4 : MxV H4 x (adjM m) := (hx.ex e3).ex e4
  refine q_par (Pa := isV x) (Pb := isV (.int (absI (detM m)))) (evp_of_ev (ev_var rfl)) (fun _ _ _ _ => evp_of_ev (ev_var rfl)) fun x' y' H5 H6 e5 hx' e6 hy' => ?_
  obtain rfl : x' = x := hx'
  obtain rfl : y' = .int (absI (detM m)) := hy'
  have e16 : Ex H H6 := ((((e1.trans e2).trans e3).trans e4).trans e5).trans e6
  have hx6 : MxV H6 x' (adjM m) := (hx4.ex e5).ex e6
  have hsq := adjM_sq hm
  refine q_while (fun g σ' H' => ∃ (i : Int) (v : V) (p : Mx) (b : Int), σ' = [some a, some x', some (.int (absI (detM m))), some (.int i), some v, some (.int b)] ∧ Ex H6 H' ∧ MxV H' v p ∧ Sq n p ∧ strGo g p b (adjM m) (absI (detM m)) = true) 10 ⟨1, x', adjM m, absI (detM m), rfl, Ex.refl H6, hx6, hsq, hgo⟩ fun g σ' H' ⟨i, v, p, b, es, ek, hv, hp, hg⟩ => ?_
  subst es
  refine ⟨decide (b ≤ normM p), et_test (ev_op (ev_callV (ea_cons (ev_var rfl) ea_nil) (spp_use fun H7 e7 => ⟨n, v, p, rfl, hv.ex e7, hp, h1, by omega, rfl⟩)) (ev_var rfl) rv_I0), fun hb H7 e7 => ?_, fun _ H7 e7 => ?_⟩
  · have hlt := of_decide_eq_true hb
    obtain ⟨g', rfl, hsm, hg'⟩ : ∃ g', g = g' + 1 ∧ smB p = true ∧ strGo g' (mulM p (adjM m)) (b * absI (detM m)) (adjM m) (absI (detM m)) = true := by
      cases g with
      | zero =>
        have : normM p < b := of_decide_eq_true hg
        omega
      | succ g' =>
        have hg2 : (decide (normM p < b) || (smB p && strGo g' (mulM p (adjM m)) (b * absI (detM m)) (adjM m) (absI (detM m)))) = true := hg
        rw [decide_eq_false (by omega), Bool.false_or, Bool.and_eq_true] at hg2
        exact ⟨g', rfl, hg2.1, hg2.2⟩
    have hw : -(2 ^ 64) < absI (detM m) ∧ absI (detM m) < 2 ^ 64 := by
      unfold absI
      split <;> omega
    refine ⟨fun σ2 H2 => ∃ (i : Int) (v : V), σ2 = [some a, some x', some (.int (absI (detM m))), some (.int i), some v, some (.int (b * absI (detM m)))] ∧ Ex H6 H2 ∧ MxV H2 v (mulM p (adjM m)), fun σ2 H2 ⟨i2, v2, es, ek2, hv2⟩ => ⟨g', by omega, i2, v2, _, _, es, ek2, hv2, mulM_sq hp hsq (by omega), hg'⟩, ?_⟩
    refine s_par3 (Pa := fun v H' => MxV H' v (mulM p (adjM m))) (Pb := isV (.int (b * absI (detM m)))) (Pc := isV (.int (i + 1))) ?_ (fun _ _ _ _ => evp_of_ev (ev_op (ev_var rfl) (ev_var rfl) (rv_I (.inr hw)))) (fun _ _ _ _ _ _ _ _ => evp_of_ev (ev_op (ev_var rfl) ev_c rv_I0)) fun x2 y2 z2 H8 H9 H10 e8 hx2 e9 hy2 e10 hz2 => ?_
    · exact evp_callA (ea_cons (ev_var rfl) (ea_cons (ev_var rfl) ea_nil)) (spp_use fun H8 e8 => ⟨n, v, x', p, adjM m, rfl, (hv.ex e7).ex e8, ((hx6.ex ek).ex e7).ex e8, hp, hsq, by omega, by omega, smB_of hsm, rfl⟩)
    · obtain rfl : y2 = .int (b * absI (detM m)) := hy2
      obtain rfl : z2 = .int (i + 1) := hz2
      exact ⟨i + 1, x2, rfl, (((ek.trans e7).trans e8).trans e9).trans e10, (hx2.ex e9).ex e10⟩
  · exact ret_ev (v := .int i) (ev_var rfl) rfl fun v H8 e8 r => k v H8 (((e16.trans ek).trans e7).trans e8) ⟨i, r⟩
theorem p_check_writing_matrix (vs : List V) (H : Hp) (Q : VK) (E : XK) (h : sp_check_writing_matrix vs H Q E) : t_check_writing_matrix K (En Q) (start ["matrix", "row", "number"] vs) H := by
  obtain ⟨R, ⟨n, a, m, rfl, hmv, hok, rfl⟩, k⟩ := h
  have hok' := hok
  obtain ⟨hm, h1, h3, hen, d1, d2, d3, hbr, hgo, t1, t2⟩ := hok
  have hs : ∀ r ∈ m, Sm r := fun r hr x hx => by have := hen r hr x hx; omega
  refine q_drop (v := .non) (ev_callV (ea_cons (ev_var rfl) ea_nil) (spp_use fun H1 e => ⟨n, a, m, rfl, hmv.ex e, hm, h1, h3, rfl⟩)) fun H1 e1 => ?_
  obtain ⟨a', as, rfl, ha, has⟩ := hmv
  have hi := evf_tup (K := K) (mu := []) (σ := [some (.ref a'), none, none]) (tl := tVar 0) (ev_var rfl) (e1 _ _ ha)
  rw [List.length_map, has.len] at hi
  refine q_forF hi (fun i σ' H' => ∃ x, σ' = [some (.ref a'), x, none]) (fun _ _ _ _ _ q => q) ⟨none, rfl⟩ (fun B i x σ' H' hin eB kp ⟨y, es⟩ hx => ?_) fun σ' H' kp ⟨y, es⟩ => ?_
  · subst es
    have ek : Ex H H' := fun c o hc => kp.1 c o (by simp) (eB c o (e1 c o hc))
    rw [List.getElem?_map] at hx
    cases ea : as[i]? with
    | none =>
      rw [ea] at hx
      cases hx
    | some c =>
      rw [ea] at hx
      obtain rfl := Option.some.inj hx
      obtain ⟨r, hr, hc⟩ := has.get ea
      have hrm := List.mem_of_getElem? hr
      refine s_when (b := false) (et_test (Ev.of (evp_op (P := isV (.bl false)) (Pa := fun v H' => ∃ D, v = .ref D ∧ H' D = some (.lst [])) (fun H2 e2 Q q => ?_) fun x H2 e2 ⟨b, ex, hb⟩ => ⟨_, evp_lst ea_nil (by decide), fun y H3 e3 ⟨d, ey, hd0, hd⟩ => ?_⟩))) (fun z => by cases z) fun _ H2 e2 => ⟨⟨_, rfl⟩, kp.trans (Kp.ex e2)⟩
      · have hi2 := evi_tup (K := K) (σ := [some (V.ref a'), some (.ref c), none]) (tl := tVar 1) (ev_var rfl) (st_of (ek _ _ hc))
        rw [List.length_map] at hi2
        refine el_none hi2 (by rw [hm.2 r hrm]; exact Nat.le_of_lt (szl _)) (fun j x H3 hj e3 hx => ?_) H2 e2 Q fun D H3 h0 e3 hD => q _ _ e3 ⟨D, rfl, hD⟩
        obtain ⟨rfl, hj2⟩ := pt_get hx
        have he := hen r hrm _ (getD_mem hj2 0)
        refine ⟨_, fun Q q => q, rfl, et_is (et_not (et_B (ev_callV (z := .bl true) (ea_cons (ev_var rfl) (ea_cons (ev_un ev_c ru_neg) (ea_cons ev_c ea_nil))) (spp_use fun H4 _ => ⟨_, _, _, rfl, ?_⟩)))) rfl⟩
        rw [decide_eq_true he]
      · subst ex ey
        intro H4 e4 Q q
        exact ⟨.list [], .list [], .lst (sq_of (e4 _ _ (e3 _ _ hb))) .nil, .lst (sq_of (e4 _ _ hd)) .nil, rfl, rfl, q _ H4 (Ex.refl H4) rfl⟩
  · subst es
    have ek : Ex H H' := fun c o hc => kp.1 c o (by simp) (e1 c o hc)
    refine q_when (b := false) (et_test (Ev.of (evp_op (P := isV (.bl false)) (Pa := fun v _ => ∃ i : Int, v = .int i) (evp_callA (ea_cons (ev_var rfl) ea_nil) (spp_use fun H2 e2 => ⟨n, _, m, rfl, ⟨a', as, rfl, e2 _ _ (ek _ _ ha), (has.ex ek).ex e2⟩, hok', rfl⟩)) fun x H2 e2 ⟨i, ex⟩ => ⟨_, evp_of_ev ev_c, fun y H3 e3 hy => ?_⟩))) (fun z => by cases z) fun _ H2 e2 => ?_
    · subst ex
      obtain rfl : y = .non := hy
      intro H4 e4 Q q
      exact ⟨rfl, q _ H4 (Ex.refl H4) rfl⟩
    · have hw : absI (detM m) ≤ 12 := by
        unfold absI
        split <;> omega
      refine s_when (b := false) (et_test (ev_is (ev_op (ev_abs (ev_callV (z := .int (detM m)) (ea_cons (ev_var rfl) ea_nil) (spp_use fun H3 e => ⟨n, _, m, rfl, ⟨a', as, rfl, e _ _ (e2 _ _ (ek _ _ ha)), ((has.ex ek).ex e2).ex e⟩, hm, by show n ≤ 3; omega, by omega, hs, by unfold detM; rw [hm.1]⟩))) ev_c rv_I0) (by rw [decide_eq_false (by omega)]))) (fun z => by cases z) fun _ H3 e3 => k _ H3 ((ek.trans e2).trans e3) rfl
end
end K13
namespace K13
open PySem PySem.Spec PyProof.Rows L2 Evl
/-- a way to write points -/
structure Way where
  n : Nat
  m : Mx
  ds : List Pt
def Way.A (w : Way) : Mx := adjM w.m
def Way.D (w : Way) : Int := detM w.m
def restsP (p : Pt) (d : Int) : Pt := p.map fun x => x.fmod d
def Way.key (w : Way) (p : Pt) : Pt := restsP (movM w.A p) w.D
def Way.num (w : Way) (p : Pt) : Nat := (w.ds.map w.key).idxOf (w.key p)
def Way.dig (w : Way) (p : Pt) : Pt := w.ds.getD (w.num p) []
def divP (a b : Pt) (d : Int) : Pt := List.zipWith (fun x y => (x - y).fdiv d) a b
def Way.rest (w : Way) (p : Pt) : Pt := divP (movM w.A p) (movM w.A (w.dig p)) w.D
def Way.orb (w : Way) (p : Pt) : Nat → Pt
  | 0 => p
  | k + 1 => w.rest (w.orb p k)
structure Way.Ok (w : Way) : Prop where
  mok : Mok w.n w.m
  asm : ∀ r ∈ w.A, Sm r
  cnt : w.ds.length = w.D.natAbs
  len : ∀ d ∈ w.ds, d.length = w.n
  nd : (w.ds.map w.key).Nodup
  zer : w.ds.head? = some (zeroP w.n)
  all : ∀ p : Pt, p.length = w.n → w.key p ∈ w.ds.map w.key
/-- the orbit of p comes back within 20000 steps -/
def Way.Per (w : Way) (p : Pt) : Prop := ∃ i j, i < j ∧ j < 20000 ∧ w.orb p i = w.orb p j
/-- p has a row: its orbit reaches a point that stays by digit 0 -/
def Way.Row (w : Way) (p : Pt) : Prop := ∃ i, w.orb p (i + 1) = w.orb p i ∧ w.num (w.orb p i) = 0
def Way.carries (w : Way) (p : Pt) : List Pt := w.ds.map fun d => w.rest (addP p d)
def Way.Closed (w : Way) (S : List Pt) : Prop := ∀ p ∈ S, ∀ q ∈ w.carries p, q ∈ S
/-- the least closed list -/
structure Way.Least (w : Way) (P F : List Pt) : Prop where
  nd : F.Nodup
  sub : ∀ p ∈ P, p ∈ F
  closed : w.Closed F
  least : ∀ S, w.Closed S → (∀ p ∈ P, p ∈ S) → ∀ p ∈ F, p ∈ S
/-- more than 600 points are met -/
def Way.Big (w : Way) (P : List Pt) : Prop := ∃ F : List Pt, F.Nodup ∧ 600 < F.length ∧ ∀ S, w.Closed S → (∀ p ∈ P, p ∈ S) → ∀ p ∈ F, p ∈ S
def numK (ks : List Pt) : List (List Key × V) := (List.range ks.length).map fun i => ((ks.getD i []).map Sum.inl, V.int (i : Int))
abbrev Lk (fs : List (Str × V)) (f : Str) : Option V := fs.lookup f
/-- an instance of Writing -/
def Wr (C : Addr) (H : Hp) (v : V) (w : Way) : Prop := ∃ (a dx : Addr) (fs : List (Str × V)) (x1 x2 x4 x6 : V) (d : Addr), v = .ref a ∧ H a = some (.ins C dx fs) ∧ Lk fs "_matrix" = some x1 ∧ MxV H x1 w.m ∧ Lk fs "_adjugate" = some x2 ∧ MxV H x2 w.A ∧
  Lk fs "_whole" = some (.int w.D) ∧ Lk fs "_led" = some x4 ∧ MxV H x4 (w.ds.map (movM w.A)) ∧ Lk fs "_numbers" = some (.ref d) ∧ H d = some (.dT (numK (w.ds.map w.key))) ∧ Lk fs "_digits" = some x6 ∧ MxV H x6 w.ds ∧ ∀ f : Str, f ∉ wFields → Lk fs f = none
theorem Wr.ex {C : Addr} {H H' : Hp} {v : V} {w : Way} (h : Wr C H v w) (e : Evl.Ex H H') : Wr C H' v w := by
  obtain ⟨a, dx, fs, x1, x2, x4, x6, d, h0, h1, h2, h3, h4, h5, h6, h7, h8, h9, h10, h11, h12, h13⟩ := h
  exact ⟨a, dx, fs, x1, x2, x4, x6, d, h0, e _ _ h1, h2, h3.ex e, h4, h5.ex e, h6, h7, h8.ex e, h9, e _ _ h10, h11, h12.ex e, h13⟩
section
variable (C : Addr)
def sp_numbers_of_keys : Sp := spP fun vs H R => ∃ (v : V) (ks : List Pt), vs = [v] ∧ PLV H v ks ∧ ks.Nodup ∧ ks.length ≤ 1000 ∧ R = fun v H' => ∃ d, v = .ref d ∧ H' d = some (.dT (numK ks))
def sp_rests_by : Sp := spP fun vs H R => ∃ (v : V) (p : Pt) (d : Int), vs = [v, .int d] ∧ PtV H v p ∧ d ≠ 0 ∧ p.length ≤ 1000 ∧ R = fun v H' => PtV H' v (restsP p d)
def sp_check_writing : Sp := spP fun vs H R => ∃ (v : V) (w : Way), vs = [v] ∧ Wr C H v w ∧ R = isV .non
def sp_Wdigits : Sp := spP fun vs H R => ∃ (v : V) (w : Way), vs = [v] ∧ Wr C H v w ∧ w.Ok ∧ R = fun v H' => ∃ l, v = .ref l ∧ H l = none ∧ ∃ as : List Addr, H' l = some (.lst (as.map V.ref)) ∧ Pts H' as w.ds
def sp_Wsize : Sp := spP fun vs H R => ∃ (v : V) (w : Way), vs = [v] ∧ Wr C H v w ∧ w.Ok ∧ R = isV (.int w.n)
def sp_Wparted : Sp := spP fun vs H R => ∃ (v x : V) (w : Way) (p : Pt), vs = [v, x] ∧ Wr C H v w ∧ w.Ok ∧ PtV H x p ∧ p.length = w.n ∧ R = fun v H' => ∃ t b, v = .ref t ∧ H' t = some (.tup [.int (w.num p : Int), .ref b]) ∧ PtA H' b (w.rest p)
def sp_digit_and_rest : Sp := sp_Wparted C
/-- from the new object, the matrix, the digits -/
def sp_Winit : Sp := fun vs H Q _ => ∃ (a dx : Addr) (x y : V) (w : Way), vs = [.ref a, x, y] ∧ H a = some (.ins C dx []) ∧ MxV H x w.m ∧ PLV H y w.ds ∧ y ≠ .ref a ∧ w.Ok ∧ ∀ H', (∀ b o, b ≠ a → H b = some o → H' b = some o) → Wr C H' (.ref a) w → Q .non H'
def sp_walked : Sp := spP fun vs H R => ∃ (v x : V) (w : Way) (p : Pt), vs = [v, x] ∧ Wr C H v w ∧ w.Ok ∧ PtV H x p ∧ p.length = w.n ∧ w.Per p ∧
  R = fun v H' => ∃ t l i j, v = .ref t ∧ H' t = some (.tup [.ref l, .int (i : Nat)]) ∧ H' l = some (.lst (((List.range j).map fun k => (w.num (w.orb p k) : Int)).map V.int)) ∧ i < j ∧ w.orb p i = w.orb p j ∧ ∀ a b, a < b → b < j → w.orb p a ≠ w.orb p b
def sp_row_or_none : Sp := spP fun vs H R => ∃ (v x : V) (w : Way) (p : Pt), vs = [v, x] ∧ Wr C H v w ∧ w.Ok ∧ PtV H x p ∧ p.length = w.n ∧ w.Per p ∧ R = fun v _ => (v = .non ∧ ¬ w.Row p) ∨ ((∃ a, v = .ref a) ∧ w.Row p)
def sp_carries_of : Sp := spP fun vs H R => ∃ (v x : V) (w : Way) (p : Pt), vs = [v, x] ∧ Wr C H v w ∧ w.Ok ∧ PtV H x p ∧ p.length = w.n ∧ R = fun v H' => ∃ l, v = .ref l ∧ H l = none ∧ ∃ as : List Addr, H' l = some (.lst (as.map V.ref)) ∧ Pts H' as (w.carries p)
/-- an error of the class TooMany (at Ct) with the value 601, its own dict at d -/
def TM (Ct : Addr) (cls : Value) (d : Option Addr) (H : Hp) : Prop := cls = .ref Ct ∧ ∃ b, d = some b ∧ H b = some (.xd [("value", .int 601)])
def sp_closed_of (Ct : Addr) : Sp := fun vs H Q E => ∃ (v x : V) (w : Way) (P : List Pt), vs = [v, x] ∧ Wr C H v w ∧ w.Ok ∧ PLV H x P ∧ (∀ p ∈ P, p.length = w.n) ∧ P.length ≤ 12 ∧ P.Nodup ∧ 0 < w.n ∧
  (∀ v' H' F, Ex H H' → w.Least P F → F.length ≤ 600 → PLV H' v' F → Q v' H') ∧ ∀ cls d H', Ex H H' → w.Big P → TM Ct cls d H' → E cls d H'
def sp_closed_unit_points (Ct : Addr) : Sp := fun vs H Q E => ∃ (v : V) (w : Way), vs = [v] ∧ Wr C H v w ∧ w.Ok ∧
  (∀ v' H' F, Ex H H' → w.Least (unitsL w.n) F → F.length ≤ 600 → PLV H' v' F → Q v' H') ∧ ∀ cls d H', Ex H H' → w.Big (unitsL w.n) → TM Ct cls d H' → E cls d H'
def sp_first_rowless : Sp := spP fun vs H R => ∃ (v x : V) (w : Way) (ps : List Pt), vs = [v, x] ∧ Wr C H v w ∧ w.Ok ∧ PLV H x ps ∧ ps.length ≤ 100000 ∧ (∀ p ∈ ps, p.length = w.n ∧ w.Per p) ∧
  R = fun v _ => (v = .non ∧ ∀ p ∈ ps, w.Row p) ∨ ((∃ a, v = .ref a) ∧ ∃ p ∈ ps, ¬ w.Row p)
/-- the cube of the numbers -b .. b, in order -/
def cubeL (n : Nat) (b : Nat) : List Pt := match n with
  | 0 => [[]]
  | n + 1 => (cubeL n b).flatMap fun p => (List.range (2 * b + 1)).map fun (j : Nat) => p ++ [(j : Int) - (b : Int)]
def sp_points_of_cube : Sp := spP fun vs H R => ∃ n b : Nat, vs = [.int n, .int b] ∧ n ≤ 3 ∧ (2 * b + 1) ^ n ≤ 16000000 ∧ R = fun v H' => ∃ l, v = .ref l ∧ H l = none ∧ ∃ as : List Addr, H' l = some (.lst (as.map V.ref)) ∧ Pts H' as (cubeL n b)
/-- what the rows of a way's closed list, and of the cubes up to B, need -/
structure Way.Fine (w : Way) (B : Nat) : Prop where
  ok : w.Ok
  zero : ∀ q : Pt, q.length = w.n → w.rest q = q → w.num q = 0 → q = zeroP w.n
  near : ∀ F, w.Least (unitsL w.n) F → ∀ p ∈ F, p.length = w.n ∧ ∃ b, 0 < b ∧ b ≤ B ∧ p ∈ cubeL w.n b
  big : (2 * B + 1) ^ w.n ≤ 16000000
  pen : ∃ Z : List Pt, Z.length ≤ 16000000 ∧ (∀ b, b ≤ B → ∀ p ∈ cubeL w.n b, p ∈ Z) ∧ (∀ p ∈ Z, p.length = w.n ∧ w.rest p ∈ Z) ∧ zeroP w.n ∈ Z
def sp_all_have_rows (Ct : Addr) : Sp := fun vs H Q E => ∃ (v : V) (w : Way) (B : Nat), vs = [v] ∧ Wr C H v w ∧ w.Fine B ∧
  (∀ H' F b, Ex H H' → w.Least (unitsL w.n) F → F.length ≤ 600 → (b = true ↔ ∀ p ∈ F, w.Row p) → Q (.bl b) H') ∧ ∀ cls d H', Ex H H' → w.Big (unitsL w.n) → TM Ct cls d H' → E cls d H'
/-- the first rowless point of the least shell -/
def Way.First (w : Way) (p : Pt) : Prop := ∃ b : Nat, ¬ w.Row p ∧ (∃ l r, cubeL w.n b = l ++ p :: r ∧ ∀ q ∈ l, w.Row q) ∧ ∀ c, 0 < c → c < b → ∀ q ∈ cubeL w.n c, w.Row q
def sp_first_without_row (Ct : Addr) : Sp := fun vs H Q E => ∃ (v : V) (w : Way) (B : Nat), vs = [v] ∧ Wr C H v w ∧ w.Fine B ∧
  (∀ H' F, Ex H H' → w.Least (unitsL w.n) F → F.length ≤ 600 → (∀ p ∈ F, w.Row p) → Q .non H') ∧
  (∀ v' H' F p, Ex H H' → w.Least (unitsL w.n) F → F.length ≤ 600 → (∃ q ∈ F, ¬ w.Row q) → w.First p → PtV H' v' p → Q v' H') ∧ ∀ cls d H', Ex H H' → w.Big (unitsL w.n) → TM Ct cls d H' → E cls d H'
end
end K13
namespace K13
open PySem PySem.Spec PyProof.Rows L2 Evl
section
variable {P : Program} {w : World} {K : PySem.W.Frag} {mg : Str → Option Value} {base : Heap} {C Ct : Addr}
theorem sc_numbers_of_keys : FnScope ["keys", "number", "key"] ["keys"] (defScope (top 37)) := ⟨rfl, rfl, rfl, by decide +kernel, rfl, by decide +kernel, by decide +kernel⟩
def t_numbers_of_keys (K : PySem.W.Frag) : TS :=
    (tRet (tDcT (iEnum K (tCons (tVar 0) tNil)) (gTup K 2 (gCons (gName 1) (gCons (gName 2) gNil))) tYes (tVar 2) (tVar 1) [1, 2]))
theorem d_numbers_of_keys (G : Glo K mg C)  {f : Addr} {cdv : Value} {A : Around} {outer : List Env} {s : Shared} {H : Hp} {E : XK} (hr : Room 0 (A.deeper (envOfC "numbers_of_keys" (defScope (top 37)) s.heap.objs.size f cdv))) :
    PSs (cxOf (L2.CX P w) P w K mg base ["keys", "number", "key"] "numbers_of_keys" (defScope (top 37)) f cdv A outer s H E).nox (defBody (top 37)) (t_numbers_of_keys K) :=
    (pss_one (ps_ret (pe_dcT (own := [("number", 1), ("key", 2)]) (hu_of hr) rfl sc_numbers_of_keys.nd (piEnumL K rfl (by rfl) G.g_enumerate (pa_cons (pv 0) pa_nil)) (blkOk_by (N := ["keys", "number", "key"]) (sc := defScope (top 37)) (by decide +kernel)) (fun _ _ _ _ _ => (pgT K rfl rfl (pgs_cons (pg_name (i := 1) sc_numbers_of_keys.nd rfl (by first | exact .inl rfl | exact .inr rfl)) (pgs_cons (pg_name (i := 2) sc_numbers_of_keys.nd rfl (by first | exact .inl rfl | exact .inr rfl)) pgs_nil)))) (fun _ _ _ _ _ => pts_nil) (fun _ _ _ _ _ => (pv 2)) (fun _ _ _ _ _ => (pv 1)))))
theorem sc_rests_by : FnScope ["point", "whole", "number"] ["point", "whole"] (defScope (top 38)) := ⟨rfl, rfl, rfl, by decide +kernel, rfl, by decide +kernel, by decide +kernel⟩
def t_rests_by (K : PySem.W.Frag) : TS :=
    (tRet (tCB (rTup K) (tCons (tLc (iTup K (tVar 0)) (gName 2) tYes (tOp (rI (fun _ j => j ≠ 0) fun i j => .int (i.fmod j)) (tVar 2) (tVar 1)) [2]) tNil)))
theorem d_rests_by (G : Glo K mg C)  {f : Addr} {cdv : Value} {A : Around} {outer : List Env} {s : Shared} {H : Hp} {E : XK} (hr : Room 0 (A.deeper (envOfC "rests_by" (defScope (top 38)) s.heap.objs.size f cdv))) :
    PSs (cxOf (L2.CX P w) P w K mg base ["point", "whole", "number"] "rests_by" (defScope (top 38)) f cdv A outer s H E).nox (defBody (top 38)) (t_rests_by K) :=
    (pss_one (ps_ret (pe_callTy (cTupK K rfl) (by rfl) G.g_tuple boot_tuple (pa_cons (pe_lc (own := [("number", 2)]) rfl sc_rests_by.nd (piT K rfl (pv 0)) (blkOk_by (N := ["point", "whole", "number"]) (sc := defScope (top 38)) (by decide +kernel)) (fun _ _ _ _ _ => (pg_name (i := 2) sc_rests_by.nd rfl (by first | exact .inl rfl | exact .inr rfl))) (fun _ _ _ _ _ => pts_nil) (fun _ _ _ _ _ => (pe_op op_modN (pv 2) (pv 1)))) pa_nil))))
theorem sc_Wdigits : FnScope ["self"] ["self"] (defScope (inClass (top 39) 2)) := ⟨rfl, rfl, rfl, by decide +kernel, rfl, by decide +kernel, by decide +kernel⟩
def t_Wdigits (K : PySem.W.Frag) : TS :=
    (tRet (tCB (rListS K) (tCons (tFld K (tVar 0) "_digits") tNil)))
theorem d_Wdigits (G : Glo K mg C)  {f : Addr} {cdv : Value} {A : Around} {outer : List Env} {s : Shared} {H : Hp} {E : XK} (hr : Room 0 (A.deeper (envOfC "Writing.digits" (defScope (inClass (top 39) 2)) s.heap.objs.size f cdv))) :
    PSs (cxOf (L2.CX P w) P w K mg base ["self"] "Writing.digits" (defScope (inClass (top 39) 2)) f cdv A outer s H E).nox (defBody (inClass (top 39) 2)) (t_Wdigits K) :=
    (pss_one (ps_ret (pe_callTy (cListK K rfl) (by rfl) G.g_list boot_list (pa_cons (pe_fldK K rfl (pv 0) rfl) pa_nil))))
theorem sc_Wsize : FnScope ["self"] ["self"] (defScope (inClass (top 39) 3)) := ⟨rfl, rfl, rfl, by decide +kernel, rfl, by decide +kernel, by decide +kernel⟩
def t_Wsize (K : PySem.W.Frag) : TS :=
    (tRet (tCB (rLenS K) (tCons (tFld K (tVar 0) "_matrix") tNil)))
theorem d_Wsize (G : Glo K mg C)  {f : Addr} {cdv : Value} {A : Around} {outer : List Env} {s : Shared} {H : Hp} {E : XK} (hr : Room 0 (A.deeper (envOfC "Writing.size" (defScope (inClass (top 39) 3)) s.heap.objs.size f cdv))) :
    PSs (cxOf (L2.CX P w) P w K mg base ["self"] "Writing.size" (defScope (inClass (top 39) 3)) f cdv A outer s H E).nox (defBody (inClass (top 39) 3)) (t_Wsize K) :=
    (pss_one (ps_ret (pe_callB (cLenK K rfl) (by rfl) G.g_len boot_len (pa_cons (pe_fldK K rfl (pv 0) rfl) pa_nil))))
theorem sc_Wparted : FnScope ["self", "point", "led", "number", "item", "less"] ["self", "point"] (defScope (inClass (top 39) 6)) := ⟨rfl, rfl, rfl, by decide +kernel, rfl, by decide +kernel, by decide +kernel⟩
def t_Wparted (K : PySem.W.Frag) : TS :=
    (tSeq (tAsg (tCall sp_moved_by [] E0 (tCons (tFld K (tVar 0) "_adjugate") (tCons (tVar 1) tNil))) (gName 2))
    (tSeq (tAsg (tDGet (tFld K (tVar 0) "_numbers") (tCall sp_rests_by [] E0 (tCons (tVar 2) (tCons (tFld K (tVar 0) "_whole") tNil)))) (gName 3))
    (tRet (tTup (tCons (tVar 3) (tCons (tCB (rTup K) (tCons (tLc (iZipS K (tCons (tVar 2) (tCons (tOp (rIxT K) (tFld K (tVar 0) "_led") (tVar 3)) tNil)) (tCons (tC (.bl true)) tNil)) (gTup K 2 (gCons (gName 4) (gCons (gName 5) gNil))) tYes (tOp (rI CDivN fun i j => .int (i.fdiv j)) (tOp (rI0 fun i j => .int (i - j)) (tVar 4) (tVar 5)) (tFld K (tVar 0) "_whole")) [4, 5]) tNil)) tNil))))))
theorem d_Wparted (G : Glo K mg C) (c_moved_by : Fn P w K mg base (L2.CX P w) 2 "moved_by" ["matrix", "point"] sp_moved_by) (c_rests_by : Fn P w K mg base (L2.CX P w) 1 "rests_by" ["point", "whole"] sp_rests_by) {f : Addr} {cdv : Value} {A : Around} {outer : List Env} {s : Shared} {H : Hp} {E : XK} (hr : Room 2 (A.deeper (envOfC "Writing._parted" (defScope (inClass (top 39) 6)) s.heap.objs.size f cdv))) :
    PSs (cxOf (L2.CX P w) P w K mg base ["self", "point", "led", "number", "item", "less"] "Writing._parted" (defScope (inClass (top 39) 6)) f cdv A outer s H E).nox (defBody (inClass (top 39) 6)) (t_Wparted K) :=
    (pss_cons (ps_set (i := 2) sc_Wparted.nd rfl (by first | exact .inl rfl | exact .inr rfl) (pe_f c_moved_by hr (by decide) passL (by rfl) (pa_cons (pe_fldK K rfl (pv 0) rfl) (pa_cons (pv 1) pa_nil))))
    (pss_cons (ps_set (i := 3) sc_Wparted.nd rfl (by first | exact .inl rfl | exact .inr rfl) (pe_dget (hu_of hr) (pe_fldK K rfl (pv 0) rfl) (pe_f c_rests_by hr (by decide) passL (by rfl) (pa_cons (pv 2) (pa_cons (pe_fldK K rfl (pv 0) rfl) pa_nil))) (fun _ _ => rfl)))
    (pss_one (ps_ret (pe_tup (pa_cons (pv 3) (pa_cons (pe_callTy (cTupK K rfl) (by rfl) G.g_tuple boot_tuple (pa_cons (pe_lc (own := [("item", 4), ("less", 5)]) rfl sc_Wparted.nd (piZipS K rfl (by rfl) G.g_zip (pa_cons (pv 2) (pa_cons (pe_ix (ixT K rfl) (pe_fldK K rfl (pv 0) rfl) (pv 3) (fun _ _ => rfl)) pa_nil)) (pk_cons pe_bl pk_nil)) (blkOk_by (N := ["self", "point", "led", "number", "item", "less"]) (sc := defScope (inClass (top 39) 6)) (by decide +kernel)) (fun _ _ _ _ _ => (pgT K rfl rfl (pgs_cons (pg_name (i := 4) sc_Wparted.nd rfl (by first | exact .inl rfl | exact .inr rfl)) (pgs_cons (pg_name (i := 5) sc_Wparted.nd rfl (by first | exact .inl rfl | exact .inr rfl)) pgs_nil)))) (fun _ _ _ _ _ => pts_nil) (fun _ _ _ _ _ => (pe_op op_fdivN (pe_op op_sub (pv 4) (pv 5)) (pe_fldK K rfl (pv 0) rfl)))) pa_nil)) pa_nil)))))))
theorem sc_Winit : FnScope ["self", "matrix", "digits", "digit", "point"] ["self", "matrix", "digits"] (defScope (inClass (top 39) 0)) := ⟨rfl, rfl, rfl, by decide +kernel, rfl, by decide +kernel, by decide +kernel⟩
def t_Winit (K : PySem.W.Frag) : TS :=
    (tSeq (tDrop (tCall sp_check_writing_matrix [] E0 (tCons (tVar 1) tNil)))
    (tSeq (sFld K (tVar 0) (tVar 1) "_matrix")
    (tSeq (sFld K (tVar 0) (tCall sp_adjugate_of [] E0 (tCons (tVar 1) tNil)) "_adjugate")
    (tSeq (sFld K (tVar 0) (tCall (sp_detF 4) [] E0 (tCons (tVar 1) tNil)) "_whole")
    (tSeq (tIfS (tOr (tNot (tB (tCall sp_are_points [] E0 (tCons (tCB (rLenS K) (tCons (tVar 1) tNil)) (tCons (tVar 2) tNil))))) (tTest (tOp rNe (tCB (rLenS K) (tCons (tVar 2) tNil)) (tCB rAbs1 (tCons (tFld K (tVar 0) "_whole") tNil))))) tNever tNext)
    (tSeq (sFld K (tVar 0) (tCB (rTup K) (tCons (tLc (iList K (tVar 2)) (gName 3) tYes (tCall sp_moved_by [] E0 (tCons (tFld K (tVar 0) "_adjugate") (tCons (tVar 3) tNil))) [3]) tNil)) "_led")
    (tSeq (sFld K (tVar 0) (tCall sp_numbers_of_keys [] E0 (tCons (tLc (iTup K (tFld K (tVar 0) "_led")) (gName 4) tYes (tCall sp_rests_by [] E0 (tCons (tVar 4) (tCons (tFld K (tVar 0) "_whole") tNil))) [4]) tNil)) "_numbers")
    (tSeq (tIfS (tOr (tTest (tOp rNe (tCB rLenT (tCons (tFld K (tVar 0) "_numbers") tNil)) (tCB (rLenS K) (tCons (tVar 2) tNil)))) (tTest (tOp (rNeD K) (tOp (rIxL K) (tVar 2) (tC (.int 0))) (tCall sp_zero_point [] E0 (tCons (tCB (rLenS K) (tCons (tVar 1) tNil)) tNil))))) tNever tNext)
    (sFld K (tVar 0) (tCB (rTup K) (tCons (tVar 2) tNil)) "_digits")))))))))
theorem d_Winit (G : Glo K mg C) (c_check_writing_matrix : Fn P w K mg base (L2.CX P w) 8 "check_writing_matrix" ["matrix"] sp_check_writing_matrix) (c_adjugate_of : Fn P w K mg base (L2.CX P w) 6 "adjugate_of" ["matrix"] sp_adjugate_of) (c_determinant_of : Fn P w K mg base (L2.CX P w) 5 "determinant_of" ["matrix"] (sp_detF 4)) (c_are_points : Fn P w K mg base (L2.CX P w) 3 "are_points" ["size", "value"] sp_are_points) (c_moved_by : Fn P w K mg base (L2.CX P w) 2 "moved_by" ["matrix", "point"] sp_moved_by) (c_rests_by : Fn P w K mg base (L2.CX P w) 1 "rests_by" ["point", "whole"] sp_rests_by) (c_numbers_of_keys : Fn P w K mg base (L2.CX P w) 1 "numbers_of_keys" ["keys"] sp_numbers_of_keys) (c_zero_point : Fn P w K mg base (L2.CX P w) 1 "zero_point" ["size"] sp_zero_point) {f : Addr} {cdv : Value} {A : Around} {outer : List Env} {s : Shared} {H : Hp} {E : XK} (hr : Room 8 (A.deeper (envOfC "Writing.__init__" (defScope (inClass (top 39) 0)) s.heap.objs.size f cdv))) :
    PSs (cxOf (L2.CX P w) P w K mg base ["self", "matrix", "digits", "digit", "point"] "Writing.__init__" (defScope (inClass (top 39) 0)) f cdv A outer s H E).nox (defBody (inClass (top 39) 0)) (t_Winit K) :=
    (pss_cons (ps_expr (pe_f c_check_writing_matrix hr (by decide) passL (by rfl) (pa_cons (pv 1) pa_nil)))
    (pss_cons (ps_fldK K rfl (pv 0) (pv 1) rfl)
    (pss_cons (ps_fldK K rfl (pv 0) (pe_f c_adjugate_of hr (by decide) passL (by rfl) (pa_cons (pv 1) pa_nil)) rfl)
    (pss_cons (ps_fldK K rfl (pv 0) (pe_f c_determinant_of hr (by decide) passL (by rfl) (pa_cons (pv 1) pa_nil)) rfl)
    (pss_cons (ps_if (PW.pt (pt_or (pt_not (pt_val (pe_f c_are_points hr (by decide) passL (by rfl) (pa_cons (pe_callB (cLenK K rfl) (by rfl) G.g_len boot_len (pa_cons (pv 1) pa_nil)) (pa_cons (pv 2) pa_nil))))) (pt_or1 (pt_cmpR op_ne (pe_callB (cLenK K rfl) (by rfl) G.g_len boot_len (pa_cons (pv 2) pa_nil)) (pe_callB call_abs1 (by rfl) G.g_abs boot_abs (pa_cons (pe_fldK K rfl (pv 0) rfl) pa_nil)) (nomark _))))) (pss_one ps_never) pss_nil)
    (pss_cons (ps_fldK K rfl (pv 0) (pe_callTy (cTupK K rfl) (by rfl) G.g_tuple boot_tuple (pa_cons (pe_lc (own := [("digit", 3)]) rfl sc_Winit.nd (piL K rfl (pv 2)) (blkOk_by (N := ["self", "matrix", "digits", "digit", "point"]) (sc := defScope (inClass (top 39) 0)) (by decide +kernel)) (fun _ _ _ _ _ => (pg_name (i := 3) sc_Winit.nd rfl (by first | exact .inl rfl | exact .inr rfl))) (fun _ _ _ _ _ => pts_nil) (fun _ _ _ _ _ => (pe_f c_moved_by hr (by decide) passL (by rfl) (pa_cons (pe_fldK K rfl (pv 0) rfl) (pa_cons (pv 3) pa_nil))))) pa_nil)) rfl)
    (pss_cons (ps_fldK K rfl (pv 0) (pe_f c_numbers_of_keys hr (by decide) passL (by rfl) (pa_cons (pe_lc (own := [("point", 4)]) rfl sc_Winit.nd (piT K rfl (pe_fldK K rfl (pv 0) rfl)) (blkOk_by (N := ["self", "matrix", "digits", "digit", "point"]) (sc := defScope (inClass (top 39) 0)) (by decide +kernel)) (fun _ _ _ _ _ => (pg_name (i := 4) sc_Winit.nd rfl (by first | exact .inl rfl | exact .inr rfl))) (fun _ _ _ _ _ => pts_nil) (fun _ _ _ _ _ => (pe_f c_rests_by hr (by decide) passL (by rfl) (pa_cons (pv 4) (pa_cons (pe_fldK K rfl (pv 0) rfl) pa_nil))))) pa_nil)) rfl)
    (pss_cons (ps_if (PW.pt (pt_or (pt_cmpR op_ne (pe_callB call_len_dT (by rfl) G.g_len boot_len (pa_cons (pe_fldK K rfl (pv 0) rfl) pa_nil)) (pe_callB (cLenK K rfl) (by rfl) G.g_len boot_len (pa_cons (pv 2) pa_nil)) (nomark _)) (pt_or1 (pt_cmpR (neDK K rfl hr.units) (pe_ix (ixL K rfl) (pv 2) pe_int (fun _ _ => rfl)) (pe_f c_zero_point hr (by decide) passL (by rfl) (pa_cons (pe_callB (cLenK K rfl) (by rfl) G.g_len boot_len (pa_cons (pv 1) pa_nil)) pa_nil)) (nomark _))))) (pss_one ps_never) pss_nil)
    (pss_one (ps_fldK K rfl (pv 0) (pe_callTy (cTupK K rfl) (by rfl) G.g_tuple boot_tuple (pa_cons (pv 2) pa_nil)) rfl))))))))))
theorem sc_check_writing : FnScope ["writing"] ["writing"] (defScope (top 40)) := ⟨rfl, rfl, rfl, by decide +kernel, rfl, by decide +kernel, by decide +kernel⟩
def t_check_writing (K : PySem.W.Frag) (C : Addr) : TS :=
    (tIfS (tNot (tB (tCB (rIsC C) (tCons (tVar 0) (tCons (tC (.ref C)) tNil))))) tNever tNext)
theorem d_check_writing (G : Glo K mg C)  {f : Addr} {cdv : Value} {A : Around} {outer : List Env} {s : Shared} {H : Hp} {E : XK} (hr : Room 0 (A.deeper (envOfC "check_writing" (defScope (top 40)) s.heap.objs.size f cdv))) :
    PSs (cxOf (L2.CX P w) P w K mg base ["writing"] "check_writing" (defScope (top 40)) f cdv A outer s H E).nox (defBody (top 40)) (t_check_writing K C) :=
    (pss_one (ps_if (pt_not (pt_val (pe_callB (call_isC' G.insc) (by rfl) G.g_isinstance boot_isinstance (pa_cons (pv 0) (pa_cons (pe_cls (by rfl) G.wcls) pa_nil))))) (pss_one ps_never) pss_nil))
theorem sc_digit_and_rest : FnScope ["writing", "point"] ["writing", "point"] (defScope (top 41)) := ⟨rfl, rfl, rfl, by decide +kernel, rfl, by decide +kernel, by decide +kernel⟩
def t_digit_and_rest (K : PySem.W.Frag) (C : Addr) : TS :=
    (tRet (tMeth C "_parted" (sp_Wparted C) [] E0 (tVar 0) (tCons (tVar 1) tNil)))
theorem d_digit_and_rest (G : Glo K mg C) (c_W_parted : Mth P w K mg base 3 C "_parted" ["self", "point"] (sp_Wparted C)) {f : Addr} {cdv : Value} {A : Around} {outer : List Env} {s : Shared} {H : Hp} {E : XK} (hr : Room 3 (A.deeper (envOfC "digit_and_rest" (defScope (top 41)) s.heap.objs.size f cdv))) :
    PSs (cxOf (L2.CX P w) P w K mg base ["writing", "point"] "digit_and_rest" (defScope (top 41)) f cdv A outer s H E).nox (defBody (top 41)) (t_digit_and_rest K C) :=
    (pss_one (ps_ret (pe_m c_W_parted hr (by decide) passL (pv 0) (pa_cons (pv 1) pa_nil))))
theorem sc_walked : FnScope ["writing", "point", "places", "found", "number"] ["writing", "point"] (defScope (top 43)) := ⟨rfl, rfl, rfl, by decide +kernel, rfl, by decide +kernel, by decide +kernel⟩
def t_walked (K : PySem.W.Frag) (C : Addr) : TS :=
    (tSeq (tPar 2 3 (tCons tDNewT (tCons (tLst tNil) tNil)))
    (tSeq (tWhile (tB (tDNotIn (tVar 1) (tVar 2))) (tSeq (sDPut (tVar 2) (tVar 1) (tCB (rLenS K) (tCons (tVar 3) tNil)))
    (tSeq (tAsg (tCall (sp_digit_and_rest C) [] E0 (tCons (tVar 0) (tCons (tVar 1) tNil))) (gTup K 2 (gCons (gName 4) (gCons (gName 1) gNil))))
    (tDrop (tBM K "list" rAppend (tVar 3) (tCons (tVar 4) tNil))))))
    (tRet (tTup (tCons (tVar 3) (tCons (tDGet (tVar 2) (tVar 1)) tNil))))))
theorem d_walked (G : Glo K mg C) (c_digit_and_rest : Fn P w K mg base (L2.CX P w) 4 "digit_and_rest" ["writing", "point"] (sp_digit_and_rest C)) {f : Addr} {cdv : Value} {A : Around} {outer : List Env} {s : Shared} {H : Hp} {E : XK} (hr : Room 4 (A.deeper (envOfC "walked" (defScope (top 43)) s.heap.objs.size f cdv))) :
    PSs (cxOf (L2.CX P w) P w K mg base ["writing", "point", "places", "found", "number"] "walked" (defScope (top 43)) f cdv A outer s H E).nox (defBody (top 43)) (t_walked K C) :=
    (pss_cons (ps_par rfl sc_walked.nd (i := 2) (j := 3) rfl rfl (by decide) rfl rfl (pa_cons pe_dnewT (pa_cons (pe_lst pa_nil) pa_nil)) (by rfl))
    (pss_cons (ps_while PassesOwn.never (pt_cmp (pc_dnotin (hu_of hr) (pv 1) (pv 2))) (pss_cons (ps_dput (hu_of hr) (pv 2) (pv 1) (pe_callB (cLenK K rfl) (by rfl) G.g_len boot_len (pa_cons (pv 3) pa_nil)) rfl)
    (pss_cons (ps_asg (pe_f c_digit_and_rest hr (by decide) passL (by rfl) (pa_cons (pv 0) (pa_cons (pv 1) pa_nil))) (pgT K rfl rfl (pgs_cons (pg_name (i := 4) sc_walked.nd rfl (by first | exact .inl rfl | exact .inr rfl)) (pgs_cons (pg_name (i := 1) sc_walked.nd rfl (by first | exact .inl rfl | exact .inr rfl)) pgs_nil))))
    (pss_one (ps_expr (pe_bmK K rfl PySem.F.plainAttrs_list PySem.F.slot_list_append PySem.F.type_list_append mt_append (pv 3) (pa_cons (pv 4) pa_nil)))))))
    (pss_one (ps_ret (pe_tup (pa_cons (pv 3) (pa_cons (pe_dget (hu_of hr) (pv 2) (pv 1) (fun _ _ => rfl)) pa_nil)))))))
theorem sc_row_or_none : FnScope ["writing", "point", "found", "place"] ["writing", "point"] (defScope (top 44)) := ⟨rfl, rfl, rfl, by decide +kernel, rfl, by decide +kernel, by decide +kernel⟩
def t_row_or_none (K : PySem.W.Frag) (C : Addr) : TS :=
    (tSeq (tAsg (tCall (sp_walked C) [] E0 (tCons (tVar 0) (tCons (tVar 1) tNil))) (gTup K 2 (gCons (gName 2) (gCons (gName 3) gNil))))
    (tSeq (tIfS (tTest (tOp (rNeD K) (tSl (rSlL K) (tVar 2) (tPart (tVar 3)) tNoPart) (tLst (tCons (tC (.int 0)) tNil)))) (tRet (tC .non)) tNext)
    (tRet (tSl (rSlL K) (tVar 2) tNoPart (tPart (tVar 3))))))
theorem d_row_or_none (G : Glo K mg C) (c_walked : Fn P w K mg base (L2.CX P w) 5 "walked" ["writing", "point"] (sp_walked C)) {f : Addr} {cdv : Value} {A : Around} {outer : List Env} {s : Shared} {H : Hp} {E : XK} (hr : Room 5 (A.deeper (envOfC "row_or_none" (defScope (top 44)) s.heap.objs.size f cdv))) :
    PSs (cxOf (L2.CX P w) P w K mg base ["writing", "point", "found", "place"] "row_or_none" (defScope (top 44)) f cdv A outer s H E).nox (defBody (top 44)) (t_row_or_none K C) :=
    (pss_cons (ps_asg (pe_f c_walked hr (by decide) passL (by rfl) (pa_cons (pv 0) (pa_cons (pv 1) pa_nil))) (pgT K rfl rfl (pgs_cons (pg_name (i := 2) sc_row_or_none.nd rfl (by first | exact .inl rfl | exact .inr rfl)) (pgs_cons (pg_name (i := 3) sc_row_or_none.nd rfl (by first | exact .inl rfl | exact .inr rfl)) pgs_nil))))
    (pss_cons (ps_if (pt_cmpR (neDK K rfl hr.units) (pe_slice (slLK K rfl) (pv 2) (po_some (pv 3)) po_none) (pe_lst (pa_cons pe_int pa_nil)) (nomark _)) (pss_one (ps_ret pe_non)) pss_nil)
    (pss_one (ps_ret (pe_slice (slLK K rfl) (pv 2) po_none (po_some (pv 3)))))))
theorem sc_carries_of : FnScope ["writing", "point", "digit"] ["writing", "point"] (defScope (top 47)) := ⟨rfl, rfl, rfl, by decide +kernel, rfl, by decide +kernel, by decide +kernel⟩
def t_carries_of (K : PySem.W.Frag) (C : Addr) : TS :=
    (tRet (tLc (iList K (tMeth C "digits" (sp_Wdigits C) [] E0 (tVar 0) tNil)) (gName 2) tYes (tOp (rIxT K) (tCall (sp_digit_and_rest C) [] E0 (tCons (tVar 0) (tCons (tCall sp_added [] E0 (tCons (tVar 1) (tCons (tVar 2) tNil))) tNil))) (tC (.int 1))) [2]))
theorem d_carries_of (G : Glo K mg C) (c_Wdigits : Mth P w K mg base 1 C "digits" ["self"] (sp_Wdigits C)) (c_added : Fn P w K mg base (L2.CX P w) 1 "added" ["one", "other"] sp_added) (c_digit_and_rest : Fn P w K mg base (L2.CX P w) 4 "digit_and_rest" ["writing", "point"] (sp_digit_and_rest C)) {f : Addr} {cdv : Value} {A : Around} {outer : List Env} {s : Shared} {H : Hp} {E : XK} (hr : Room 4 (A.deeper (envOfC "carries_of" (defScope (top 47)) s.heap.objs.size f cdv))) :
    PSs (cxOf (L2.CX P w) P w K mg base ["writing", "point", "digit"] "carries_of" (defScope (top 47)) f cdv A outer s H E).nox (defBody (top 47)) (t_carries_of K C) :=
    (pss_one (ps_ret (pe_lc (own := [("digit", 2)]) rfl sc_carries_of.nd (piL K rfl (pe_m0 c_Wdigits hr (by decide) passL (pv 0))) (blkOk_by (N := ["writing", "point", "digit"]) (sc := defScope (top 47)) (by decide +kernel)) (fun _ _ _ _ _ => (pg_name (i := 2) sc_carries_of.nd rfl (by first | exact .inl rfl | exact .inr rfl))) (fun _ _ _ _ _ => pts_nil) (fun _ _ _ _ _ => (pe_ix (ixT K rfl) (pe_f c_digit_and_rest hr (by decide) passL (by rfl) (pa_cons (pv 0) (pa_cons (pe_f c_added hr (by decide) passL (by rfl) (pa_cons (pv 1) (pa_cons (pv 2) pa_nil))) pa_nil))) pe_int (fun _ _ => rfl))))))
theorem sc_first_rowless : FnScope ["writing", "points", "point"] ["writing", "points"] (defScope (top 50)) := ⟨rfl, rfl, rfl, by decide +kernel, rfl, by decide +kernel, by decide +kernel⟩
def t_first_rowless (K : PySem.W.Frag) (C : Addr) : TS :=
    (tSeq (tFor (iList K (tVar 1)) (gName 2) (tIfS (tTest (tOp rIsN (tCall (sp_row_or_none C) [] E0 (tCons (tVar 0) (tCons (tVar 2) tNil))) (tC .non))) (tRet (tVar 2)) tNext))
    (tRet (tC .non)))
theorem d_first_rowless (G : Glo K mg C) (c_row_or_none : Fn P w K mg base (L2.CX P w) 6 "row_or_none" ["writing", "point"] (sp_row_or_none C)) {f : Addr} {cdv : Value} {A : Around} {outer : List Env} {s : Shared} {H : Hp} {E : XK} (hr : Room 6 (A.deeper (envOfC "first_rowless" (defScope (top 50)) s.heap.objs.size f cdv))) :
    PSs (cxOf (L2.CX P w) P w K mg base ["writing", "points", "point"] "first_rowless" (defScope (top 50)) f cdv A outer s H E).nox (defBody (top 50)) (t_first_rowless K C) :=
    (pss_cons (ps_for PassesOwn.never rfl (piL K rfl (pv 1)) (pg_name (i := 2) sc_first_rowless.nd rfl (by first | exact .inl rfl | exact .inr rfl)) (pss_one (ps_if (pt_cmpR op_isN1 (pe_f c_row_or_none hr (by decide) passL (by rfl) (pa_cons (pv 0) (pa_cons (pv 2) pa_nil))) pe_non (nomark _)) (pss_one (ps_ret (pv 2))) pss_nil)))
    (pss_one (ps_ret pe_non)))
end
end K13
namespace K13
open PySem PySem.Spec PyProof.Rows L2 Evl
/-! dicts whose keys are points -/
def tabP (ps : List (Pt × V)) : List (List Key × V) := ps.map fun q => (q.1.map Sum.inl, q.2)
def lkP (ps : List (Pt × V)) (p : Pt) : Option V := (ps.find? fun q => decide (q.1 = p)).map (·.2)
def putP (ps : List (Pt × V)) (p : Pt) (v : V) : List (Pt × V) := if (ps.any fun q => decide (q.1 = p)) = true then ps.map (fun q => if q.1 = p then (q.1, v) else q) else ps ++ [(p, v)]
theorem inl_inj {p q : Pt} : (p.map (Sum.inl : Int → Key)) = q.map Sum.inl ↔ p = q := ⟨fun h => by
  have := congrArg (List.map kV) h
  rw [List.map_map, List.map_map] at this
  have := congrArg (List.map fun v => match v with | V.int i => i | _ => (0 : Int)) this
  rw [List.map_map, List.map_map] at this
  exact (List.map_id p).symm.trans (this.trans (List.map_id q)), fun h => by rw [h]⟩
theorem key_V (p : Pt) : (p.map (Sum.inl : Int → Key)).map kV = p.map V.int := by
  rw [List.map_map]
  rfl
theorem val_tab (ps : List (Pt × V)) (p : Pt) : valV (tabP ps) (p.map Sum.inl) = lkP ps p := by
  induction ps with
  | nil => rfl
  | cons q r ih =>
    by_cases e : q.1 = p
    · unfold lkP tabP
      rw [List.map_cons, valV_pos (by rw [e]), List.find?_cons, decide_eq_true e]
      rfl
    · have : valV (tabP (q :: r)) (p.map Sum.inl) = valV (tabP r) (p.map Sum.inl) := valV_neg fun z => e (inl_inj.mp z)
      rw [this, ih]
      unfold lkP
      rw [List.find?_cons, decide_eq_false e]
theorem put_tab (ps : List (Pt × V)) (p : Pt) (v : V) : putK (tabP ps) (p.map Sum.inl) v = tabP (putP ps p v) := by
  have h1 : ((tabP ps).any fun kv => decide (kv.1 = p.map Sum.inl)) = ps.any fun q => decide (q.1 = p) := by
    unfold tabP
    rw [List.any_map]
    congr 1
    funext q
    show decide (q.1.map Sum.inl = p.map Sum.inl) = decide (q.1 = p)
    by_cases e : q.1 = p
    · rw [decide_eq_true e, decide_eq_true (by rw [e])]
    · rw [decide_eq_false e, decide_eq_false fun z => e (inl_inj.mp z)]
  unfold putK putP
  rw [h1]
  split
  · unfold tabP
    rw [List.map_map, List.map_map]
    refine List.map_congr_left fun q _ => ?_
    show (if q.1.map Sum.inl = p.map Sum.inl then (q.1.map Sum.inl, v) else (q.1.map Sum.inl, q.2)) = _
    by_cases e : q.1 = p
    · rw [if_pos (by rw [e])]
      show _ = ((if q.1 = p then (q.1, v) else q).1.map Sum.inl, (if q.1 = p then (q.1, v) else q).2)
      rw [if_pos e]
    · rw [if_neg fun z => e (inl_inj.mp z)]
      show _ = ((if q.1 = p then (q.1, v) else q).1.map Sum.inl, (if q.1 = p then (q.1, v) else q).2)
      rw [if_neg e]
  · unfold tabP
    rw [List.map_append]
    rfl
theorem lkP_none {ps : List (Pt × V)} {p : Pt} : lkP ps p = none ↔ p ∉ ps.map (·.1) := by
  unfold lkP
  rw [Option.map_eq_none_iff, List.find?_eq_none]
  constructor
  · intro h m
    obtain ⟨q, hq, e⟩ := List.mem_map.mp m
    exact h q hq (decide_eq_true e)
  · intro h q hq e
    exact h (List.mem_map.mpr ⟨q, hq, of_decide_eq_true e⟩)
theorem lkP_isSome {ps : List (Pt × V)} {p : Pt} : (lkP ps p).isSome = decide (p ∈ ps.map (·.1)) := by
  cases h : lkP ps p with
  | none =>
    rw [decide_eq_false (lkP_none.mp h)]
    rfl
  | some v =>
    have : p ∈ ps.map (·.1) := Decidable.byContradiction fun z => by
      rw [lkP_none.mpr z] at h
      cases h
    rw [decide_eq_true this]
    rfl
theorem putP_new {ps : List (Pt × V)} {p : Pt} (v : V) (h : p ∉ ps.map (·.1)) : putP ps p v = ps ++ [(p, v)] := by
  unfold putP
  rw [if_neg]
  intro z
  obtain ⟨q, hq, e⟩ := List.any_eq_true.mp z
  exact h (List.mem_map.mpr ⟨q, hq, of_decide_eq_true e⟩)
theorem lkP_put (ps : List (Pt × V)) (p q : Pt) (v : V) : lkP (putP ps p v) q = if q = p then some v else lkP ps q := by
  rw [← val_tab, ← put_tab, valV_put, val_tab]
  by_cases e : q = p
  · rw [if_pos e, if_pos (by rw [e])]
  · rw [if_neg e, if_neg fun z => e (inl_inj.mp z)]
theorem keys_put (ps : List (Pt × V)) (p : Pt) (v : V) (h : p ∈ ps.map (·.1)) : (putP ps p v).map (·.1) = ps.map (·.1) := by
  unfold putP
  obtain ⟨q, hq, e⟩ := List.mem_map.mp h
  rw [if_pos (List.any_eq_true.mpr ⟨q, hq, decide_eq_true e⟩), List.map_map]
  refine List.map_congr_left fun r _ => ?_
  show (if r.1 = p then (r.1, v) else r).1 = r.1
  split <;> rfl
theorem tabP_len (ps : List (Pt × V)) : (tabP ps).length = ps.length := List.length_map ..
/-- the dict of points at d -/
abbrev DP (H : Hp) (d : Addr) (ps : List (Pt × V)) : Prop := H d = some (.dT (tabP ps))
section
variable {K : PySem.W.Frag} {σ : L2.St} {H H' : Hp} {ta tb tc te tl td ty tv : TE} {t u : TT} {x z v : V} {l d : Addr} {ps : List (Pt × V)} {p : Pt} {D : Ends} {tu tw tz : TS} {P Pa Pb Pc : V → Hp → Prop} {mu : List Addr}
theorem ev_dget (hd : DP H d ps) (h : Ev td σ H (.ref d)) (hy : ∀ H1, Ex H H1 → EvP ty σ H1 fun v H' => PtV H' v p) (hv : lkP ps p = some v) : Ev (tDGet td ty) σ H v := fun H1 e Q q =>
  h H1 e _ fun H2 e2 => hy H2 (e.trans e2) H2 (Ex.refl H2) _ fun y H3 e3 ⟨b, ey, hb⟩ => by
    subst ey
    refine ⟨d, v, rfl, ?_, q H3 (e2.trans e3)⟩
    rw [← hv, ← val_tab]
    exact DGet.t (e3 _ _ (e2 _ _ (e _ _ hd))) (by rw [key_V]; exact hb)
theorem et_din (hd : DP H d ps) (hy : EvP ty σ H fun v H' => PtV H' v p) (h : ∀ H1, Ex H H1 → Ev td σ H1 (.ref d)) : EvT (tB (tDIn ty td)) σ H (decide (p ∈ ps.map (·.1))) := fun H1 e Q q =>
  hy H1 e _ fun y H2 e2 ⟨b, ey, hb⟩ => h H2 (e.trans e2) H2 (Ex.refl H2) _ fun H3 e3 => by
    subst ey
    have g := DGet.t (k := p.map Sum.inl) (e3 _ _ (e2 _ _ (e _ _ hd))) (by rw [key_V]; exact e3 _ _ hb)
    refine ⟨d, _, rfl, g, _, rfl, ?_⟩
    rw [val_tab, lkP_isSome]
    exact q H3 (e2.trans e3)
theorem et_dnotin (hd : DP H d ps) (hy : EvP ty σ H fun v H' => PtV H' v p) (h : ∀ H1, Ex H H1 → Ev td σ H1 (.ref d)) : EvT (tB (tDNotIn ty td)) σ H (!decide (p ∈ ps.map (·.1))) := fun H1 e Q q =>
  hy H1 e _ fun y H2 e2 ⟨b, ey, hb⟩ => h H2 (e.trans e2) H2 (Ex.refl H2) _ fun H3 e3 => by
    subst ey
    have g := DGet.t (k := p.map Sum.inl) (e3 _ _ (e2 _ _ (e _ _ hd))) (by rw [key_V]; exact e3 _ _ hb)
    refine ⟨d, _, rfl, g, _, rfl, ?_⟩
    rw [val_tab, lkP_isSome]
    exact q H3 (e2.trans e3)
theorem s_dput (hd : DP H d ps) (hv : EvP tv σ H P) (h : ∀ H1, Ex H H1 → Ev td σ H1 (.ref d)) (hy : ∀ H1, Ex H H1 → EvP ty σ H1 fun v H' => PtV H' v p) (hz : ps.length < sizeLine)
    (k : ∀ v H1 H2, Ex H H1 → P v H1 → Ex H1 H2 → D.nx σ (upd H2 d (.dT (tabP (putP ps p v))))) : sDPut td ty tv D σ H :=
  hv H (Ex.refl H) _ fun x H1 e1 px => h H1 e1 H1 (Ex.refl H1) _ fun H2 e2 => hy H2 (e1.trans e2) H2 (Ex.refl H2) _ fun y H3 e3 ⟨b, ey, hb⟩ => by
    subst ey
    refine ⟨d, _, rfl, .inr ⟨tabP ps, p.map Sum.inl, b, e3 _ _ (e2 _ _ (e1 _ _ hd)), rfl, by rw [key_V]; exact hb, by rw [tabP_len]; exact hz, rfl⟩, ?_⟩
    rw [put_tab]
    exact k x H1 H3 e1 px (e2.trans e3)
theorem q_dput (hd : DP H d ps) (hv : EvP tv σ H P) (h : ∀ H1, Ex H H1 → Ev td σ H1 (.ref d)) (hy : ∀ H1, Ex H H1 → EvP ty σ H1 fun v H' => PtV H' v p) (hz : ps.length < sizeLine)
    (k : ∀ v H1 H2, Ex H H1 → P v H1 → Ex H1 H2 → tz D σ (upd H2 d (.dT (tabP (putP ps p v))))) : tSeq (sDPut td ty tv) tz D σ H := s_dput (D := { D with nx := tz D }) hd hv h hy hz k
theorem ev_lenD (hd : DP H d ps) (h : Ev te σ H (.ref d)) : Ev (tCB rLenT (tCons te tNil)) σ H (.int (ps.length : Int)) := ev_cb (ea_cons h ea_nil) fun H1 e Q q => ⟨d, tabP ps, rfl, e _ _ hd, by rw [tabP_len]; exact q H1 (Ex.refl H1)⟩
theorem evp_pair (ha : EvP ta σ H Pa) (hb : ∀ x H1, Ex H H1 → Pa x H1 → EvP tb σ H1 Pb) : EvP (tTup (tCons ta (tCons tb tNil))) σ H fun v H' => ∃ t x y H1 H2, v = .ref t ∧ H' t = some (.tup [x, y]) ∧ Pa x H1 ∧ Ex H1 H2 ∧ Pb y H2 ∧ Ex H2 H' := fun H0 e Q q =>
  ha H0 e _ fun x H1 e1 px => hb x H1 (e.trans e1) px H1 (Ex.refl H1) _ fun y H2 e2 py => ⟨by have : sizeLine = 16777216 := sizeLine_eq; simp; omega, fun t ht => q _ _ ((e1.trans e2).trans (Ex.new ht)) ⟨t, x, y, H1, H2, rfl, upd_same, px, e2, py, Ex.new ht⟩⟩
/-- a dict comprehension over points, the keys distinct -/
theorem evp_dc {wi : TI} {g : TG} {tk : TE} {vs : List Nat} {n : Nat} {y : Nat → V → Hp → Prop} (hi : EvI wi σ H n y) (ks : Nat → Pt) (val : Nat → V) (hn : n ≤ sizeLine) (hd : ∀ i j, i < n → j < n → ks i = ks j → i = j)
    (hb : ∀ i x H', i < n → Ex H H' → y i x H' → ∃ σ2, (∀ Q, Q σ2 H' → g x (wipe σ vs) H' Q) ∧ wipe σ2 vs = wipe σ vs ∧ EvP tk σ2 H' (fun v H' => PtV H' v (ks i)) ∧ ∀ H'', Ex H' H'' → Ev tv σ2 H'' (val i)) :
    EvP (tDcT wi g tYes tk tv vs) σ H fun v H' => ∃ d, v = .ref d ∧ H d = none ∧ DP H' d ((List.range n).map fun i => (ks i, val i)) := fun H0 e Q q => hi H0 e _ fun J G H1 e1 w hG D hD => by
  have hD0 : H D = none := fresh_back (e.trans e1) hD
  refine ⟨fun i m H' => m = n - i ∧ i ≤ n ∧ Ex H1 H' ∧ DP H' D ((List.range i).map fun i => (ks i, val i)), ⟨n, by simp, Nat.zero_le _, Ex.new hD, upd_same⟩, ?_⟩
  rintro i m H' ⟨rfl, hin, ex, hp⟩
  by_cases hlt : i < n
  · refine .inr ⟨w.goes i H' hlt (hG H' ex), fun H'' => Ex H1 H'' ∧ DP H'' D ((List.range (i + 1)).map fun i => (ks i, val i)), fun H'' ⟨a, b⟩ => ⟨n - (i + 1), by omega, rfl, hlt, a, b⟩, fun x H2 hy => ?_⟩
    obtain ⟨e2, hy2⟩ := w.yields i H' x H2 hlt (hG H' ex) hy
    obtain ⟨σ2, hg, hw, hk, hv⟩ := hb i x H2 hlt (((e.trans e1).trans ex).trans e2) hy2
    refine hg _ ⟨hw, ?_⟩
    refine hk H2 (Ex.refl H2) _ fun v H3 e3 ⟨b, ev, hkb⟩ => hv H3 e3 H3 (Ex.refl H3) _ fun H4 e4 => ?_
    subst ev
    have hD4 := e4 D _ (e3 D _ (e2 D _ hp))
    refine ⟨_, (ks i).map Sum.inl, b, rfl, hD4, by rw [key_V]; exact e4 _ _ hkb, by rw [tabP_len, List.length_map, List.length_range]; omega, Ex.mut (((ex.trans e2).trans e3).trans e4) hD, ?_⟩
    show upd H4 D _ D = _
    rw [upd_same, put_tab, putP_new, range_map_snoc]
    intro z
    rw [List.map_map] at z
    obtain ⟨j, hj, ej⟩ := List.mem_map.mp z
    have hj := List.mem_range.mp hj
    have := hd j i (by omega) hlt ej
    omega
  · have hin' : i = n := by omega
    subst hin'
    exact .inl ⟨w.stops H' (hG H' ex), q _ H' (e1.trans ex) ⟨D, rfl, hD0, hp⟩⟩
end
theorem nodup_get {α : Type} {l : List α} (h : l.Nodup) {i j : Nat} {a : α} (h1 : l[i]? = some a) (h2 : l[j]? = some a) : i = j := by
  obtain ⟨hi, ei⟩ := List.getElem?_eq_some_iff.mp h1
  obtain ⟨hj, ej⟩ := List.getElem?_eq_some_iff.mp h2
  have hp := List.pairwise_iff_getElem.mp h
  rcases Nat.lt_trichotomy i j with c | c | c
  · exact absurd (ei.trans ej.symm) (hp i j hi hj c)
  · exact c
  · exact absurd (ej.trans ei.symm) (hp j i hj hi c)
theorem numK_tab (ks : List Pt) : numK ks = tabP ((List.range ks.length).map fun i => (ks.getD i [], V.int (i : Int))) := by
  unfold numK tabP
  rw [List.map_map]
  rfl
theorem num_keys (ks : List Pt) : ((List.range ks.length).map fun i => (ks.getD i [], V.int (i : Int))).map (·.1) = ks := by
  rw [List.map_map]
  exact (map_range ks [] id).symm.trans (List.map_id _)
theorem num_lk {ks : List Pt} {k : Pt} (hk : k ∈ ks) (hn : ks.Nodup) : lkP ((List.range ks.length).map fun i => (ks.getD i [], V.int (i : Int))) k = some (.int (ks.idxOf k : Int)) := by
  have h1 : ks.idxOf k < ks.length := List.idxOf_lt_length_iff.mpr hk
  have h2 : ks.getD (ks.idxOf k) [] = k := by
    rw [List.getD_eq_getElem?_getD, List.getElem?_eq_getElem h1]
    exact List.getElem_idxOf h1
  cases e : lkP ((List.range ks.length).map fun i => (ks.getD i [], V.int (i : Int))) k with
  | none =>
    have := lkP_none.mp e
    rw [num_keys] at this
    exact absurd hk this
  | some v =>
    unfold lkP at e
    obtain ⟨q, hq, rfl⟩ := Option.map_eq_some_iff.mp e
    have hm := List.mem_of_find?_eq_some hq
    have hk2 : q.1 = k := by
      have := List.find?_some hq
      exact of_decide_eq_true this
    obtain ⟨i, hi, rfl⟩ := List.mem_map.mp hm
    have hi := List.mem_range.mp hi
    have : i = ks.idxOf k := by
      have h3 : ks[i]? = ks[ks.idxOf k]? := by
        rw [get_some hi [], get_some h1 [], h2]
        exact congrArg some hk2
      exact nodup_get hn (get_some hi []) (h3.symm.trans (get_some hi []))
    rw [this]
end K13
namespace K13
open PySem PySem.Spec PyProof.Rows L2 Evl
/-- known tells, for each of its points, whether it has a row -/
structure Known (w : Way) (Z : List Pt) (ks : List (Pt × V)) : Prop where
  zero : lkP ks (zeroP w.n) = some (.bl true)
  nd : (ks.map (·.1)).Nodup
  pen : ∀ p ∈ ks.map (·.1), p ∈ Z
  says : ∀ p v, lkP ks p = some v → ∃ b : Bool, v = .bl b ∧ (b = true ↔ w.Row p)
def sp_ends_at_zero (C : Addr) : Sp := fun vs H Q _ => ∃ (v x : V) (d : Addr) (w : Way) (p : Pt) (ks : List (Pt × V)) (Z : List Pt), vs = [v, x, .ref d] ∧ Wr C H v w ∧ w.Ok ∧ (∀ q : Pt, q.length = w.n → w.rest q = q → w.num q = 0 → q = zeroP w.n) ∧ PtV H x p ∧ p ∈ Z ∧
  (∀ p ∈ Z, p.length = w.n ∧ w.rest p ∈ Z) ∧ Z.length ≤ 16000000 ∧ DP H d ks ∧ Known w Z ks ∧ (∀ H', Kp [d] H H' → Wr C H' v w) ∧
  ∀ H' ks' b, Kp [d] H H' → DP H' d ks' → Known w Z ks' → (b = true ↔ w.Row p) → Q (.bl b) H'
end K13
namespace K13
open PySem PySem.Spec PyProof.Rows L2 Evl
section
variable {K : PySem.W.Frag} {C : Addr}
theorem ev_fld {te : TE} {σ : L2.St} {H : Hp} {a dx : Addr} {fs : List (Str × V)} {f : Str} {x : V} (h : Ev te σ H (.ref a)) (ha : H a = some (.ins C dx fs)) (hc : Cls K C) (hn : NoAttr K C f) (hx : Lk fs f = some x) : Ev (tFld K te f) σ H x := fun H1 e Q q =>
  h H1 e _ fun H2 e2 => ⟨a, C, dx, fs, x, rfl, e2 _ _ (e _ _ ha), hc, hn, hx, q H2 e2⟩
theorem p_numbers_of_keys (vs : List V) (H : Hp) (Q : VK) (E : XK) (h : sp_numbers_of_keys vs H Q E) : t_numbers_of_keys K (En Q) (start ["keys", "number", "key"] vs) H := by
  obtain ⟨R, ⟨v, ks, rfl, ⟨a, as, rfl, ha, has⟩, hn, hz, rfl⟩, k⟩ := h
  refine ret_of ?_ rfl k
  have hi := evi_enumL (K := K) (σ := start ["keys", "number", "key"] [V.ref a]) (tl := tVar 0) (ev_var rfl) (sq_of ha)
  rw [List.length_map, has.len] at hi
  refine (evp_dc hi (fun i => ks.getD i []) (fun i => .int (i : Int)) (Nat.le_of_lt (szl _)) (fun i j h1 h2 e => nodup_get hn (get_some h1 []) ((get_some h2 []).trans (congrArg some e.symm))) fun i x H' hin e ⟨T, y, hx, hy, hT⟩ => ?_).imp fun v H' e ⟨d, ev, _, hd⟩ => ⟨d, ev, by rw [numK_tab]; exact hd⟩
  subst hx
  rw [List.getElem?_map] at hy
  cases ea : as[i]? with
  | none =>
    rw [ea] at hy
    cases hy
  | some c =>
    rw [ea] at hy
    obtain rfl := Option.some.inj hy
    obtain ⟨q, hq, hc⟩ := has.get ea
    exact ⟨_, g_pair hT, rfl, evp_varPt rfl ⟨c, rfl, by rw [getD_of hq]; exact e _ _ hc⟩, fun _ _ => ev_var rfl⟩
theorem p_rests_by (vs : List V) (H : Hp) (Q : VK) (E : XK) (h : sp_rests_by vs H Q E) : t_rests_by K (En Q) (start ["point", "whole", "number"] vs) H := by
  obtain ⟨R, ⟨v, p, d, rfl, ⟨a, rfl, ha⟩, hd, hz, rfl⟩, k⟩ := h
  refine ret_of (evp_tupI ?_) rfl k
  unfold restsP
  rw [map_range p 0, List.map_map]
  have hi := evi_tup (K := K) (σ := start ["point", "whole", "number"] [V.ref a, .int d]) (tl := tVar 0) (ev_var rfl) (st_of ha)
  rw [List.length_map] at hi
  refine evp_lcV hi _ (Nat.le_of_lt (szl _)) fun i x H' hin e hx => ?_
  obtain ⟨rfl, _⟩ := pt_get hx
  exact ⟨_, fun Q q => q, rfl, ev_op (ev_var rfl) (ev_var rfl) (rv_I hd)⟩
theorem Way.Ok.dlen {w : Way} (o : w.Ok) : w.ds.length ≤ 12 := by
  obtain ⟨_, _, _, _, d1, d2, d3, _⟩ := o.mok
  rw [o.cnt]
  show (detM w.m).natAbs ≤ 12
  omega
theorem Way.Ok.dpos {w : Way} (o : w.Ok) : 0 < w.ds.length := by
  obtain ⟨_, _, _, _, d1, d2, d3, _⟩ := o.mok
  rw [o.cnt]
  show 0 < (detM w.m).natAbs
  omega
theorem Way.Ok.dne {w : Way} (o : w.Ok) : w.D ≠ 0 ∧ w.D.natAbs < 1073741824 := by
  obtain ⟨_, _, _, _, d1, d2, d3, _⟩ := o.mok
  refine ⟨d3, ?_⟩
  show (detM w.m).natAbs < _
  omega
theorem Way.Ok.asq {w : Way} (o : w.Ok) : Sq w.n w.A := adjM_sq o.mok.1
theorem Way.Ok.n3 {w : Way} (o : w.Ok) : 1 ≤ w.n ∧ w.n ≤ 3 := ⟨o.mok.2.1, o.mok.2.2.1⟩
theorem movM_len {n : Nat} {m : Mx} (hm : Sq n m) (p : Pt) : (movM m p).length = n := by
  unfold movM
  rw [List.length_map, hm.1]
theorem Way.Ok.numlt {w : Way} (o : w.Ok) {p : Pt} (hp : p.length = w.n) : w.num p < w.ds.length := by
  have := List.idxOf_lt_length_iff.mpr (o.all p hp)
  rw [List.length_map] at this
  exact this
theorem Way.Ok.digm {w : Way} (o : w.Ok) {p : Pt} (hp : p.length = w.n) : w.dig p ∈ w.ds := getD_mem (o.numlt hp) []
theorem Way.Ok.restlen {w : Way} (o : w.Ok) {p : Pt} : (w.rest p).length = w.n := by
  unfold Way.rest divP
  rw [List.length_zipWith, movM_len o.asq, movM_len o.asq, Nat.min_self]
theorem p_Wdigits (G : Glo K mg C) (vs : List V) (H : Hp) (Q : VK) (E : XK) (h : sp_Wdigits C vs H Q E) : t_Wdigits K (En Q) (start ["self"] vs) H := by
  obtain ⟨R, ⟨v, w, rfl, ⟨a, dx, fs, x1, x2, x4, x6, d, rfl, h1, h2, h3, h4, h5, h6, h7, h8, h9, h10, h11, ⟨y, ys, rfl, hy, hys⟩, hno⟩, ok, rfl⟩, k⟩ := h
  refine ret_of (fun H1 e Q q => ev_fld (te := tVar 0) (ev_var rfl) h1 G.insc.cl (G.noat "_digits" (by decide)) h11 H1 e _ fun H2 e2 => ?_) rfl k
  exact ⟨y, _, rfl, .inr (st_of (e2 _ _ (e _ _ hy))), fun l hl => q _ _ (e2.trans (Ex.new hl)) ⟨l, rfl, fresh_back (e.trans e2) hl, ys, upd_same, (hys.ex (e.trans e2)).ex (Ex.new hl)⟩⟩
theorem p_Wsize (G : Glo K mg C) (vs : List V) (H : Hp) (Q : VK) (E : XK) (h : sp_Wsize C vs H Q E) : t_Wsize K (En Q) (start ["self"] vs) H := by
  obtain ⟨R, ⟨v, w, rfl, ⟨a, dx, fs, x1, x2, x4, x6, d, rfl, h1, h2, ⟨y, ys, rfl, hy, hys⟩, h4, h5, h6, h7, h8, h9, h10, h11, h12⟩, ok, rfl⟩, k⟩ := h
  refine ret_ev (v := .int (w.n : Int)) (ev_is (ev_lenT (ev_fld (te := tVar 0) (ev_var rfl) h1 G.insc.cl (G.noat "_matrix" (by decide)) h2) hy) ?_) rfl k
  rw [List.length_map, hys.len, ok.mok.1.1]
theorem p_check_writing (vs : List V) (H : Hp) (Q : VK) (E : XK) (h : sp_check_writing C vs H Q E) : t_check_writing K C (En Q) (start ["writing"] vs) H := by
  obtain ⟨R, ⟨v, w, rfl, ⟨a, dx, fs, x1, x2, x4, x6, d, rfl, h1, _⟩, rfl⟩, k⟩ := h
  refine s_when (b := false) (et_is (et_not (et_B (ev_cb (z := .bl true) (ea_cons (ev_var rfl) (ea_cons ev_c ea_nil)) fun H1 e Q q => ⟨a, dx, fs, rfl, e _ _ h1, q H1 (Ex.refl H1)⟩))) rfl) (fun z => by cases z) fun _ H1 e => k _ _ e rfl
theorem p_Wparted (G : Glo K mg C) (vs : List V) (H : Hp) (Q : VK) (E : XK) (h : sp_Wparted C vs H Q E) : t_Wparted K (En Q) (start ["self", "point", "led", "number", "item", "less"] vs) H := by
  obtain ⟨R, ⟨v, x, w, p, rfl, ⟨a, dx, fs, x1, x2, x4, x6, d, rfl, h1, h2, h3, h4, h5, h6, h7, h8, h9, h10, h11, h12, hno⟩, ok, hx, hp, rfl⟩, k⟩ := h
  have n3 := ok.n3
  have fd : ∀ {σ : L2.St} {H' : Hp} {f : Str} {x : V}, σ[0]? = some (some (V.ref a)) → Ex H H' → NoAttr K C f → Lk fs f = some x → Ev (tFld K (tVar 0) f) σ H' x := fun h0 e hn hx => ev_fld (ev_var h0) (e _ _ h1) G.insc.cl hn hx
  have nW := G.noat "_whole" (by decide)
  have nA := G.noat "_adjugate" (by decide)
  have nN := G.noat "_numbers" (by decide)
  have nL := G.noat "_led" (by decide)
  refine q_asgP (P := fun v H' => PtV H' v (movM w.A p)) (evp_callA (ea_cons (fd rfl (Ex.refl H) nA h4) (ea_cons (ev_var rfl) ea_nil)) (spp_use fun H1 e => ⟨w.n, x2, x, w.A, p, rfl, h5.ex e, hx.ex e, ok.asq, hp, by omega, ok.asm, rfl⟩)) fun u H1 e1 hu => ?_
  refine q_asg (v := .int (w.num p : Int)) ?_ fun H2 e2 => ?_
  · refine ev_dget (ps := (List.range (w.ds.map w.key).length).map fun i => ((w.ds.map w.key).getD i [], V.int (i : Int))) (p := w.key p) ?_ (fd rfl e1 nN h9) (fun H2 e2 => evp_callA (ea_cons (ev_var rfl) (ea_cons (fd rfl (e1.trans e2) nW h6) ea_nil)) (spp_use fun H3 e3 => ⟨u, movM w.A p, w.D, rfl, (hu.ex e2).ex e3, ok.dne.1, by rw [movM_len ok.asq]; omega, rfl⟩)) (num_lk (ok.all p hp) ok.nd)
    show H1 d = _
    rw [← numK_tab]
    exact e1 _ _ h10
  · have e12 := e1.trans e2
    obtain ⟨la, ls, rfl, hl, hls⟩ := h8
    obtain ⟨b, rfl, hb⟩ := hu
    have hnum := ok.numlt hp
    have hdg : (w.ds.map (movM w.A))[w.num p]? = some (movM w.A (w.dig p)) := by
      rw [List.getElem?_map, get_some hnum []]
      rfl
    obtain ⟨c, hc, hcp⟩ := hls.get2 hdg
    have hl1 := movM_len ok.asq p
    have hl2 := movM_len ok.asq (w.dig p)
    have hrest : EvP (tCB (rTup K) (tCons (tLc (iZipS K (tCons (tVar 2) (tCons (tOp (rIxT K) (tFld K (tVar 0) "_led") (tVar 3)) tNil)) (tCons (tC (.bl true)) tNil)) (gTup K 2 (gCons (gName 4) (gCons (gName 5) gNil))) tYes (tOp (rI CDivN fun i j => .int (i.fdiv j)) (tOp (rI0 fun i j => .int (i - j)) (tVar 4) (tVar 5)) (tFld K (tVar 0) "_whole")) [4, 5]) tNil)) [some (V.ref a), some x, some (V.ref b), some (.int (w.num p : Int)), none, none] H2 fun v H' => PtV H' v (w.rest p) := by
      refine evp_tupI ?_
      unfold Way.rest divP
      rw [zipWith_range _ _ _ 0 0 (hl1.trans hl2.symm), List.map_map]
      have hi := evi_zipS (K := K) (σ := [some (V.ref a), some x, some (V.ref b), some (.int (w.num p : Int)), none, none]) (tl := tVar 2) (tr := tOp (rIxT K) (tFld K (tVar 0) "_led") (tVar 3)) (ev_var rfl) (ev_ixM (fd rfl e12 nL h7) (ev_var rfl) (e12 _ _ hl) hc) (st_of (e2 _ _ hb)) (st_of (e12 _ _ hcp)) (by rw [List.length_map, List.length_map, hl1, hl2])
      rw [List.length_map] at hi
      refine evp_lcV hi _ (by rw [hl1]; exact Nat.le_of_lt (szl _)) fun i v H' hin e hy => ?_
      obtain ⟨T, y, z, rfl, hy1, hz1, hT⟩ := hy
      obtain ⟨rfl, _⟩ := pt_get hy1
      obtain ⟨rfl, _⟩ := pt_get hz1
      exact ⟨_, g_pair hT, rfl, ev_op (ev_op (ev_var rfl) (ev_var rfl) rv_I0) (fd rfl (e12.trans e) nW h6) (rv_I ok.dne)⟩
    refine ret_of (A := fun v H' => ∃ t b, v = .ref t ∧ H' t = some (.tup [.int (w.num p : Int), .ref b]) ∧ PtA H' b (w.rest p)) ((evp_pair (Pa := isV (.int (w.num p : Int))) (Pb := fun v H' => PtV H' v (w.rest p)) (evp_of_ev (ev_var rfl)) fun _ _ e _ => hrest.mono e).imp fun v H' e ⟨t, x, y, H1, H2, ev, ht, hx, _, ⟨b, ey, hb⟩, e2⟩ => ?_) rfl fun v H3 e3 r => k v H3 (e12.trans e3) r
    obtain rfl : x = .int (w.num p : Int) := hx
    subst ey
    exact ⟨t, b, ev, ht, e2 _ _ hb⟩
theorem Wr.find {H : Hp} {v : V} {w : Way} (h : Wr C H v w) : ∃ a dx fs, v = .ref a ∧ H a = some (.ins C dx fs) ∧ ∀ f : Str, f ∉ wFields → Lk fs f = none := by
  obtain ⟨a, dx, fs, x1, x2, x4, x6, d, h0, h1, h2, h3, h4, h5, h6, h7, h8, h9, h10, h11, h12, h13⟩ := h
  exact ⟨a, dx, fs, h0, h1, h13⟩
theorem evp_meth1 {ta te : TE} {σ : L2.St} {H : Hp} {v : V} {w : Way} {m : Str} {sp : Sp} {P Pa : V → Hp → Prop} {E : XK} (h : Ev ta σ H v) (hw : Wr C H v w) (hm : m ∉ wFields) (ha : EvP te σ H Pa) (hs : ∀ x H1, Ex H H1 → Pa x H1 → SpP sp [v, x] H1 P) : EvP (tMeth C m sp [] E ta (tCons te tNil)) σ H P := fun H1 e Q q =>
  h H1 e _ fun H2 e2 => by
    obtain ⟨a, dx, fs, rfl, ha2, hno⟩ := (hw.ex (e.trans e2)).find
    exact ⟨a, dx, fs, rfl, ha2, hno m hm, ha H2 (e.trans e2) _ fun x H3 e3 hx => hs x H3 ((e.trans e2).trans e3) hx H3 (Ex.refl H3) Q (fun v H4 e4 p => q v H4 ((e2.trans e3).trans e4) p) E⟩
theorem evp_meth0 {ta : TE} {σ : L2.St} {H : Hp} {v : V} {w : Way} {m : Str} {sp : Sp} {P : V → Hp → Prop} {E : XK} (h : Ev ta σ H v) (hw : Wr C H v w) (hm : m ∉ wFields) (hs : ∀ H1, Ex H H1 → SpP sp [v] H1 P) : EvP (tMeth C m sp [] E ta tNil) σ H P := fun H1 e Q q =>
  h H1 e _ fun H2 e2 => by
    obtain ⟨a, dx, fs, rfl, ha2, hno⟩ := (hw.ex (e.trans e2)).find
    exact ⟨a, dx, fs, rfl, ha2, hno m hm, hs H2 (e.trans e2) H2 (Ex.refl H2) Q (fun v H4 e4 p => q v H4 (e2.trans e4) p) E⟩
theorem p_digit_and_rest (vs : List V) (H : Hp) (Q : VK) (E : XK) (h : sp_digit_and_rest C vs H Q E) : t_digit_and_rest K C (En Q) (start ["writing", "point"] vs) H := by
  obtain ⟨R, ⟨v, x, w, p, rfl, hw, ok, hx, hp, rfl⟩, k⟩ := h
  exact ret_of (evp_meth1 (ev_var rfl) hw (by decide) (evp_varPt rfl hx) fun y H1 e (hy : PtV H1 y p) => spp_use fun H2 e2 => ⟨v, y, w, p, rfl, hw.ex (e.trans e2), ok, hy.ex e2, hp, rfl⟩) rfl k
end
end K13
namespace K13
open PySem PySem.Spec PyProof.Rows L2 Evl
/-! == and != of points, of lists of numbers -/
theorem dp_all {K : PySem.W.Frag} {H : Hp} : ∀ p : Pt, DpAll K H (p.map V.int) (p.map PyData.int)
  | [] => .nil
  | x :: r => .cons (.int x) (dp_all r)
theorem can_all : ∀ p : Pt, PyData.canLayAll0 (p.map PyData.int) = true
  | [] => by simp [PyData.canLayAll0]
  | x :: r => by simp [PyData.canLayAll0, PyData.canLay0, can_all r]
theorem dep_all : ∀ p : Pt, PyData.depthAll (p.map PyData.int) = 0
  | [] => by simp [PyData.depthAll]
  | x :: r => by simp [PyData.depthAll, PyData.depth, dep_all r]
theorem shp_tup (p : Pt) : SeqAt.shaped (.tuple (p.map PyData.int)) = true := by
  simp [SeqAt.shaped, PyData.canLay0, PyData.depth, can_all, dep_all]
theorem shp_lst (p : Pt) : SeqAt.shaped (.list (p.map PyData.int)) = true := by
  simp [SeqAt.shaped, PyData.canLay0, PyData.depth, can_all, dep_all]
theorem eqv_all : ∀ p q : Pt, PyData.eqvAll (p.map PyData.int) (q.map PyData.int) = decide (p = q)
  | [], [] => by simp [PyData.eqvAll]
  | [], y :: q => by simp [PyData.eqvAll]
  | x :: p, [] => by simp [PyData.eqvAll]
  | x :: p, y :: q => by
    have := eqv_all p q
    simp only [List.map_cons, PyData.eqvAll, PyData.eqv, this]
    by_cases h1 : x = y <;> by_cases h2 : p = q <;> simp [h1, h2]
theorem eqv_tup (p q : Pt) : PyData.eqv (.tuple (p.map PyData.int)) (.tuple (q.map PyData.int)) = decide (p = q) := by
  simp only [PyData.eqv, eqv_all]
theorem eqv_lst (p q : Pt) : PyData.eqv (.list (p.map PyData.int)) (.list (q.map PyData.int)) = decide (p = q) := by
  simp only [PyData.eqv, eqv_all]
section
variable {K : PySem.W.Frag} {C : Addr} {σ : L2.St} {H : Hp} {ta tb te : TE} {p q : Pt} {tz : TS} {D : Ends}
theorem ev_neP (ha : EvP ta σ H fun v H' => PtV H' v p) (hb : ∀ H1, Ex H H1 → EvP tb σ H1 fun v H' => PtV H' v q) : Ev (tOp (rNeD K) ta tb) σ H (.bl (!decide (p = q))) :=
  Ev.of (evp_op ha fun x H1 e1 ⟨a, ex, h1⟩ => ⟨_, hb H1 e1, fun y H2 e2 ⟨b, ey, h2⟩ H3 e3 Q k => by
    subst ex ey
    refine ⟨_, _, .tup (st_of (e3 _ _ (e2 _ _ h1))) (dp_all p), .tup (st_of (e3 _ _ h2)) (dp_all q), shp_tup p, shp_tup q, ?_⟩
    rw [eqv_tup]
    exact k _ H3 (Ex.refl H3) rfl⟩)
theorem ev_eqP (ha : EvP ta σ H fun v H' => PtV H' v p) (hb : ∀ H1, Ex H H1 → EvP tb σ H1 fun v H' => PtV H' v q) : Ev (tOp (rEqD K) ta tb) σ H (.bl (decide (p = q))) :=
  Ev.of (evp_op ha fun x H1 e1 ⟨a, ex, h1⟩ => ⟨_, hb H1 e1, fun y H2 e2 ⟨b, ey, h2⟩ H3 e3 Q k => by
    subst ex ey
    refine ⟨_, _, .tup (st_of (e3 _ _ (e2 _ _ h1))) (dp_all p), .tup (st_of (e3 _ _ h2)) (dp_all q), shp_tup p, shp_tup q, ?_⟩
    rw [eqv_tup]
    exact k _ H3 (Ex.refl H3) rfl⟩)
theorem ev_neL (ha : EvP ta σ H fun v H' => NL H' v p) (hb : ∀ H1, Ex H H1 → EvP tb σ H1 fun v H' => NL H' v q) : Ev (tOp (rNeD K) ta tb) σ H (.bl (!decide (p = q))) :=
  Ev.of (evp_op ha fun x H1 e1 ⟨a, ex, h1⟩ => ⟨_, hb H1 e1, fun y H2 e2 ⟨b, ey, h2⟩ H3 e3 Q k => by
    subst ex ey
    refine ⟨_, _, .lst (sq_of (e3 _ _ (e2 _ _ h1))) (dp_all p), .lst (sq_of (e3 _ _ h2)) (dp_all q), shp_lst p, shp_lst q, ?_⟩
    rw [eqv_lst]
    exact k _ H3 (Ex.refl H3) rfl⟩)
theorem ev_eqL (ha : EvP ta σ H fun v H' => NL H' v p) (hb : ∀ H1, Ex H H1 → EvP tb σ H1 fun v H' => NL H' v q) : Ev (tOp (rEqD K) ta tb) σ H (.bl (decide (p = q))) :=
  Ev.of (evp_op ha fun x H1 e1 ⟨a, ex, h1⟩ => ⟨_, hb H1 e1, fun y H2 e2 ⟨b, ey, h2⟩ H3 e3 Q k => by
    subst ex ey
    refine ⟨_, _, .lst (sq_of (e3 _ _ (e2 _ _ h1))) (dp_all p), .lst (sq_of (e3 _ _ h2)) (dp_all q), shp_lst p, shp_lst q, ?_⟩
    rw [eqv_lst]
    exact k _ H3 (Ex.refl H3) rfl⟩)
theorem evp_nl {ta : TA} {ns : List Int} (h : EvA ta σ H (ns.map V.int)) (hl : ns.length ≤ 100000) : EvP (tLst ta) σ H fun v H' => NL H' v ns := (evp_lst h (by rw [List.length_map]; exact hl)).imp fun v H' _ ⟨t, ev, _, ht⟩ => ⟨t, ev, ht⟩
theorem evp_slL {ns : List Int} {a : Addr} {tl th : TO} {lo hi : Option Int} (h : Ev te σ H (.ref a)) (h1 : EvO tl σ H lo) (h2 : EvO th σ H hi) (hp : H a = some (.lst (ns.map V.int))) : EvP (tSl (rSlL K) te tl th) σ H fun v H' => NL H' v (cutI ns lo hi) := fun H1 e Q q =>
  h H1 e _ fun H2 e2 => h1 H2 (e.trans e2) _ fun H3 e3 => h2 H3 ((e.trans e2).trans e3) _ fun H4 e4 => by
    have ee := (e2.trans e3).trans e4
    refine ⟨a, ns.map V.int, rfl, sq_of ((e.trans ee) a _ hp), fun l hl => q _ _ (ee.trans (Ex.new hl)) ⟨l, rfl, ?_⟩⟩
    rw [upd_same, cutV_map]
theorem s_fld {f : Str} {a dx : Addr} {fs : List (Str × V)} {P : V → Hp → Prop} (h : EvP te σ H P) (h0 : ∀ H1, Ex H H1 → Ev ta σ H1 (.ref a)) (ha : H a = some (.ins C dx fs)) (hc : Cls K C) (hn : NoAttr K C f) (hz : fs.length < 1000) (k : ∀ v H1 H2, Ex H H1 → P v H1 → Ex H1 H2 → D.nx σ (upd H2 a (.ins C dx (putF f v fs)))) : sFld K ta te f D σ H :=
  h H (Ex.refl H) _ fun v H1 e1 p => h0 H1 e1 H1 (Ex.refl H1) _ fun H2 e2 => ⟨a, C, dx, fs, rfl, e2 _ _ (e1 _ _ ha), hc, hn, hz, k v H1 H2 e1 p e2⟩
theorem q_fld {f : Str} {a dx : Addr} {fs : List (Str × V)} {P : V → Hp → Prop} (h : EvP te σ H P) (h0 : ∀ H1, Ex H H1 → Ev ta σ H1 (.ref a)) (ha : H a = some (.ins C dx fs)) (hc : Cls K C) (hn : NoAttr K C f) (hz : fs.length < 1000) (k : ∀ v H1 H2, Ex H H1 → P v H1 → Ex H1 H2 → tz D σ (upd H2 a (.ins C dx (putF f v fs)))) : tSeq (sFld K ta te f) tz D σ H := s_fld (D := { D with nx := tz D }) h h0 ha hc hn hz k
theorem Kp.ins {mu : List Addr} {H : Hp} {l C dx : Addr} {fs : List (Str × V)} {o : HO} (hl : l ∈ mu) (h : H l = some (.ins C dx fs)) : Kp mu H (upd H l o) := ⟨fun a u ha q => by
  rw [upd_ne (fun z => ha (by rw [z]; exact hl))]
  exact q, TEx.mut h fun _ z => by cases z⟩
end
section
variable {K : PySem.W.Frag} {C : Addr} {mg : Str → Option Value}
theorem p_Winit (G : Glo K mg C) (vs : List V) (H : Hp) (Q : VK) (E : XK) (h : sp_Winit C vs H Q E) : t_Winit K (En Q) (start ["self", "matrix", "digits", "digit", "point"] vs) H := by
  obtain ⟨a, dx, x, y, w, rfl, ha, hx, hy, hya, ok, k⟩ := h
  have n3 := ok.n3
  have msq := ok.mok.1
  have hs : ∀ r ∈ w.m, Sm r := fun r hr x hx => by have := ok.mok.2.2.2.1 r hr x hx; omega
  have st : ∀ {H1 H2 : Hp} {fs : List (Str × V)} {o : HO}, Kp [a] H H1 → Ex H1 H2 → H2 a = some (.ins C dx fs) → Kp [a] H (upd H2 a o) := fun k e h => (k.trans (Kp.ex e)).trans (Kp.ins (List.mem_cons_self ..) h)
  have tx : ∀ {H1 : Hp} {v : V} {m : Mx}, Kp [a] H H1 → MxV H v m → MxV H1 v m := fun k h => h.tex k.2
  have nW := G.noat "_whole" (by decide)
  have nA := G.noat "_adjugate" (by decide)
  have nN := G.noat "_numbers" (by decide)
  have nL := G.noat "_led" (by decide)
  have lenM : ∀ {σ : L2.St} {H' : Hp}, σ[1]? = some (some x) → Kp [a] H H' → Ev (tCB (rLenS K) (tCons (tVar 1) tNil)) σ H' (.int (w.n : Int)) := fun h1 kk => by
    obtain ⟨b, bs, rfl, hb, hbs⟩ := tx kk hx
    exact ev_is (ev_lenT (ev_var h1) hb) (by rw [List.length_map, hbs.len, msq.1])
  -- the list of digits
  obtain ⟨l, ls, rfl, hl, hls⟩ := hy
  have hla : l ∉ [a] := fun z => hya (by rw [List.mem_singleton.mp z])
  have laK : ∀ {H' : Hp}, Kp [a] H H' → LA H' l w.ds := fun kk => LA.kp ⟨ls, hl, hls⟩ hla kk
  have lenD : ∀ {σ : L2.St} {H' : Hp}, σ[2]? = some (some (V.ref l)) → Kp [a] H H' → Ev (tCB (rLenS K) (tCons (tVar 2) tNil)) σ H' (.int (w.ds.length : Int)) := fun h1 kk => by
    obtain ⟨bs, hb, hbs⟩ := laK kk
    exact ev_is (ev_lenL (ev_var h1) hb) (by rw [List.length_map, hbs.len])
  refine q_drop (v := .non) (ev_callV (ea_cons (ev_var rfl) ea_nil) (spp_use fun H1 e => ⟨w.n, x, w.m, rfl, hx.ex e, ok.mok, rfl⟩)) fun H1 e1 => ?_
  have k1 : Kp [a] H H1 := Kp.ex e1
  refine q_fld (evp_of_ev (ev_var rfl)) (fun _ _ => ev_var rfl) (e1 _ _ ha) G.insc.cl (G.noat "_matrix" (by decide)) (by decide) fun v1 H2 H3 e2 hv1 e3 => ?_
  obtain rfl : v1 = x := hv1
  have hA3 := e3 _ _ (e2 _ _ (e1 _ _ ha))
  have k3 := st (o := .ins C dx (putF "_matrix" v1 [])) k1 (e2.trans e3) hA3
  generalize hh3 : upd H3 a (.ins C dx (putF "_matrix" v1 [])) = H4 at k3
  have ha4 : H4 a = some (.ins C dx (putF "_matrix" v1 [])) := by rw [← hh3]; exact upd_same
  refine q_fld (P := fun v H' => MxV H' v w.A) (evp_callA (ea_cons (ev_var rfl) ea_nil) (spp_use fun H5 e => ⟨w.n, v1, w.m, rfl, (tx k3 hx).ex e, msq, n3.1, n3.2, hs, rfl⟩)) (fun _ _ => ev_var rfl) ha4 G.insc.cl nA (by show (1 : Nat) < 1000; decide) fun v2 H5 H6 e5 hv2 e6 => ?_
  have hA6 := e6 _ _ (e5 _ _ ha4)
  have k6 := st (o := .ins C dx (putF "_adjugate" v2 (putF "_matrix" v1 []))) k3 (e5.trans e6) hA6
  have t67 : TEx H6 (upd H6 a (.ins C dx (putF "_adjugate" v2 (putF "_matrix" v1 [])))) := TEx.mut hA6 fun _ z => by cases z
  have hv2' := (hv2.ex e6).tex t67
  generalize hh6 : upd H6 a (.ins C dx (putF "_adjugate" v2 (putF "_matrix" v1 []))) = H7 at k6 hv2'
  have ha7 : H7 a = some (.ins C dx (putF "_adjugate" v2 (putF "_matrix" v1 []))) := by rw [← hh6]; exact upd_same
  refine q_fld (P := isV (.int w.D)) (evp_callA (ea_cons (ev_var rfl) ea_nil) (spp_use fun H5 e => ⟨w.n, v1, w.m, rfl, (tx k6 hx).ex e, msq, by show w.n ≤ 3; omega, by omega, hs, by unfold Way.D detM; rw [msq.1]⟩)) (fun _ _ => ev_var rfl) ha7 G.insc.cl nW (by show (2 : Nat) < 1000; decide) fun v3 H8 H9 e8 hv3 e9 => ?_
  obtain rfl : v3 = .int w.D := hv3
  have hA9 := e9 _ _ (e8 _ _ ha7)
  have k9 := st (o := .ins C dx (putF "_whole" (.int w.D) (putF "_adjugate" v2 (putF "_matrix" v1 [])))) k6 (e8.trans e9) hA9
  have hv2'' := (hv2'.ex (e8.trans e9)).tex (TEx.mut (o' := .ins C dx (putF "_whole" (.int w.D) (putF "_adjugate" v2 (putF "_matrix" v1 [])))) hA9 fun _ z => by cases z)
  generalize hh9 : upd H9 a (.ins C dx (putF "_whole" (.int w.D) (putF "_adjugate" v2 (putF "_matrix" v1 [])))) = H10 at k9 hv2''
  have ha10 : H10 a = some (.ins C dx (putF "_whole" (.int w.D) (putF "_adjugate" v2 (putF "_matrix" v1 [])))) := by rw [← hh9]; exact upd_same
  -- the first test
  have hpts : EvP (tCall sp_are_points [] E0 (tCons (tCB (rLenS K) (tCons (tVar 1) tNil)) (tCons (tVar 2) tNil))) [some (V.ref a), some v1, some (V.ref l), none, none] H10 (isV (.bl true)) := evp_callA (ea_cons (lenM rfl k9) (ea_cons (ev_var rfl) ea_nil)) (spp_use fun H11 e => ⟨w.n, _, w.ds, rfl, ((laK k9).ex e).pl, by omega, by have := ok.dlen; omega, ok.len, rfl⟩)
  have fW : ∀ {σ : L2.St} {H' : Hp} {fs : List (Str × V)}, σ[0]? = some (some (V.ref a)) → H' a = some (.ins C dx fs) → Lk fs "_whole" = some (.int w.D) → Ev (tFld K (tVar 0) "_whole") σ H' (.int w.D) := fun h0 h1 h2 => ev_fld (ev_var h0) h1 G.insc.cl nW h2
  have habs : absI w.D = (w.ds.length : Int) := by
    rw [ok.cnt]
    unfold absI
    split <;> omega
  refine q_when (b := false) (et_is (et_or (a := false) (b := false) (et_is (et_not (et_B (Ev.of hpts))) rfl) fun _ => et_test (ev_is (ev_op (lenD rfl k9) (ev_abs (fW rfl ha10 rfl)) (rv_ne rfl)) ?_)) rfl) (fun z => by cases z) fun _ H11 e11 => ?_
  · rw [habs, decide_eq_true rfl]
    rfl
  have k11 : Kp [a] H H11 := k9.trans (Kp.ex e11)
  have ha11 := e11 _ _ ha10
  have hv2a : MxV H11 v2 w.A := hv2''.ex e11
  -- the led digits
  have hled : EvP (tCB (rTup K) (tCons (tLc (iList K (tVar 2)) (gName 3) tYes (tCall sp_moved_by [] E0 (tCons (tFld K (tVar 0) "_adjugate") (tCons (tVar 3) tNil))) [3]) tNil)) [some (V.ref a), some v1, some (V.ref l), none, none] H11 fun v H' => MxV H' v (w.ds.map (movM w.A)) := by
    obtain ⟨bs, hb, hbs⟩ := laK k11
    have hi := evi_listR (K := K) (σ := [some (V.ref a), some v1, some (V.ref l), none, none]) (tl := tVar 2) (ev_var rfl) hb
    rw [hbs.len] at hi
    refine evp_tupM ((evp_lc hi (fun _ => true) (fun j u H' => PtV H' u (movM w.A (w.ds.getD j []))) (by have := ok.dlen; exact Nat.le_of_lt (szl _)) (fun _ _ _ _ e q => q.tex e) fun i x H' hin e ⟨c, hc, hx⟩ => ?_).imp fun v H' _ ⟨D, ys, ev, _, hD, hp⟩ => ⟨D, ys, ev, hD, ?_⟩)
    · subst hx
      obtain ⟨q, hq, hcq⟩ := hbs.get hc
      refine ⟨_, fun Q q => q, rfl, et_yes, fun _ => evp_callA (ea_cons (ev_fld (ev_var rfl) (e _ _ ha11) G.insc.cl nA rfl) (ea_cons (ev_var rfl) ea_nil)) (spp_use fun H12 e12 => ⟨w.n, v2, _, w.A, q, rfl, (hv2a.ex e).ex e12, ⟨c, rfl, e12 _ _ (e _ _ hcq)⟩, ok.asq, ok.len q (List.mem_of_getElem? hq), by omega, ok.asm, ?_⟩)⟩
      rw [getD_of hq]
    · rw [filter_yes] at hp
      rw [map_range w.ds []]
      exact paired_map_l hp
  refine q_fld hled (fun _ _ => ev_var rfl) ha11 G.insc.cl nL (by show (3 : Nat) < 1000; decide) fun v4 H12 H13 e12 hv4 e13 => ?_
  have hA13 := e13 _ _ (e12 _ _ ha11)
  have k13 := st (o := .ins C dx (putF "_led" v4 (putF "_whole" (.int w.D) (putF "_adjugate" v2 (putF "_matrix" v1 []))))) k11 (e12.trans e13) hA13
  have t13 : TEx H13 (upd H13 a (.ins C dx (putF "_led" v4 (putF "_whole" (.int w.D) (putF "_adjugate" v2 (putF "_matrix" v1 [])))))) := TEx.mut hA13 fun _ z => by cases z
  have hv2b := (hv2a.ex (e12.trans e13)).tex t13
  have hv4b := (hv4.ex e13).tex t13
  generalize hh13 : upd H13 a (.ins C dx (putF "_led" v4 (putF "_whole" (.int w.D) (putF "_adjugate" v2 (putF "_matrix" v1 []))))) = H14 at k13 hv2b hv4b
  have ha14 : H14 a = some (.ins C dx (putF "_led" v4 (putF "_whole" (.int w.D) (putF "_adjugate" v2 (putF "_matrix" v1 []))))) := by rw [← hh13]; exact upd_same
  -- the numbers
  have hkeys : EvP (tLc (iTup K (tFld K (tVar 0) "_led")) (gName 4) tYes (tCall sp_rests_by [] E0 (tCons (tVar 4) (tCons (tFld K (tVar 0) "_whole") tNil))) [4]) [some (V.ref a), some v1, some (V.ref l), none, none] H14 fun v H' => PLV H' v (w.ds.map w.key) := by
    obtain ⟨b, bs, rfl, hb, hbs⟩ := hv4b
    have hi := evi_tupR (K := K) (σ := [some (V.ref a), some v1, some (V.ref l), none, none]) (tl := tFld K (tVar 0) "_led") (ev_fld (ev_var rfl) ha14 G.insc.cl nL rfl) hb
    rw [hbs.len, List.length_map] at hi
    refine (evp_lc hi (fun _ => true) (fun j u H' => PtV H' u (w.key (w.ds.getD j []))) (by have := ok.dlen; exact Nat.le_of_lt (szl _)) (fun _ _ _ _ e q => q.tex e) fun i x H' hin e ⟨c, hc, hx⟩ => ?_).imp fun v H' _ ⟨D, ys, ev, _, hD, hp⟩ => ?_
    · subst hx
      obtain ⟨q, hq, hcq⟩ := hbs.get hc
      rw [List.getElem?_map, get_some hin []] at hq
      obtain rfl := Option.some.inj hq
      exact ⟨_, fun Q q => q, rfl, et_yes, fun _ => evp_callA (ea_cons (ev_var rfl) (ea_cons (fW rfl (e _ _ ha14) rfl) ea_nil)) (spp_use fun H12 e12 => ⟨_, _, w.D, rfl, ⟨c, rfl, e12 _ _ (e _ _ hcq)⟩, ok.dne.1, by rw [movM_len ok.asq]; omega, rfl⟩)⟩
    · rw [filter_yes] at hp
      rw [map_range w.ds [], ]
      have hp2 : Paired (fun r u => PtV H' u r) ((List.range w.ds.length).map fun i => w.key (w.ds.getD i [])) ys := paired_map_l hp
      obtain ⟨as, rfl, has⟩ := pts_of hp2
      exact ⟨D, as, ev, hD, has⟩
  have hnum : EvP (tCall sp_numbers_of_keys [] E0 (tCons (tLc (iTup K (tFld K (tVar 0) "_led")) (gName 4) tYes (tCall sp_rests_by [] E0 (tCons (tVar 4) (tCons (tFld K (tVar 0) "_whole") tNil))) [4]) tNil)) [some (V.ref a), some v1, some (V.ref l), none, none] H14 fun v H' => ∃ d, v = .ref d ∧ H' d = some (.dT (numK (w.ds.map w.key))) :=
    evp_call1 hkeys fun u H15 e15 hu => spp_use fun H16 e16 => ⟨u, _, rfl, hu.ex e16, ok.nd, by rw [List.length_map]; have := ok.dlen; omega, rfl⟩
  refine q_fld hnum (fun _ _ => ev_var rfl) ha14 G.insc.cl nN (by show (4 : Nat) < 1000; decide) fun v5 H15 H16 e15 ⟨d, ev5, hd⟩ e16 => ?_
  subst ev5
  have hA16 := e16 _ _ (e15 _ _ ha14)
  have k16 := st (o := .ins C dx (putF "_numbers" (.ref d) (putF "_led" v4 (putF "_whole" (.int w.D) (putF "_adjugate" v2 (putF "_matrix" v1 [])))))) k13 (e15.trans e16) hA16
  have t16 : TEx H16 (upd H16 a (.ins C dx (putF "_numbers" (.ref d) (putF "_led" v4 (putF "_whole" (.int w.D) (putF "_adjugate" v2 (putF "_matrix" v1 []))))))) := TEx.mut hA16 fun _ z => by cases z
  have hv2c := (hv2b.ex (e15.trans e16)).tex t16
  have hv4c := (hv4b.ex (e15.trans e16)).tex t16
  have hda : d ≠ a := fun z => by
    have h1 := e16 _ _ hd
    rw [z, hA16] at h1
    cases h1
  have hd2 : upd H16 a (.ins C dx (putF "_numbers" (.ref d) (putF "_led" v4 (putF "_whole" (.int w.D) (putF "_adjugate" v2 (putF "_matrix" v1 [])))))) d = some (.dT (numK (w.ds.map w.key))) := by
    rw [upd_ne hda]
    exact e16 _ _ hd
  generalize hh16 : upd H16 a (.ins C dx (putF "_numbers" (.ref d) (putF "_led" v4 (putF "_whole" (.int w.D) (putF "_adjugate" v2 (putF "_matrix" v1 [])))))) = H17 at k16 hv2c hv4c hd2
  have ha17 : H17 a = some (.ins C dx (putF "_numbers" (.ref d) (putF "_led" v4 (putF "_whole" (.int w.D) (putF "_adjugate" v2 (putF "_matrix" v1 [])))))) := by rw [← hh16]; exact upd_same
  -- the second test
  obtain ⟨bs, hb, hbs⟩ := laK k16
  have hz0 : w.ds[0]? = some (zeroP w.n) := by
    rw [← List.head?_eq_getElem?]
    exact ok.zer
  obtain ⟨c0, hc0, hcp0⟩ := hbs.get2 hz0
  refine q_when (b := false) (et_is (et_or (a := false) (b := false) (et_test (ev_is (ev_op (ev_lenD (ps := (List.range (w.ds.map w.key).length).map fun i => ((w.ds.map w.key).getD i [], V.int (i : Int))) (show H17 d = _ by rw [← numK_tab]; exact hd2) (ev_fld (ev_var rfl) ha17 G.insc.cl nN rfl)) (lenD rfl k16) (rv_ne rfl)) ?_)) fun _ => et_test (ev_is (ev_neP (p := zeroP w.n) (q := zeroP w.n) (EvP.of (ev_op (ev_var rfl) ev_c (rv_ixL (sq_of hb) (atI_nat (j := 0) (v := .ref c0) (by rw [List.getElem?_map, hc0]; rfl)))) fun H18 e18 => ⟨c0, rfl, e18 _ _ hcp0⟩) fun H18 e18 => evp_callA (ea_cons (lenM rfl (k16.trans (Kp.ex e18))) ea_nil) (spp_use fun H19 e19 => ⟨w.n, rfl, by omega, rfl⟩)) ?_)) rfl) (fun z => by cases z) fun _ H18 e18 => ?_
  · rw [List.length_map, List.length_range, List.length_map, decide_eq_true rfl]
    rfl
  · rw [decide_eq_true rfl]
    rfl
  -- the last field
  have k18 : Kp [a] H H18 := k16.trans (Kp.ex e18)
  refine s_fld (P := fun v H' => MxV H' v w.ds) (evp_tupLA (ev_var rfl) (laK k18)) (fun _ _ => ev_var rfl) (e18 _ _ ha17) G.insc.cl (G.noat "_digits" (by decide)) (by show (5 : Nat) < 1000; decide) fun v6 H19 H20 e19 hv6 e20 => ?_
  have hA20 := e20 _ _ (e19 _ _ (e18 _ _ ha17))
  have k20 := st (o := .ins C dx (putF "_digits" v6 (putF "_numbers" (.ref d) (putF "_led" v4 (putF "_whole" (.int w.D) (putF "_adjugate" v2 (putF "_matrix" v1 []))))))) k18 (e19.trans e20) hA20
  have ee := (e18.trans e19).trans e20
  have t20 : TEx H20 (upd H20 a (.ins C dx (putF "_digits" v6 (putF "_numbers" (.ref d) (putF "_led" v4 (putF "_whole" (.int w.D) (putF "_adjugate" v2 (putF "_matrix" v1 [])))))))) := TEx.mut hA20 fun _ z => by cases z
  refine k _ (fun b o hb h => k20.1 b o (fun z => hb (List.mem_singleton.mp z)) h) ?_
  refine ⟨a, dx, _, v1, v2, v4, v6, d, rfl, upd_same, rfl, tx k20 hx, rfl, (hv2c.ex ee).tex t20, rfl, rfl, (hv4c.ex ee).tex t20, rfl, ?_, rfl, (hv6.ex e20).tex t20, fun f hf => ?_⟩
  · rw [upd_ne hda]
    exact ee _ _ hd2
  · have hh : ∀ g ∈ wFields, f ≠ g := fun g hg z => hf (by rw [z]; exact hg)
    unfold Lk
    rw [lookup_putF, if_neg (hh _ (by decide)), lookup_putF, if_neg (hh _ (by decide)), lookup_putF, if_neg (hh _ (by decide)), lookup_putF, if_neg (hh _ (by decide)), lookup_putF, if_neg (hh _ (by decide)), lookup_putF, if_neg (hh _ (by decide))]
    rfl
end
end K13
namespace K13
open PySem PySem.Spec PyProof.Rows L2 Evl
theorem evp_dnew {σ : L2.St} {H : Hp} : EvP tDNewT σ H fun v H' => ∃ d, v = .ref d ∧ H d = none ∧ DP H' d [] := fun H1 e Q q d hd => q _ _ (Ex.new hd) ⟨d, rfl, fresh_back e hd, upd_same⟩
theorem lk_orb {f : Nat → Pt} {k i : Nat} (hi : i < k) (hd : ∀ a b, a < b → b < k → f a ≠ f b) : lkP ((List.range k).map fun i => (f i, V.int (i : Int))) (f i) = some (.int (i : Int)) := by
  have hl : ((List.range k).map f).length = k := by rw [List.length_map, List.length_range]
  have hn : ((List.range k).map f).Nodup := by
    rw [List.nodup_iff_pairwise_ne, List.pairwise_iff_getElem]
    intro a b ha hb hab
    rw [List.getElem_map, List.getElem_map, List.getElem_range, List.getElem_range]
    exact hd a b hab (by omega)
  have he : ((List.range k).map fun i => (f i, V.int (i : Int))) = (List.range ((List.range k).map f).length).map fun i => (((List.range k).map f).getD i [], V.int (i : Int)) := by
    rw [hl]
    refine List.map_congr_left fun j hj => ?_
    have hj := List.mem_range.mp hj
    rw [List.getD_eq_getElem?_getD, List.getElem?_map, List.getElem?_range hj]
    rfl
  have hm : f i ∈ (List.range k).map f := List.mem_map.mpr ⟨i, List.mem_range.mpr hi, rfl⟩
  rw [he, num_lk hm hn]
  have h1 := List.idxOf_lt_length_iff.mpr hm
  have h2 : ((List.range k).map f)[((List.range k).map f).idxOf (f i)]? = some (f i) := by
    rw [List.getElem?_eq_getElem h1]
    exact congrArg some (List.getElem_idxOf h1)
  have h3 : ((List.range k).map f)[i]? = some (f i) := by
    rw [List.getElem?_map, List.getElem?_range hi]
    rfl
  rw [nodup_get hn h2 h3]
theorem orb_keys (f : Nat → Pt) (k : Nat) : ((List.range k).map fun i => (f i, V.int (i : Int))).map (·.1) = (List.range k).map f := by
  rw [List.map_map]
  rfl
theorem Way.Ok.orblen {w : Way} (o : w.Ok) {p : Pt} (hp : p.length = w.n) : ∀ k, (w.orb p k).length = w.n
  | 0 => hp
  | k + 1 => o.restlen
section
variable {w : Way} {p : Pt} {i j : Nat}
theorem Way.orb_per (h : w.orb p i = w.orb p j) (hij : i < j) : ∀ m, w.orb p (i + m) = w.orb p (j + m)
  | 0 => h
  | m + 1 => by
    show w.rest (w.orb p (i + m)) = w.rest (w.orb p (j + m))
    rw [Way.orb_per h hij m]
theorem Way.orb_cyc (h : w.orb p i = w.orb p j) (hij : i < j) : ∀ m, w.orb p (i + (j - i) * m) = w.orb p i
  | 0 => by rw [Nat.mul_zero, Nat.add_zero]
  | m + 1 => by
    have := Way.orb_per h hij ((j - i) * m)
    rw [Nat.mul_succ]
    rw [show i + ((j - i) * m + (j - i)) = j + (j - i) * m by omega, ← this]
    exact Way.orb_cyc h hij m
theorem Way.orb_fix (h : w.orb p (i + 1) = w.orb p i) : ∀ m, w.orb p (i + m) = w.orb p i
  | 0 => rfl
  | m + 1 => by
    show w.rest (w.orb p (i + m)) = w.orb p i
    rw [Way.orb_fix h m]
    exact h
/-- the row, told by the walk -/
theorem Way.row_iff (h : w.orb p i = w.orb p j) (hij : i < j) (hd : ∀ a b, a < b → b < j → w.orb p a ≠ w.orb p b) : w.Row p ↔ j = i + 1 ∧ w.num (w.orb p i) = 0 := by
  constructor
  · rintro ⟨r, h1, h2⟩
    have c := Way.orb_cyc h hij r
    have hge : r ≤ i + (j - i) * r := by
      have : 1 * r ≤ (j - i) * r := Nat.mul_le_mul_right r (by omega)
      omega
    obtain ⟨m, hm⟩ := Nat.exists_eq_add_of_le hge
    rw [hm, Way.orb_fix h1 m] at c
    have hfix : w.orb p (i + 1) = w.orb p i := by
      show w.rest (w.orb p i) = w.orb p i
      rw [← c]
      exact h1
    refine ⟨Decidable.byContradiction fun hj => hd i (i + 1) (by omega) (by omega) hfix.symm, by rw [← c]; exact h2⟩
  · rintro ⟨rfl, h2⟩
    exact ⟨i, h.symm, h2⟩
end
section
variable {K : PySem.W.Frag} {C : Addr} {mg : Str → Option Value}
theorem p_walked (vs : List V) (H : Hp) (Q : VK) (E : XK) (h : sp_walked C vs H Q E) : t_walked K C (En Q) (start ["writing", "point", "places", "found", "number"] vs) H := by
  obtain ⟨R, ⟨v, x, w, p, rfl, hw, ok, hx, hp, ⟨i0, j0, hij, hj0, hor⟩, rfl⟩, k⟩ := h
  refine q_par (Pb := fun v H' => ∃ l, v = .ref l ∧ H l = none ∧ H' l = some (.lst [])) evp_dnew (fun _ H1 e1 _ => (evp_lst ea_nil (by decide)).imp fun v H' e ⟨l, ev, h0, h⟩ => ⟨l, ev, fresh_back e1 h0, h⟩) fun _ _ H1 H2 e1 ⟨d, ex, hd0, hd⟩ e2 ⟨l, ey, hl0, hl⟩ => ?_
  subst ex ey
  have hn : ∀ k, (w.orb p k).length = w.n := ok.orblen hp
  refine q_while (fun m σ' H' => ∃ (k : Nat) (y : V) (z : Option V), m = j0 - k ∧ k ≤ j0 ∧ σ' = [some v, some y, some (.ref d), some (.ref l), z] ∧ Ex H H' ∧ PtV H' y (w.orb p k) ∧ DP H' d ((List.range k).map fun i => (w.orb p i, V.int (i : Int))) ∧ H' l = some (.lst (((List.range k).map fun k => (w.num (w.orb p k) : Int)).map V.int)) ∧ ∀ a b, a < b → b < k → w.orb p a ≠ w.orb p b) j0
    ⟨0, x, none, by omega, by omega, rfl, e1.trans e2, hx.ex (e1.trans e2), e2 _ _ hd, hl, fun a b _ h => by omega⟩ fun m σ' H' ⟨k2, y, z, hm, hk, es, ee, hy, hD, hL, hdis⟩ => ?_
  subst es
  refine ⟨_, et_dnotin hD (evp_varPt rfl hy) (fun _ _ => ev_var rfl), fun hb H3 e3 => ?_, fun hb H3 e3 => ?_⟩
  · rw [orb_keys] at hb
    have hnot : w.orb p k2 ∉ (List.range k2).map (w.orb p) := by
      intro z
      rw [decide_eq_true z] at hb
      cases hb
    have hlt : k2 < j0 := by
      refine Nat.lt_of_le_of_ne hk fun z => hnot ?_
      rw [z, ← hor]
      exact List.mem_map.mpr ⟨i0, List.mem_range.mpr hij, rfl⟩
    have hdis2 : ∀ a b, a < b → b < k2 + 1 → w.orb p a ≠ w.orb p b := fun a b hab hb e => by
      by_cases hb2 : b < k2
      · exact hdis a b hab hb2 e
      · obtain rfl : b = k2 := by omega
        exact hnot (List.mem_map.mpr ⟨a, List.mem_range.mpr hab, e⟩)
    refine ⟨fun σ2 H2 => ∃ (y : V) (z : Option V), σ2 = [some v, some y, some (.ref d), some (.ref l), z] ∧ Ex H H2 ∧ PtV H2 y (w.orb p (k2 + 1)) ∧ DP H2 d ((List.range (k2 + 1)).map fun i => (w.orb p i, V.int (i : Int))) ∧ H2 l = some (.lst (((List.range (k2 + 1)).map fun k => (w.num (w.orb p k) : Int)).map V.int)), fun σ2 H2 ⟨y, z, es, e, h1, h2, h3⟩ => ⟨j0 - (k2 + 1), by omega, k2 + 1, y, z, rfl, hlt, es, e, h1, h2, h3, hdis2⟩, ?_⟩
    have hsz : k2 < sizeLine := szl _
    refine q_dput (P := isV (.int (k2 : Int))) (e3 _ _ hD) (evp_of_ev (ev_is (ev_lenL (ev_var rfl) (e3 _ _ hL)) (by rw [List.length_map, List.length_map, List.length_range]))) (fun _ _ => ev_var rfl) (fun H4 e4 => evp_varPt rfl (hy.ex (e3.trans e4))) (by rw [List.length_map, List.length_range]; exact hsz) fun v4 H4 H5 e4 hv4 e5 => ?_
    obtain rfl : v4 = .int (k2 : Int) := hv4
    rw [putP_new _ (by rw [orb_keys]; exact hnot), ← range_map_snoc (f := fun i => (w.orb p i, V.int (i : Int)))]
    have e35 := (e3.trans e4).trans e5
    have hDd : H5 d = some (.dT (tabP ((List.range k2).map fun i => (w.orb p i, V.int (i : Int))))) := e35 _ _ hD
    have eH5 : Ex H (upd H5 d (.dT (tabP ((List.range (k2 + 1)).map fun i => (w.orb p i, V.int (i : Int)))))) := Ex.mut (ee.trans e35) hd0
    have tx := TEx.dT (o' := .dT (tabP ((List.range (k2 + 1)).map fun i => (w.orb p i, V.int (i : Int))))) hDd
    have hld : l ≠ d := ne_of (e35 _ _ hL) hDd (by intro z; cases z)
    have hL5 : upd H5 d (.dT (tabP ((List.range (k2 + 1)).map fun i => (w.orb p i, V.int (i : Int))))) l = some (.lst (((List.range k2).map fun k => (w.num (w.orb p k) : Int)).map V.int)) := by
      rw [upd_ne hld]
      exact e35 _ _ hL
    have hy5 := (hy.ex e35).tex tx
    have hD5 : DP (upd H5 d (.dT (tabP ((List.range (k2 + 1)).map fun i => (w.orb p i, V.int (i : Int)))))) d ((List.range (k2 + 1)).map fun i => (w.orb p i, V.int (i : Int))) := upd_same
    generalize upd H5 d (.dT (tabP ((List.range (k2 + 1)).map fun i => (w.orb p i, V.int (i : Int))))) = H6 at eH5 hL5 hy5 hD5
    refine q_asgG (P := fun v H' => ∃ t b, v = .ref t ∧ H' t = some (.tup [.int (w.num (w.orb p k2) : Int), .ref b]) ∧ PtA H' b (w.orb p (k2 + 1))) (evp_callA (ea_cons (ev_var rfl) (ea_cons (ev_var rfl) ea_nil)) (spp_use fun H7 e7 => ⟨v, y, w, w.orb p k2, rfl, hw.ex (eH5.trans e7), ok, hy5.ex e7, hn k2, rfl⟩)) fun u H7 e7 ⟨t, b, eu, ht, hb⟩ => ?_
    subst eu
    refine g_pair ht _ ?_
    refine s_appI (ns := (List.range k2).map fun k => (w.num (w.orb p k) : Int)) (e7 _ _ hL5) (ev_var rfl) (ev_var rfl) (by rw [List.length_map, List.length_range]; exact hsz) fun H8 h8 k8 x8 => ⟨.ref b, _, rfl, x8 H hl0 (eH5.trans e7), ⟨b, rfl, (k8 [l] (List.mem_cons_self ..)).2 _ _ hb⟩, (k8 [l] (List.mem_cons_self ..)).1 _ _ (fun z => hld (List.mem_singleton.mp z).symm) (e7 _ _ hD5), ?_⟩
    rw [range_map_snoc (f := fun k => (w.num (w.orb p k) : Int))]
    exact h8
  · rw [orb_keys] at hb
    have hin : w.orb p k2 ∈ (List.range k2).map (w.orb p) := Decidable.byContradiction fun z => by
      rw [decide_eq_false z] at hb
      cases hb
    obtain ⟨i, hi, ei⟩ := List.mem_map.mp hin
    have hi := List.mem_range.mp hi
    refine ret_of (evp_pair (Pa := isV (.ref l)) (Pb := isV (.int (i : Int))) (evp_of_ev (ev_var rfl)) fun x4 H4 e4 _ => evp_of_ev (ev_dget (p := w.orb p k2) (e4 _ _ (e3 _ _ hD)) (ev_var rfl) (fun H5 e5 => evp_varPt rfl ((hy.ex (e3.trans e4)).ex e5)) (by rw [← ei]; exact lk_orb hi hdis))) rfl fun u H4 e4 ⟨t, x5, y5, H5, H6, eu, ht, hx5, _, hy5, e6⟩ => ?_
    obtain rfl : x5 = .ref l := hx5
    obtain rfl : y5 = .int (i : Int) := hy5
    exact k u H4 ((ee.trans e3).trans e4) ⟨t, l, i, k2, eu, ht, e4 _ _ (e3 _ _ hL), hi, ei, hdis⟩
theorem p_row_or_none (vs : List V) (H : Hp) (Q : VK) (E : XK) (h : sp_row_or_none C vs H Q E) : t_row_or_none K C (En Q) (start ["writing", "point", "found", "place"] vs) H := by
  obtain ⟨R, ⟨v, x, w, p, rfl, hw, ok, hx, hp, hper, rfl⟩, k⟩ := h
  refine q_asgG (P := fun v H' => ∃ t l i j, v = .ref t ∧ H' t = some (.tup [.ref l, .int (i : Nat)]) ∧ H' l = some (.lst (((List.range j).map fun k => (w.num (w.orb p k) : Int)).map V.int)) ∧ i < j ∧ w.orb p i = w.orb p j ∧ ∀ a b, a < b → b < j → w.orb p a ≠ w.orb p b) (evp_callA (ea_cons (ev_var rfl) (ea_cons (ev_var rfl) ea_nil)) (spp_use fun H7 e7 => ⟨v, x, w, p, rfl, hw.ex e7, ok, hx.ex e7, hp, hper, rfl⟩)) fun u H1 e1 ⟨t, l, i, j, eu, ht, hl, hij, ho, hd⟩ => ?_
  subst eu
  refine g_pair ht _ ?_
  have hlen : ((List.range j).map fun k => (w.num (w.orb p k) : Int)).length = j := by rw [List.length_map, List.length_range]
  have hdrop : ((List.range j).map fun k => (w.num (w.orb p k) : Int)).drop i = [0] ↔ w.Row p := by
    rw [Way.row_iff ho hij hd]
    constructor
    · intro h
      have h1 := congrArg List.length h
      rw [List.length_drop, hlen] at h1
      have h1 : j - i = 1 := h1
      have h2 : (((List.range j).map fun k => (w.num (w.orb p k) : Int)).drop i)[0]? = some 0 := by rw [h]; rfl
      rw [List.getElem?_drop, Nat.add_zero, List.getElem?_map, List.getElem?_range hij] at h2
      have h3 : (w.num (w.orb p i) : Int) = 0 := Option.some.inj h2
      exact ⟨by omega, by omega⟩
    · rintro ⟨rfl, h2⟩
      refine List.ext_getElem? fun a => ?_
      rw [List.getElem?_drop, List.getElem?_map]
      cases a with
      | zero =>
        rw [show i + 0 = i from rfl, List.getElem?_range hij]
        show some (w.num (w.orb p i) : Int) = some 0
        rw [h2]
        rfl
      | succ a =>
        rw [List.getElem?_eq_none (by rw [List.length_range]; omega)]
        rfl
  have hcut : cutI ((List.range j).map fun k => (w.num (w.orb p k) : Int)) (some (i : Int)) none = ((List.range j).map fun k => (w.num (w.orb p k) : Int)).drop i := cutI_hi (by rw [hlen]; omega)
  refine q_when (et_test (ev_neL (p := ((List.range j).map fun k => (w.num (w.orb p k) : Int)).drop i) (q := [0]) ((evp_slL (ev_var rfl) (eo_some (ev_var rfl)) eo_none hl).imp fun v H' _ q => by rw [hcut] at q; exact q) fun _ _ => evp_nl (ns := [0]) (ea_cons ev_c ea_nil) (by decide))) (fun hb H2 e2 => ?_) fun hb H2 e2 => ?_
  · refine ret_ev (v := .non) ev_c rfl fun v H3 e3 r => k v H3 ((e1.trans e2).trans e3) (.inl ⟨r, fun z => ?_⟩)
    rw [decide_eq_true (hdrop.mpr z)] at hb
    cases hb
  · refine ret_of (evp_slL (ev_var rfl) eo_none (eo_some (ev_var rfl)) (e2 _ _ hl)) rfl fun v H3 e3 ⟨a, ev, _⟩ => k v H3 ((e1.trans e2).trans e3) (.inr ⟨⟨a, ev⟩, hdrop.mp (Decidable.byContradiction fun z => ?_)⟩)
    rw [decide_eq_false z] at hb
    cases hb
theorem p_carries_of (vs : List V) (H : Hp) (Q : VK) (E : XK) (h : sp_carries_of C vs H Q E) : t_carries_of K C (En Q) (start ["writing", "point", "digit"] vs) H := by
  obtain ⟨R, ⟨v, x, w, p, rfl, hw, ok, hx, hp, rfl⟩, k⟩ := h
  have hdig : EvP (tMeth C "digits" (sp_Wdigits C) [] E0 (tVar 0) tNil) (start ["writing", "point", "digit"] [v, x]) H fun v H' => ∃ l, v = .ref l ∧ H l = none ∧ LA H' l w.ds := evp_meth0 (ev_var rfl) hw (by decide) fun H1 e1 H2 e2 Q q E => ⟨_, ⟨v, w, rfl, hw.ex (e1.trans e2), ok, rfl⟩, fun v' H' e' ⟨l, ev, hl, hh⟩ => q v' H' e' ⟨l, ev, fresh_back (e1.trans e2) hl, hh⟩⟩
  have hi := (evf_listPts (K := K) (mu := []) (fun b hb => by cases hb) hdig).i
  refine ret_of (evp_lc hi (fun _ => true) (fun i u H' => PtV H' u (w.rest (addP p (w.ds.getD i [])))) (by have := ok.dlen; exact Nat.le_of_lt (szl _)) (fun _ _ _ _ e q => q.tex e) fun i y H' hin e ⟨d, hd, hy⟩ => ?_) rfl fun v H' e ⟨D, ys, ev, hD0, hD, hp2⟩ => k v H' e ⟨D, ev, hD0, ?_⟩
  · have hdm := List.mem_of_getElem? hd
    have hdl := ok.len d hdm
    have hal : (addP p d).length = w.n := by
      unfold addP
      rw [List.length_zipWith, hp, hdl, Nat.min_self]
    refine ⟨_, fun Q q => q, rfl, et_yes, fun _ => ?_⟩
    rw [getD_of hd]
    have h1 : EvP (tCall sp_added [] E0 (tCons (tVar 1) (tCons (tVar 2) tNil))) [some v, some x, some y] H' fun v H' => PtV H' v (addP p d) := evp_callA (ea_cons (ev_var rfl) (ea_cons (ev_var rfl) ea_nil)) (spp_use fun H1 e1 => ⟨x, y, p, d, rfl, (hx.ex e).ex e1, hy.ex e1, by rw [hp, hdl], by have := ok.n3; omega, rfl⟩)
    have h2 : EvP (tCall (sp_digit_and_rest C) [] E0 (tCons (tVar 0) (tCons (tCall sp_added [] E0 (tCons (tVar 1) (tCons (tVar 2) tNil))) tNil))) [some v, some x, some y] H' fun v H' => ∃ t b, v = .ref t ∧ H' t = some (.tup [.int (w.num (addP p d) : Int), .ref b]) ∧ PtA H' b (w.rest (addP p d)) :=
      evp_call2 (evp_of_ev (ev_var rfl)) fun a H1 e1 ha => ⟨_, h1.mono e1, fun b H2 e2 hb => by
        obtain rfl : a = v := ha
        exact spp_use fun H3 e3 => ⟨a, b, w, addP p d, rfl, ((hw.ex (e.trans e1)).ex e2).ex e3, ok, hb.ex e3, hal, rfl⟩⟩
    refine evp_op h2 fun a H1 e1 ⟨t, b, ea, ht, hb⟩ => ⟨_, evp_of_ev ev_c, fun c H2 e2 hc H3 e3 Q q => ?_⟩
    subst ea
    obtain rfl : c = .int 1 := hc
    exact ⟨t, _, 1, .ref b, rfl, rfl, st_of (e3 _ _ (e2 _ _ ht)), atI_nat (j := 1) rfl, q _ H3 (Ex.refl H3) ⟨b, rfl, e3 _ _ (e2 _ _ hb)⟩⟩
  · rw [filter_yes] at hp2
    have : Paired (fun r u => PtV H' u r) ((List.range w.ds.length).map fun i => w.rest (addP p (w.ds.getD i []))) ys := paired_map_l hp2
    obtain ⟨as, rfl, has⟩ := pts_of this
    refine ⟨as, hD, ?_⟩
    unfold Way.carries
    rw [map_range w.ds []]
    exact has
theorem p_first_rowless (vs : List V) (H : Hp) (Q : VK) (E : XK) (h : sp_first_rowless C vs H Q E) : t_first_rowless K C (En Q) (start ["writing", "points", "point"] vs) H := by
  obtain ⟨R, ⟨v, x, w, ps, rfl, hw, ok, ⟨a, as, rfl, ha, has⟩, hz, hps, rfl⟩, k⟩ := h
  have hi := evf_LA (K := K) (mu := []) (σ := start ["writing", "points", "point"] [v, .ref a]) (tl := tVar 1) (ev_var rfl) ⟨as, ha, has⟩ (by simp) fun _ _ => trivial
  refine q_forF hi (fun i σ' H' => ∃ z, σ' = [some v, some (.ref a), z] ∧ ∀ p ∈ ps.take i, w.Row p) (fun _ _ _ _ _ q => q) ⟨none, rfl, fun p h => by simp at h⟩ (fun B i y σ' H' hin eB kp ⟨z, es, hrow⟩ ⟨p, hp, b, ey, hb⟩ => ?_) fun σ' H' kp ⟨z, es, hrow⟩ => ?_
  · subst es ey
    have ek : Ex H H' := fun c o hc => kp.1 c o (by simp) (eB c o hc)
    have hpm := List.mem_of_getElem? hp
    show tIfS _ _ _ _ [some v, some (V.ref a), some (V.ref b)] H'
    have hr : EvP (tCall (sp_row_or_none C) [] E0 (tCons (tVar 0) (tCons (tVar 2) tNil))) [some v, some (V.ref a), some (V.ref b)] H' fun v _ => (v = .non ∧ ¬ w.Row p) ∨ ((∃ a, v = .ref a) ∧ w.Row p) := evp_callA (ea_cons (ev_var rfl) (ea_cons (ev_var rfl) ea_nil)) (spp_use fun H1 e1 => ⟨v, _, w, p, rfl, (hw.ex ek).ex e1, ok, ⟨b, rfl, e1 _ _ (ek _ _ hb)⟩, (hps p hpm).1, (hps p hpm).2, rfl⟩)
    have ht : ∃ c, EvT (tTest (tOp rIsN (tCall (sp_row_or_none C) [] E0 (tCons (tVar 0) (tCons (tVar 2) tNil))) (tC .non))) [some v, some (V.ref a), some (V.ref b)] H' c ∧ (c = true ↔ ¬ w.Row p) := by
      by_cases hR : w.Row p
      · refine ⟨false, et_test (Ev.of (evp_op hr fun u H1 e1 hu => ⟨_, evp_of_ev ev_c, fun c H2 e2 hc H3 e3 Q q => ?_⟩)), by simp [hR]⟩
        obtain rfl : c = .non := hc
        rcases hu with ⟨_, hu⟩ | ⟨⟨d, rfl⟩, _⟩
        · exact absurd hR hu
        · exact ⟨rfl, q _ H3 (Ex.refl H3) rfl⟩
      · refine ⟨true, et_test (Ev.of (evp_op hr fun u H1 e1 hu => ⟨_, evp_of_ev ev_c, fun c H2 e2 hc H3 e3 Q q => ?_⟩)), by simp [hR]⟩
        obtain rfl : c = .non := hc
        rcases hu with ⟨rfl, _⟩ | ⟨_, hu⟩
        · exact ⟨rfl, q _ H3 (Ex.refl H3) rfl⟩
        · exact absurd hu hR
    obtain ⟨c, ht, hc⟩ := ht
    refine s_when ht (fun hb2 H1 e1 => ?_) fun hb2 H1 e1 => ⟨⟨_, rfl, fun q hq => ?_⟩, kp.trans (Kp.ex e1)⟩
    · exact ret_ev (v := .ref b) (ev_var rfl) rfl fun u H2 e2 r => k u H2 ((ek.trans e1).trans e2) (.inr ⟨⟨b, r⟩, p, hpm, hc.mp hb2⟩)
    · rw [List.take_succ, hp] at hq
      rcases List.mem_append.mp hq with hq | hq
      · exact hrow q hq
      · obtain rfl : q = p := by simpa using hq
        exact Classical.byContradiction fun z => by
          rw [hc.mpr z] at hb2
          cases hb2
  · subst es
    have ek : Ex H H' := fun c o hc => kp.1 c o (by simp) hc
    refine ret_ev (v := .non) ev_c rfl fun u H2 e2 r => k u H2 (ek.trans e2) (.inl ⟨r, fun p hp => hrow p ?_⟩)
    rw [List.take_length]
    exact hp
end
end K13
namespace K13
open PySem PySem.Spec PyProof.Rows L2 Evl
/-- what TooMany's __init__ does -/
def spTmi (Ct : Addr) : Sp := fun vs H Q _ => ∃ (a : Addr) (x : V), vs = [.ref a, x] ∧ H a = some (exo a Ct none) ∧ ∀ dx, H dx = none → dx ≠ a → Q .non (upd (upd H dx (exd dx [("value", x)])) a (exo a Ct (some dx)))
/-- the class TooMany, ready to be raised -/
structure Tm (P : Program) (w : World) (K : PySem.W.Frag) (mg : Str → Option Value) (base : Heap) (k : Nat) (Ct : Addr) : Prop where
  ex : ∃ (f : Addr) (fd : FuncData), OexC K Ct ∧ PySem.W.findIn K (.ref Ct) "__init__" = some (some (.ref f)) ∧ PySem.W.typeIn K (.ref f) = some (.type "function") ∧ FnOk P w K mg base (L2.CX P w) k f fd ["self", "value"] (spTmi Ct) ∧ Binds K fd ["self", "value"] [] ∧ mg "TooMany" = some (.ref Ct)
def tTM (Ct : Addr) (W : WX) (te : TE) : TS := fun _ σ H => tMkO Ct (spTmi Ct) [] (tCons te tNil) σ H fun cls d H' => W cls d σ H'
theorem ps_tm {X : Cx} {W : WX} {k j : Nat} {Ct : Addr} {e : Expr} {te : TE} {p pos pos' : Pos} (c : Tm X.prog X.w X.K X.mg X.base k Ct) (hr : Room j X.A) (hk : k + 1 ≤ j) (hc : X.calm = true) (tk : Takes X W) (hg : Gl X "TooMany") (he : PE X e te)
    (hs : starEach [e] X.env = (false, eval e X.env) :: starEach [] X.env := by rfl) (hpl : (backTo pos (starEach [] X.env)).any (·.1) = false := by rfl) : PS X (.Raise (some (.Call (.Name "TooMany" p) [e] [] pos)) none pos') (tTM Ct W te) := by
  obtain ⟨f, fd, T, iC, tI, F, hb, hm⟩ := c.ex
  exact ps_raise (pos := pos') hc tk (pmk_oex (x := "TooMany") (p := p) (pos := pos) T iC tI F (hr.mono hk) hb .nil (fun _ _ _ _ _ _ _ z => by
    obtain ⟨_, _, _, _, _, _, _, _, _, _, _, _, z⟩ := z
    exact z.elim) hg hm (pa_cons he pa_nil hs) (by decide) hs hpl)
theorem s_tm {Ct : Addr} {W : WX} {te : TE} {σ : L2.St} {H : Hp} {D : Ends} {P : V → Hp → Prop} (h : EvP te σ H P) (k : ∀ x H1 d H2, Ex H H1 → P x H1 → Ex H1 H2 → H2 d = some (.xd [("value", x)]) → W (.ref Ct) (some d) σ H2) : tTM Ct W te D σ H :=
  h H (Ex.refl H) _ fun x H1 e1 px => ⟨by simp, fun a ha => ⟨a, x, rfl, upd_same, fun d hd hda => by
    have hd1 : H1 d = none := by
      rw [upd_ne hda] at hd
      exact hd
    refine ⟨rfl, d, [("value", x)], upd_same, by rw [upd_ne hda, upd_same], hd1, k x H1 d _ e1 px (fun b o hb => ?_) upd_same⟩
    have hbd : b ≠ d := ne_of_none hb hd1
    have hba : b ≠ a := ne_of_none hb ha
    rw [upd_ne hbd, del_ne hba, upd_ne hba, upd_ne hbd, upd_ne hba]
    exact hb⟩⟩
end K13
namespace K13
open PySem PySem.Spec PyProof.Rows L2 Evl NdefX
/-! ## TooMany.__init__ keeps its promise -/
def nTm (cc c : Addr) : NF := ⟨"__init__", "TooMany.__init__", defArgs sTm, defBody sTm, defScope sTm, [("__class__", cc)], c⟩
/-- what the written part tells of it -/
structure TmK (P : Program) (K : PySem.W.Frag) (mg : Str → Option Value) (Ct cc f c : Addr) (fd : FuncData) : Prop where
  fn : ∃ (oc : Value) (od : Option Addr) (dV kV doc pm : Value) (an : Option Addr) (ct : Value) (osl : Array (Option Value)), fd = PySem.W.fnX "__init__" "TooMany.__init__" (defArgs sTm) (defBody sTm) (defScope sTm) [("__class__", cc)] dV kV doc pm an (.ref c) ct ∧ K.lookup f = some ⟨oc, od, .func fd, osl⟩
  code : PySem.W.codeIn K (.ref c) "TooMany.__init__" = true
  file : ∃ (o : Obj) (vs : Array Value) (file : Str) (tf : Tok), K.lookup c = some o ∧ o.data = .fields vs ∧ vs[2]? = some (.str file tf) ∧ ((P.main.file : Str) == file) = true
  cell : ∃ o : Obj, K.lookup cc = some o ∧ o.data = .cell (some (.ref Ct))
  oex : OexC K Ct
  nov : PySem.W.findIn K (.ref Ct) "value" = some none
  opq : PySem.W.nsIn K cStatics "thirdparty.any" = some none
  sup : PySem.W.ks_superIn K Ct Ct "__init__" = some (some (.builtin "ValueError.__init__"))
  subV : PySem.W.subIn K (.ref Ct) (.type "ValueError") = some true
  subC : PySem.W.subIn K (.ref Ct) (.ref Ct) = some true
  noS : mg "super" = none
  top : (P.main.scope.names.lookup ("super" : Str)).isSome = false
theorem tm_scope : NScope ["self", "value", "__class__"] ["self", "value"] ["__class__"] (defScope sTm) := nscope_by (by decide +kernel)
section
open PySem.W
variable {prog : Program} {w : World} {A : Around} {E : Value → Shared → Prop} {h : Heap} {g : Array GenState} {d : Drawn} {t : Nat} {os : OsState}
/-- the bound ValueError.__init__ called: the args are laid anew -/
theorem call_vmw {nm q : Str} {C N : Addr} {bs bm : List Value} {hdct : Bool} {sn : List Str} {sub : List Value} {ab : Bool} {col : Option Bool} {dd : Option Addr} {k0 k1 k2 k3 k5 : Option Value} {u e t0 : Addr} {rest : List Value} {Q : Value → Shared → Prop}
    (hC : h.get? C = some (excClassObj nm q C N bs bm hdct sn sub ab col dd k0 k1 k2 k3 k5 "ValueError.__new__")) (he : h.get? e = some ({ cls := .ref C, dict := none, data := .fields #[.ref t0, .none, .none, .none, .bool false, .none] } : Obj)) (hu : h.get? u = some (kxs_mw "ValueError.__init__" e)) (hrest : rest.length ≤ sizeLine)
    (hq : ∀ h' t1, (∀ b o, b ≠ e → h.get? b = some o → h'.get? b = some o) → h'.get? e = some ({ cls := .ref C, dict := none, data := .fields #[.ref t1, .none, .none, .none, .bool false, .none] } : Obj) → Q .none ⟨h', g, d, t, os⟩) :
    wpAny (model prog w) A (call (.ref u) rest) Q E ⟨h, g, d, t, os⟩ := by
  refine wpAny_call (codeAny_of_tree ?_)
  show wpAny _ A.in1 (callAny (.ref u) ⟨rest, []⟩) _ _ _
  simp only [callAny]
  refine wpAny_bind (wpAny_load hu ?_)
  simp only [kxs_mw, show (Value.type "method-wrapper" == Value.type "method" || Value.type "method-wrapper" == Value.type "builtin_function_or_method" || Value.type "method-wrapper" == Value.type "method-wrapper") = true by decide, if_true]
  refine KFB.if_so (by decide) ?_
  refine wpAny_bind (check_bound_init F.excBase_ValueError.toExcCallFacts hC he rfl ?_)
  refine wpAny_bind (wpAny_pure (wpAny_pure ?_))
  refine ⟨plainId_quiet F.excBase_ValueError.init.plain _, codeAny_builtin F.excBase_ValueError.initEntry ?_⟩
  exact exc_init_tree (cls := .ref C) (t0 := t0) (dv := none) (c2 := .none) (c3 := .none) (b4 := .bool false) he hrest fun h' k e' _ => hq h' _ k e'
theorem callWith_vmw {M : Model} {s : Shared} {i : String} {u x : Addr} {pos : Pos} {env : Env} {e : Expr} {rest : List Expr} {Q : Value → Shared → Prop}
    (h : wpAny M A (spliced (backTo pos (starEach (e :: rest) env))) (fun vs s₁ => KxsAt i u x s₁.heap ∧ wpAny M A (call (.ref u) vs) Q E s₁) E s)
    (he : starEach (e :: rest) env = (false, eval e env) :: starEach rest env := by rfl) (hplain : (backTo pos (starEach rest env)).any (·.1) = false := by rfl) :
    wpAny M A (callWith pos (.ref u) [] (backTo pos (starEach (e :: rest) env)) []) Q E s := by
  rw [he] at h ⊢
  refine kxs_callWith (i := i) (x := x) (by show (false || (backTo pos (starEach rest env)).any (·.1)) = false; rw [hplain]; rfl) ?_
  exact Calls.evalArgs_plain h
end
section
variable {P : Program} {w : World} {K : PySem.W.Frag} {mg : Str → Option Value} {base : Heap} {Ct cc f c : Addr} {fd : FuncData}
def bTm : List Stmt := [.Expr (.Call (.Attribute (.Call (.Name "super" ⟨22, 8, 22, 13⟩) [] [] ⟨22, 8, 22, 15⟩) "__init__" ⟨22, 8, 22, 24⟩) [.Name "value" ⟨22, 25, 22, 30⟩] [] ⟨22, 8, 22, 31⟩) ⟨22, 8, 22, 31⟩,
  .Assign [.Attribute (.Name "self" ⟨23, 8, 23, 12⟩) "value" ⟨23, 8, 23, 18⟩] (.Name "value" ⟨23, 21, 23, 26⟩) ⟨23, 8, 23, 26⟩]
theorem bTm_eq : defBody sTm = bTm := by rfl
theorem ok_tmi (T : TmK P K mg Ct cc f c fd) : FnOk P w K mg base (L2.CX P w) 1 f fd ["self", "value"] (spTmi Ct) := by
  refine ⟨fun vs H Q E ⟨a, x, ev, _⟩ => by rw [ev]; rfl, fun A outer s H args us vs Q E hr e0 hb r hsp => ?_⟩
  obtain ⟨oc, od, dV, kV, doc, pm, an, ct, osl, rfl, lk⟩ := T.fn
  obtain ⟨a, x, rfl, ha, hq⟩ := hsp
  have KX : K.In s.heap := e0.mod.kin.keeps fun b o e => (e0.bs b o e).1
  have lim : s.heap.NoLimit := e0.mod.nolimit.keeps fun b o e => (e0.bs b o e).1
  have nocell : ∀ x ∈ (defScope sTm).names, x.2 ≠ .cell := tm_scope.nocell
  have hloc : ∀ x ∈ (["self", "value"] : List Str).zip us, (defScope sTm).names.lookup x.1 = some .local := fun ⟨n, v⟩ hy => tm_scope.par n (List.of_mem_zip hy).1
  cases r with
  | @cons _ u0 _ ur ra r' =>
  cases r' with
  | @cons _ u _ ur' ru r'' =>
  cases r''
  obtain rfl : u0 = Value.ref a := ra
  refine ks_codeAny_call_defAt hr.depth (KX _ _ lk) rfl lim (PySem.W.codeRec_of KX T.code) rfl hb nocell hloc fun h₀ hns kp => ?_
  obtain ⟨ocell, hcell, hcd⟩ := T.cell
  have CA : CellsAt (nTm cc c).cl ["__class__"] [some (.ref Ct)] s.heap H := by
    refine ⟨rfl, fun y b e => ?_, fun x y b h1 h2 => ?_, fun i y hi => ?_⟩
    · have e' : List.lookup y [(("__class__" : Str), cc)] = some b := e
      rw [List.lookup] at e'
      split at e'
      · cases e'
        exact ⟨(e0.bs _ _ (e0.mod.kin _ _ hcell)).2, _, ocell, KX _ _ hcell, hcd⟩
      · cases e'
    · have e1 : List.lookup x [(("__class__" : Str), cc)] = some b := h1
      have e2 : List.lookup y [(("__class__" : Str), cc)] = some b := h2
      rw [List.lookup] at e1 e2
      split at e1
      · rename_i z1
        split at e2
        · rename_i z2
          rw [beq_iff_eq] at z1 z2
          rw [z1, z2]
        · cases e2
      · cases e1
    · cases i with
      | zero =>
        cases hi
        exact ⟨cc, rfl, fun v hv => by cases hv; exact ⟨.ref Ct, rfl, ocell, KX _ _ hcell, hcd⟩⟩
      | succ i => cases hi
  have I : Inv (ncx (L2.CX P w) P w K mg base ["self", "value", "__class__"] (nTm cc c) f A outer s H E) [] (startF ["self", "value", "__class__"] [.ref a, x] [some (.ref Ct)]) H { s with heap := h₀, toks := s.toks + ((["self", "value"] : List Str).zip [Value.ref a, u]).length } :=
    inv_startN (us := [Value.ref a, u]) tm_scope hr.hd e0 rfl (.cons rfl (.cons ru .nil)) CA hns kp
  have e0A : (H a = some (exo a Ct none)) := ha
  show PySem.wpAt (model P w) (A.deeper (envF (nTm cc c) f s.heap.objs.size)) (.func (defBody sTm) (envF (nTm cc c) f s.heap.objs.size)) (execs (defBody sTm) (envF (nTm cc c) f s.heap.objs.size)) _ _ _
  rw [bTm_eq]
  obtain ⟨ocd, vsF, file, tf, hcode, hdF, hvF, hfile⟩ := T.file
  obtain ⟨nm, q, NC, bs, bm, sn, sub, ab, col, dd, k0, k1, k2, k3, k5, hC, hbm⟩ := T.oex.cls
  have hcl : PySem.W.clsIn K Ct = some { name := nm, bases := bs, mro := .ref Ct :: bm, ns := NC, qualname := q, hasDict := true, slotNames := sn, subclasses := sub, abstract := ab, collection := col, hasDel := false } := by unfold PySem.W.clsIn; rw [hC] <;> rfl
  have X1 : K.In h₀ := I.kIn
  obtain ⟨t1, ho⟩ := exo_at I.hok e0A
  obtain ⟨mb, hb1, hb2⟩ := I.mod.blt
  refine ks_wpAt_execs_cons (ks_wpAt_Expr_any (ks_wpAt_MethodCall ?_))
  refine ks_wpAt_super_base (f := f) (cc := c) (by rfl) (by rfl) (by decide) rfl (X1 _ _ lk) rfl rfl rfl (X1 _ _ hcode) hdF hvF hfile T.top ?_
  refine PySem.W.ks_loadName_global (by rfl) (by rfl) (Calls.loadGlobal_builtin (env := envF (nTm cc c) f s.heap.objs.size) (I.mod.glob.keeps I.bk) T.noS (hb1.keeps I.bk) ((hb2 _ (by decide)).trans (by decide +kernel)) ⟨rfl, ?_⟩)
  refine wpAny_loadName_free (by rfl) (by rfl) rfl ⟨_, X1 _ _ hcell, hcd⟩ ?_
  refine wpAny_loadName_local (by rfl) (by rfl) hns (by rfl) ?_
  refine ks_wpAny_isType_cls (X1 _ _ hC) rfl ⟨rfl, ?_⟩
  refine ks_wpAny_call_super (X1 _ _ hC) rfl ho rfl (fun c e => by cases e) (PySem.W.looks_subIn X1 T.subC) (fun h' e k => ?_)
  have X2 : K.In h' := X1.keeps k
  have ho2 := k _ _ ho
  have J2 : PySem.W.InstAt h' a ({ cls := .ref Ct, dict := none, data := .fields #[.ref t1, .none, .none, .none, .bool false, .none] } : Obj) Ct none := ⟨ho2, rfl, rfl, trivial⟩
  have hsup := T.sup
  unfold PySem.W.ks_superIn at hsup
  rw [hcl] at hsup
  have hmro : PySem.W.Looks (model P w) h' (mroOf (.ref Ct)) (.ref Ct :: bm) := fun A Q E s k q => wpAny_bind ((PySem.W.looks_clsIn X2 hcl) A _ E s k (wpAny_pure q))
  refine PySem.W.kxs_getMethod PySem.W.kxs_ValueError (so := h₀.objs.size) (D := Ct) (x := a) (C := Ct) e (PySem.W.looks_opaque X2 T.opq) hmro rfl X2 hsup (J2.type.andThen (PySem.W.looks_subIn X2 T.subV)) (PySem.W.ks_ne X2 J2 hcl) (by decide) ?_
  have k3 : ∀ b o, h₀.get? b = some o → (h'.push (PySem.W.kxs_mw "ValueError.__init__" a)).get? b = some o := fun b o z => Heap.get?_push_of_some _ (k b o z)
  have hu : (h'.push (PySem.W.kxs_mw "ValueError.__init__" a)).get? h'.objs.size = some (PySem.W.kxs_mw "ValueError.__init__" a) := Heap.get?_push_at rfl rfl
  have hns3 := hns.keeps k3
  have hlen : ([u] : List Value).length ≤ sizeLine := by rw [sizeLine_eq]; show (1 : Nat) ≤ 16777216; decide
  refine callWith_vmw (i := "ValueError.__init__") (x := a) (PyProof.Rows.args_cons (wpAny_Name (wpAny_loadName_local (v := u) (by rfl) (by rfl) hns3 (by rfl) (PyProof.Rows.args_nil ⟨hu, ?_⟩)) (by decide)))
  refine call_vmw (k3 _ _ (X1 _ _ hC)) (k3 _ _ ho) hu hlen fun h4 t4 k4 e4 => ?_
  have I3 := I.kept (h' := h'.push (PySem.W.kxs_mw "ValueError.__init__" a)) (t' := s.toks + ((["self", "value"] : List Str).zip [Value.ref a, u]).length + 1) k3
  have J := I3.write (t' := s.toks + ((["self", "value"] : List Str).zip [Value.ref a, u]).length + 1) (x := a) (e := a) (o := exo a Ct none) (by rw [e0A]; exact True.intro) (.inl rfl) k4 ⟨_, e4⟩ (exo_ok e4)
  have eu : upd H a (exo a Ct none) = H := by
    funext b
    by_cases hb : b = a
    · rw [hb, upd_same, e0A]
    · rw [upd_ne hb]
  rw [eu] at J
  refine wpAt_of_wpAny ?_
  have hq' : tOst K "value" (tVar 0) (tVar 1) { nx := fun _ H' => Q .non H', rt := Q } (startF ["self", "value", "__class__"] [.ref a, x] [some (.ref Ct)]) H := ⟨x, rfl, .ref a, rfl, a, Ct, rfl, T.oex, T.nov, .inl ⟨e0A, fun dx h1 h2 => hq dx h1 h2⟩⟩
  refine wpAny_mono ((pss_one (ps_ost (X := ncx (L2.CX P w) P w K mg base ["self", "value", "__class__"] (nTm cc c) f A outer s H E) (pv 0) (pv 1))).run [] _ _ H _ J hq') (fun fl s' hs => ?_) fun e s' hs => hs
  have fin : ∀ {σ' : L2.St} {H' : Hp} {v : V} {u : Value}, Inv (ncx (L2.CX P w) P w K mg base ["self", "value", "__class__"] (nTm cc c) f A outer s H E) [] σ' H' s' → L2.RelV v u → Q v H' → CE outer P w H s Q u s' :=
    fun {σ' H' v u} J rv q => ⟨v, H', J.os, J.bare, J.base, J.hok, rv, q⟩
  cases fl with
  | ret u =>
    obtain ⟨v, σ', H', J, rv, q⟩ := hs
    exact fin J rv q
  | next =>
    obtain ⟨σ', H', J, q⟩ := hs
    exact fin (v := V.non) (u := Value.none) J rfl q
  | brk =>
    obtain ⟨_, _, _, q⟩ := hs
    exact False.elim q
  | cont =>
    obtain ⟨_, _, _, q⟩ := hs
    exact False.elim q
end
end K13
namespace K13
open PySem PySem.Spec PyProof.Rows L2 Evl
/-! {k: v}, the key a tuple of numbers -/
def tDict1 (tk tv : TE) : TE := fun σ H Q => ∀ D, H D = none → tk σ (upd H D (.dT [])) fun y H1 => tv σ H1 fun z H2 => ∃ (k : List Key) (kb : Addr), y = .ref kb ∧ H2 D = some (.dT []) ∧ H2 kb = some (.tup (k.map kV)) ∧ Q (.ref D) (upd H2 D (.dT (putK [] k z)))
theorem pe_dict1 {X : Cx} {k v : Expr} {tk tv : TE} {pos : Pos} (hu : X.A.units + 1 < cLine) (hk : PE X k tk) (hv : PE X v tv) : PE X (.Dict [some k] [v] pos) (tDict1 tk tv) := by
  refine ⟨fun pins s σ H Q I h => ?_⟩
  have hn := I.hok.fresh (Nat.le_refl s.heap.objs.size)
  have I1 := I.laid (a := s.heap.objs.size) (o := .dT []) (h' := s.heap.push { cls := .type "dict", data := .dict #[] }) (t' := s.toks) (fun _ _ q => Heap.get?_push_of_some _ q) (Nat.le_refl _) (dt_empty s.heap I.big)
  refine wpAny_Dict_any rfl rfl (by simp) (by simp) (thn ((pps_cons hk hv pps_nil).run pins _ σ _ (fun ps H2 => match ps with
    | [(y, z)] => ∃ (k : List Key) (kb : Addr), y = .ref kb ∧ H2 s.heap.objs.size = some (.dT []) ∧ H2 kb = some (.tup (k.map kV)) ∧ Q (.ref s.heap.objs.size) (upd H2 s.heap.objs.size (.dT (putK [] k z)))
    | _ => False) I1 (h _ hn)) fun ws s2 ⟨ps, H2, I2, rel, hq⟩ => ?_)
  match ps, hq with
  | [(y, z)], ⟨k', kb, ey, e1, e2, q⟩ =>
    cases rel with
    | @cons _ b _ bs r rr =>
      cases rr
      unfold storeAll
      rw [List.forIn_cons]
      refine wpAny_bind (wpAny_bind (dT_dictSet hu I2 e1 (by rw [sizeLine_eq]; decide) e2 (by rw [← ey]; exact r.1) r.2 fun s3 I3 => wpAny_pure ?_))
      dsimp only
      rw [List.forIn_nil]
      exact wpAny_pure ⟨.ref s.heap.objs.size, _, I3, rfl, q⟩
theorem evp_dict1 {tk tv : TE} {σ : L2.St} {H : Hp} {p : Pt} {z : V} (hk : ∀ H1, Ex H H1 → EvP tk σ H1 fun v H' => PtV H' v p) (hv : ∀ H1, Ex H H1 → Ev tv σ H1 z) : EvP (tDict1 tk tv) σ H fun v H' => ∃ d, v = .ref d ∧ H d = none ∧ DP H' d [(p, z)] := fun H1 e Q q d hd => by
  have e1 : Ex H (upd H1 d (.dT [])) := e.trans (Ex.new hd)
  refine hk _ e1 _ (Ex.refl _) _ fun y H2 e2 ⟨b, ey, hb⟩ => hv H2 (e1.trans e2) H2 (Ex.refl H2) _ fun H3 e3 => ?_
  have hD : H3 d = some (.dT []) := e3 _ _ (e2 _ _ upd_same)
  refine ⟨p.map Sum.inl, b, ey, hD, by rw [key_V]; exact e3 _ _ hb, q _ _ (Ex.mut (((Ex.new hd).trans e2).trans e3) hd) ⟨d, rfl, fresh_back e hd, ?_⟩⟩
  show upd H3 d _ d = _
  rw [upd_same]
  have := put_tab [] p z
  rw [putP_new z (by simp)] at this
  exact congrArg (fun t => some (HO.dT t)) this
end K13
namespace K13
open PySem PySem.Spec PyProof.Rows L2 Evl
theorem sw_trueD {kx vx : Expr} {gs : List Comprehension} {scope : Scope} {pos py : Pos} {y : Str} {l : Nat} {env : Env} (hk : env.scope.kind = .function) (hy : env.scope.names.lookup y = some .local) (hl : (py.line == pos.line) = true)
    (ha : (scope.names.any fun (n, k) => n == y && (k == .local || k == .cell)) = false) : swapsWith (.DictComp kx vx gs scope pos) (some (.Name y py)) l env = pure true := by
  have ky : env.kindOf y = some .local := hy
  have hb : env.blockKind = .function := by unfold Env.blockKind; rw [hk]; rfl
  unfold swapsWith
  simp only [hb, ky, ha, Expr.pos, hl]
  rfl
theorem ixSK {X : Cx} (K : PySem.W.Frag) (hK : X.K = K) : IxR X (rIx K) := hK ▸ ix_seq
/-- name = {k: v for ..} on one line -/
theorem ps_setDcT {X : Cx} {i : Nat} {y : Str} {py : Pos} {kx vx tg iter : Expr} {ifs : List Expr} {scope : Scope} {own : List (Str × Nat)} {pos spos : Pos} {wi : TI} {g : TG} {tt : TT} {tk tv : TE} (hu : X.A.units + 1 < cLine) (hc : X.calm = true) (hN : X.N.Nodup) (hy : X.N[i]? = some y) (hyl : X.env.scope.names.lookup y = some .local)
    (hsw : swapsWith (.DictComp kx vx [⟨tg, iter, ifs, 0⟩] scope pos) (some (.Name y py)) spos.line X.env = pure true) (hi : PI X tg iter wi) (ok : BlkOk X.N X.env.scope scope own)
    (hg : ∀ (s : Shared) (H : Hp) (C : Addr) (cl : List (Str × Addr)) (fp : List Addr), PG (X.blk s H scope (compEnvC scope cl C X.env) fp) tg g) (ht : ∀ (s : Shared) (H : Hp) (C : Addr) (cl : List (Str × Addr)) (fp : List Addr), PTs (X.blk s H scope (compEnvC scope cl C X.env) fp) ifs tt)
    (hk : ∀ (s : Shared) (H : Hp) (C : Addr) (cl : List (Str × Addr)) (fp : List Addr), PE (X.blk s H scope (compEnvC scope cl C X.env) fp) kx tk)
    (he : ∀ (s : Shared) (H : Hp) (C : Addr) (cl : List (Str × Addr)) (fp : List Addr), PE (X.blk s H scope (compEnvC scope cl C X.env) fp) vx tv) (hs : ∀ x, foldedSetIterable iter X.env x = pure x := by intro _; rfl) :
    PS X (.Assign [.Name y py] (.DictComp kx vx [⟨tg, iter, ifs, 0⟩] scope pos) spos) (tAsg (tDcT wi g tt tk tv (own.map (·.2))) (gName i)) := by
  refine ⟨fun pins s σ H D I h => ?_⟩
  rw [exec_Assign_Name_used _ _ _ _ hsw]
  refine wpAny_bind (wpAny_standAt (wpAny_bind ?_))
  show wpAny _ X.A (do let _ ← comprehension (.DictComp kx vx [⟨tg, iter, ifs, 0⟩] scope pos) scope X.env (firstIterPos [⟨tg, iter, ifs, 0⟩] pos) newDict false (eval iter X.env) (some (assign (.Name y py) X.env))) _ _ s
  have h : tDcT wi g tt tk tv (own.map (·.2)) σ H (fun x H1 => gName i x σ H1 D.nx) := h
  refine wpAny_bind (thn (dcT_core (Qf := fun _ s' => SP X pins D .next s') hu hc hN I hi ok hg ht hk he hs h fun L C s' m H' I' q hn f => ?_) fun _ s' hq => wpAny_pure (wpAny_pure hq))
  show wpAny _ _ (assign (.Name y py) X.env (.ref L)) _ _ _
  refine wpAny_assign_Name (store_ok2 (v := V.ref L) I' hN hy (.inl hyl) rfl (fun s2 I2 ⟨a, sb, ha⟩ => ?_) (.inr hyl))
  obtain ⟨f0, f1, f2, f3, f4, f5⟩ := f
  have haC : C ≠ a := by
    rcases ha with z | z
    · rw [z]; exact f1
    · exact fun e => f4 y a z e.symm
  refine ⟨m, hn.sameBut sb haC, fun h3 sb3 => ?_⟩
  exact ⟨_, H', I2.turned (t' := s2.toks) (fun b o hb e => (sb3.2 b hb).trans e) f0 f1 f3 f4 f5, q⟩
end K13
namespace K13
open PySem PySem.Spec PyProof.Rows L2 Evl
section
variable {P : Program} {w : World} {K : PySem.W.Frag} {mg : Str → Option Value} {base : Heap} {C Ct : Addr}
theorem sc_closed_of : FnScope ["writing", "points", "found", "left", "carried", "point"] ["writing", "points"] (defScope (top 48)) := ⟨rfl, rfl, rfl, by decide +kernel, rfl, by decide +kernel, by decide +kernel⟩
def t_closed_of (K : PySem.W.Frag) (C Ct : Addr) (E : XK) : TS :=
    (tSeq (tAsg (tDcT (iList K (tVar 1)) (gName 5) tYes (tVar 5) (tC (.bl true)) [5]) (gName 2))
    (tSeq (tAsg (tCB rListD (tCons (tVar 2) tNil)) (gName 3))
    (tSeq (tWhile (tAnd (tTest (tOp (rNeD K) (tVar 3) (tLst tNil))) (tTest (tOp (rI0 fun i j => .bl (decide (i ≤ j))) (tCB rLenT (tCons (tVar 2) tNil)) (tC (.int 600))))) (tFor (iList K (tCall (sp_carries_of C) [] E0 (tCons (tVar 0) (tCons (tBM0 K "list" rPop (tVar 3)) tNil)))) (gName 4) (tIfS (tB (tDNotIn (tVar 4) (tVar 2))) (tSeq (sDPut (tVar 2) (tVar 4) (tC (.bl true)))
    (tDrop (tBM K "list" rAppend (tVar 3) (tCons (tVar 4) tNil)))) tNext)))
    (tSeq (tIfS (tTest (tOp (rI0 fun i j => .bl (decide (j < i))) (tCB rLenT (tCons (tVar 2) tNil)) (tC (.int 600)))) (tTM Ct (fun cls d _ H => E cls d H) (tOp (rI0 fun i j => .int (i + j)) (tC (.int 600)) (tC (.int 1)))) tNext)
    (tRet (tCB rSortD (tCons (tVar 2) tNil)))))))
theorem d_closed_of (G : Glo K mg C) (c_carries_of : Fn P w K mg base (L2.CX P w) 5 "carries_of" ["writing", "point"] (sp_carries_of C)) (c_TM : Tm P w K mg base 1 Ct) {f : Addr} {cdv : Value} {A : Around} {outer : List Env} {s : Shared} {H : Hp} {E : XK} (hr : Room 5 (A.deeper (envOfC "closed_of" (defScope (top 48)) s.heap.objs.size f cdv))) :
    PSs (cxOf (L2.CX P w) P w K mg base ["writing", "points", "found", "left", "carried", "point"] "closed_of" (defScope (top 48)) f cdv A outer s H E) (defBody (top 48)) (t_closed_of K C Ct E) :=
    (pss_cons (ps_setDcT (i := 2) (own := [("point", 5)]) (hu_of hr) rfl sc_closed_of.nd rfl rfl (sw_trueD rfl rfl rfl (by decide +kernel)) (piL K rfl (pv 1)) (blkOk_by (N := ["writing", "points", "found", "left", "carried", "point"]) (sc := defScope (top 48)) (by decide +kernel)) (fun _ _ _ _ _ => (pg_name (i := 5) sc_closed_of.nd rfl (by first | exact .inl rfl | exact .inr rfl))) (fun _ _ _ _ _ => pts_nil) (fun _ _ _ _ _ => (pv 5)) (fun _ _ _ _ _ => pe_bl))
    (pss_cons (ps_set (i := 3) sc_closed_of.nd rfl (by first | exact .inl rfl | exact .inr rfl) (pe_callTy (cListD rfl) (by rfl) G.g_list boot_list (pa_cons (pv 2) pa_nil)))
    (pss_cons (ps_while (passes_of rfl) (PW.pt (pt_and (pt_cmpR (neDK K rfl hr.units) (pv 3) (pe_lst pa_nil) (nomark _)) (pt_and1 (pt_cmpR op_le (pe_callB call_len_dT (by rfl) G.g_len boot_len (pa_cons (pv 2) pa_nil)) (pe_gi (by rfl) G.mostCarries) (nomark _))))) (pss_one (ps_for (passes_of rfl) rfl (piL K rfl (pe_f c_carries_of hr (by decide) passL (by rfl) (pa_cons (pv 0) (pa_cons (pe_bm0K K rfl PySem.F.plainAttrs_list PySem.F.slot_list_pop PySem.F.type_list_pop mt_pop (pv 3)) pa_nil)))) (pg_name (i := 4) sc_closed_of.nd rfl (by first | exact .inl rfl | exact .inr rfl)) (pss_one (ps_if (pt_cmp (pc_dnotin (hu_of hr) (pv 4) (pv 2))) (pss_cons (ps_dput (hu_of hr) (pv 2) (pv 4) pe_bl rfl)
    (pss_one (ps_expr (pe_bmK K rfl PySem.F.plainAttrs_list PySem.F.slot_list_append PySem.F.type_list_append mt_append (pv 3) (pa_cons (pv 4) pa_nil))))) pss_nil)))))
    (pss_cons (ps_if (pt_cmpR op_gt (pe_callB call_len_dT (by rfl) G.g_len boot_len (pa_cons (pv 2) pa_nil)) (pe_gi (by rfl) G.mostCarries) (nomark _)) (pss_one (ps_tm c_TM hr (by decide) rfl (takes_of rfl rfl rfl rfl) (by rfl) (pe_op op_add (pe_gi (by rfl) G.mostCarries) pe_int))) pss_nil)
    (pss_one (ps_ret (pe_callB (cr_sortD rfl) (by rfl) G.g_sorted boot_sorted (pa_cons (pv 2) pa_nil))))))))
theorem sc_closed_unit_points : FnScope ["writing"] ["writing"] (defScope (top 49)) := ⟨rfl, rfl, rfl, by decide +kernel, rfl, by decide +kernel, by decide +kernel⟩
def t_closed_unit_points (K : PySem.W.Frag) (C Ct : Addr) (E : XK) : TS :=
    (tRet (tCall (sp_closed_of C Ct) [] E (tCons (tVar 0) (tCons (tCall sp_unit_points [] E0 (tCons (tMeth C "size" (sp_Wsize C) [] E0 (tVar 0) tNil) tNil)) tNil))))
theorem d_closed_unit_points (G : Glo K mg C) (c_Wsize : Mth P w K mg base 1 C "size" ["self"] (sp_Wsize C)) (c_unit_points : Fn P w K mg base (L2.CX P w) 1 "unit_points" ["size"] sp_unit_points) (c_closed_of : Fn P w K mg base (L2.CX P w) 6 "closed_of" ["writing", "points"] (sp_closed_of C Ct)) {f : Addr} {cdv : Value} {A : Around} {outer : List Env} {s : Shared} {H : Hp} {E : XK} (hr : Room 6 (A.deeper (envOfC "closed_unit_points" (defScope (top 49)) s.heap.objs.size f cdv))) :
    PSs (cxOf (L2.CX P w) P w K mg base ["writing"] "closed_unit_points" (defScope (top 49)) f cdv A outer s H E) (defBody (top 49)) (t_closed_unit_points K C Ct E) :=
    (pss_one (ps_ret (pe_f c_closed_of hr (by decide) (passes_call (takes_of rfl rfl rfl rfl) fun _ _ _ _ h => h) (by rfl) (pa_cons (pv 0) (pa_cons (pe_f c_unit_points hr (by decide) passL (by rfl) (pa_cons (pe_m0 c_Wsize hr (by decide) passL (pv 0)) pa_nil)) pa_nil)))))
theorem sc_points_of_cube : FnScope ["size", "bound", "found", "_", "point", "number"] ["size", "bound"] (defScope (top 52)) := ⟨rfl, rfl, rfl, by decide +kernel, rfl, by decide +kernel, by decide +kernel⟩
def t_points_of_cube (K : PySem.W.Frag) : TS :=
    (tSeq (tAsg (tLst (tCons (tTup tNil) tNil)) (gName 2))
    (tSeq (tFor (iRng1 (tCons (tVar 0) tNil)) (gName 3) (tAsg (tLc2 (iList K (tVar 2)) (gName 4) tYes (iRng2 (tCons (tUn (rU fun i => .int (-i)) (tVar 1)) (tCons (tOp (rI0 fun i j => .int (i + j)) (tVar 1) (tC (.int 1))) tNil))) (gName 5) tYes (tOp (rCatA K) (tVar 4) (tTup (tCons (tVar 5) tNil))) [4, 5] [5]) (gName 2)))
    (tRet (tVar 2))))
theorem d_points_of_cube (G : Glo K mg C)  {f : Addr} {cdv : Value} {A : Around} {outer : List Env} {s : Shared} {H : Hp} {E : XK} (hr : Room 0 (A.deeper (envOfC "points_of_cube" (defScope (top 52)) s.heap.objs.size f cdv))) :
    PSs (cxOf (L2.CX P w) P w K mg base ["size", "bound", "found", "_", "point", "number"] "points_of_cube" (defScope (top 52)) f cdv A outer s H E).nox (defBody (top 52)) (t_points_of_cube K) :=
    (pss_cons (ps_set (i := 2) sc_points_of_cube.nd rfl (by first | exact .inl rfl | exact .inr rfl) (pe_lst (pa_cons (pe_tup pa_nil) pa_nil)))
    (pss_cons (ps_for PassesOwn.never rfl (pi_range1 (by rfl) G.g_range (pa_cons (pv 0) pa_nil)) (pg_name (i := 3) sc_points_of_cube.nd rfl (by first | exact .inl rfl | exact .inr rfl)) (pss_one (ps_setLc2 (i := 2) (own := [("point", 4), ("number", 5)]) (vs1 := [5]) rfl sc_points_of_cube.nd rfl rfl (sw_true rfl rfl rfl (by decide +kernel)) (piL K rfl (pv 2)) (blkOk_by (N := ["size", "bound", "found", "_", "point", "number"]) (sc := defScope (top 52)) (by decide +kernel)) (by decide) (fun _ _ _ _ _ => (pg_name (i := 4) sc_points_of_cube.nd rfl (by first | exact .inl rfl | exact .inr rfl))) (fun _ _ _ _ _ => pts_nil) (fun _ _ _ _ _ => (pi_range2 (by rfl) G.g_range (pa_cons (pe_un un_neg (pv 1)) (pa_cons (pe_op op_add (pv 1) pe_int) pa_nil)))) (fun _ _ _ _ _ => (pg_name (i := 5) sc_points_of_cube.nd rfl (by first | exact .inl rfl | exact .inr rfl))) (fun _ _ _ _ _ => pts_nil) (fun _ _ _ _ _ => (pe_op (catAK K rfl) (pv 4) (pe_tup (pa_cons (pv 5) pa_nil)))))))
    (pss_one (ps_ret (pv 2)))))
theorem sc_all_have_rows : FnScope ["writing"] ["writing"] (defScope (top 53)) := ⟨rfl, rfl, rfl, by decide +kernel, rfl, by decide +kernel, by decide +kernel⟩
def t_all_have_rows (K : PySem.W.Frag) (C Ct : Addr) (E : XK) : TS :=
    (tSeq (tDrop (tCall (sp_check_writing C) [] E0 (tCons (tVar 0) tNil)))
    (tRet (tOp rIsN (tCall (sp_first_rowless C) [] E0 (tCons (tVar 0) (tCons (tCall (sp_closed_unit_points C Ct) [] E (tCons (tVar 0) tNil)) tNil))) (tC .non))))
theorem d_all_have_rows (G : Glo K mg C) (c_check_writing : Fn P w K mg base (L2.CX P w) 1 "check_writing" ["writing"] (sp_check_writing C)) (c_closed_unit_points : Fn P w K mg base (L2.CX P w) 7 "closed_unit_points" ["writing"] (sp_closed_unit_points C Ct)) (c_first_rowless : Fn P w K mg base (L2.CX P w) 7 "first_rowless" ["writing", "points"] (sp_first_rowless C)) {f : Addr} {cdv : Value} {A : Around} {outer : List Env} {s : Shared} {H : Hp} {E : XK} (hr : Room 7 (A.deeper (envOfC "all_have_rows" (defScope (top 53)) s.heap.objs.size f cdv))) :
    PSs (cxOf (L2.CX P w) P w K mg base ["writing"] "all_have_rows" (defScope (top 53)) f cdv A outer s H E) (defBody (top 53)) (t_all_have_rows K C Ct E) :=
    (pss_cons (ps_expr (pe_f c_check_writing hr (by decide) passL (by rfl) (pa_cons (pv 0) pa_nil)))
    (pss_one (ps_ret (pe_cmpR op_isN1 (pe_f c_first_rowless hr (by decide) passL (by rfl) (pa_cons (pv 0) (pa_cons (pe_f c_closed_unit_points hr (by decide) (passes_call (takes_of rfl rfl rfl rfl) fun _ _ _ _ h => h) (by rfl) (pa_cons (pv 0) pa_nil)) pa_nil))) pe_non (nomark _)))))
theorem sc_ends_at_zero : FnScope ["writing", "point", "known", "path", "passed"] ["writing", "point", "known"] (defScope (top 54)) := ⟨rfl, rfl, rfl, by decide +kernel, rfl, by decide +kernel, by decide +kernel⟩
def t_ends_at_zero (K : PySem.W.Frag) (C : Addr) : TS :=
    (tSeq (tAsg (tLst tNil) (gName 3))
    (tSeq (tWhile (tB (tDNotIn (tVar 1) (tVar 2))) (tSeq (sDPut (tVar 2) (tVar 1) (tC (.bl false)))
    (tSeq (tDrop (tBM K "list" rAppend (tVar 3) (tCons (tVar 1) tNil)))
    (tAsg (tOp (rIxT K) (tCall (sp_digit_and_rest C) [] E0 (tCons (tVar 0) (tCons (tVar 1) tNil))) (tC (.int 1))) (gName 1)))))
    (tSeq (tFor (iList K (tVar 3)) (gName 4) (sDPut (tVar 2) (tVar 4) (tDGet (tVar 2) (tVar 1))))
    (tRet (tDGet (tVar 2) (tVar 1))))))
theorem d_ends_at_zero (G : Glo K mg C) (c_digit_and_rest : Fn P w K mg base (L2.CX P w) 4 "digit_and_rest" ["writing", "point"] (sp_digit_and_rest C)) {f : Addr} {cdv : Value} {A : Around} {outer : List Env} {s : Shared} {H : Hp} {E : XK} (hr : Room 4 (A.deeper (envOfC "ends_at_zero" (defScope (top 54)) s.heap.objs.size f cdv))) :
    PSs (cxOf (L2.CX P w) P w K mg base ["writing", "point", "known", "path", "passed"] "ends_at_zero" (defScope (top 54)) f cdv A outer s H E).nox (defBody (top 54)) (t_ends_at_zero K C) :=
    (pss_cons (ps_set (i := 3) sc_ends_at_zero.nd rfl (by first | exact .inl rfl | exact .inr rfl) (pe_lst pa_nil))
    (pss_cons (ps_while PassesOwn.never (pt_cmp (pc_dnotin (hu_of hr) (pv 1) (pv 2))) (pss_cons (ps_dput (hu_of hr) (pv 2) (pv 1) pe_bl rfl)
    (pss_cons (ps_expr (pe_bmK K rfl PySem.F.plainAttrs_list PySem.F.slot_list_append PySem.F.type_list_append mt_append (pv 3) (pa_cons (pv 1) pa_nil)))
    (pss_one (ps_set (i := 1) sc_ends_at_zero.nd rfl (by first | exact .inl rfl | exact .inr rfl) (pe_ix (ixT K rfl) (pe_f c_digit_and_rest hr (by decide) passL (by rfl) (pa_cons (pv 0) (pa_cons (pv 1) pa_nil))) pe_int (fun _ _ => rfl)))))))
    (pss_cons (ps_for PassesOwn.never rfl (piL K rfl (pv 3)) (pg_name (i := 4) sc_ends_at_zero.nd rfl (by first | exact .inl rfl | exact .inr rfl)) (pss_one (ps_dput (hu_of hr) (pv 2) (pv 4) (pe_dget (hu_of hr) (pv 2) (pv 1) (fun _ _ => rfl)) rfl)))
    (pss_one (ps_ret (pe_dget (hu_of hr) (pv 2) (pv 1) (fun _ _ => rfl)))))))
theorem sc_first_without_row : FnScope ["writing", "known", "most", "found", "point"] ["writing"] (defScope (top 55)) := ⟨rfl, rfl, rfl, by decide +kernel, rfl, by decide +kernel, by decide +kernel⟩
def t_first_without_row (K : PySem.W.Frag) (C Ct : Addr) (E : XK) : TS :=
    (tSeq (tDrop (tCall (sp_check_writing C) [] E0 (tCons (tVar 0) tNil)))
    (tSeq (tIfS (tTest (tOp rIsN (tCall (sp_first_rowless C) [] E0 (tCons (tVar 0) (tCons (tCall (sp_closed_unit_points C Ct) [] E (tCons (tVar 0) tNil)) tNil))) (tC .non))) (tRet (tC .non)) tNext)
    (tSeq (tAsg (tTup (tCons (tDict1 (tCall sp_zero_point [] E0 (tCons (tMeth C "size" (sp_Wsize C) [] E0 (tVar 0) tNil) tNil)) (tC (.bl true))) (tCons (tC (.int 0)) (tCons (tLst tNil) tNil)))) (gTup K 3 (gCons (gName 1) (gCons (gName 2) (gCons (gName 3) gNil)))))
    (tSeq (tWhile (tTest (tOp (rEqD K) (tVar 3) (tLst tNil))) (tSeq (tAsg (tOp (rI0 fun i j => .int (i + j)) (tVar 2) (tC (.int 1))) (gName 2))
    (tAsg (tLc (iList K (tCall sp_points_of_cube [] E0 (tCons (tMeth C "size" (sp_Wsize C) [] E0 (tVar 0) tNil) (tCons (tVar 2) tNil)))) (gName 4) (tNot (tB (tCall (sp_ends_at_zero C) [] E0 (tCons (tVar 0) (tCons (tVar 4) (tCons (tVar 1) tNil)))))) (tVar 4) [4]) (gName 3))))
    (tRet (tOp (rIxL K) (tVar 3) (tC (.int 0))))))))
theorem d_first_without_row (G : Glo K mg C) (c_check_writing : Fn P w K mg base (L2.CX P w) 1 "check_writing" ["writing"] (sp_check_writing C)) (c_closed_unit_points : Fn P w K mg base (L2.CX P w) 7 "closed_unit_points" ["writing"] (sp_closed_unit_points C Ct)) (c_first_rowless : Fn P w K mg base (L2.CX P w) 7 "first_rowless" ["writing", "points"] (sp_first_rowless C)) (c_Wsize : Mth P w K mg base 1 C "size" ["self"] (sp_Wsize C)) (c_zero_point : Fn P w K mg base (L2.CX P w) 1 "zero_point" ["size"] sp_zero_point) (c_points_of_cube : Fn P w K mg base (L2.CX P w) 1 "points_of_cube" ["size", "bound"] sp_points_of_cube) (c_ends_at_zero : Fn P w K mg base (L2.CX P w) 5 "ends_at_zero" ["writing", "point", "known"] (sp_ends_at_zero C)) {f : Addr} {cdv : Value} {A : Around} {outer : List Env} {s : Shared} {H : Hp} {E : XK} (hr : Room 7 (A.deeper (envOfC "first_without_row" (defScope (top 55)) s.heap.objs.size f cdv))) :
    PSs (cxOf (L2.CX P w) P w K mg base ["writing", "known", "most", "found", "point"] "first_without_row" (defScope (top 55)) f cdv A outer s H E) (defBody (top 55)) (t_first_without_row K C Ct E) :=
    (pss_cons (ps_expr (pe_f c_check_writing hr (by decide) passL (by rfl) (pa_cons (pv 0) pa_nil)))
    (pss_cons (ps_if (pt_cmpR op_isN1 (pe_f c_first_rowless hr (by decide) passL (by rfl) (pa_cons (pv 0) (pa_cons (pe_f c_closed_unit_points hr (by decide) (passes_call (takes_of rfl rfl rfl rfl) fun _ _ _ _ h => h) (by rfl) (pa_cons (pv 0) pa_nil)) pa_nil))) pe_non (nomark _)) (pss_one (ps_ret pe_non)) pss_nil)
    (pss_cons (ps_asg (pe_tup (pa_cons (pe_dict1 (hu_of hr) (pe_f c_zero_point hr (by decide) passL (by rfl) (pa_cons (pe_m0 c_Wsize hr (by decide) passL (pv 0)) pa_nil)) pe_bl) (pa_cons pe_int (pa_cons (pe_lst pa_nil) pa_nil)))) (pgT K rfl rfl (pgs_cons (pg_name (i := 1) sc_first_without_row.nd rfl (by first | exact .inl rfl | exact .inr rfl)) (pgs_cons (pg_name (i := 2) sc_first_without_row.nd rfl (by first | exact .inl rfl | exact .inr rfl)) (pgs_cons (pg_name (i := 3) sc_first_without_row.nd rfl (by first | exact .inl rfl | exact .inr rfl)) pgs_nil)))))
    (pss_cons (ps_while (passes_of rfl) (pt_cmpR (eqDK K rfl hr.units) (pv 3) (pe_lst pa_nil) (nomark _)) (pss_cons (ps_set (i := 2) sc_first_without_row.nd rfl (by first | exact .inl rfl | exact .inr rfl) (pe_op op_add (pv 2) pe_int))
    (pss_one (ps_setLc (i := 3) (own := [("point", 4)]) rfl sc_first_without_row.nd rfl rfl (sw_true rfl rfl rfl (by decide +kernel)) (piL K rfl (pe_f c_points_of_cube hr (by decide) passL (by rfl) (pa_cons (pe_m0 c_Wsize hr (by decide) passL (pv 0)) (pa_cons (pv 2) pa_nil)))) (blkOk_by (N := ["writing", "known", "most", "found", "point"]) (sc := defScope (top 55)) (by decide +kernel)) (fun _ _ _ _ _ => (pg_name (i := 4) sc_first_without_row.nd rfl (by first | exact .inl rfl | exact .inr rfl))) (fun _ _ _ _ _ => (pts_one (pt_not (pt_val (pe_f c_ends_at_zero hr (by decide) passL (by rfl) (pa_cons (pv 0) (pa_cons (pv 4) (pa_cons (pv 1) pa_nil)))))))) (fun _ _ _ _ _ => (pv 4))))))
    (pss_one (ps_ret (pe_ix (ixL K rfl) (pv 3) pe_int (fun _ _ => rfl))))))))
end
end K13
namespace K13
open PySem PySem.Spec PyProof.Rows L2 Evl
/-! lists of points against [] -/
abbrev pdT (p : Pt) : PyData := .tuple (p.map PyData.int)
theorem dp_pts {K : PySem.W.Frag} {H : Hp} {as : List Addr} {ps : List Pt} (h : Pts H as ps) : DpAll K H (as.map V.ref) (ps.map pdT) := by
  induction h with
  | nil => exact .nil
  | cons h t ih => exact .cons (.tup (st_of h) (dp_all _)) ih
theorem can_pts : ∀ ps : List Pt, PyData.canLayAll0 (ps.map pdT) = true
  | [] => by simp [PyData.canLayAll0]
  | p :: r => by simp [PyData.canLayAll0, PyData.canLay0, can_all, can_pts r]
theorem dep_pts : ∀ ps : List Pt, PyData.depthAll (ps.map pdT) ≤ 1
  | [] => by simp [PyData.depthAll]
  | p :: r => by
    have := dep_pts r
    simp [PyData.depthAll, PyData.depth, dep_all]
    omega
theorem shp_pts (ps : List Pt) : SeqAt.shaped (.list (ps.map pdT)) = true := by
  have := dep_pts ps
  simp [SeqAt.shaped, PyData.canLay0, PyData.depth, can_pts]
  omega
theorem eqv_ptsNil (ps : List Pt) : PyData.eqv (.list (ps.map pdT)) (.list []) = decide (ps = []) := by
  cases ps with
  | nil => simp [PyData.eqv, PyData.eqvAll]
  | cons p r => simp [PyData.eqv, PyData.eqvAll]
section
variable {K : PySem.W.Frag} {σ : L2.St} {H : Hp} {ta : TE} {l : Addr} {ps : List Pt}
theorem ev_neLA (ha : Ev ta σ H (.ref l)) (hl : LA H l ps) : Ev (tOp (rNeD K) ta (tLst tNil)) σ H (.bl (!decide (ps = []))) :=
  Ev.of (evp_op (evp_of_ev ha) fun x H1 e1 hx => ⟨_, evp_lst ea_nil (by decide), fun y H2 e2 ⟨b, ey, _, hb⟩ H3 e3 Q k => by
    obtain rfl : x = .ref l := hx
    subst ey
    obtain ⟨as, h1, h2⟩ := ((hl.ex e1).ex e2).ex e3
    refine ⟨.list (ps.map pdT), .list [], .lst (sq_of h1) (dp_pts h2), .lst (sq_of (e3 _ _ hb)) .nil, shp_pts ps, rfl, ?_⟩
    rw [eqv_ptsNil]
    exact k _ H3 (Ex.refl H3) rfl⟩)
theorem ev_eqLA (ha : Ev ta σ H (.ref l)) (hl : LA H l ps) : Ev (tOp (rEqD K) ta (tLst tNil)) σ H (.bl (decide (ps = []))) :=
  Ev.of (evp_op (evp_of_ev ha) fun x H1 e1 hx => ⟨_, evp_lst ea_nil (by decide), fun y H2 e2 ⟨b, ey, _, hb⟩ H3 e3 Q k => by
    obtain rfl : x = .ref l := hx
    subst ey
    obtain ⟨as, h1, h2⟩ := ((hl.ex e1).ex e2).ex e3
    refine ⟨.list (ps.map pdT), .list [], .lst (sq_of h1) (dp_pts h2), .lst (sq_of (e3 _ _ hb)) .nil, shp_pts ps, rfl, ?_⟩
    rw [eqv_ptsNil]
    exact k _ H3 (Ex.refl H3) rfl⟩)
end
/-- the table of found points -/
def trueT (F : List Pt) : List (Pt × V) := F.map fun p => (p, V.bl true)
theorem trueT_keys (F : List Pt) : (trueT F).map (·.1) = F := by
  unfold trueT
  rw [List.map_map]
  exact List.map_id _
theorem isKeys_pts {H : Hp} {ps : List (Pt × V)} {bs : List Addr} (h : IsKeys H (tabP ps) bs) : Pts H bs (ps.map (·.1)) := by
  induction ps generalizing bs with
  | nil => cases h; exact .nil
  | cons q r ih =>
    cases h with
    | cons h t =>
      refine .cons ?_ (ih t)
      unfold PtA
      rw [← key_V]
      exact h
theorem pop_for {K : PySem.W.Frag} {σ : L2.St} {H : Hp} {sp : Sp} {E : XK} {g : TG} {tb : TS} {D : Ends} {i j : Nat} {v y : V} {l : Addr} {xs : List V} (hi : σ[i]? = some (some v)) (hj : σ[j]? = some (some (.ref l))) (hl : H l = some (.lst (xs ++ [y])))
    (h : tFor (iList K (tCall sp [] E (tCons (tC v) (tCons (tC y) tNil)))) g tb D σ (upd H l (.lst xs))) : tFor (iList K (tCall sp [] E (tCons (tVar i) (tCons (tBM0 K "list" rPop (tVar j)) tNil)))) g tb D σ H := by
  refine ⟨v, hi, .ref l, hj, .inl ⟨rfl, _, sq_of hl⟩, l, xs ++ [y], y, rfl, rfl, hl, by simp, ?_⟩
  rw [List.dropLast_concat]
  exact h
/-- what the loop of closed_of keeps: F the points found, L those still to be carried -/
structure Grow (w : Way) (P F L : List Pt) : Prop where
  nd : F.Nodup
  sub : ∀ p ∈ P, p ∈ F
  least : ∀ S, w.Closed S → (∀ p ∈ P, p ∈ S) → ∀ p ∈ F, p ∈ S
  len : ∀ p ∈ F, p.length = w.n
  left : ∀ p ∈ L, p ∈ F
  done : ∀ p ∈ F, p ∈ L ∨ ∀ q ∈ w.carries p, q ∈ F
section
variable {K : PySem.W.Frag} {C Ct : Addr} {mg : Str → Option Value}
theorem p_closed_of (vs : List V) (H : Hp) (Q : VK) (E : XK) (h : sp_closed_of C Ct vs H Q E) : t_closed_of K C Ct E (En Q) (start ["writing", "points", "found", "left", "carried", "point"] vs) H := by
  obtain ⟨v, x, w, P, rfl, hw, ok, ⟨a, as, rfl, ha, has⟩, hP, hPl, hPn, h0, kQ, kE⟩ := h
  have hi := evi_listR (K := K) (σ := start ["writing", "points", "found", "left", "carried", "point"] [v, .ref a]) (tl := tVar 1) (ev_var rfl) ha
  rw [has.len] at hi
  have hdc : EvP (tDcT (iList K (tVar 1)) (gName 5) tYes (tVar 5) (tC (.bl true)) [5]) (start ["writing", "points", "found", "left", "carried", "point"] [v, .ref a]) H fun v H' => ∃ d, v = .ref d ∧ H d = none ∧ DP H' d (trueT P) := by
    refine (evp_dc hi (fun i => P.getD i []) (fun _ => .bl true) (Nat.le_of_lt (szl _)) (fun i j h1 h2 e => nodup_get hPn (get_some h1 []) ((get_some h2 []).trans (congrArg some e.symm))) fun i y H' hin e ⟨b, hb, hy⟩ => ?_).imp fun u H' e ⟨d, eu, hd0, hd⟩ => ⟨d, eu, hd0, ?_⟩
    · subst hy
      obtain ⟨q, hq, hbq⟩ := has.get hb
      exact ⟨_, fun Q q => q, rfl, evp_varPt rfl ⟨b, rfl, by rw [getD_of hq]; exact e _ _ hbq⟩, fun _ _ => ev_c⟩
    · have : trueT P = (List.range P.length).map fun i => (P.getD i [], V.bl true) := map_range P [] fun p => (p, V.bl true)
      rw [this]
      exact hd
  refine q_asgP hdc fun u H1 e1 ⟨d, eu, hd0, hd⟩ => ?_
  subst eu
  have hls : EvP (tCB rListD (tCons (tVar 2) tNil)) [some v, some (V.ref a), some (.ref d), none, none, none] H1 fun u H' => ∃ l, u = .ref l ∧ H1 l = none ∧ LA H' l P := fun H2 e2 Q q => by
    refine ⟨.ref d, rfl, d, tabP (trueT P), rfl, .inl (e2 _ _ hd), fun p bs hp hk => q _ _ (Ex.new hp) ⟨p, rfl, fresh_back e2 hp, bs, upd_same, ?_⟩⟩
    have := isKeys_pts hk
    rw [trueT_keys] at this
    exact this.ex (Ex.new hp)
  refine q_asgP hls fun u H2 e2 ⟨l, eu, hl0, hl⟩ => ?_
  subst eu
  have hd2 : DP H2 d (trueT P) := e2 _ _ hd
  have hld : l ≠ d := fun z => by rw [z, hd] at hl0; cases hl0
  have hlH : H l = none := fresh_back e1 hl0
  have hszl : sizeLine = 16777216 := sizeLine_eq
  refine q_while (fun m σ' H' => ∃ (F L : List Pt) (c : Option V), m = 2 * (700 - F.length) + L.length ∧ m ≤ 1500 ∧ F.length ≤ 650 ∧ σ' = [some v, some (V.ref a), some (.ref d), some (.ref l), c, none] ∧ Ex H H' ∧ DP H' d (trueT F) ∧ LA H' l L ∧ Grow w P F L) (2 * (700 - P.length) + P.length)
    ⟨P, P, none, rfl, by omega, by omega, rfl, e1.trans e2, hd2, hl, ⟨hPn, fun p h => h, fun S _ h => h, hP, fun p h => h, fun p h => .inl h⟩⟩ fun m σ' H' ⟨F, L, c, hm, hm1, hF, es, ee, hD, hL, gr⟩ => ?_
  subst es
  have hlen : Ev (tCB rLenT (tCons (tVar 2) tNil)) [some v, some (V.ref a), some (.ref d), some (.ref l), c, none] H' (.int (F.length : Int)) := ev_is (ev_lenD hD (ev_var rfl)) (by unfold trueT; rw [List.length_map])
  refine ⟨_, et_and (a := !decide (L = [])) (b := decide ((F.length : Int) ≤ 600)) (et_test (ev_neLA (ev_var rfl) hL)) fun _ => et_test (ev_op hlen ev_c rv_I0), fun hb H3 e3 => ?_, fun hb H3 e3 => ?_⟩
  · -- a turn
    rw [Bool.and_eq_true] at hb
    have hne : L ≠ [] := fun z => by rw [decide_eq_true z] at hb; exact absurd hb.1 (by decide)
    have h600 : F.length ≤ 600 := by have := of_decide_eq_true hb.2; omega
    obtain ⟨L', y0, rfl⟩ : ∃ L' y0, L = L' ++ [y0] := ⟨L.dropLast, L.getLast hne, (List.dropLast_concat_getLast hne).symm⟩
    obtain ⟨bs, hb1, hb2⟩ := hL.ex e3
    have hy0F : y0 ∈ F := gr.left y0 (by simp)
    -- the list's last item
    obtain ⟨bs', b, rfl⟩ : ∃ bs' b, bs = bs' ++ [b] := by
      have hbn : bs ≠ [] := fun z => by have := hb2.len; rw [z] at this; simp at this
      exact ⟨bs.dropLast, bs.getLast hbn, (List.dropLast_concat_getLast hbn).symm⟩
    have hlen2 : bs'.length = L'.length := by have := hb2.len; simp at this; exact this
    have hyb : PtA H3 b y0 := by
      obtain ⟨q, hq, hqb⟩ := hb2.get (i := bs'.length) (b := b) (by simp)
      rw [hlen2, List.getElem?_append_right (Nat.le_refl _)] at hq
      simp at hq
      rw [hq]
      exact hqb
    have hb2' : Pts H3 bs' L' := paired_iff hlen2 fun i x y h1 h2 => by
      have hi := (List.getElem?_eq_some_iff.mp h1).1
      obtain ⟨q, hq, hqb⟩ := hb2.get (i := i) (b := x) (by rw [List.getElem?_append_left hi]; exact h1)
      rw [List.getElem?_append_left (by omega)] at hq
      rw [h2] at hq
      obtain rfl := Option.some.inj hq
      exact hqb
    refine ⟨fun σ2 H2 => ∃ (F2 L2 : List Pt) (c : Option V), 2 * (700 - F2.length) + L2.length < m ∧ F2.length ≤ 650 ∧ σ2 = [some v, some (V.ref a), some (.ref d), some (.ref l), c, none] ∧ Ex H H2 ∧ DP H2 d (trueT F2) ∧ LA H2 l L2 ∧ Grow w P F2 L2, fun σ2 H2 ⟨F2, L2, c, h1, h2, h3⟩ => ⟨_, h1, F2, L2, c, rfl, by omega, h2, h3⟩, ?_⟩
    refine pop_for (xs := bs'.map V.ref) (y := .ref b) rfl rfl (by rw [hb1, List.map_append]; rfl) ?_
    have hlt : H3 l = some (.lst ((bs' ++ [b]).map V.ref)) := hb1
    have tx := TEx.lst (o' := .lst (bs'.map V.ref)) hlt
    have la4 : LA (upd H3 l (.lst (bs'.map V.ref))) l L' := ⟨bs', upd_same, hb2'.tex tx⟩
    have hD4 : DP (upd H3 l (.lst (bs'.map V.ref))) d (trueT F) := by
      show upd H3 l _ d = _
      rw [upd_ne hld.symm]
      exact e3 _ _ hD
    have ex4 : Ex H (upd H3 l (.lst (bs'.map V.ref))) := Ex.mut (ee.trans e3) hlH
    have hyb4 := tx _ _ hyb
    generalize upd H3 l (.lst (bs'.map V.ref)) = H4 at la4 hD4 ex4 hyb4
    have hcl : EvP (tCall (sp_carries_of C) [] E0 (tCons (tC v) (tCons (tC (.ref b)) tNil))) [some v, some (V.ref a), some (.ref d), some (.ref l), c, none] H4 fun u H' => ∃ l, u = .ref l ∧ H4 l = none ∧ LA H' l (w.carries y0) := fun H5 e5 Q q =>
      evp_callA (P := fun u H' => ∃ l, u = .ref l ∧ H4 l = none ∧ LA H' l (w.carries y0)) (ea_cons ev_c (ea_cons ev_c ea_nil)) (fun H6 e6 Q q E => ⟨_, ⟨v, .ref b, w, y0, rfl, (hw.ex ex4).ex e6, ok, ⟨b, rfl, e6 _ _ hyb4⟩, gr.len y0 hy0F, rfl⟩, fun u H' e' ⟨l, eu, hl0, hh⟩ => q u H' e' ⟨l, eu, fresh_back e6 hl0, hh⟩⟩) H5 e5 Q q
    have hmu : ∀ b ∈ [d, l], H4 b ≠ none := fun b hb => by
      rcases List.mem_cons.mp hb with rfl | hb
      · rw [hD4]; exact fun z => by cases z
      · rw [List.mem_singleton.mp hb]; exact la4.ne
    refine s_forF (mu := [d, l]) (evf_listPts (K := K) hmu hcl) (fun j σ' H' => ∃ (F2 L2 : List Pt) (c : Option V), 2 * (700 - F2.length) + L2.length < m ∧ F2.length ≤ F.length + j ∧ σ' = [some v, some (V.ref a), some (.ref d), some (.ref l), c, none] ∧ DP H' d (trueT F2) ∧ LA H' l L2 ∧ F2.Nodup ∧ (∀ p ∈ F, p ∈ F2) ∧ (∀ S, w.Closed S → (∀ p ∈ P, p ∈ S) → ∀ p ∈ F2, p ∈ S) ∧ (∀ p ∈ F2, p.length = w.n) ∧ (∀ p ∈ L2, p ∈ F2) ∧ (∀ p ∈ F2, p = y0 ∨ p ∈ L2 ∨ ∀ q ∈ w.carries p, q ∈ F2) ∧ ∀ q ∈ (w.carries y0).take j, q ∈ F2)
      (fun j σ' H' H'' e ⟨F2, L2, c, h1, h2, h3, h4, h5, h6⟩ => ⟨F2, L2, c, h1, h2, h3, e _ _ h4, h5.ex e, h6⟩)
      ⟨F, L', c, by simp at hm; omega, by omega, rfl, hD4, la4, gr.nd, fun p h => h, gr.least, gr.len, fun p hp => gr.left p (by simp [hp]), fun p hp => by
        rcases gr.done p hp with h | h
        · rcases List.mem_append.mp h with h | h
          · exact .inr (.inl h)
          · exact .inl (List.mem_singleton.mp h)
        · exact .inr (.inr h), fun q hq => by simp at hq⟩
      (fun B j y σ' H5 hj eB kp ⟨F2, L2, c2, hm2, hf2, es, hD5, hL5, nd2, sub2, least2, len2, left2, done2, tk2⟩ ⟨q, hq, hy⟩ => ?_) fun σ' H5 kp ⟨F2, L2, c2, hm2, hf2, es, hD5, hL5, nd2, sub2, least2, len2, left2, done2, tk2⟩ => ?_
    · subst es
      obtain ⟨bq, rfl, hbq⟩ := hy
      have hqm : q ∈ w.carries y0 := List.mem_of_getElem? hq
      have hqt : (w.carries y0).take (j + 1) = (w.carries y0).take j ++ [q] := by rw [List.take_succ, hq]; rfl
      have hj12 : j < 12 := by
        have : (w.carries y0).length = w.ds.length := by unfold Way.carries; rw [List.length_map]
        have := ok.dlen
        omega
      have hql : q.length = w.n := by
        unfold Way.carries at hqm
        obtain ⟨dd, _, rfl⟩ := List.mem_map.mp hqm
        exact ok.restlen
      show tIfS _ _ _ _ [some v, some (V.ref a), some (.ref d), some (.ref l), some (.ref bq), none] H5
      have hnot := et_dnotin (σ := [some v, some (V.ref a), some (.ref d), some (.ref l), some (.ref bq), none]) (ty := tVar 4) (td := tVar 2) hD5 (evp_varPt rfl ⟨bq, rfl, hbq⟩) fun _ _ => ev_var rfl
      rw [trueT_keys] at hnot
      refine s_when hnot (fun hbt H6 e6 => ?_) fun hbt H6 e6 => ⟨⟨F2, L2, some (.ref bq), hm2, by omega, rfl, e6 _ _ hD5, hL5.ex e6, nd2, sub2, least2, len2, left2, done2, ?_⟩, kp.trans (Kp.ex e6)⟩
      · have hqn : q ∉ F2 := fun z => by rw [decide_eq_true z] at hbt; cases hbt
        have hfs : F2.length < sizeLine := by omega
        refine q_dput (P := isV (.bl true)) (e6 _ _ hD5) (evp_of_ev ev_c) (fun _ _ => ev_var rfl) (fun H7 e7 => evp_varPt rfl ⟨bq, rfl, e7 _ _ (e6 _ _ hbq)⟩) (by unfold trueT; rw [List.length_map]; exact hfs) fun v7 H7 H8 e7 hv7 e8 => ?_
        obtain rfl : v7 = .bl true := hv7
        rw [putP_new _ (by rw [trueT_keys]; exact hqn)]
        have e58 := (e6.trans e7).trans e8
        have hD8 := e58 _ _ hD5
        have htt : trueT F2 ++ [(q, V.bl true)] = trueT (F2 ++ [q]) := by unfold trueT; rw [List.map_append]; rfl
        rw [htt]
        have kd : Kp [d, l] H8 (upd H8 d (.dT (tabP (trueT (F2 ++ [q]))))) := Kp.dT (List.mem_cons_self ..) hD8
        have la8 : LA (upd H8 d (.dT (tabP (trueT (F2 ++ [q]))))) l L2 := (hL5.ex e58).kp (mu := [d]) (fun z => hld (List.mem_singleton.mp z)) (Kp.dT (List.mem_cons_self ..) hD8)
        have hb8 := kd.2 _ _ (e58 _ _ hbq)
        have hD9 : DP (upd H8 d (.dT (tabP (trueT (F2 ++ [q]))))) d (trueT (F2 ++ [q])) := upd_same
        generalize upd H8 d (.dT (tabP (trueT (F2 ++ [q])))) = H9 at kd la8 hb8 hD9
        have hL2l : L2.length < sizeLine := by
          have : 2 * (700 - F2.length) + L2.length < m := hm2
          omega
        refine s_appPt la8 (ev_var rfl) (evp_varPt rfl ⟨bq, rfl, hb8⟩) hL2l fun H10 la10 k10 => ⟨⟨F2 ++ [q], L2 ++ [q], some (.ref bq), ?_, ?_, rfl, (k10 [l] (List.mem_cons_self ..)).1 _ _ (fun z => hld (List.mem_singleton.mp z).symm) hD9, la10, ?_, ?_, ?_, ?_, ?_, ?_, ?_⟩, ((kp.trans (Kp.ex e58)).trans kd).trans (k10 _ (List.mem_cons_of_mem _ (List.mem_cons_self ..)))⟩
        · rw [List.length_append, List.length_append]
          simp
          omega
        · rw [List.length_append]
          simp
          omega
        · rw [List.nodup_append]
          exact ⟨nd2, by simp, fun a ha b hb z => hqn (by rw [List.mem_singleton] at hb; rw [← hb, ← z]; exact ha)⟩
        · exact fun p hp => List.mem_append_left _ (sub2 p hp)
        · intro S hS hPS p hp
          rcases List.mem_append.mp hp with hp | hp
          · exact least2 S hS hPS p hp
          · rw [List.mem_singleton.mp hp]
            exact hS y0 (least2 S hS hPS y0 (sub2 y0 hy0F)) q hqm
        · intro p hp
          rcases List.mem_append.mp hp with hp | hp
          · exact len2 p hp
          · rw [List.mem_singleton.mp hp]
            exact hql
        · intro p hp
          rcases List.mem_append.mp hp with hp | hp
          · exact List.mem_append_left _ (left2 p hp)
          · exact List.mem_append_right _ hp
        · intro p hp
          rcases List.mem_append.mp hp with hp | hp
          · rcases done2 p hp with h | h | h
            · exact .inl h
            · exact .inr (.inl (List.mem_append_left _ h))
            · exact .inr (.inr fun q hq => List.mem_append_left _ (h q hq))
          · exact .inr (.inl (List.mem_append_right _ hp))
        · intro p hp
          rw [hqt] at hp
          rcases List.mem_append.mp hp with hp | hp
          · exact List.mem_append_left _ (tk2 p hp)
          · exact List.mem_append_right _ hp
      · intro p hp
        rw [hqt] at hp
        rcases List.mem_append.mp hp with hp | hp
        · exact tk2 p hp
        · rw [List.mem_singleton.mp hp]
          exact Classical.byContradiction fun z => by rw [decide_eq_false z] at hbt; cases hbt
    · refine ⟨F2, L2, c2, hm2, ?_, es, ?_, hD5, hL5, ⟨nd2, fun p hp => sub2 p (gr.sub p hp), least2, len2, left2, fun p hp => ?_⟩⟩
      · have : (w.carries y0).length = w.ds.length := by unfold Way.carries; rw [List.length_map]
        have := ok.dlen
        omega
      · refine kp_ex ex4 kp fun b hb => ?_
        rcases List.mem_cons.mp hb with rfl | hb
        · exact hd0
        · rw [List.mem_singleton.mp hb]
          exact hlH
      · rcases done2 p hp with h | h | h
        · subst h
          refine .inr fun q hq => tk2 q ?_
          rw [List.take_length]
          exact hq
        · exact .inl h
        · exact .inr h
  · -- the end
    have hD3 := e3 _ _ hD
    refine q_when (b := decide ((600 : Int) < F.length)) (et_test (ev_op (hlen.mono e3) ev_c rv_I0)) (fun hb4 H4 e4 => ?_) fun hb4 H4 e4 => ?_
    · refine s_tm (P := isV (.int 601)) (evp_of_ev (ev_op ev_c ev_c rv_I0)) fun y H5 d5 H6 e5 hy e6 hd6 => ?_
      obtain rfl : y = .int 601 := hy
      exact kE _ _ H6 ((((ee.trans e3).trans e4).trans e5).trans e6) ⟨F, gr.nd, by have := of_decide_eq_true hb4; omega, gr.least⟩ ⟨rfl, d5, rfl, hd6⟩
    · have h600 : F.length ≤ 600 := by have := of_decide_eq_false hb4; omega
      have hLn : L = [] := Classical.byContradiction fun z => by
        rw [decide_eq_false z, decide_eq_true (show (F.length : Int) ≤ 600 by omega)] at hb
        cases hb
      subst hLn
      have hsort : EvP (tCB rSortD (tCons (tVar 2) tNil)) [some v, some (V.ref a), some (.ref d), some (.ref l), c, none] H4 fun u H' => ∃ qs : List Pt, qs.Perm F ∧ PLV H' u qs := fun H5 e5 Q q => by
        refine ⟨.ref d, rfl, d, tabP (trueT F), F, w.n, rfl, e5 _ _ (e4 _ _ hD3), ?_, h0, gr.len, fun ts qs p hp hpr hpn => q _ _ (Ex.new hpn) ⟨qs, hp, p, ts, rfl, upd_same, Pts.ex hpr (Ex.new hpn)⟩⟩
        unfold tabP trueT
        rw [List.map_map, List.map_map]
        rfl
      refine ret_of hsort rfl fun u H5 e5 ⟨qs, hp, hu⟩ => kQ u H5 qs (((ee.trans e3).trans e4).trans e5) ⟨hp.nodup_iff.mpr gr.nd, fun p h => hp.mem_iff.mpr (gr.sub p h), fun p h q hq => ?_, fun S h1 h2 p h => gr.least S h1 h2 p (hp.mem_iff.mp h)⟩ (by rw [hp.length_eq]; exact h600) hu
      rcases gr.done p (hp.mem_iff.mp h) with z | z
      · cases z
      · exact hp.mem_iff.mpr (z q hq)
end
end K13
namespace K13
open PySem PySem.Spec PyProof.Rows L2 Evl
/-! counting -/
theorem nodup_le {α : Type} [DecidableEq α] : ∀ {l F : List α}, l.Nodup → (∀ x ∈ l, x ∈ F) → l.length ≤ F.length
  | [], F, _, _ => Nat.zero_le _
  | a :: l, F, hn, hs => by
    have ha := hs a (List.mem_cons_self ..)
    obtain ⟨h1, h2⟩ := List.nodup_cons.mp hn
    have := nodup_le (F := F.erase a) h2 fun x hx => (List.mem_erase_of_ne fun z => h1 (by rw [← z]; exact hx)).mpr (hs x (List.mem_cons_of_mem _ hx))
    rw [List.length_erase_of_mem ha] at this
    have : 0 < F.length := List.length_pos_of_mem ha
    rw [List.length_cons]
    omega
theorem pigeon {F : List Pt} {f : Nat → Pt} (h : ∀ k, f k ∈ F) : ∃ i j, i < j ∧ j ≤ F.length ∧ f i = f j := by
  refine Classical.byContradiction fun hno => ?_
  have hn : ((List.range (F.length + 1)).map f).Nodup := by
    rw [List.nodup_iff_pairwise_ne, List.pairwise_iff_getElem]
    intro a b ha hb hab e
    rw [List.getElem_map, List.getElem_map, List.getElem_range, List.getElem_range] at e
    rw [List.length_map, List.length_range] at hb
    exact hno ⟨a, b, hab, by omega, e⟩
  have := nodup_le hn fun x hx => by
    obtain ⟨k, _, rfl⟩ := List.mem_map.mp hx
    exact h k
  rw [List.length_map, List.length_range] at this
  omega
theorem addP_zero {p : Pt} {n : Nat} (h : p.length = n) : addP p (zeroP n) = p := by
  subst h
  unfold addP zeroP
  induction p with
  | nil => rfl
  | cons x r ih =>
    show (x + 0) :: List.zipWith _ r (List.replicate r.length 0) = _
    rw [Int.add_zero]
    exact congrArg (List.cons x) ih
section
variable {w : Way} {p : Pt}
theorem Way.Ok.rest_carries (o : w.Ok) (hp : p.length = w.n) : w.rest p ∈ w.carries p := by
  unfold Way.carries
  refine List.mem_map.mpr ⟨zeroP w.n, ?_, by rw [addP_zero hp]⟩
  have := o.zer
  exact List.mem_of_mem_head? this
theorem Way.Least.orb {P F : List Pt} (o : w.Ok) (h : w.Least P F) (hl : ∀ p ∈ F, p.length = w.n) (hp : p ∈ F) : ∀ k, w.orb p k ∈ F
  | 0 => hp
  | k + 1 => h.closed _ (Way.Least.orb o h hl hp k) _ (o.rest_carries (hl _ (Way.Least.orb o h hl hp k)))
theorem Way.Least.per {P F : List Pt} (o : w.Ok) (h : w.Least P F) (hl : ∀ p ∈ F, p.length = w.n) (hf : F.length ≤ 600) (hp : p ∈ F) : w.Per p := by
  obtain ⟨i, j, h1, h2, h3⟩ := pigeon (Way.Least.orb o h hl hp)
  exact ⟨i, j, h1, by omega, h3⟩
theorem Way.orb_shift (k : Nat) : w.orb (w.rest p) k = w.orb p (k + 1) := by
  induction k with
  | zero => rfl
  | succ k ih =>
    show w.rest (w.orb (w.rest p) k) = w.rest (w.orb p (k + 1))
    rw [ih]
theorem Way.row_rest : w.Row (w.rest p) ↔ w.Row p := by
  constructor
  · rintro ⟨i, h1, h2⟩
    rw [Way.orb_shift, Way.orb_shift] at h1
    rw [Way.orb_shift] at h2
    exact ⟨i + 1, h1, h2⟩
  · rintro ⟨i, h1, h2⟩
    have h3 := Way.orb_fix h1 1
    have h4 := Way.orb_fix h1 2
    refine ⟨i, ?_, ?_⟩
    · rw [Way.orb_shift, Way.orb_shift]
      exact h4.trans h3.symm
    · rw [Way.orb_shift, h3]
      exact h2
theorem Way.row_orb : ∀ k, w.Row (w.orb p k) ↔ w.Row p
  | 0 => Iff.rfl
  | k + 1 => Way.row_rest.trans (Way.row_orb k)
end
section
variable {K : PySem.W.Frag} {C Ct : Addr} {mg : Str → Option Value}
theorem unitsL_nd {n : Nat} (h : n ≤ 3) : (unitsL n).Nodup := by
  match n, h with
  | 0, _ => decide
  | 1, _ => decide
  | 2, _ => decide
  | 3, _ => decide
theorem unitsL_len {n : Nat} (h : n ≤ 3) : (unitsL n).length ≤ 12 := by
  match n, h with
  | 0, _ => decide
  | 1, _ => decide
  | 2, _ => decide
  | 3, _ => decide
theorem unitsL_mem {n : Nat} {p : Pt} (h : n ≤ 3) (hp : p ∈ unitsL n) : p.length = n := by
  have : ∀ m, m ≤ 3 → ∀ p ∈ unitsL m, p.length = m := fun m hm => by
    match m, hm with
    | 0, _ => decide
    | 1, _ => decide
    | 2, _ => decide
    | 3, _ => decide
  exact this n h p hp
theorem least_perm {w : Way} {P P' F : List Pt} (hp : ∀ x, x ∈ P' ↔ x ∈ P) (h : w.Least P' F) : w.Least P F := ⟨h.nd, fun p q => h.sub p ((hp p).mpr q), h.closed, fun S h1 h2 => h.least S h1 fun p q => h2 p ((hp p).mp q)⟩
theorem p_closed_unit_points (vs : List V) (H : Hp) (Q : VK) (E : XK) (h : sp_closed_unit_points C Ct vs H Q E) : t_closed_unit_points K C Ct E (En Q) (start ["writing"] vs) H := by
  obtain ⟨v, w, rfl, hw, ok, kQ, kE⟩ := h
  have n3 := ok.n3
  have hs : EvP (tCall sp_unit_points [] E0 (tCons (tMeth C "size" (sp_Wsize C) [] E0 (tVar 0) tNil) tNil)) (start ["writing"] [v]) H fun v H' => ∃ ps : List Pt, ps.Perm (unitsL w.n) ∧ PLV H' v ps :=
    evp_call1 (Pa := isV (.int w.n)) (evp_meth0 (ev_var rfl) hw (by decide) fun H1 e1 => spp_use fun H2 e2 => ⟨v, w, rfl, hw.ex (e1.trans e2), ok, rfl⟩) fun x H1 e1 hx => spp_use fun H2 e2 => ⟨w.n, by rw [show x = .int w.n from hx], by omega, by omega, rfl⟩
  refine ⟨v, rfl, hs.run fun y H1 e1 ⟨ps, hp, hy⟩ => ?_⟩
  have hmem : ∀ x, x ∈ ps ↔ x ∈ unitsL w.n := fun x => hp.mem_iff
  exact ⟨v, y, w, ps, rfl, hw.ex e1, ok, hy, fun p q => unitsL_mem n3.2 ((hmem p).mp q), by rw [hp.length_eq]; exact unitsL_len n3.2, hp.nodup_iff.mpr (unitsL_nd n3.2), by omega,
    fun v' H' F e hl hF hv => kQ v' H' F (e1.trans e) (least_perm hmem hl) hF hv, fun cls d H' e ⟨F, h1, h2, h3⟩ ht => kE cls d H' (e1.trans e) ⟨F, h1, h2, fun S q1 q2 => h3 S q1 fun p q => q2 p ((hmem p).mp q)⟩ ht⟩
/-- first_rowless(writing, closed_unit_points(writing)) is None -/
theorem rows_run {σ : L2.St} {H : Hp} {v : V} {w : Way} {B : Nat} {E : XK} {Q : VK} (h0 : σ[0]? = some (some v)) (hw : Wr C H v w) (fine : w.Fine B) (kE : ∀ cls d H', Ex H H' → w.Big (unitsL w.n) → TM Ct cls d H' → E cls d H')
    (k : ∀ H' F b, Ex H H' → w.Least (unitsL w.n) F → F.length ≤ 600 → (b = true ↔ ∀ p ∈ F, w.Row p) → Q (.bl b) H') :
    (tOp rIsN (tCall (sp_first_rowless C) [] E0 (tCons (tVar 0) (tCons (tCall (sp_closed_unit_points C Ct) [] E (tCons (tVar 0) tNil)) tNil))) (tC .non)) σ H Q := by
  refine ⟨v, h0, v, h0, v, w, rfl, hw, fine.ok, fun y H1 F e1 hl hF hy => ?_, kE⟩
  have hlen : ∀ p ∈ F, p.length = w.n := fun p hp => (fine.near F hl p hp).1
  refine ⟨_, ⟨v, y, w, F, rfl, hw.ex e1, fine.ok, hy, by omega, fun p hp => ⟨hlen p hp, hl.per fine.ok hlen hF hp⟩, rfl⟩, fun u H2 e2 hu => ?_⟩
  rcases hu with ⟨rfl, hr⟩ | ⟨⟨a, rfl⟩, p, hp, hr⟩
  · exact ⟨rfl, k H2 F true (e1.trans e2) hl hF ⟨fun _ => hr, fun _ => rfl⟩⟩
  · exact ⟨rfl, k H2 F false (e1.trans e2) hl hF ⟨fun z => (by cases z), fun z => absurd (z p hp) hr⟩⟩
theorem p_all_have_rows (vs : List V) (H : Hp) (Q : VK) (E : XK) (h : sp_all_have_rows C Ct vs H Q E) : t_all_have_rows K C Ct E (En Q) (start ["writing"] vs) H := by
  obtain ⟨v, w, B, rfl, hw, fine, kQ, kE⟩ := h
  refine q_drop (v := .non) (ev_callV (ea_cons (ev_var rfl) ea_nil) (spp_use fun H1 e1 => ⟨v, w, rfl, hw.ex e1, rfl⟩)) fun H1 e1 => ?_
  exact rows_run (σ := [some v]) rfl (hw.ex e1) fine (fun cls d H' e => kE cls d H' (e1.trans e)) fun H' F b e => kQ H' F b (e1.trans e)
theorem cubeL_len (b : Nat) : ∀ n, (cubeL n b).length = (2 * b + 1) ^ n
  | 0 => rfl
  | n + 1 => by
    have h : ∀ ps : List Pt, (ps.flatMap fun p => (List.range (2 * b + 1)).map fun (j : Nat) => p ++ [(j : Int) - (b : Int)]).length = ps.length * (2 * b + 1) := fun ps => by
      induction ps with
      | nil => simp
      | cons p r ih => rw [List.flatMap_cons, List.length_append, ih, List.length_map, List.length_range, List.length_cons, Nat.add_mul, Nat.one_mul, Nat.add_comm]
    show ((cubeL n b).flatMap _).length = _
    rw [h, cubeL_len b n, Nat.pow_succ]
def growC (b : Nat) (ps : List Pt) : List Pt := ps.flatMap fun p => (List.range (2 * b + 1)).map fun (j : Nat) => p ++ [(j : Int) - (b : Int)]
theorem growC_len (b : Nat) (ps : List Pt) : (growC b ps).length = ps.length * (2 * b + 1) := by
  unfold growC
  induction ps with
  | nil => simp
  | cons p r ih => rw [List.flatMap_cons, List.length_append, ih, List.length_map, List.length_range, List.length_cons, Nat.add_mul, Nat.one_mul, Nat.add_comm]
theorem if_yes {a b : Prop} (h : a) : if true = true then a else b := by
  rw [if_pos rfl]
  exact h
theorem growC_snoc (b : Nat) (ps : List Pt) (p : Pt) : growC b (ps ++ [p]) = growC b ps ++ (List.range (2 * b + 1)).map fun (j : Nat) => p ++ [(j : Int) - (b : Int)] := by
  unfold growC
  rw [List.flatMap_append]
  simp
theorem evp_grow {σ : L2.St} {H : Hp} {a : Addr} {ps : List Pt} {b : Nat} {n : V} {c5 c6 : Option V} (hσ : σ = [some n, some (.int (b : Int)), some (.ref a), c5, c6, none]) (hl : LA H a ps) (hz : (growC b ps).length ≤ 16000000) (hb : 2 * b + 1 ≤ 16000000) (hp : ∀ p ∈ ps, p.length ≤ 1000) :
    EvP (tLc2 (iList K (tVar 2)) (gName 4) tYes (iRng2 (tCons (tUn (rU fun i => .int (-i)) (tVar 1)) (tCons (tOp (rI0 fun i j => .int (i + j)) (tVar 1) (tC (.int 1))) tNil))) (gName 5) tYes (tOp (rCatA K) (tVar 4) (tTup (tCons (tVar 5) tNil))) [4, 5] [5]) σ H fun v H' => ∃ l, v = .ref l ∧ H l = none ∧ LA H' l (growC b ps) := fun H0 e Q q => by
  subst hσ
  have hszl : sizeLine = 16777216 := sizeLine_eq
  obtain ⟨as, ha, has⟩ := hl
  have hi := evi_listR (K := K) (σ := [some n, some (.int (b : Int)), some (.ref a), c5, c6, none]) (tl := tVar 2) (ev_var rfl) ha
  rw [has.len] at hi
  refine hi H0 e _ fun J G H1 e1 w hG D hD => ?_
  have hD0 : H D = none := fresh_back (e.trans e1) hD
  refine ⟨fun i m H' => m = ps.length - i ∧ i ≤ ps.length ∧ Ex H1 H' ∧ LA H' D (growC b (ps.take i)), ⟨ps.length, by simp, Nat.zero_le _, Ex.new hD, LA.nil upd_same⟩, ?_⟩
  rintro i m H' ⟨rfl, hin, ex, la⟩
  by_cases hlt : i < ps.length
  · refine .inr ⟨w.goes i H' hlt (hG H' ex), fun H'' => Ex H1 H'' ∧ LA H'' D (growC b (ps.take (i + 1))), fun H'' ⟨x, y⟩ => ⟨ps.length - (i + 1), by omega, rfl, hlt, x, y⟩, fun x H2 hy => ?_⟩
    obtain ⟨e2, c, hc, hx⟩ := w.yields i H' x H2 hlt (hG H' ex) hy
    subst hx
    obtain ⟨p, hpi, hcp⟩ := has.get hc
    have eH2 : Ex H H2 := ((e.trans e1).trans ex).trans e2
    refine ⟨rfl, ?_⟩
    unfold tYes
    simp only [if_true]
    have hr := evf_rng2 (mu := [D]) (σ := [some n, some (.int (b : Int)), some (.ref a), c5, some (.ref c), none]) (H := H2) (ta := tUn (rU fun i => .int (-i)) (tVar 1)) (tb := tOp (rI0 fun i j => .int (i + j)) (tVar 1) (tC (.int 1))) (lo := -(b : Int)) (n := (b : Int) + 1) (ev_un (ev_var rfl) ru_neg) (ev_op (ev_var rfl) ev_c rv_I0) (by omega) (by omega)
    have hcnt : ((b : Int) + 1 - -(b : Int)).toNat = 2 * b + 1 := by omega
    rw [hcnt] at hr
    refine hr H2 (Ex.refl H2) _ fun J1 G1 H3 e3 w1 hG1 => ?_
    have htk : ps.take (i + 1) = ps.take i ++ [p] := by rw [List.take_succ, hpi]; rfl
    have hgl : (growC b (ps.take (i + 1))).length ≤ 16000000 := by
      rw [growC_len] at hz ⊢
      exact Nat.le_trans (Nat.mul_le_mul_right _ (by rw [List.length_take]; omega)) hz
    rw [htk, growC_snoc] at hgl
    rw [List.length_append, List.length_map, List.length_range] at hgl
    refine ⟨fun j k H' => k = 2 * b + 1 - j ∧ j ≤ 2 * b + 1 ∧ Ex H1 H' ∧ Kp [D] H3 H' ∧ LA H' D (growC b (ps.take i) ++ (List.range j).map fun (j : Nat) => p ++ [(j : Int) - (b : Int)]), ⟨2 * b + 1, by simp, Nat.zero_le _, (ex.trans e2).trans e3, Kp.refl, by simpa using (la.ex e2).ex e3⟩, ?_⟩
    rintro j k H4 ⟨rfl, hjn, ex4, kp4, la4⟩
    by_cases hjl : j < 2 * b + 1
    · have hg4 : G1 H4 := hG1 H4 kp4
      refine .inr ⟨w1.goes j H4 hjl hg4, fun H'' => Ex H1 H'' ∧ Kp [D] H3 H'' ∧ LA H'' D (growC b (ps.take i) ++ (List.range (j + 1)).map fun (j : Nat) => p ++ [(j : Int) - (b : Int)]), fun H'' ⟨x, y, z⟩ => ⟨2 * b + 1 - (j + 1), by omega, rfl, hjl, x, y, z⟩, fun x H5 hy => ?_⟩
      obtain ⟨e5, hx⟩ := w1.yields j H4 x H5 hjl hg4 hy
      subst hx
      refine ⟨rfl, ?_⟩
      have hcat : EvP (tOp (rCatA K) (tVar 4) (tTup (tCons (tVar 5) tNil))) [some n, some (.int (b : Int)), some (.ref a), c5, some (.ref c), some (.int (-(b : Int) + (j : Int)))] H5 fun v H' => PtV H' v (p ++ [(j : Int) - (b : Int)]) := by
        refine evp_catA (by have := hp p (List.mem_of_getElem? hpi); simp; omega) (evp_varPt rfl ⟨c, rfl, e5 _ _ (kp4.2 _ _ (e3 _ _ (eH2 _ _ hcp)))⟩) fun H6 e6 => evp_pt (p := [(j : Int) - (b : Int)]) (ea_cons (ev_is (ev_var rfl) (by congr 1; omega)) ea_nil) (by simp)
      refine hcat.run fun u H6 e6 ⟨t, hu, ht⟩ => ?_
      subst hu
      obtain ⟨bs, h1, h2⟩ := (la4.ex e5).ex e6
      refine ⟨bs.map V.ref, h1, by rw [List.length_map, h2.len, List.length_append, List.length_map, List.length_range]; omega, Ex.mut ((ex4.trans e5).trans e6) hD, ((kp4.trans (Kp.ex e5)).trans (Kp.ex e6)).trans (Kp.lst (List.mem_cons_self ..) h1), bs ++ [t], ?_, ?_⟩
      · rw [List.map_append]
        exact upd_same
      · rw [range_map_snoc (f := fun (j : Nat) => p ++ [(j : Int) - (b : Int)]), ← List.append_assoc]
        exact paired_snoc (h2.tex (TEx.lst h1)) (TEx.lst h1 _ _ ht)
    · have hj2 : j = 2 * b + 1 := by omega
      subst hj2
      refine .inl ⟨w1.stops H4 (hG1 H4 kp4), ex4, ?_⟩
      rw [htk, growC_snoc]
      exact la4
  · have hin' : i = ps.length := by omega
    subst hin'
    refine .inl ⟨w.stops H' (hG H' ex), q _ H' (e1.trans ex) ⟨D, rfl, hD0, ?_⟩⟩
    rw [List.take_length] at la
    exact la
theorem cubeL_succ (n b : Nat) : cubeL (n + 1) b = growC b (cubeL n b) := rfl
theorem cubeL_mem {b : Nat} : ∀ {n : Nat} {p : Pt}, p ∈ cubeL n b → p.length = n
  | 0, p, h => by rw [List.mem_singleton.mp h]; rfl
  | n + 1, p, h => by
    rw [cubeL_succ] at h
    unfold growC at h
    obtain ⟨q, hq, hp⟩ := List.mem_flatMap.mp h
    obtain ⟨j, _, rfl⟩ := List.mem_map.mp hp
    rw [List.length_append, cubeL_mem hq]
    rfl
theorem p_points_of_cube (vs : List V) (H : Hp) (Q : VK) (E : XK) (h : sp_points_of_cube vs H Q E) : t_points_of_cube K (En Q) (start ["size", "bound", "found", "_", "point", "number"] vs) H := by
  obtain ⟨R, ⟨n, b, rfl, hn, hz, rfl⟩, k⟩ := h
  have hpw : ∀ m, m ≤ n → (2 * b + 1) ^ m ≤ 16000000 := fun m hm => Nat.le_trans (Nat.pow_le_pow_right (by omega) hm) hz
  refine q_asgP (P := fun v H' => ∃ l, v = .ref l ∧ H l = none ∧ LA H' l [[]]) (evp_lstPts (epa_cons (evp_pt (p := []) ea_nil (by decide)) fun _ _ => epa_nil) (by decide)) fun u H1 e1 ⟨l, eu, hl0, hl⟩ => ?_
  subst eu
  have hi := evf_rng1 (mu := []) (σ := [some (.int (n : Int)), some (.int (b : Int)), some (V.ref l), none, none, none]) (H := H1) (ta := tVar 0) (n := n) (ev_var rfl) (by omega)
  rw [Int.toNat_natCast] at hi
  refine q_forF hi (fun i σ' H' => ∃ l x, σ' = [some (.int (n : Int)), some (.int (b : Int)), some (V.ref l), x, none, none] ∧ H l = none ∧ LA H' l (cubeL i b) ∧ Ex H H') (fun i σ' H' H'' e ⟨l, x, h1, h2, h3, h4⟩ => ⟨l, x, h1, h2, h3.ex e, h4.trans e⟩) ⟨l, none, rfl, hl0, hl, e1⟩ (fun B i x σ' H' hin eB kp ⟨l2, x2, es, hl20, hl2, ee⟩ hy => ?_) fun σ' H' kp ⟨l2, x2, es, hl20, hl2, ee⟩ => ?_
  · subst hy es
    refine s_asgP (evp_grow (a := l2) (ps := cubeL i b) rfl hl2 (by rw [← cubeL_succ, cubeL_len]; exact hpw _ (by omega)) (by have := hpw 1 (by omega); rw [Nat.pow_one] at this; exact this) fun p hp => by rw [cubeL_mem hp]; omega) fun u H2 e2 ⟨l3, eu, hl30, hl3⟩ => ?_
    subst eu
    exact ⟨⟨l3, some (.int (i : Int)), rfl, fresh_back ee hl30, by rw [cubeL_succ]; exact hl3, ee.trans e2⟩, kp.trans (Kp.ex e2)⟩
  · subst es
    exact ret_ev (v := .ref l2) (ev_var rfl) rfl fun u H2 e2 r => k u H2 (ee.trans e2) ⟨l2, r, hl20, hl2.ex e2⟩
end
end K13
namespace K13
open PySem PySem.Spec PyProof.Rows L2 Evl
theorem Kp.fresh {mu : List Addr} {H H1 : Hp} {l : Addr} {o : HO} (k : Kp mu H H1) (h : H l = none) : Kp mu H (upd H1 l o) := ⟨fun a u ha q => by
  rw [upd_ne (ne_of_none q h)]
  exact k.1 a u ha q, fun a xs q => by
  rw [upd_ne (ne_of_none q h)]
  exact k.2 a xs q⟩
theorem putP_keys {ps : List (Pt × V)} {p : Pt} (v : V) (h : p ∉ ps.map (·.1)) : (putP ps p v).map (·.1) = ps.map (·.1) ++ [p] := by
  rw [putP_new v h, List.map_append]
  rfl
theorem lkP_mem {ps : List (Pt × V)} {p : Pt} (h : p ∈ ps.map (·.1)) : ∃ v, lkP ps p = some v := by
  cases e : lkP ps p with
  | none => exact absurd h (lkP_none.mp e)
  | some v => exact ⟨v, rfl⟩
section
variable {K : PySem.W.Frag} {C Ct : Addr} {mg : Str → Option Value}
theorem p_ends_at_zero (vs : List V) (H : Hp) (Q : VK) (E : XK) (h : sp_ends_at_zero C vs H Q E) : t_ends_at_zero K C (En Q) (start ["writing", "point", "known", "path", "passed"] vs) H := by
  obtain ⟨v, x, d, w, p, ks, Z, rfl, hw, ok, hzero, hx, hpZ, hZ, hZl, hD, kn, hwk, k⟩ := h
  have hszl : sizeLine = 16777216 := sizeLine_eq
  have orbZ : ∀ j, w.orb p j ∈ Z := fun j => by
    induction j with
    | zero => exact hpZ
    | succ j ih => exact (hZ _ ih).2
  refine q_asgL (el_lst ea_nil (by decide)) fun l H1 hl e1 hl1 => ?_
  have hld : l ≠ d := fun z => by rw [z, hD] at hl; cases hl
  have hzk := kn.zero
  refine q_while (fun m σ' H' => ∃ (j : Nat) (y : V) (ks1 : List (Pt × V)), m = Z.length - ks1.length ∧ ks1.length = ks.length + j ∧ σ' = [some v, some y, some (.ref d), some (.ref l), none] ∧ Kp [d] H H' ∧ PtV H' y (w.orb p j) ∧ LA H' l ((List.range j).map (w.orb p)) ∧ DP H' d ks1 ∧ (ks1.map (·.1)).Nodup ∧ (∀ r ∈ ks1.map (·.1), r ∈ Z) ∧
      (∀ r, r ∉ (List.range j).map (w.orb p) → lkP ks1 r = lkP ks r) ∧ ∀ r ∈ (List.range j).map (w.orb p), lkP ks1 r = some (.bl false) ∧ lkP ks r = none) (Z.length - ks.length)
    ⟨0, x, ks, rfl, rfl, rfl, Kp.ex e1, hx.ex e1, LA.nil hl1, e1 _ _ hD, kn.nd, kn.pen, fun r _ => rfl, fun r hr => by simp at hr⟩ fun m σ' H' ⟨j, y, ks1, hm, hkj, es, kp, hy, hL, hD1, nd1, pen1, out1, in1⟩ => ?_
  subst es
  have hkl : ks1.length ≤ Z.length := by
    have := nodup_le nd1 pen1
    rw [List.length_map] at this
    exact this
  refine ⟨_, et_dnotin hD1 (evp_varPt rfl hy) (fun _ _ => ev_var rfl), fun hb H3 e3 => ?_, fun hb H3 e3 => ?_⟩
  · have hnot : w.orb p j ∉ ks1.map (·.1) := fun z => by rw [decide_eq_true z] at hb; cases hb
    have hnp : w.orb p j ∉ (List.range j).map (w.orb p) := fun z => hnot (Classical.byContradiction fun q => by
      have := (in1 _ z).1
      rw [lkP_none.mpr q] at this
      cases this)
    have hlk : lkP ks (w.orb p j) = none := by
      rw [← out1 _ hnp]
      exact lkP_none.mpr hnot
    have hlt : ks1.length < Z.length := by
      have hn2 : (ks1.map (·.1) ++ [w.orb p j]).Nodup := by
        rw [List.nodup_append]
        exact ⟨nd1, by simp, fun a ha b hb z => hnot (by rw [List.mem_singleton] at hb; rw [← hb, ← z]; exact ha)⟩
      have := nodup_le hn2 fun r hr => by
        rcases List.mem_append.mp hr with hr | hr
        · exact pen1 r hr
        · rw [List.mem_singleton.mp hr]; exact orbZ j
      rw [List.length_append, List.length_map] at this
      simp at this
      omega
    have hjl : ((List.range j).map (w.orb p)).length ≤ Z.length := by
      rw [List.length_map, List.length_range]
      omega
    refine ⟨fun σ2 H2 => ∃ (y : V) (ks2 : List (Pt × V)), Z.length - ks2.length < m ∧ ks2.length = ks.length + (j + 1) ∧ σ2 = [some v, some y, some (.ref d), some (.ref l), none] ∧ Kp [d] H H2 ∧ PtV H2 y (w.orb p (j + 1)) ∧ LA H2 l ((List.range (j + 1)).map (w.orb p)) ∧ DP H2 d ks2 ∧ (ks2.map (·.1)).Nodup ∧ (∀ r ∈ ks2.map (·.1), r ∈ Z) ∧
      (∀ r, r ∉ (List.range (j + 1)).map (w.orb p) → lkP ks2 r = lkP ks r) ∧ ∀ r ∈ (List.range (j + 1)).map (w.orb p), lkP ks2 r = some (.bl false) ∧ lkP ks r = none, fun σ2 H2 ⟨y, ks2, h1, h2⟩ => ⟨_, h1, j + 1, y, ks2, rfl, h2⟩, ?_⟩
    refine q_dput (P := isV (.bl false)) (e3 _ _ hD1) (evp_of_ev ev_c) (fun _ _ => ev_var rfl) (fun H4 e4 => evp_varPt rfl (hy.ex (e3.trans e4))) (by omega) fun v4 H4 H5 e4 hv4 e5 => ?_
    obtain rfl : v4 = .bl false := hv4
    have e35 := (e3.trans e4).trans e5
    have hD5 := e35 _ _ hD1
    have tx := TEx.dT (o' := .dT (tabP (putP ks1 (w.orb p j) (.bl false)))) hD5
    have kp6 : Kp [d] H (upd H5 d (.dT (tabP (putP ks1 (w.orb p j) (.bl false))))) := (kp.trans (Kp.ex e35)).trans (Kp.dT (List.mem_cons_self ..) hD5)
    have la6 : LA (upd H5 d (.dT (tabP (putP ks1 (w.orb p j) (.bl false))))) l ((List.range j).map (w.orb p)) := (hL.ex e35).kp (mu := [d]) (fun z => hld (List.mem_singleton.mp z)) (Kp.dT (List.mem_cons_self ..) hD5)
    have hy6 := (hy.ex e35).tex tx
    have hD6 : DP (upd H5 d (.dT (tabP (putP ks1 (w.orb p j) (.bl false))))) d (putP ks1 (w.orb p j) (.bl false)) := upd_same
    generalize upd H5 d (.dT (tabP (putP ks1 (w.orb p j) (.bl false)))) = H6 at kp6 la6 hy6 hD6
    refine q_appPt la6 (ev_var rfl) (evp_varPt rfl hy6) (by omega) fun H7 la7 k7 => ?_
    have kp7 : Kp [d] H H7 := by
      have := k7 [l, d] (List.mem_cons_self ..)
      exact ⟨fun a o ha h => this.1 a o (fun z => by
        rcases List.mem_cons.mp z with rfl | z
        · rw [hl] at h; cases h
        · exact ha z) (kp6.1 a o ha h), kp6.2.trans this.2⟩
    have hy7 := hy6.tex (k7 [l] (List.mem_cons_self ..)).2
    have hD7 : DP H7 d (putP ks1 (w.orb p j) (.bl false)) := (k7 [l] (List.mem_cons_self ..)).1 _ _ (fun z => hld (List.mem_singleton.mp z).symm) hD6
    have hst : EvP (tOp (rIxT K) (tCall (sp_digit_and_rest C) [] E0 (tCons (tVar 0) (tCons (tVar 1) tNil))) (tC (.int 1))) [some v, some y, some (.ref d), some (.ref l), none] H7 fun u H' => PtV H' u (w.orb p (j + 1)) := by
      refine evp_op (evp_callA (P := fun u H' => ∃ t b, u = .ref t ∧ H' t = some (.tup [.int (w.num (w.orb p j) : Int), .ref b]) ∧ PtA H' b (w.rest (w.orb p j))) (ea_cons (ev_var rfl) (ea_cons (ev_var rfl) ea_nil)) (spp_use fun H8 e8 => ⟨v, y, w, w.orb p j, rfl, (hwk H7 kp7).ex e8, ok, hy7.ex e8, (hZ _ (orbZ j)).1, rfl⟩)) fun a H8 e8 ⟨t, b, ea, ht, hb⟩ => ⟨_, evp_of_ev ev_c, fun c H9 e9 hc H10 e10 Q q => ?_⟩
      subst ea
      obtain rfl : c = .int 1 := hc
      exact ⟨t, _, 1, .ref b, rfl, rfl, st_of (e10 _ _ (e9 _ _ ht)), atI_nat (j := 1) rfl, q _ H10 (Ex.refl H10) ⟨b, rfl, e10 _ _ (e9 _ _ hb)⟩⟩
    refine s_asgP hst fun u H8 e8 hu => ⟨u, putP ks1 (w.orb p j) (.bl false), ?_, ?_, rfl, kp7.trans (Kp.ex e8), hu, ?_, e8 _ _ hD7, ?_, ?_, ?_, ?_⟩
    · have : (putP ks1 (w.orb p j) (.bl false)).length = ks1.length + 1 := by rw [putP_new _ hnot, List.length_append]; rfl
      omega
    · have : (putP ks1 (w.orb p j) (.bl false)).length = ks1.length + 1 := by rw [putP_new _ hnot, List.length_append]; rfl
      omega
    · rw [range_map_snoc]
      exact la7.ex e8
    · rw [putP_keys _ hnot, List.nodup_append]
      exact ⟨nd1, by simp, fun a ha b hb z => hnot (by rw [List.mem_singleton] at hb; rw [← hb, ← z]; exact ha)⟩
    · intro r hr
      rw [putP_keys _ hnot] at hr
      rcases List.mem_append.mp hr with hr | hr
      · exact pen1 r hr
      · rw [List.mem_singleton.mp hr]; exact orbZ j
    · intro r hr
      rw [range_map_snoc, List.mem_append, List.mem_singleton] at hr
      rw [lkP_put, if_neg (fun z => hr (.inr z)), out1 r fun z => hr (.inl z)]
    · intro r hr
      rw [range_map_snoc, List.mem_append, List.mem_singleton] at hr
      by_cases hrj : r = w.orb p j
      · subst hrj
        exact ⟨by rw [lkP_put, if_pos rfl], hlk⟩
      · have := in1 r (hr.resolve_right hrj)
        exact ⟨by rw [lkP_put, if_neg hrj]; exact this.1, this.2⟩
  · have hin : w.orb p j ∈ ks1.map (·.1) := Classical.byContradiction fun z => by rw [decide_eq_false z] at hb; cases hb
    have hzp : zeroP w.n ∉ (List.range j).map (w.orb p) := fun z => by
      have := (in1 _ z).2
      rw [hzk] at this
      cases this
    -- the answer
    obtain ⟨b, hbv, hbr⟩ : ∃ b : Bool, lkP ks1 (w.orb p j) = some (.bl b) ∧ (b = true ↔ w.Row p) := by
      by_cases hpath : w.orb p j ∈ (List.range j).map (w.orb p)
      · refine ⟨false, (in1 _ hpath).1, ⟨fun z => (by cases z), fun hR => ?_⟩⟩
        exfalso
        obtain ⟨i, hi, hij⟩ := List.mem_map.mp hpath
        have hi := List.mem_range.mp hi
        obtain ⟨r, h1, h2⟩ := hR
        have hz := hzero (w.orb p r) (hZ _ (orbZ r)).1 h1 h2
        -- the cycle meets the zero point
        have hc := Way.orb_cyc hij hi r
        have hge : r ≤ i + (j - i) * r := by
          have : 1 * r ≤ (j - i) * r := Nat.mul_le_mul_right r (by omega)
          omega
        obtain ⟨m, hm⟩ := Nat.exists_eq_add_of_le hge
        rw [hm, Way.orb_fix h1 m, hz] at hc
        exact hzp (List.mem_map.mpr ⟨i, List.mem_range.mpr hi, hc.symm⟩)
      · obtain ⟨u, hu⟩ := lkP_mem hin
        rw [out1 _ hpath] at hu
        obtain ⟨b, rfl, hb⟩ := kn.says _ _ hu
        exact ⟨b, by rw [out1 _ hpath]; exact hu, hb.trans (Way.row_orb j)⟩
    have hlen : ((List.range j).map (w.orb p)).length = j := by rw [List.length_map, List.length_range]
    have hi := evf_LA (K := K) (mu := [d]) (σ := [some v, some y, some (.ref d), some (.ref l), none]) (tl := tVar 3) (ev_var rfl) (hL.ex e3) (fun z => hld (List.mem_singleton.mp z)) fun _ _ => trivial
    refine q_forF hi (fun i σ' H' => ∃ (c : Option V) (ks2 : List (Pt × V)), σ' = [some v, some y, some (.ref d), some (.ref l), c] ∧ DP H' d ks2 ∧ ks2.map (·.1) = ks1.map (·.1) ∧ (∀ r, r ∉ (List.range j).map (w.orb p) → lkP ks2 r = lkP ks r) ∧ lkP ks2 (w.orb p j) = some (.bl b) ∧ ∀ r ∈ ((List.range j).map (w.orb p)).take i, lkP ks2 r = some (.bl b))
      (fun i σ' H' H'' e ⟨c, ks2, h1, h2, h3⟩ => ⟨c, ks2, h1, e _ _ h2, h3⟩) ⟨none, ks1, rfl, e3 _ _ hD1, rfl, out1, hbv, fun r hr => by simp at hr⟩
      (fun B i z σ' H' hin2 eB kp2 ⟨c, ks2, es, hD2, hk2, out2, cur2, in2⟩ ⟨r, hr, b3, ez, hb3⟩ => ?_) fun σ' H' kp2 ⟨c, ks2, es, hD2, hk2, out2, cur2, in2⟩ => ?_
    · subst es ez
      have hrm := List.mem_of_getElem? hr
      have hrk : r ∈ ks2.map (·.1) := by
        rw [hk2]
        exact Classical.byContradiction fun q => by
          have := (in1 r hrm).1
          rw [lkP_none.mpr q] at this
          cases this
      have kB : Kp [d] H3 H' := (Kp.ex eB).trans kp2
      have hy2 := (hy.ex e3).tex kB.2
      show sDPut _ _ _ _ [some v, some y, some (.ref d), some (.ref l), some (.ref b3)] H'
      have hb3' : PtA H' b3 r := kB.2 _ _ hb3
      refine s_dput (P := isV (.bl b)) hD2 (evp_of_ev (ev_dget hD2 (ev_var rfl) (fun H4 e4 => evp_varPt rfl (hy2.ex e4)) cur2)) (fun _ _ => ev_var rfl) (fun H4 e4 => evp_varPt rfl ⟨b3, rfl, e4 _ _ hb3'⟩) ?_ fun v4 H4 H5 e4 hv4 e5 => ?_
      · have h1 := congrArg List.length hk2
        rw [List.length_map, List.length_map] at h1
        omega
      · obtain rfl : v4 = .bl b := hv4
        have hD5 := e5 _ _ (e4 _ _ hD2)
        refine ⟨⟨some (.ref b3), putP ks2 r (.bl b), rfl, upd_same, by rw [keys_put _ _ _ hrk, hk2], fun q hq => ?_, ?_, fun q hq => ?_⟩, (kp2.trans (Kp.ex (e4.trans e5))).trans (Kp.dT (List.mem_cons_self ..) hD5)⟩
        · rw [lkP_put, if_neg (fun z => hq (by rw [z]; exact hrm)), out2 q hq]
        · rw [lkP_put]
          split
          · rfl
          · exact cur2
        · rw [lkP_put]
          split
          · rfl
          · rename_i hne
            rw [List.take_succ, hr] at hq
            rcases List.mem_append.mp hq with hq | hq
            · exact in2 q hq
            · exact absurd (by simpa using hq) hne
    · subst es
      have kB : Kp [d] H H' := (kp.trans (Kp.ex e3)).trans kp2
      have hy2 := (hy.ex e3).tex kp2.2
      refine ret_ev (v := .bl b) (ev_dget hD2 (ev_var rfl) (fun H4 e4 => evp_varPt rfl (hy2.ex e4)) cur2) rfl fun u H4 e4 r => by
        rw [show u = .bl b from r]
        refine k H4 ks2 b (kB.trans (Kp.ex e4)) (e4 _ _ hD2) ⟨?_, by rw [hk2]; exact nd1, fun r hr => pen1 r (by rw [← hk2]; exact hr), fun r u hu => ?_⟩ hbr
        · rw [out2 _ hzp]
          exact hzk
        · by_cases hrp : r ∈ (List.range j).map (w.orb p)
          · have h2 := in2 r (by rw [List.take_length]; exact hrp)
            rw [h2] at hu
            obtain rfl := Option.some.inj hu
            obtain ⟨i, _, rfl⟩ := List.mem_map.mp hrp
            exact ⟨b, rfl, hbr.trans (Way.row_orb i).symm⟩
          · rw [out2 r hrp] at hu
            exact kn.says r u hu
end
end K13
namespace K13
open PySem PySem.Spec PyProof.Rows L2 Evl
/-- what is gathered of the rowless points behind i points of the cube -/
def Gath (w : Way) (cube : List Pt) (i : Nat) (ys : List Pt) : Prop := (ys = [] ∧ ∀ q ∈ cube.take i, w.Row q) ∨ ∃ p ys' l r, ys = p :: ys' ∧ ¬ w.Row p ∧ cube = l ++ p :: r ∧ ∀ q ∈ l, w.Row q
theorem take_drop_at {α : Type} {l : List α} {i : Nat} {p : α} (h : l[i]? = some p) : l = l.take i ++ p :: l.drop (i + 1) := by
  have hi := (List.getElem?_eq_some_iff.mp h).1
  conv => lhs; rw [← List.take_append_drop i l]
  rw [List.drop_eq_getElem_cons hi]
  have := (List.getElem?_eq_some_iff.mp h).2
  rw [this]
theorem dotI_zero : ∀ (r : Pt) (n : Nat), dotI r (zeroP n) = 0
  | [], n => by unfold dotI; simp
  | x :: r, 0 => by unfold dotI zeroP; simp
  | x :: r, n + 1 => by
    have := dotI_zero r n
    unfold dotI zeroP at *
    rw [List.replicate_succ, List.zipWith_cons_cons, List.sum_cons, this, Int.mul_zero, Int.add_zero]
theorem movM_zero {n : Nat} {m : Mx} (hm : Sq n m) : movM m (zeroP n) = zeroP n := by
  unfold movM
  have : (m.map fun r => dotI r (zeroP n)) = m.map fun _ => 0 := List.map_congr_left fun r _ => dotI_zero r n
  rw [this]
  unfold zeroP
  rw [← hm.1]
  exact List.map_const' ..
theorem Way.Ok.num_zero {w : Way} (o : w.Ok) : w.num (zeroP w.n) = 0 := by
  have h := o.zer
  unfold Way.num
  cases e : w.ds with
  | nil => rw [e] at h; cases h
  | cons d r =>
    rw [e] at h
    obtain rfl : d = zeroP w.n := Option.some.inj h
    rw [List.map_cons, List.idxOf_cons_self]
theorem Way.Ok.dig_zero {w : Way} (o : w.Ok) : w.dig (zeroP w.n) = zeroP w.n := by
  unfold Way.dig
  rw [o.num_zero]
  have h := o.zer
  rw [List.head?_eq_getElem?] at h
  exact getD_of h
theorem divP_self (p : Pt) (d : Int) : divP p p d = zeroP p.length := by
  unfold divP zeroP
  induction p with
  | nil => rfl
  | cons x r ih =>
    rw [List.zipWith_cons_cons, ih, Int.sub_self, Int.zero_fdiv]
    rfl
theorem Way.Ok.rest_zero {w : Way} (o : w.Ok) : w.rest (zeroP w.n) = zeroP w.n := by
  unfold Way.rest
  rw [o.dig_zero, divP_self, movM_len o.asq]
theorem Way.Ok.zero_row {w : Way} (o : w.Ok) : w.Row (zeroP w.n) := ⟨0, o.rest_zero, o.num_zero⟩
section
variable {K : PySem.W.Frag} {C Ct : Addr} {mg : Str → Option Value}
theorem cube_comp {v : V} {d fl : Addr} {c : Nat} {w : Way} {Z : List Pt} {ks : List (Pt × V)} {H : Hp} {Q : VK} (hw : Wr C H v w) (ok : w.Ok) (hzero : ∀ q : Pt, q.length = w.n → w.rest q = q → w.num q = 0 → q = zeroP w.n) (hwk : ∀ H', Kp [d] H H' → Wr C H' v w) (hZ : ∀ p ∈ Z, p.length = w.n ∧ w.rest p ∈ Z) (hZl : Z.length ≤ 16000000)
    (hcz : ∀ p ∈ cubeL w.n c, p ∈ Z) (hsz : (2 * c + 1) ^ w.n ≤ 16000000) (hD : DP H d ks) (kn : Known w Z ks)
    (k : ∀ H' l ks' ys, Kp [d] H H' → H l = none → DP H' d ks' → Known w Z ks' → LA H' l ys → Gath w (cubeL w.n c) (cubeL w.n c).length ys → Q (.ref l) H') :
    (tLc (iList K (tCall sp_points_of_cube [] E0 (tCons (tMeth C "size" (sp_Wsize C) [] E0 (tVar 0) tNil) (tCons (tVar 2) tNil)))) (gName 4) (tNot (tB (tCall (sp_ends_at_zero C) [] E0 (tCons (tVar 0) (tCons (tVar 4) (tCons (tVar 1) tNil)))))) (tVar 4) [4]) [some v, some (.ref d), some (.int (c : Int)), some (.ref fl), none] H Q := by
  have hszl : sizeLine = 16777216 := sizeLine_eq
  have n3 := ok.n3
  have hclen := cubeL_len c w.n
  have hcl : EvP (tCall sp_points_of_cube [] E0 (tCons (tMeth C "size" (sp_Wsize C) [] E0 (tVar 0) tNil) (tCons (tVar 2) tNil))) [some v, some (.ref d), some (.int (c : Int)), some (.ref fl), none] H fun u H' => ∃ l, u = .ref l ∧ H l = none ∧ LA H' l (cubeL w.n c) := fun H0 e0 Q q =>
    evp_call2 (P := fun u H' => ∃ l, u = .ref l ∧ H l = none ∧ LA H' l (cubeL w.n c)) (Pa := isV (.int w.n)) (evp_meth0 (ev_var rfl) hw (by decide) fun H1 e1 => spp_use fun H2 e2 => ⟨v, w, rfl, hw.ex (e1.trans e2), ok, rfl⟩) (fun x H1 e1 hx => ⟨isV (.int (c : Int)), evp_of_ev (ev_var rfl), fun y H2 e2 hy => fun H3 e3 Q q E => ⟨_, ⟨w.n, c, by rw [show x = .int w.n from hx, show y = .int (c : Int) from hy], n3.2, hsz, rfl⟩, fun u H' e' ⟨l, eu, hl0, hh⟩ => q u H' e' ⟨l, eu, fresh_back ((e1.trans e2).trans e3) hl0, hh⟩⟩⟩) H0 e0 Q q
  have hmu : ∀ b ∈ [d], H b ≠ none := fun b hb => by
    rw [List.mem_singleton.mp hb, hD]
    exact fun z => by cases z
  refine evf_listPts (K := K) hmu hcl H (Ex.refl H) _ fun J G H1 e1 wk hG D hDn => ?_
  have hD0 : H D = none := fresh_back e1 hDn
  have hDd : D ≠ d := fun z => by rw [z, hD] at hD0; cases hD0
  refine ⟨fun i m H' => m = (cubeL w.n c).length - i ∧ i ≤ (cubeL w.n c).length ∧ Kp [d] H1 H' ∧ ∃ ks1 ys, DP H' d ks1 ∧ Known w Z ks1 ∧ LA H' D ys ∧ ys.length ≤ i ∧ Gath w (cubeL w.n c) i ys,
    ⟨(cubeL w.n c).length, by simp, Nat.zero_le _, Kp.ex (Ex.new hDn), ks, [], (e1.trans (Ex.new hDn)) _ _ hD, kn, LA.nil upd_same, Nat.le_refl _, .inl ⟨rfl, fun q hq => by simp at hq⟩⟩, ?_⟩
  rintro i m H' ⟨rfl, hin, kp, ks1, ys, hD1, kn1, la1, hyl, ga⟩
  by_cases hlt : i < (cubeL w.n c).length
  · refine .inr ⟨wk.goes i H' hlt (hG H' kp), fun H'' => Kp [d] H1 H'' ∧ ∃ ks1 ys, DP H'' d ks1 ∧ Known w Z ks1 ∧ LA H'' D ys ∧ ys.length ≤ i + 1 ∧ Gath w (cubeL w.n c) (i + 1) ys, fun H'' h => ⟨(cubeL w.n c).length - (i + 1), by omega, rfl, hlt, h⟩, fun x H2 hy => ?_⟩
    obtain ⟨e2, p, hp, hx⟩ := wk.yields i H' x H2 hlt (hG H' kp) hy
    have hpm := List.mem_of_getElem? hp
    have kp2 : Kp [d] H1 H2 := kp.trans (Kp.ex e2)
    have kpH2 : Kp [d] H H2 := (Kp.ex e1).trans kp2
    refine ⟨rfl, ?_⟩
    refine ⟨v, rfl, x, rfl, .ref d, rfl, v, x, d, w, p, ks1, Z, rfl, hwk H2 kpH2, ok, hzero, hx, hcz p hpm, hZ, hZl, e2 _ _ hD1, kn1, fun H3 k3 => hwk H3 (kpH2.trans k3), fun H3 ks2 b k3 hD2 kn2 hb => ⟨b, rfl, ?_⟩⟩
    have kp3 : Kp [d] H1 H3 := kp2.trans k3
    have la3 : LA H3 D ys := (la1.ex e2).kp (fun z => hDd (List.mem_singleton.mp z)) k3
    have htk : (cubeL w.n c).take (i + 1) = (cubeL w.n c).take i ++ [p] := by rw [List.take_succ, hp]; rfl
    cases b with
    | true =>
      show Kp [d] H1 H3 ∧ _
      refine ⟨kp3, ks2, ys, hD2, kn2, la3, by omega, ?_⟩
      rcases ga with ⟨rfl, hr⟩ | ⟨p0, ys', l, r, h1, h2, h3, h4⟩
      · refine .inl ⟨rfl, fun q hq => ?_⟩
        rw [htk] at hq
        rcases List.mem_append.mp hq with hq | hq
        · exact hr q hq
        · rw [List.mem_singleton.mp hq]
          exact hb.mp rfl
      · exact .inr ⟨p0, ys', l, r, h1, h2, h3, h4⟩
    | false =>
      obtain ⟨bs, hb1, hb2⟩ := la3
      obtain ⟨t, rfl, ht⟩ := hx
      have hnr : ¬ w.Row p := fun z => by have := hb.mpr z; cases this
      simp only [Bool.not_false, if_true]
      show (tVar 4) [some v, some (.ref d), some (.int (c : Int)), some (.ref fl), some (.ref t)] H3 _
      refine ⟨.ref t, rfl, bs.map V.ref, hb1, by rw [List.length_map, hb2.len]; omega, ?_, ks2, ys ++ [p], ?_, kn2, ⟨bs ++ [t], ?_, ?_⟩, ?_, ?_⟩
      · exact kp3.fresh hDn
      · show upd H3 D _ d = _
        rw [upd_ne hDd.symm]
        exact hD2
      · rw [List.map_append]
        exact upd_same
      · exact paired_snoc (hb2.tex (TEx.lst hb1)) (TEx.lst hb1 _ _ (k3.2 _ _ ht))
      · rw [List.length_append]
        simp
        omega
      · rcases ga with ⟨rfl, hr⟩ | ⟨p0, ys', l, r, h1, h2, h3, h4⟩
        · exact .inr ⟨p, [], (cubeL w.n c).take i, (cubeL w.n c).drop (i + 1), rfl, hnr, take_drop_at hp, hr⟩
        · exact .inr ⟨p0, ys' ++ [p], l, r, by rw [h1]; rfl, h2, h3, h4⟩
  · have hin' : i = (cubeL w.n c).length := by omega
    subst hin'
    exact .inl ⟨wk.stops H' (hG H' kp), k H' D ks1 ys ((Kp.ex e1).trans kp) hD0 hD1 kn1 la1 ga⟩
theorem tup_cons {A : TE} {B : TA} {σ : L2.St} {H : Hp} {Q : VK} (h : A σ H fun x H1 => B σ H1 fun xs H2 => (x :: xs).length ≤ sizeLine ∧ ∀ p, H2 p = none → Q (.ref p) (upd H2 p (.tup (x :: xs)))) : tTup (tCons A B) σ H Q := h
theorem c_in {v : V} {σ : L2.St} {H : Hp} {Q : VK} (h : Q v H) : tC v σ H Q := h
theorem lst_in {B : TE} {C : TA} {σ : L2.St} {H : Hp} {Q : List V → Hp → Prop} (h : B σ H fun x H1 => C σ H1 fun xs H2 => Q (x :: xs) H2) : tCons B C σ H Q := h
theorem g_three {σ : L2.St} {H : Hp} {i j k : Nat} {T : Addr} {x y z : V} (hT : H T = some (.tup [x, y, z])) : ∀ Q : L2.St → Hp → Prop, Q (((σ.set i (some x)).set j (some y)).set k (some z)) H → gTup K 3 (gCons (gName i) (gCons (gName j) (gCons (gName k) gNil))) (.ref T) σ H Q := fun Q q => ⟨T, [x, y, z], rfl, st_of hT, rfl, x, [y, z], rfl, y, [z], rfl, z, [], rfl, rfl, q⟩
theorem p_first_without_row (vs : List V) (H : Hp) (Q : VK) (E : XK) (h : sp_first_without_row C Ct vs H Q E) : t_first_without_row K C Ct E (En Q) (start ["writing", "known", "most", "found", "point"] vs) H := by
  obtain ⟨v, w, B, rfl, hw, fine, kN, kP, kE⟩ := h
  have ok := fine.ok
  have n3 := ok.n3
  obtain ⟨Z, hZl, hcz, hZ, hzZ⟩ := fine.pen
  refine q_drop (v := .non) (ev_callV (ea_cons (ev_var rfl) ea_nil) (spp_use fun H1 e1 => ⟨v, w, rfl, hw.ex e1, rfl⟩)) fun H1 e1 => ?_
  have hw1 := hw.ex e1
  -- the test
  refine rows_run (σ := [some v, none, none, none, none]) (H := H1) rfl hw1 fine (fun cls d H' e => kE cls d H' (e1.trans e)) fun H2 F b e2 hl hF hb => ⟨b, rfl, ?_⟩
  cases b with
  | true =>
    simp only [if_true]
    exact kN H2 F (e1.trans e2) hl hF (hb.mp rfl)
  | false =>
    have hex : ∃ q ∈ F, ¬ w.Row q := Classical.byContradiction fun z => by
      have := hb.mpr fun p hp => Classical.byContradiction fun q => z ⟨p, hp, q⟩
      cases this
    simp only [Bool.false_eq_true, if_false]
    show tSeq _ _ (En Q) [some v, none, none, none, none] H2
    have e12 := e1.trans e2
    have hw2 := hw.ex e12
    have htup : EvP (tTup (tCons (tDict1 (tCall sp_zero_point [] E0 (tCons (tMeth C "size" (sp_Wsize C) [] E0 (tVar 0) tNil) tNil)) (tC (.bl true))) (tCons (tC (.int 0)) (tCons (tLst tNil) tNil)))) [some v, none, none, none, none] H2 fun u H' => ∃ t d fl, u = .ref t ∧ H' t = some (.tup [.ref d, .int 0, .ref fl]) ∧ H2 d = none ∧ DP H' d [(zeroP w.n, .bl true)] ∧ LA H' fl [] := fun H3 e3 Q q => by
      have hzp : ∀ H4, Ex H2 H4 → EvP (tCall sp_zero_point [] E0 (tCons (tMeth C "size" (sp_Wsize C) [] E0 (tVar 0) tNil) tNil)) [some v, none, none, none, none] H4 fun u H' => PtV H' u (zeroP w.n) := fun H4 e4 =>
        evp_call1 (Pa := isV (.int w.n)) (evp_meth0 (ev_var rfl) (hw2.ex e4) (by decide) fun H5 e5 => spp_use fun H6 e6 => ⟨v, w, rfl, (hw2.ex e4).ex (e5.trans e6), ok, rfl⟩) fun x H5 e5 hx => spp_use fun H6 e6 => ⟨w.n, by rw [show x = .int w.n from hx], by omega, rfl⟩
      refine tup_cons ?_
      refine evp_dict1 (z := .bl true) hzp (fun _ _ => ev_c) H3 e3 _ fun u H4 e4 ⟨d, eu, hd0, hd⟩ => ?_
      subst eu
      refine lst_in ?_
      refine c_in ?_
      refine lst_in ?_
      refine evp_lst ea_nil (by decide) H4 (Ex.refl H4) _ fun u H5 e5 ⟨fl, eu, _, hfl⟩ => ?_
      subst eu
      exact ⟨by rw [sizeLine_eq]; show (3 : Nat) ≤ 16777216; decide, fun t ht => q _ _ ((e4.trans e5).trans (Ex.new ht)) ⟨t, d, fl, rfl, upd_same, hd0, (Ex.new ht) _ _ (e5 _ _ hd), LA.nil ((Ex.new ht) _ _ hfl)⟩⟩
    refine q_asgG htup fun u H3 e3 ⟨t, d, fl, eu, ht, hd0, hd, hfl⟩ => ?_
    subst eu
    refine g_three ht _ ?_
    have e13 := e12.trans e3
    have hdH : H d = none := fresh_back e12 hd0
    obtain ⟨q0, hq0, hq0r⟩ := hex
    obtain ⟨_, b0, hb0, hb0B, hq0c⟩ := fine.near F hl q0 hq0
    have kn0 : Known w Z [(zeroP w.n, V.bl true)] := by
      refine ⟨?_, by simp, fun p hp => by
        have hp2 : p = zeroP w.n := by simpa using hp
        rw [hp2]
        exact hzZ, fun p u hu => ?_⟩
      · unfold lkP
        simp
      · by_cases hp : p = zeroP w.n
        · subst hp
          have : lkP [(zeroP w.n, V.bl true)] (zeroP w.n) = some (.bl true) := by unfold lkP; simp
          rw [this] at hu
          refine ⟨true, (Option.some.inj hu).symm, ⟨fun _ => ?_, fun _ => rfl⟩⟩
          exact ok.zero_row
        · have : lkP [(zeroP w.n, V.bl true)] p = none := lkP_none.mpr (by simpa using hp)
          rw [this] at hu
          cases hu
    refine q_while (fun m σ' H' => ∃ (c : Nat) (fl : Addr) (ks : List (Pt × V)) (ys : List Pt), m = b0 - c ∧ c ≤ b0 ∧ σ' = [some v, some (.ref d), some (.int (c : Int)), some (.ref fl), none] ∧ Ex H H' ∧ DP H' d ks ∧ Known w Z ks ∧ LA H' fl ys ∧ ((ys = [] ∧ ∀ c', 0 < c' → c' ≤ c → ∀ q ∈ cubeL w.n c', w.Row q) ∨ ∃ p ys', ys = p :: ys' ∧ w.First p)) b0
      ⟨0, fl, _, [], rfl, Nat.zero_le _, rfl, e13, hd, kn0, hfl, .inl ⟨rfl, fun c' h1 h2 => by omega⟩⟩ fun m σ' H' ⟨c, fl2, ks, ys, hm, hc, es, ee, hD, kn, la, st⟩ => ?_
    subst es
    refine ⟨_, et_test (ev_eqLA (ev_var rfl) la), fun hb4 H4 e4 => ?_, fun hb4 H4 e4 => ?_⟩
    · have hys := of_decide_eq_true hb4
      have hrows : ∀ c', 0 < c' → c' ≤ c → ∀ q ∈ cubeL w.n c', w.Row q := by
        rcases st with ⟨_, h⟩ | ⟨p, ys', h, _⟩
        · exact h
        · rw [hys] at h; cases h
      have hcb : c < b0 := Nat.lt_of_le_of_ne hc fun z => hq0r (hrows b0 hb0 (by omega) q0 hq0c)
      refine ⟨fun σ2 H2 => ∃ (fl : Addr) (ks : List (Pt × V)) (ys : List Pt), σ2 = [some v, some (.ref d), some (.int ((c + 1 : Nat) : Int)), some (.ref fl), none] ∧ Ex H H2 ∧ DP H2 d ks ∧ Known w Z ks ∧ LA H2 fl ys ∧ ((ys = [] ∧ ∀ c', 0 < c' → c' ≤ c + 1 → ∀ q ∈ cubeL w.n c', w.Row q) ∨ ∃ p ys', ys = p :: ys' ∧ w.First p), fun σ2 H2 ⟨fl, ks, ys, h⟩ => ⟨b0 - (c + 1), by omega, c + 1, fl, ks, ys, rfl, hcb, h⟩, ?_⟩
      refine q_asg (v := .int ((c + 1 : Nat) : Int)) (ev_is (ev_op (ev_var rfl) ev_c rv_I0) (by rw [Int.natCast_add]; rfl)) fun H5 e5 => ?_
      have e45 := e4.trans e5
      have ee5 : Ex H H5 := ee.trans e45
      have hpow : (2 * (c + 1) + 1) ^ w.n ≤ 16000000 := Nat.le_trans (Nat.pow_le_pow_left (by omega) w.n) fine.big
      show tAsg _ _ _ [some v, some (.ref d), some (.int ((c + 1 : Nat) : Int)), some (.ref fl2), none] H5
      refine cube_comp (fl := fl2) (hw.ex ee5) ok fine.zero (fun H6 k6 => hw.ex (kp_ex ee5 k6 (none1 hdH))) hZ hZl (hcz (c + 1) (by omega)) hpow (e45 _ _ hD) kn fun H6 l6 ks6 ys6 k6 hl6 hD6 kn6 la6 ga6 => ?_
      refine ⟨l6, ks6, ys6, rfl, kp_ex ee5 k6 (none1 hdH), hD6, kn6, la6, ?_⟩
      rcases ga6 with ⟨h1, h2⟩ | ⟨p, ys', l, r, h1, h2, h3, h4⟩
      · rw [List.take_length] at h2
        refine .inl ⟨h1, fun c' hc1 hc2 => ?_⟩
        by_cases hcc : c' ≤ c
        · exact hrows c' hc1 hcc
        · obtain rfl : c' = c + 1 := by omega
          exact h2
      · exact .inr ⟨p, ys', h1, c + 1, h2, ⟨l, r, h3, h4⟩, fun c' hc1 hc2 => hrows c' hc1 (by omega)⟩
    · have hys := of_decide_eq_false hb4
      rcases st with ⟨h, _⟩ | ⟨p, ys', rfl, hp⟩
      · exact absurd h hys
      · obtain ⟨as, ha, has⟩ := la.ex e4
        obtain ⟨t2, ht2, htp⟩ := has.get2 (i := 0) (p := p) rfl
        refine ret_ev (v := .ref t2) (ev_op (ev_var rfl) ev_c (rv_ixL (sq_of ha) (atI_nat (j := 0) (by rw [List.getElem?_map, ht2]; rfl)))) rfl fun u H5 e5 r => ?_
        rw [show u = .ref t2 from r]
        exact kP _ H5 F p ((ee.trans e4).trans e5) hl hF ⟨q0, hq0, hq0r⟩ hp ⟨t2, rfl, e5 _ _ htp⟩
end
end K13
namespace K13
open PySem PySem.Spec PyProof.Rows L2 Evl
/-! the law's own defs -/
def subP (a b : Pt) : Pt := List.zipWith (fun x y => x - y) a b
/-- a list of lists of numbers -/
def LlV (H : Hp) (v : V) (m : Mx) : Prop := ∃ (a : Addr) (as : List Addr), v = .ref a ∧ H a = some (.lst (as.map V.ref)) ∧ Paired (fun b r => H b = some (.lst (r.map V.int))) as m
def sp_ldF : Nat → Sp
  | 0 => fun _ _ _ _ => False
  | f + 1 => spP fun vs H R => ∃ (n : Nat) (v : V) (m : Mx), vs = [v] ∧ (MxV H v m ∨ (LlV H v m ∧ n ≤ 2)) ∧ Sq n m ∧ 1 ≤ n ∧ n ≤ 3 ∧ n ≤ f + 2 ∧ (∀ r ∈ m, Sm r) ∧ R = isV (.int (detM m))
def sp_law_adjugate : Sp := spP fun vs H R => ∃ (n : Nat) (a : V) (m : Mx), vs = [a] ∧ MxV H a m ∧ Sq n m ∧ 1 ≤ n ∧ n ≤ 3 ∧ (∀ r ∈ m, Sm r) ∧ R = fun v H' => MxV H' v (adjM m)
def sp_law_moved : Sp := sp_moved_by
def sp_law_sum : Sp := sp_added
def sp_law_less : Sp := spP fun vs H R => ∃ (a b : V) (p q : Pt), vs = [a, b] ∧ PtV H a p ∧ PtV H b q ∧ p.length = q.length ∧ p.length ≤ 1000 ∧ R = fun v H' => PtV H' v (subP p q)
/-- a list whose third and fourth items are A, D -/
def LK (H : Hp) (v : V) (A : Mx) (D : Int) : Prop := ∃ (a : Addr) (xs : List V) (x2 : V), v = .ref a ∧ H a = some (.lst xs) ∧ xs[2]? = some x2 ∧ MxV H x2 A ∧ xs[3]? = some (.int D)
def sp_law_key : Sp := spP fun vs H R => ∃ (n : Nat) (a b : V) (A : Mx) (D : Int) (p : Pt), vs = [a, b] ∧ LK H a A D ∧ PtV H b p ∧ Sq n A ∧ p.length = n ∧ n ≤ 1000 ∧ (∀ r ∈ A, Sm r) ∧ D ≠ 0 ∧ R = fun v H' => PtV H' v (restsP (movM A p) D)
/-- the law's way -/
def LW (H : Hp) (v : V) (w : Way) : Prop := ∃ (a : Addr) (x0 x1 x2 : V) (d : Addr), v = .ref a ∧ H a = some (.lst [x0, x1, x2, .int w.D, .ref d]) ∧ MxV H x0 w.m ∧ PLV H x1 w.ds ∧ MxV H x2 w.A ∧ H d = some (.dT (numK (w.ds.map w.key)))
theorem LW.ex {H H' : Hp} {v : V} {w : Way} (h : LW H v w) (e : Ex H H') : LW H' v w := by
  obtain ⟨a, x0, x1, x2, d, h0, h1, h2, h3, h4, h5⟩ := h
  exact ⟨a, x0, x1, x2, d, h0, e _ _ h1, h2.ex e, h3.ex e, h4.ex e, e _ _ h5⟩
theorem LW.k {H : Hp} {v : V} {w : Way} (h : LW H v w) : LK H v w.A w.D := by
  obtain ⟨a, x0, x1, x2, d, h0, h1, h2, h3, h4, h5⟩ := h
  exact ⟨a, _, x2, h0, h1, rfl, h4, rfl⟩
theorem LK.ex {H H' : Hp} {v : V} {A : Mx} {D : Int} (h : LK H v A D) (e : Ex H H') : LK H' v A D := by
  obtain ⟨a, xs, x2, h0, h1, h2, h3, h4⟩ := h
  exact ⟨a, xs, x2, h0, e _ _ h1, h2, h3.ex e, h4⟩
def sp_law_step : Sp := spP fun vs H R => ∃ (a b : V) (w : Way) (p : Pt), vs = [a, b] ∧ LW H a w ∧ w.Ok ∧ PtV H b p ∧ p.length = w.n ∧ R = fun v H' => ∃ t b, v = .ref t ∧ H' t = some (.tup [.int (w.num p : Int), .ref b]) ∧ PtA H' b (w.rest p)
def boxL (n : Nat) (k : Nat) : List Pt := match n with
  | 0 => [[]]
  | n + 1 => (boxL n k).flatMap fun p => (List.range k).map fun (j : Nat) => p ++ [(j : Int)]
def sp_law_boxes : Sp := spP fun vs H R => ∃ n k : Nat, vs = [.int n, .int k] ∧ n ≤ 3 ∧ k ^ n ≤ 16000000 ∧ k ≤ 1000000 ∧ 1 ≤ k ∧ R = fun v H' => ∃ l, v = .ref l ∧ H l = none ∧ ∃ as : List Addr, H' l = some (.lst (as.map V.ref)) ∧ Pts H' as (boxL n k)
def sp_law_way_of : Sp := spP fun vs H R => ∃ (a b : V) (w : Way), vs = [a, b] ∧ MxV H a w.m ∧ PLV H b w.ds ∧ w.Ok ∧ R = fun v H' => LW H' v w
def sp_law_walk : Sp := spP fun vs H R => ∃ (a b : V) (w : Way) (p : Pt), vs = [a, b] ∧ LW H a w ∧ w.Ok ∧ PtV H b p ∧ p.length = w.n ∧ w.Per p ∧
  R = fun v H' => ∃ t l i j l2, v = .ref t ∧ H' t = some (.tup [.ref l, .int (i : Nat), .ref l2]) ∧ H' l = some (.lst (((List.range j).map fun k => (w.num (w.orb p k) : Int)).map V.int)) ∧ i < j ∧ w.orb p i = w.orb p j ∧ ∀ a b, a < b → b < j → w.orb p a ≠ w.orb p b
def sp_law_row : Sp := spP fun vs H R => ∃ (a b : V) (w : Way) (p : Pt), vs = [a, b] ∧ LW H a w ∧ w.Ok ∧ PtV H b p ∧ p.length = w.n ∧ w.Per p ∧ R = fun v _ => (v = .non ∧ ¬ w.Row p) ∨ ((∃ a, v = .ref a) ∧ w.Row p)
def sp_law_units : Sp := spP fun vs _ R => ∃ n : Nat, vs = [.int n] ∧ 0 < n ∧ n ≤ 3 ∧ R = fun v H' => ∃ ps : List Pt, ps.Perm (unitsL n) ∧ PLV H' v ps
def sp_law_closed : Sp := spP fun vs H R => ∃ (a b : V) (w : Way) (P : List Pt), vs = [a, b] ∧ LW H a w ∧ w.Ok ∧ PLV H b P ∧ (∀ p ∈ P, p.length = w.n) ∧ P.length ≤ 12 ∧ P.Nodup ∧ 0 < w.n ∧
  R = fun v H' => (∃ F, w.Least P F ∧ F.length ≤ 600 ∧ PLV H' v F) ∨ (v = .non ∧ w.Big P)
def sp_law_greatest : Sp := spP fun vs H R => ∃ (a : V) (p : Pt), vs = [a] ∧ PtV H a p ∧ 0 < p.length ∧ p.length ≤ 1000 ∧ R = isV (.int (maxL (p.map absI)))
def sp_law_shell : Sp := spP fun vs H R => ∃ n b : Nat, vs = [.int n, .int b] ∧ n ≤ 3 ∧ (2 * b + 1) ^ n ≤ 90000 ∧ b ≤ 1000 ∧ R = fun v H' => ∃ l, v = .ref l ∧ H l = none ∧ ∃ as : List Addr, H' l = some (.lst (as.map V.ref)) ∧ Pts H' as (cubeL n b)
/-- what the law's shells need -/
def Way.Near (w : Way) (B : Nat) : Prop := ∀ b, b ≤ B ∨ b ≤ (if w.n < 3 then 6 else 3) → ∀ p ∈ cubeL w.n b, w.Per p
section
variable (C Ct : Addr)
def sp_law_first_right : Sp := spP fun vs H R => ∃ (x a b : V) (w : Way) (B : Nat) (F rs : List Pt), vs = [x, a, b] ∧ Wr C H x w ∧ LW H a w ∧ PLV H b rs ∧ w.Fine B ∧ w.Near B ∧ w.Least (unitsL w.n) F ∧ F.length ≤ 600 ∧ (∀ p, p ∈ rs ↔ p ∈ F ∧ ¬ w.Row p) ∧ rs ≠ [] ∧ rs.length ≤ 600 ∧ R = isV (.bl true)
def sp_law_caught : Sp := spP fun vs H R => ∃ (i : Int) (x : V) (w : Way) (B : Nat), vs = [.int i, x] ∧ (i = 0 ∨ i = 1) ∧ Wr C H x w ∧ w.Fine B ∧ w.Big (unitsL w.n) ∧ R = isV (.int 601)
def sp_law_way_right : Sp := spP fun vs H R => ∃ (a : V) (w : Way) (B : Nat), vs = [a] ∧ LW H a w ∧ w.Fine B ∧ w.Near B ∧ R = isV (.bl true)
end
/-- the generator at g: c at most b -/
def RG (b : Nat) (H : Hp) (g : Addr) : Prop := ∃ x y c : Int, H g = some (.lst [.int x, .int y, .int c]) ∧ 0 ≤ x ∧ x < 10 ^ 600 ∧ 0 ≤ y ∧ y < 2147483647 ∧ 0 ≤ c ∧ c ≤ b
def sp_law_cell (K : PySem.W.Frag) : Sp := spP fun vs H R => ∃ (a : Addr) (ns : List Int) (i : Nat), vs = [.ref a, .int i] ∧ SqL K H a (ns.map V.int) ∧ ns.length ≤ 1000 ∧ R = fun v _ => ∃ x : Int, v = .int x
def sp_law_hash : Sp := spP fun vs _ R => ∃ x i : Int, vs = [.int x, .int i] ∧ 0 ≤ x ∧ x < 2147483647 ∧ 0 ≤ i ∧ i ≤ 1000000000 ∧ R = fun v _ => ∃ y : Int, v = .int y ∧ 0 ≤ y ∧ y < 2147483587
def sp_law_generator (K : PySem.W.Frag) : Sp := spP fun vs H R => ∃ (a : Addr) (ns : List Int) (i : Nat), vs = [.ref a, .int i] ∧ SqL K H a (ns.map V.int) ∧ ns.length ≤ 1000 ∧ i ≤ 1000 ∧ R = fun v H' => ∃ g, v = .ref g ∧ H g = none ∧ RG (1000 * i) H' g
def sp_law_random : Sp := fun vs H Q _ => ∃ (g : Addr) (n b : Nat), vs = [.ref g, .int n] ∧ 1 ≤ n ∧ n ≤ 100000 ∧ RG b H g ∧ b ≤ 900000000 ∧ ∀ r : Nat, r < n → ∀ H', Kp [g] H H' → RG (b + 1) H' g → Q (.int r) H'
end K13
namespace K13
open PySem PySem.Spec PyProof.Rows L2 Evl
section
variable {P : Program} {w : World} {K : PySem.W.Frag} {mg : Str → Option Value} {base : Heap} {C Ct : Addr}
theorem sc_law_det : FnScope ["_law_matrix_here", "_law_at", "_law_found", "_law_sign", "_law_small", "_law_row_here", "_law_place"] ["_law_matrix_here"] (defScope (top 61)) := ⟨rfl, rfl, rfl, by decide +kernel, rfl, by decide +kernel, by decide +kernel⟩
def t_law_det (K : PySem.W.Frag) (n : Nat) : TS :=
    (tSeq (tIfS (tTest (tOp rEq (tCB (rLenS K) (tCons (tVar 0) tNil)) (tC (.int 1)))) (tRet (tOp (rIx K) (tOp (rIx K) (tVar 0) (tC (.int 0))) (tC (.int 0)))) tNext)
    (tSeq (tIfS (tTest (tOp rEq (tCB (rLenS K) (tCons (tVar 0) tNil)) (tC (.int 2)))) (tRet (tOp (rI0 fun i j => .int (i - j)) (tOp (rI CMul fun i j => .int (i * j)) (tOp (rIx K) (tOp (rIx K) (tVar 0) (tC (.int 0))) (tC (.int 0))) (tOp (rIx K) (tOp (rIx K) (tVar 0) (tC (.int 1))) (tC (.int 1)))) (tOp (rI CMul fun i j => .int (i * j)) (tOp (rIx K) (tOp (rIx K) (tVar 0) (tC (.int 0))) (tC (.int 1))) (tOp (rIx K) (tOp (rIx K) (tVar 0) (tC (.int 1))) (tC (.int 0)))))) tNext)
    (tSeq (tAsg (tTup (tCons (tC (.int 0)) (tCons (tC (.int 1)) tNil))) (gTup K 2 (gCons (gName 2) (gCons (gName 3) gNil))))
    (tSeq (tFor (iRng1 (tCons (tC (.int 3)) tNil)) (gName 1) (tSeq (tAsg (tLc (iTup K (tSl (rSlA K) (tVar 0) (tPart (tC (.int 1))) tNoPart)) (gName 5) tYes (tLc (iRng1 (tCons (tC (.int 3)) tNil)) (gName 6) (tTest (tOp rNe (tVar 6) (tVar 1))) (tOp (rIx K) (tVar 5) (tVar 6)) [6]) [5]) (gName 4))
    (tPar 2 3 (tCons (tOp (rI0 fun i j => .int (i + j)) (tVar 2) (tOp (rI CMul fun i j => .int (i * j)) (tOp (rI CMul fun i j => .int (i * j)) (tVar 3) (tOp (rIx K) (tOp (rIx K) (tVar 0) (tC (.int 0))) (tVar 1))) (tCall (sp_ldF n) [] E0 (tCons (tVar 4) tNil)))) (tCons (tOp (rI0 fun i j => .int (i - j)) (tC (.int 0)) (tVar 3)) tNil)))))
    (tRet (tVar 2))))))
theorem d_law_det {n : Nat} (G : Glo K mg C) (c_law_det : Fn P w K mg base (L2.CX P w) (n + 1) "_law_det" ["_law_matrix_here"] (sp_ldF n)) {f : Addr} {cdv : Value} {A : Around} {outer : List Env} {s : Shared} {H : Hp} {E : XK} (hr : Room (n + 1) (A.deeper (envOfC "_law_det" (defScope (top 61)) s.heap.objs.size f cdv))) :
    PSs (cxOf (L2.CX P w) P w K mg base ["_law_matrix_here", "_law_at", "_law_found", "_law_sign", "_law_small", "_law_row_here", "_law_place"] "_law_det" (defScope (top 61)) f cdv A outer s H E).nox (defBody (top 61)) (t_law_det K n) :=
    (pss_cons (ps_if (pt_cmpR op_eq (pe_callB (cLenK K rfl) (by rfl) G.g_len boot_len (pa_cons (pv 0) pa_nil)) pe_int (nomark _)) (pss_one (ps_ret (pe_ix (ixSK K rfl) (pe_ix (ixSK K rfl) (pv 0) pe_int (fun _ _ => rfl)) pe_int (fun _ _ => rfl)))) pss_nil)
    (pss_cons (ps_if (pt_cmpR op_eq (pe_callB (cLenK K rfl) (by rfl) G.g_len boot_len (pa_cons (pv 0) pa_nil)) pe_int (nomark _)) (pss_one (ps_ret (pe_op op_sub (pe_op op_mul (pe_ix (ixSK K rfl) (pe_ix (ixSK K rfl) (pv 0) pe_int (fun _ _ => rfl)) pe_int (fun _ _ => rfl)) (pe_ix (ixSK K rfl) (pe_ix (ixSK K rfl) (pv 0) pe_int (fun _ _ => rfl)) pe_int (fun _ _ => rfl))) (pe_op op_mul (pe_ix (ixSK K rfl) (pe_ix (ixSK K rfl) (pv 0) pe_int (fun _ _ => rfl)) pe_int (fun _ _ => rfl)) (pe_ix (ixSK K rfl) (pe_ix (ixSK K rfl) (pv 0) pe_int (fun _ _ => rfl)) pe_int (fun _ _ => rfl)))))) pss_nil)
    (pss_cons (ps_asg (pe_tup (pa_cons pe_int (pa_cons pe_int pa_nil))) (pgT K rfl rfl (pgs_cons (pg_name (i := 2) sc_law_det.nd rfl (by first | exact .inl rfl | exact .inr rfl)) (pgs_cons (pg_name (i := 3) sc_law_det.nd rfl (by first | exact .inl rfl | exact .inr rfl)) pgs_nil))))
    (pss_cons (ps_for PassesOwn.never rfl (pi_range1 (by rfl) G.g_range (pa_cons pe_int pa_nil)) (pg_name (i := 1) sc_law_det.nd rfl (by first | exact .inl rfl | exact .inr rfl)) (pss_cons (ps_setLc (i := 4) (own := [("_law_row_here", 5)]) rfl sc_law_det.nd rfl rfl (sw_true rfl rfl rfl (by decide +kernel)) (piT K rfl (pe_slice (slAK K rfl) (pv 0) (po_some pe_int) po_none)) (blkOk_by (N := ["_law_matrix_here", "_law_at", "_law_found", "_law_sign", "_law_small", "_law_row_here", "_law_place"]) (sc := defScope (top 61)) (by decide +kernel)) (fun _ _ _ _ _ => (pg_name (i := 5) sc_law_det.nd rfl (by first | exact .inl rfl | exact .inr rfl))) (fun _ _ _ _ _ => pts_nil) (fun _ _ _ _ _ => (pe_lc (own := [("_law_place", 6)]) rfl sc_law_det.nd (pi_range1 (by rfl) G.g_range (pa_cons pe_int pa_nil)) (blkOk_by (N := ["_law_matrix_here", "_law_at", "_law_found", "_law_sign", "_law_small", "_law_row_here", "_law_place"]) (by kernel_rfl)) (fun _ _ _ _ _ => (pg_name (i := 6) sc_law_det.nd rfl (by first | exact .inl rfl | exact .inr rfl))) (fun _ _ _ _ _ => (pts_one (pt_cmpR op_ne (pv 6) (pv 1) (nomark _)))) (fun _ _ _ _ _ => (pe_ix (ixSK K rfl) (pv 5) (pv 6) (fun _ _ => rfl))))))
    (pss_one (ps_par rfl sc_law_det.nd (i := 2) (j := 3) rfl rfl (by decide) rfl rfl (pa_cons (pe_op op_add (pv 2) (pe_op op_mul (pe_op op_mul (pv 3) (pe_ix (ixSK K rfl) (pe_ix (ixSK K rfl) (pv 0) pe_int (fun _ _ => rfl)) (pv 1) (fun _ _ => rfl))) (pe_f c_law_det hr (Nat.le_refl _) passL (by rfl) (pa_cons (pv 4) pa_nil)))) (pa_cons (pe_op op_sub pe_int (pv 3)) pa_nil)) (by rfl)))))
    (pss_one (ps_ret (pv 2)))))))
theorem sc_law_adjugate : FnScope ["_law_matrix_here", "_law_row_here", "_law_size", "_law_found", "_law_line", "_law_column", "_law_small", "_law_at", "_law_place"] ["_law_matrix_here"] (defScope (top 62)) := ⟨rfl, rfl, rfl, by decide +kernel, rfl, by decide +kernel, by decide +kernel⟩
def t_law_adjugate (K : PySem.W.Frag) : TS :=
    (tSeq (tAsg (tTup (tCons (tCB (rLenS K) (tCons (tVar 0) tNil)) (tCons (tLst tNil) tNil))) (gTup K 2 (gCons (gName 2) (gCons (gName 3) gNil))))
    (tSeq (tFor (iRng1 (tCons (tVar 2) tNil)) (gName 1) (tSeq (tAsg (tLst tNil) (gName 4))
    (tSeq (tFor (iRng1 (tCons (tVar 2) tNil)) (gName 5) (tSeq (tAsg (tLc (iRng1 (tCons (tVar 2) tNil)) (gName 7) (tTest (tOp rNe (tVar 7) (tVar 5))) (tLc (iRng1 (tCons (tVar 2) tNil)) (gName 8) (tTest (tOp rNe (tVar 8) (tVar 1))) (tOp (rIxT K) (tOp (rIxT K) (tVar 0) (tVar 7)) (tVar 8)) [8]) [7]) (gName 6))
    (tDrop (tBM K "list" rAppend (tVar 4) (tCons (tOp (rI CMul fun i j => .int (i * j)) (tOp (rI0 fun i j => .int (i - j)) (tC (.int 1)) (tOp (rI CMul fun i j => .int (i * j)) (tC (.int 2)) (tOp (rI (fun _ j => 0 < j) fun i j => .int (i % j)) (tCB rInt1 (tCons (tOp (rI0 fun i j => .int (i + j)) (tVar 1) (tVar 5)) tNil)) (tC (.int 2))))) (tIf (tTest (tOp (rI0 fun i j => .bl (decide (j < i))) (tVar 2) (tC (.int 1)))) (tCall (sp_ldF 2) [] E0 (tCons (tVar 6) tNil)) (tC (.int 1)))) tNil)))))
    (tDrop (tBM K "list" rAppend (tVar 3) (tCons (tCB (rTup K) (tCons (tVar 4) tNil)) tNil))))))
    (tRet (tCB (rTup K) (tCons (tVar 3) tNil)))))
theorem d_law_adjugate (G : Glo K mg C) (c_law_det : Fn P w K mg base (L2.CX P w) 3 "_law_det" ["_law_matrix_here"] (sp_ldF 2)) {f : Addr} {cdv : Value} {A : Around} {outer : List Env} {s : Shared} {H : Hp} {E : XK} (hr : Room 3 (A.deeper (envOfC "_law_adjugate" (defScope (top 62)) s.heap.objs.size f cdv))) :
    PSs (cxOf (L2.CX P w) P w K mg base ["_law_matrix_here", "_law_row_here", "_law_size", "_law_found", "_law_line", "_law_column", "_law_small", "_law_at", "_law_place"] "_law_adjugate" (defScope (top 62)) f cdv A outer s H E).nox (defBody (top 62)) (t_law_adjugate K) :=
    (pss_cons (ps_asg (pe_tup (pa_cons (pe_callB (cLenK K rfl) (by rfl) G.g_len boot_len (pa_cons (pv 0) pa_nil)) (pa_cons (pe_lst pa_nil) pa_nil))) (pgT K rfl rfl (pgs_cons (pg_name (i := 2) sc_law_adjugate.nd rfl (by first | exact .inl rfl | exact .inr rfl)) (pgs_cons (pg_name (i := 3) sc_law_adjugate.nd rfl (by first | exact .inl rfl | exact .inr rfl)) pgs_nil))))
    (pss_cons (ps_for PassesOwn.never rfl (pi_range1 (by rfl) G.g_range (pa_cons (pv 2) pa_nil)) (pg_name (i := 1) sc_law_adjugate.nd rfl (by first | exact .inl rfl | exact .inr rfl)) (pss_cons (ps_set (i := 4) sc_law_adjugate.nd rfl (by first | exact .inl rfl | exact .inr rfl) (pe_lst pa_nil))
    (pss_cons (ps_for PassesOwn.never rfl (pi_range1 (by rfl) G.g_range (pa_cons (pv 2) pa_nil)) (pg_name (i := 5) sc_law_adjugate.nd rfl (by first | exact .inl rfl | exact .inr rfl)) (pss_cons (ps_setLc (i := 6) (own := [("_law_at", 7)]) rfl sc_law_adjugate.nd rfl rfl (sw_true rfl rfl rfl (by decide +kernel)) (pi_range1 (by rfl) G.g_range (pa_cons (pv 2) pa_nil)) (blkOk_by (N := ["_law_matrix_here", "_law_row_here", "_law_size", "_law_found", "_law_line", "_law_column", "_law_small", "_law_at", "_law_place"]) (sc := defScope (top 62)) (by decide +kernel)) (fun _ _ _ _ _ => (pg_name (i := 7) sc_law_adjugate.nd rfl (by first | exact .inl rfl | exact .inr rfl))) (fun _ _ _ _ _ => (pts_one (pt_cmpR op_ne (pv 7) (pv 5) (nomark _)))) (fun _ _ _ _ _ => (pe_lc (own := [("_law_place", 8)]) rfl sc_law_adjugate.nd (pi_range1 (by rfl) G.g_range (pa_cons (pv 2) pa_nil)) (blkOk_by (N := ["_law_matrix_here", "_law_row_here", "_law_size", "_law_found", "_law_line", "_law_column", "_law_small", "_law_at", "_law_place"]) (by kernel_rfl)) (fun _ _ _ _ _ => (pg_name (i := 8) sc_law_adjugate.nd rfl (by first | exact .inl rfl | exact .inr rfl))) (fun _ _ _ _ _ => (pts_one (pt_cmpR op_ne (pv 8) (pv 1) (nomark _)))) (fun _ _ _ _ _ => (pe_ix (ixT K rfl) (pe_ix (ixT K rfl) (pv 0) (pv 7) (fun _ _ => rfl)) (pv 8) (fun _ _ => rfl))))))
    (pss_one (ps_expr (pe_bmK K rfl PySem.F.plainAttrs_list PySem.F.slot_list_append PySem.F.type_list_append mt_append (pv 4) (pa_cons (pe_op op_mul (pe_op op_sub pe_int (pe_op op_mul pe_int (pe_op op_mod (pe_callTy call_int1' (by rfl) G.g_int boot_int (pa_cons (pe_op op_add (pv 1) (pv 5)) pa_nil)) pe_int))) (pe_ifExp (pt_cmpR op_gt (pv 2) pe_int (nomark _)) (pe_f c_law_det hr (by decide) passL (by rfl) (pa_cons (pv 6) pa_nil)) pe_int)) pa_nil))))))
    (pss_one (ps_expr (pe_bmK K rfl PySem.F.plainAttrs_list PySem.F.slot_list_append PySem.F.type_list_append mt_append (pv 3) (pa_cons (pe_callTy (cTupK K rfl) (by rfl) G.g_tuple boot_tuple (pa_cons (pv 4) pa_nil)) pa_nil)))))))
    (pss_one (ps_ret (pe_callTy (cTupK K rfl) (by rfl) G.g_tuple boot_tuple (pa_cons (pv 3) pa_nil))))))
theorem sc_law_moved : FnScope ["_law_matrix_here", "_law_point", "_law_row_here", "_law_at"] ["_law_matrix_here", "_law_point"] (defScope (top 63)) := ⟨rfl, rfl, rfl, by decide +kernel, rfl, by decide +kernel, by decide +kernel⟩
def t_law_moved (K : PySem.W.Frag) : TS :=
    (tRet (tCB (rTup K) (tCons (tLc (iTup K (tVar 0)) (gName 2) tYes (tCB (rSum K) (tCons (tLc (iRng1 (tCons (tCB (rLenS K) (tCons (tVar 1) tNil)) tNil)) (gName 3) tYes (tOp (rI CMul fun i j => .int (i * j)) (tOp (rIxT K) (tVar 2) (tVar 3)) (tOp (rIxT K) (tVar 1) (tVar 3))) [3]) tNil)) [2]) tNil)))
theorem d_law_moved (G : Glo K mg C)  {f : Addr} {cdv : Value} {A : Around} {outer : List Env} {s : Shared} {H : Hp} {E : XK} (hr : Room 0 (A.deeper (envOfC "_law_moved" (defScope (top 63)) s.heap.objs.size f cdv))) :
    PSs (cxOf (L2.CX P w) P w K mg base ["_law_matrix_here", "_law_point", "_law_row_here", "_law_at"] "_law_moved" (defScope (top 63)) f cdv A outer s H E).nox (defBody (top 63)) (t_law_moved K) :=
    (pss_one (ps_ret (pe_callTy (cTupK K rfl) (by rfl) G.g_tuple boot_tuple (pa_cons (pe_lc (own := [("_law_row_here", 2)]) rfl sc_law_moved.nd (piT K rfl (pv 0)) (blkOk_by (N := ["_law_matrix_here", "_law_point", "_law_row_here", "_law_at"]) (sc := defScope (top 63)) (by decide +kernel)) (fun _ _ _ _ _ => (pg_name (i := 2) sc_law_moved.nd rfl (by first | exact .inl rfl | exact .inr rfl))) (fun _ _ _ _ _ => pts_nil) (fun _ _ _ _ _ => (pe_callB (cSumK K rfl rfl) (by rfl) G.g_sum boot_sum (pa_cons (pe_lc (own := [("_law_at", 3)]) rfl sc_law_moved.nd (pi_range1 (by rfl) G.g_range (pa_cons (pe_callB (cLenK K rfl) (by rfl) G.g_len boot_len (pa_cons (pv 1) pa_nil)) pa_nil)) (blkOk_by (N := ["_law_matrix_here", "_law_point", "_law_row_here", "_law_at"]) (by kernel_rfl)) (fun _ _ _ _ _ => (pg_name (i := 3) sc_law_moved.nd rfl (by first | exact .inl rfl | exact .inr rfl))) (fun _ _ _ _ _ => pts_nil) (fun _ _ _ _ _ => (pe_op op_mul (pe_ix (ixT K rfl) (pv 2) (pv 3) (fun _ _ => rfl)) (pe_ix (ixT K rfl) (pv 1) (pv 3) (fun _ _ => rfl))))) pa_nil)))) pa_nil))))
theorem sc_law_sum : FnScope ["_law_one", "_law_other", "_law_at"] ["_law_one", "_law_other"] (defScope (top 64)) := ⟨rfl, rfl, rfl, by decide +kernel, rfl, by decide +kernel, by decide +kernel⟩
def t_law_sum (K : PySem.W.Frag) : TS :=
    (tRet (tCB (rTup K) (tCons (tLc (iRng1 (tCons (tCB (rLenS K) (tCons (tVar 0) tNil)) tNil)) (gName 2) tYes (tOp (rI0 fun i j => .int (i + j)) (tOp (rIxT K) (tVar 0) (tVar 2)) (tOp (rIxT K) (tVar 1) (tVar 2))) [2]) tNil)))
theorem d_law_sum (G : Glo K mg C)  {f : Addr} {cdv : Value} {A : Around} {outer : List Env} {s : Shared} {H : Hp} {E : XK} (hr : Room 0 (A.deeper (envOfC "_law_sum" (defScope (top 64)) s.heap.objs.size f cdv))) :
    PSs (cxOf (L2.CX P w) P w K mg base ["_law_one", "_law_other", "_law_at"] "_law_sum" (defScope (top 64)) f cdv A outer s H E).nox (defBody (top 64)) (t_law_sum K) :=
    (pss_one (ps_ret (pe_callTy (cTupK K rfl) (by rfl) G.g_tuple boot_tuple (pa_cons (pe_lc (own := [("_law_at", 2)]) rfl sc_law_sum.nd (pi_range1 (by rfl) G.g_range (pa_cons (pe_callB (cLenK K rfl) (by rfl) G.g_len boot_len (pa_cons (pv 0) pa_nil)) pa_nil)) (blkOk_by (N := ["_law_one", "_law_other", "_law_at"]) (sc := defScope (top 64)) (by decide +kernel)) (fun _ _ _ _ _ => (pg_name (i := 2) sc_law_sum.nd rfl (by first | exact .inl rfl | exact .inr rfl))) (fun _ _ _ _ _ => pts_nil) (fun _ _ _ _ _ => (pe_op op_add (pe_ix (ixT K rfl) (pv 0) (pv 2) (fun _ _ => rfl)) (pe_ix (ixT K rfl) (pv 1) (pv 2) (fun _ _ => rfl))))) pa_nil))))
theorem sc_law_less : FnScope ["_law_one", "_law_other", "_law_at"] ["_law_one", "_law_other"] (defScope (top 65)) := ⟨rfl, rfl, rfl, by decide +kernel, rfl, by decide +kernel, by decide +kernel⟩
def t_law_less (K : PySem.W.Frag) : TS :=
    (tRet (tCB (rTup K) (tCons (tLc (iRng1 (tCons (tCB (rLenS K) (tCons (tVar 0) tNil)) tNil)) (gName 2) tYes (tOp (rI0 fun i j => .int (i - j)) (tOp (rIxT K) (tVar 0) (tVar 2)) (tOp (rIxT K) (tVar 1) (tVar 2))) [2]) tNil)))
theorem d_law_less (G : Glo K mg C)  {f : Addr} {cdv : Value} {A : Around} {outer : List Env} {s : Shared} {H : Hp} {E : XK} (hr : Room 0 (A.deeper (envOfC "_law_less" (defScope (top 65)) s.heap.objs.size f cdv))) :
    PSs (cxOf (L2.CX P w) P w K mg base ["_law_one", "_law_other", "_law_at"] "_law_less" (defScope (top 65)) f cdv A outer s H E).nox (defBody (top 65)) (t_law_less K) :=
    (pss_one (ps_ret (pe_callTy (cTupK K rfl) (by rfl) G.g_tuple boot_tuple (pa_cons (pe_lc (own := [("_law_at", 2)]) rfl sc_law_less.nd (pi_range1 (by rfl) G.g_range (pa_cons (pe_callB (cLenK K rfl) (by rfl) G.g_len boot_len (pa_cons (pv 0) pa_nil)) pa_nil)) (blkOk_by (N := ["_law_one", "_law_other", "_law_at"]) (sc := defScope (top 65)) (by decide +kernel)) (fun _ _ _ _ _ => (pg_name (i := 2) sc_law_less.nd rfl (by first | exact .inl rfl | exact .inr rfl))) (fun _ _ _ _ _ => pts_nil) (fun _ _ _ _ _ => (pe_op op_sub (pe_ix (ixT K rfl) (pv 0) (pv 2) (fun _ _ => rfl)) (pe_ix (ixT K rfl) (pv 1) (pv 2) (fun _ _ => rfl))))) pa_nil))))
theorem sc_law_key : FnScope ["_law_way_here", "_law_point", "_law_number"] ["_law_way_here", "_law_point"] (defScope (top 66)) := ⟨rfl, rfl, rfl, by decide +kernel, rfl, by decide +kernel, by decide +kernel⟩
def t_law_key (K : PySem.W.Frag) : TS :=
    (tRet (tCB (rTup K) (tCons (tLc (iTup K (tCall sp_law_moved [] E0 (tCons (tOp (rIxL K) (tVar 0) (tC (.int 2))) (tCons (tVar 1) tNil)))) (gName 2) tYes (tOp (rI (fun _ j => j ≠ 0) fun i j => .int (i.fmod j)) (tCB rInt1 (tCons (tVar 2) tNil)) (tOp (rIxL K) (tVar 0) (tC (.int 3)))) [2]) tNil)))
theorem d_law_key (G : Glo K mg C) (c_law_moved : Fn P w K mg base (L2.CX P w) 1 "_law_moved" ["_law_matrix_here", "_law_point"] sp_law_moved) {f : Addr} {cdv : Value} {A : Around} {outer : List Env} {s : Shared} {H : Hp} {E : XK} (hr : Room 1 (A.deeper (envOfC "_law_key" (defScope (top 66)) s.heap.objs.size f cdv))) :
    PSs (cxOf (L2.CX P w) P w K mg base ["_law_way_here", "_law_point", "_law_number"] "_law_key" (defScope (top 66)) f cdv A outer s H E).nox (defBody (top 66)) (t_law_key K) :=
    (pss_one (ps_ret (pe_callTy (cTupK K rfl) (by rfl) G.g_tuple boot_tuple (pa_cons (pe_lc (own := [("_law_number", 2)]) rfl sc_law_key.nd (piT K rfl (pe_f c_law_moved hr (by decide) passL (by rfl) (pa_cons (pe_ix (ixL K rfl) (pv 0) pe_int (fun _ _ => rfl)) (pa_cons (pv 1) pa_nil)))) (blkOk_by (N := ["_law_way_here", "_law_point", "_law_number"]) (sc := defScope (top 66)) (by decide +kernel)) (fun _ _ _ _ _ => (pg_name (i := 2) sc_law_key.nd rfl (by first | exact .inl rfl | exact .inr rfl))) (fun _ _ _ _ _ => pts_nil) (fun _ _ _ _ _ => (pe_op op_modN (pe_callTy call_int1' (by rfl) G.g_int boot_int (pa_cons (pv 2) pa_nil)) (pe_ix (ixL K rfl) (pv 0) pe_int (fun _ _ => rfl))))) pa_nil))))
theorem sc_law_step : FnScope ["_law_way_here", "_law_point", "_law_number", "_law_led", "_law_item"] ["_law_way_here", "_law_point"] (defScope (top 67)) := ⟨rfl, rfl, rfl, by decide +kernel, rfl, by decide +kernel, by decide +kernel⟩
def t_law_step (K : PySem.W.Frag) : TS :=
    (tSeq (tAsg (tDGet (tOp (rIxL K) (tVar 0) (tC (.int 4))) (tCall sp_law_key [] E0 (tCons (tVar 0) (tCons (tVar 1) tNil)))) (gName 2))
    (tSeq (tAsg (tCall sp_law_moved [] E0 (tCons (tOp (rIxL K) (tVar 0) (tC (.int 2))) (tCons (tCall sp_law_less [] E0 (tCons (tVar 1) (tCons (tOp (rIxL K) (tOp (rIxL K) (tVar 0) (tC (.int 1))) (tVar 2)) tNil))) tNil))) (gName 3))
    (tRet (tTup (tCons (tVar 2) (tCons (tCB (rTup K) (tCons (tLc (iTup K (tVar 3)) (gName 4) tYes (tOp (rI CDivN fun i j => .int (i.fdiv j)) (tVar 4) (tOp (rIxL K) (tVar 0) (tC (.int 3)))) [4]) tNil)) tNil))))))
theorem d_law_step (G : Glo K mg C) (c_law_key : Fn P w K mg base (L2.CX P w) 2 "_law_key" ["_law_way_here", "_law_point"] sp_law_key) (c_law_less : Fn P w K mg base (L2.CX P w) 1 "_law_less" ["_law_one", "_law_other"] sp_law_less) (c_law_moved : Fn P w K mg base (L2.CX P w) 1 "_law_moved" ["_law_matrix_here", "_law_point"] sp_law_moved) {f : Addr} {cdv : Value} {A : Around} {outer : List Env} {s : Shared} {H : Hp} {E : XK} (hr : Room 2 (A.deeper (envOfC "_law_step" (defScope (top 67)) s.heap.objs.size f cdv))) :
    PSs (cxOf (L2.CX P w) P w K mg base ["_law_way_here", "_law_point", "_law_number", "_law_led", "_law_item"] "_law_step" (defScope (top 67)) f cdv A outer s H E).nox (defBody (top 67)) (t_law_step K) :=
    (pss_cons (ps_set (i := 2) sc_law_step.nd rfl (by first | exact .inl rfl | exact .inr rfl) (pe_dget (hu_of hr) (pe_ix (ixL K rfl) (pv 0) pe_int (fun _ _ => rfl)) (pe_f c_law_key hr (by decide) passL (by rfl) (pa_cons (pv 0) (pa_cons (pv 1) pa_nil))) (fun _ _ => rfl)))
    (pss_cons (ps_set (i := 3) sc_law_step.nd rfl (by first | exact .inl rfl | exact .inr rfl) (pe_f c_law_moved hr (by decide) passL (by rfl) (pa_cons (pe_ix (ixL K rfl) (pv 0) pe_int (fun _ _ => rfl)) (pa_cons (pe_f c_law_less hr (by decide) passL (by rfl) (pa_cons (pv 1) (pa_cons (pe_ix (ixL K rfl) (pe_ix (ixL K rfl) (pv 0) pe_int (fun _ _ => rfl)) (pv 2) (fun _ _ => rfl)) pa_nil))) pa_nil))))
    (pss_one (ps_ret (pe_tup (pa_cons (pv 2) (pa_cons (pe_callTy (cTupK K rfl) (by rfl) G.g_tuple boot_tuple (pa_cons (pe_lc (own := [("_law_item", 4)]) rfl sc_law_step.nd (piT K rfl (pv 3)) (blkOk_by (N := ["_law_way_here", "_law_point", "_law_number", "_law_led", "_law_item"]) (sc := defScope (top 67)) (by decide +kernel)) (fun _ _ _ _ _ => (pg_name (i := 4) sc_law_step.nd rfl (by first | exact .inl rfl | exact .inr rfl))) (fun _ _ _ _ _ => pts_nil) (fun _ _ _ _ _ => (pe_op op_fdivN (pv 4) (pe_ix (ixL K rfl) (pv 0) pe_int (fun _ _ => rfl))))) pa_nil)) pa_nil)))))))
theorem sc_law_boxes : FnScope ["_law_size", "_law_most", "_law_found", "_law_turn", "_law_more", "_law_point", "_law_number"] ["_law_size", "_law_most"] (defScope (top 70)) := ⟨rfl, rfl, rfl, by decide +kernel, rfl, by decide +kernel, by decide +kernel⟩
def t_law_boxes (K : PySem.W.Frag) : TS :=
    (tSeq (tAsg (tLst (tCons (tTup tNil) tNil)) (gName 2))
    (tSeq (tFor (iRng1 (tCons (tVar 0) tNil)) (gName 3) (tSeq (tAsg (tLst tNil) (gName 4))
    (tSeq (tFor (iList K (tVar 2)) (gName 5) (tAsg (tOp rCat (tVar 4) (tLc (iRng1 (tCons (tVar 1) tNil)) (gName 6) tYes (tOp (rCatA K) (tVar 5) (tTup (tCons (tVar 6) tNil))) [6])) (gName 4)))
    (tAsg (tVar 4) (gName 2)))))
    (tRet (tVar 2))))
theorem d_law_boxes (G : Glo K mg C)  {f : Addr} {cdv : Value} {A : Around} {outer : List Env} {s : Shared} {H : Hp} {E : XK} (hr : Room 0 (A.deeper (envOfC "_law_boxes" (defScope (top 70)) s.heap.objs.size f cdv))) :
    PSs (cxOf (L2.CX P w) P w K mg base ["_law_size", "_law_most", "_law_found", "_law_turn", "_law_more", "_law_point", "_law_number"] "_law_boxes" (defScope (top 70)) f cdv A outer s H E).nox (defBody (top 70)) (t_law_boxes K) :=
    (pss_cons (ps_set (i := 2) sc_law_boxes.nd rfl (by first | exact .inl rfl | exact .inr rfl) (pe_lst (pa_cons (pe_tup pa_nil) pa_nil)))
    (pss_cons (ps_for PassesOwn.never rfl (pi_range1 (by rfl) G.g_range (pa_cons (pv 0) pa_nil)) (pg_name (i := 3) sc_law_boxes.nd rfl (by first | exact .inl rfl | exact .inr rfl)) (pss_cons (ps_set (i := 4) sc_law_boxes.nd rfl (by first | exact .inl rfl | exact .inr rfl) (pe_lst pa_nil))
    (pss_cons (ps_for PassesOwn.never rfl (piL K rfl (pv 2)) (pg_name (i := 5) sc_law_boxes.nd rfl (by first | exact .inl rfl | exact .inr rfl)) (pss_one (ps_set (i := 4) sc_law_boxes.nd rfl (by first | exact .inl rfl | exact .inr rfl) (pe_op op_cat (pv 4) (pe_lc (own := [("_law_number", 6)]) rfl sc_law_boxes.nd (pi_range1 (by rfl) G.g_range (pa_cons (pv 1) pa_nil)) (blkOk_by (N := ["_law_size", "_law_most", "_law_found", "_law_turn", "_law_more", "_law_point", "_law_number"]) (sc := defScope (top 70)) (by decide +kernel)) (fun _ _ _ _ _ => (pg_name (i := 6) sc_law_boxes.nd rfl (by first | exact .inl rfl | exact .inr rfl))) (fun _ _ _ _ _ => pts_nil) (fun _ _ _ _ _ => (pe_op (catAK K rfl) (pv 5) (pe_tup (pa_cons (pv 6) pa_nil)))))))))
    (pss_one (ps_set (i := 2) sc_law_boxes.nd rfl (by first | exact .inl rfl | exact .inr rfl) (pv 4))))))
    (pss_one (ps_ret (pv 2)))))
theorem sc_law_way_of : FnScope ["_law_matrix_here", "_law_digits_here", "_law_way_here", "_law_number"] ["_law_matrix_here", "_law_digits_here"] (defScope (top 72)) := ⟨rfl, rfl, rfl, by decide +kernel, rfl, by decide +kernel, by decide +kernel⟩
def t_law_way_of (K : PySem.W.Frag) : TS :=
    (tSeq (tAsg (tLst (tCons (tVar 0) (tCons (tVar 1) (tCons (tCall sp_law_adjugate [] E0 (tCons (tVar 0) tNil)) (tCons (tCall (sp_ldF 2) [] E0 (tCons (tVar 0) tNil)) (tCons tDNewT tNil)))))) (gName 2))
    (tSeq (tFor (iRng1 (tCons (tCB (rLenS K) (tCons (tVar 1) tNil)) tNil)) (gName 3) (sDPut (tOp (rIxL K) (tVar 2) (tC (.int 4))) (tCall sp_law_key [] E0 (tCons (tVar 2) (tCons (tOp (rIxL K) (tVar 1) (tVar 3)) tNil))) (tVar 3)))
    (tRet (tVar 2))))
theorem d_law_way_of (G : Glo K mg C) (c_law_det : Fn P w K mg base (L2.CX P w) 3 "_law_det" ["_law_matrix_here"] (sp_ldF 2)) (c_law_adjugate : Fn P w K mg base (L2.CX P w) 4 "_law_adjugate" ["_law_matrix_here"] sp_law_adjugate) (c_law_key : Fn P w K mg base (L2.CX P w) 2 "_law_key" ["_law_way_here", "_law_point"] sp_law_key) {f : Addr} {cdv : Value} {A : Around} {outer : List Env} {s : Shared} {H : Hp} {E : XK} (hr : Room 4 (A.deeper (envOfC "_law_way_of" (defScope (top 72)) s.heap.objs.size f cdv))) :
    PSs (cxOf (L2.CX P w) P w K mg base ["_law_matrix_here", "_law_digits_here", "_law_way_here", "_law_number"] "_law_way_of" (defScope (top 72)) f cdv A outer s H E).nox (defBody (top 72)) (t_law_way_of K) :=
    (pss_cons (ps_set (i := 2) sc_law_way_of.nd rfl (by first | exact .inl rfl | exact .inr rfl) (pe_lst (pa_cons (pv 0) (pa_cons (pv 1) (pa_cons (pe_f c_law_adjugate hr (by decide) passL (by rfl) (pa_cons (pv 0) pa_nil)) (pa_cons (pe_f c_law_det hr (by decide) passL (by rfl) (pa_cons (pv 0) pa_nil)) (pa_cons pe_dnewT pa_nil)))))))
    (pss_cons (ps_for PassesOwn.never rfl (pi_range1 (by rfl) G.g_range (pa_cons (pe_callB (cLenK K rfl) (by rfl) G.g_len boot_len (pa_cons (pv 1) pa_nil)) pa_nil)) (pg_name (i := 3) sc_law_way_of.nd rfl (by first | exact .inl rfl | exact .inr rfl)) (pss_one (ps_dput (hu_of hr) (pe_ix (ixL K rfl) (pv 2) pe_int (fun _ _ => rfl)) (pe_f c_law_key hr (by decide) passL (by rfl) (pa_cons (pv 2) (pa_cons (pe_ix (ixL K rfl) (pv 1) (pv 3) (fun _ _ => rfl)) pa_nil))) (pv 3) rfl)))
    (pss_one (ps_ret (pv 2)))))
theorem sc_law_walk : FnScope ["_law_way_here", "_law_point", "_law_turn", "_law_places", "_law_digits_here", "_law_points", "_law_number"] ["_law_way_here", "_law_point"] (defScope (top 74)) := ⟨rfl, rfl, rfl, by decide +kernel, rfl, by decide +kernel, by decide +kernel⟩
def t_law_walk (K : PySem.W.Frag) : TS :=
    (tSeq (tPar3 3 4 5 (tCons tDNewT (tCons (tLst tNil) (tCons (tLst tNil) tNil))))
    (tSeq (tFor (iRng1 (tCons (tC (.int 20000)) tNil)) (gName 2) (tSeq (tIfS (tB (tDIn (tVar 1) (tVar 3))) (tRet (tTup (tCons (tVar 4) (tCons (tDGet (tVar 3) (tVar 1)) (tCons (tVar 5) tNil))))) tNext)
    (tSeq (sDPut (tVar 3) (tVar 1) (tCB (rLenS K) (tCons (tVar 4) tNil)))
    (tSeq (tDrop (tBM K "list" rAppend (tVar 5) (tCons (tVar 1) tNil)))
    (tSeq (tAsg (tCall sp_law_step [] E0 (tCons (tVar 0) (tCons (tVar 1) tNil))) (gTup K 2 (gCons (gName 6) (gCons (gName 1) gNil))))
    (tDrop (tBM K "list" rAppend (tVar 4) (tCons (tVar 6) tNil))))))))
    (tRet (tTup (tCons (tVar 4) (tCons (tC (.int 0)) (tCons (tVar 5) tNil)))))))
theorem d_law_walk (G : Glo K mg C) (c_law_step : Fn P w K mg base (L2.CX P w) 3 "_law_step" ["_law_way_here", "_law_point"] sp_law_step) {f : Addr} {cdv : Value} {A : Around} {outer : List Env} {s : Shared} {H : Hp} {E : XK} (hr : Room 3 (A.deeper (envOfC "_law_walk" (defScope (top 74)) s.heap.objs.size f cdv))) :
    PSs (cxOf (L2.CX P w) P w K mg base ["_law_way_here", "_law_point", "_law_turn", "_law_places", "_law_digits_here", "_law_points", "_law_number"] "_law_walk" (defScope (top 74)) f cdv A outer s H E).nox (defBody (top 74)) (t_law_walk K) :=
    (pss_cons (ps_par3 rfl sc_law_walk.nd (i := 3) (j := 4) (l := 5) rfl rfl rfl (by decide) (by decide) (by decide) rfl rfl rfl (pa_cons pe_dnewT (pa_cons (pe_lst pa_nil) (pa_cons (pe_lst pa_nil) pa_nil))) (by rfl))
    (pss_cons (ps_for PassesOwn.never rfl (pi_range1 (by rfl) G.g_range (pa_cons pe_int pa_nil)) (pg_name (i := 2) sc_law_walk.nd rfl (by first | exact .inl rfl | exact .inr rfl)) (pss_cons (ps_if (pt_cmp (pc_din (hu_of hr) (pv 1) (pv 3))) (pss_one (ps_ret (pe_tup (pa_cons (pv 4) (pa_cons (pe_dget (hu_of hr) (pv 3) (pv 1) (fun _ _ => rfl)) (pa_cons (pv 5) pa_nil)))))) pss_nil)
    (pss_cons (ps_dput (hu_of hr) (pv 3) (pv 1) (pe_callB (cLenK K rfl) (by rfl) G.g_len boot_len (pa_cons (pv 4) pa_nil)) rfl)
    (pss_cons (ps_expr (pe_bmK K rfl PySem.F.plainAttrs_list PySem.F.slot_list_append PySem.F.type_list_append mt_append (pv 5) (pa_cons (pv 1) pa_nil)))
    (pss_cons (ps_asg (pe_f c_law_step hr (by decide) passL (by rfl) (pa_cons (pv 0) (pa_cons (pv 1) pa_nil))) (pgT K rfl rfl (pgs_cons (pg_name (i := 6) sc_law_walk.nd rfl (by first | exact .inl rfl | exact .inr rfl)) (pgs_cons (pg_name (i := 1) sc_law_walk.nd rfl (by first | exact .inl rfl | exact .inr rfl)) pgs_nil))))
    (pss_one (ps_expr (pe_bmK K rfl PySem.F.plainAttrs_list PySem.F.slot_list_append PySem.F.type_list_append mt_append (pv 4) (pa_cons (pv 6) pa_nil)))))))))
    (pss_one (ps_ret (pe_tup (pa_cons (pv 4) (pa_cons pe_int (pa_cons (pv 5) pa_nil))))))))
theorem sc_law_row : FnScope ["_law_way_here", "_law_point", "_law_digits_here", "_law_place", "_law_points"] ["_law_way_here", "_law_point"] (defScope (top 75)) := ⟨rfl, rfl, rfl, by decide +kernel, rfl, by decide +kernel, by decide +kernel⟩
def t_law_row (K : PySem.W.Frag) : TS :=
    (tSeq (tAsg (tCall sp_law_walk [] E0 (tCons (tVar 0) (tCons (tVar 1) tNil))) (gTup K 3 (gCons (gName 2) (gCons (gName 3) (gCons (gName 4) gNil)))))
    (tRet (tIf (tTest (tOp (rEqD K) (tSl (rSlL K) (tVar 2) (tPart (tVar 3)) tNoPart) (tLst (tCons (tC (.int 0)) tNil)))) (tSl (rSlL K) (tVar 2) tNoPart (tPart (tVar 3))) (tC .non))))
theorem d_law_row (G : Glo K mg C) (c_law_walk : Fn P w K mg base (L2.CX P w) 4 "_law_walk" ["_law_way_here", "_law_point"] sp_law_walk) {f : Addr} {cdv : Value} {A : Around} {outer : List Env} {s : Shared} {H : Hp} {E : XK} (hr : Room 4 (A.deeper (envOfC "_law_row" (defScope (top 75)) s.heap.objs.size f cdv))) :
    PSs (cxOf (L2.CX P w) P w K mg base ["_law_way_here", "_law_point", "_law_digits_here", "_law_place", "_law_points"] "_law_row" (defScope (top 75)) f cdv A outer s H E).nox (defBody (top 75)) (t_law_row K) :=
    (pss_cons (ps_asg (pe_f c_law_walk hr (by decide) passL (by rfl) (pa_cons (pv 0) (pa_cons (pv 1) pa_nil))) (pgT K rfl rfl (pgs_cons (pg_name (i := 2) sc_law_row.nd rfl (by first | exact .inl rfl | exact .inr rfl)) (pgs_cons (pg_name (i := 3) sc_law_row.nd rfl (by first | exact .inl rfl | exact .inr rfl)) (pgs_cons (pg_name (i := 4) sc_law_row.nd rfl (by first | exact .inl rfl | exact .inr rfl)) pgs_nil)))))
    (pss_one (ps_ret (pe_ifExp (pt_cmpR (eqDK K rfl hr.units) (pe_slice (slLK K rfl) (pv 2) (po_some (pv 3)) po_none) (pe_lst (pa_cons pe_int pa_nil)) (nomark _)) (pe_slice (slLK K rfl) (pv 2) po_none (po_some (pv 3))) pe_non))))
theorem sc_law_units : FnScope ["_law_size", "_law_found", "_law_at", "_law_number", "_law_place"] ["_law_size"] (defScope (top 76)) := ⟨rfl, rfl, rfl, by decide +kernel, rfl, by decide +kernel, by decide +kernel⟩
def t_law_units (K : PySem.W.Frag) : TS :=
    (tSeq (tAsg (tLst tNil) (gName 1))
    (tSeq (tFor (iRng1 (tCons (tVar 0) tNil)) (gName 2) (tFor (iList K (tLst (tCons (tUn (rU fun i => .int (-i)) (tC (.int 1))) (tCons (tC (.int 1)) tNil)))) (gName 3) (tDrop (tBM K "list" rAppend (tVar 1) (tCons (tCB (rTup K) (tCons (tLc (iRng1 (tCons (tVar 0) tNil)) (gName 4) tYes (tIf (tTest (tOp rEq (tVar 4) (tVar 2))) (tVar 3) (tC (.int 0))) [4]) tNil)) tNil)))))
    (tRet (tCB (rSortT K) (tCons (tVar 1) tNil)))))
theorem d_law_units (G : Glo K mg C)  {f : Addr} {cdv : Value} {A : Around} {outer : List Env} {s : Shared} {H : Hp} {E : XK} (hr : Room 0 (A.deeper (envOfC "_law_units" (defScope (top 76)) s.heap.objs.size f cdv))) :
    PSs (cxOf (L2.CX P w) P w K mg base ["_law_size", "_law_found", "_law_at", "_law_number", "_law_place"] "_law_units" (defScope (top 76)) f cdv A outer s H E).nox (defBody (top 76)) (t_law_units K) :=
    (pss_cons (ps_set (i := 1) sc_law_units.nd rfl (by first | exact .inl rfl | exact .inr rfl) (pe_lst pa_nil))
    (pss_cons (ps_for PassesOwn.never rfl (pi_range1 (by rfl) G.g_range (pa_cons (pv 0) pa_nil)) (pg_name (i := 2) sc_law_units.nd rfl (by first | exact .inl rfl | exact .inr rfl)) (pss_one (ps_for PassesOwn.never rfl (piL K rfl (pe_lst (pa_cons (pe_un un_neg pe_int) (pa_cons pe_int pa_nil)))) (pg_name (i := 3) sc_law_units.nd rfl (by first | exact .inl rfl | exact .inr rfl)) (pss_one (ps_expr (pe_bmK K rfl PySem.F.plainAttrs_list PySem.F.slot_list_append PySem.F.type_list_append mt_append (pv 1) (pa_cons (pe_callTy (cTupK K rfl) (by rfl) G.g_tuple boot_tuple (pa_cons (pe_lc (own := [("_law_place", 4)]) rfl sc_law_units.nd (pi_range1 (by rfl) G.g_range (pa_cons (pv 0) pa_nil)) (blkOk_by (N := ["_law_size", "_law_found", "_law_at", "_law_number", "_law_place"]) (sc := defScope (top 76)) (by decide +kernel)) (fun _ _ _ _ _ => (pg_name (i := 4) sc_law_units.nd rfl (by first | exact .inl rfl | exact .inr rfl))) (fun _ _ _ _ _ => pts_nil) (fun _ _ _ _ _ => (pe_ifExp (pt_cmpR op_eq (pv 4) (pv 2) (nomark _)) (pv 3) pe_int))) pa_nil)) pa_nil)))))))
    (pss_one (ps_ret (pe_callB (cSortTK K rfl) (by rfl) G.g_sorted boot_sorted (pa_cons (pv 1) pa_nil))))))
theorem sc_law_closed : FnScope ["_law_way_here", "_law_points", "_law_point", "_law_turn", "_law_found", "_law_left", "_law_digit", "_law_carried"] ["_law_way_here", "_law_points"] (defScope (top 77)) := ⟨rfl, rfl, rfl, by decide +kernel, rfl, by decide +kernel, by decide +kernel⟩
def t_law_closed (K : PySem.W.Frag) : TS :=
    (tSeq (tPar 4 5 (tCons tDNewT (tCons (tLst tNil) tNil)))
    (tSeq (tFor (iList K (tVar 1)) (gName 2) (tIfS (tB (tDNotIn (tVar 2) (tVar 4))) (tSeq (sDPut (tVar 4) (tVar 2) (tC (.bl true)))
    (tDrop (tBM K "list" rAppend (tVar 5) (tCons (tVar 2) tNil)))) tNext))
    (tSeq (tFor (iRng1 (tCons (tC (.int 601)) tNil)) (gName 3) (tSeq (tIfS (tOr (tTest (tOp (rEqD K) (tVar 5) (tLst tNil))) (tTest (tOp (rI0 fun i j => .bl (decide (j < i))) (tCB rLenT (tCons (tVar 4) tNil)) (tC (.int 600))))) tBreak tNext)
    (tSeq (tAsg (tBM0 K "list" rPop (tVar 5)) (gName 2))
    (tFor (iList K (tOp (rIxL K) (tVar 0) (tC (.int 1)))) (gName 6) (tSeq (tAsg (tOp (rIxT K) (tCall sp_law_step [] E0 (tCons (tVar 0) (tCons (tCall sp_law_sum [] E0 (tCons (tVar 2) (tCons (tVar 6) tNil))) tNil))) (tC (.int 1))) (gName 7))
    (tIfS (tB (tDNotIn (tVar 7) (tVar 4))) (tSeq (sDPut (tVar 4) (tVar 7) (tC (.bl true)))
    (tDrop (tBM K "list" rAppend (tVar 5) (tCons (tVar 7) tNil)))) tNext))))))
    (tRet (tIf (tTest (tOp (rI0 fun i j => .bl (decide (i ≤ j))) (tCB rLenT (tCons (tVar 4) tNil)) (tC (.int 600)))) (tCB rSortD (tCons (tVar 4) tNil)) (tC .non))))))
theorem d_law_closed (G : Glo K mg C) (c_law_sum : Fn P w K mg base (L2.CX P w) 1 "_law_sum" ["_law_one", "_law_other"] sp_law_sum) (c_law_step : Fn P w K mg base (L2.CX P w) 3 "_law_step" ["_law_way_here", "_law_point"] sp_law_step) {f : Addr} {cdv : Value} {A : Around} {outer : List Env} {s : Shared} {H : Hp} {E : XK} (hr : Room 3 (A.deeper (envOfC "_law_closed" (defScope (top 77)) s.heap.objs.size f cdv))) :
    PSs (cxOf (L2.CX P w) P w K mg base ["_law_way_here", "_law_points", "_law_point", "_law_turn", "_law_found", "_law_left", "_law_digit", "_law_carried"] "_law_closed" (defScope (top 77)) f cdv A outer s H E).nox (defBody (top 77)) (t_law_closed K) :=
    (pss_cons (ps_par rfl sc_law_closed.nd (i := 4) (j := 5) rfl rfl (by decide) rfl rfl (pa_cons pe_dnewT (pa_cons (pe_lst pa_nil) pa_nil)) (by rfl))
    (pss_cons (ps_for PassesOwn.never rfl (piL K rfl (pv 1)) (pg_name (i := 2) sc_law_closed.nd rfl (by first | exact .inl rfl | exact .inr rfl)) (pss_one (ps_if (pt_cmp (pc_dnotin (hu_of hr) (pv 2) (pv 4))) (pss_cons (ps_dput (hu_of hr) (pv 4) (pv 2) pe_bl rfl)
    (pss_one (ps_expr (pe_bmK K rfl PySem.F.plainAttrs_list PySem.F.slot_list_append PySem.F.type_list_append mt_append (pv 5) (pa_cons (pv 2) pa_nil))))) pss_nil)))
    (pss_cons (ps_for PassesOwn.never rfl (pi_range1 (by rfl) G.g_range (pa_cons pe_int pa_nil)) (pg_name (i := 3) sc_law_closed.nd rfl (by first | exact .inl rfl | exact .inr rfl)) (pss_cons (ps_if (PW.pt (pt_or (pt_cmpR (eqDK K rfl hr.units) (pv 5) (pe_lst pa_nil) (nomark _)) (pt_or1 (pt_cmpR op_gt (pe_callB call_len_dT (by rfl) G.g_len boot_len (pa_cons (pv 4) pa_nil)) pe_int (nomark _))))) (pss_one ps_break) pss_nil)
    (pss_cons (ps_set (i := 2) sc_law_closed.nd rfl (by first | exact .inl rfl | exact .inr rfl) (pe_bm0K K rfl PySem.F.plainAttrs_list PySem.F.slot_list_pop PySem.F.type_list_pop mt_pop (pv 5)))
    (pss_one (ps_for PassesOwn.never rfl (piL K rfl (pe_ix (ixL K rfl) (pv 0) pe_int (fun _ _ => rfl))) (pg_name (i := 6) sc_law_closed.nd rfl (by first | exact .inl rfl | exact .inr rfl)) (pss_cons (ps_set (i := 7) sc_law_closed.nd rfl (by first | exact .inl rfl | exact .inr rfl) (pe_ix (ixT K rfl) (pe_f c_law_step hr (by decide) passL (by rfl) (pa_cons (pv 0) (pa_cons (pe_f c_law_sum hr (by decide) passL (by rfl) (pa_cons (pv 2) (pa_cons (pv 6) pa_nil))) pa_nil))) pe_int (fun _ _ => rfl)))
    (pss_one (ps_if (pt_cmp (pc_dnotin (hu_of hr) (pv 7) (pv 4))) (pss_cons (ps_dput (hu_of hr) (pv 4) (pv 7) pe_bl rfl)
    (pss_one (ps_expr (pe_bmK K rfl PySem.F.plainAttrs_list PySem.F.slot_list_append PySem.F.type_list_append mt_append (pv 5) (pa_cons (pv 7) pa_nil))))) pss_nil))))))))
    (pss_one (ps_ret (pe_ifExp (pt_cmpR op_le (pe_callB call_len_dT (by rfl) G.g_len boot_len (pa_cons (pv 4) pa_nil)) pe_int (nomark _)) (pe_callB (cr_sortD rfl) (by rfl) G.g_sorted boot_sorted (pa_cons (pv 4) pa_nil)) pe_non))))))
theorem sc_law_greatest : FnScope ["_law_point", "_law_number"] ["_law_point"] (defScope (top 80)) := ⟨rfl, rfl, rfl, by decide +kernel, rfl, by decide +kernel, by decide +kernel⟩
def t_law_greatest (K : PySem.W.Frag) : TS :=
    (tRet (tCB (rMax K) (tCons (tLc (iTup K (tVar 0)) (gName 1) tYes (tCB rAbs1 (tCons (tVar 1) tNil)) [1]) tNil)))
theorem d_law_greatest (G : Glo K mg C)  {f : Addr} {cdv : Value} {A : Around} {outer : List Env} {s : Shared} {H : Hp} {E : XK} (hr : Room 0 (A.deeper (envOfC "_law_greatest" (defScope (top 80)) s.heap.objs.size f cdv))) :
    PSs (cxOf (L2.CX P w) P w K mg base ["_law_point", "_law_number"] "_law_greatest" (defScope (top 80)) f cdv A outer s H E).nox (defBody (top 80)) (t_law_greatest K) :=
    (pss_one (ps_ret (pe_callB (cMaxK K rfl rfl) (by rfl) G.g_max boot_max (pa_cons (pe_lc (own := [("_law_number", 1)]) rfl sc_law_greatest.nd (piT K rfl (pv 0)) (blkOk_by (N := ["_law_point", "_law_number"]) (sc := defScope (top 80)) (by decide +kernel)) (fun _ _ _ _ _ => (pg_name (i := 1) sc_law_greatest.nd rfl (by first | exact .inl rfl | exact .inr rfl))) (fun _ _ _ _ _ => pts_nil) (fun _ _ _ _ _ => (pe_callB call_abs1 (by rfl) G.g_abs boot_abs (pa_cons (pv 1) pa_nil)))) pa_nil))))
theorem sc_law_shell : FnScope ["_law_size", "_law_most", "_law_point", "_law_number"] ["_law_size", "_law_most"] (defScope (top 81)) := ⟨rfl, rfl, rfl, by decide +kernel, rfl, by decide +kernel, by decide +kernel⟩
def t_law_shell (K : PySem.W.Frag) : TS :=
    (tRet (tLc (iList K (tCall sp_law_boxes [] E0 (tCons (tVar 0) (tCons (tOp (rI0 fun i j => .int (i + j)) (tOp (rI CMul fun i j => .int (i * j)) (tC (.int 2)) (tVar 1)) (tC (.int 1))) tNil)))) (gName 2) tYes (tCB (rTup K) (tCons (tLc (iTup K (tVar 2)) (gName 3) tYes (tOp (rI0 fun i j => .int (i - j)) (tVar 3) (tVar 1)) [3]) tNil)) [2]))
theorem d_law_shell (G : Glo K mg C) (c_law_boxes : Fn P w K mg base (L2.CX P w) 1 "_law_boxes" ["_law_size", "_law_most"] sp_law_boxes) {f : Addr} {cdv : Value} {A : Around} {outer : List Env} {s : Shared} {H : Hp} {E : XK} (hr : Room 1 (A.deeper (envOfC "_law_shell" (defScope (top 81)) s.heap.objs.size f cdv))) :
    PSs (cxOf (L2.CX P w) P w K mg base ["_law_size", "_law_most", "_law_point", "_law_number"] "_law_shell" (defScope (top 81)) f cdv A outer s H E).nox (defBody (top 81)) (t_law_shell K) :=
    (pss_one (ps_ret (pe_lc (own := [("_law_point", 2)]) rfl sc_law_shell.nd (piL K rfl (pe_f c_law_boxes hr (by decide) passL (by rfl) (pa_cons (pv 0) (pa_cons (pe_op op_add (pe_op op_mul pe_int (pv 1)) pe_int) pa_nil)))) (blkOk_by (N := ["_law_size", "_law_most", "_law_point", "_law_number"]) (sc := defScope (top 81)) (by decide +kernel)) (fun _ _ _ _ _ => (pg_name (i := 2) sc_law_shell.nd rfl (by first | exact .inl rfl | exact .inr rfl))) (fun _ _ _ _ _ => pts_nil) (fun _ _ _ _ _ => (pe_callTy (cTupK K rfl) (by rfl) G.g_tuple boot_tuple (pa_cons (pe_lc (own := [("_law_number", 3)]) rfl sc_law_shell.nd (piT K rfl (pv 2)) (blkOk_by (N := ["_law_size", "_law_most", "_law_point", "_law_number"]) (by kernel_rfl)) (fun _ _ _ _ _ => (pg_name (i := 3) sc_law_shell.nd rfl (by first | exact .inl rfl | exact .inr rfl))) (fun _ _ _ _ _ => pts_nil) (fun _ _ _ _ _ => (pe_op op_sub (pv 3) (pv 1)))) pa_nil))))))
end
end K13
namespace K13
open PySem PySem.Spec PyProof.Rows L2 Evl
theorem det1 {m : Mx} (h : Sq 1 m) : detM m = ent m 0 0 := by
  obtain ⟨h1, h2⟩ := h
  match m, h1, h2 with
  | [r], _, h2 =>
    have hr := h2 r (List.mem_cons_self ..)
    match r, hr with
    | [a], _ =>
      simp [detM, detN, sumR, sgn, ent, List.range_succ]
theorem det2 {m : Mx} (h : Sq 2 m) : detM m = ent m 0 0 * ent m 1 1 - ent m 0 1 * ent m 1 0 := by
  obtain ⟨h1, h2⟩ := h
  match m, h1, h2 with
  | [r, s], _, h2 =>
    have hr := h2 r (List.mem_cons_self ..)
    have hs := h2 s (List.mem_cons_of_mem _ (List.mem_cons_self ..))
    match r, hr, s, hs with
    | [a, b], _, [c, d], _ =>
      simp [detM, detN, sumR, sgn, ent, List.range_succ, witM, cutR]
      grind
theorem cut_filter {r : Pt} {n c : Nat} (h : r.length = n) : ((List.range n).filter fun i => decide (i ≠ c)).map (fun i => r.getD i 0) = cutR r c := by
  subst h
  unfold cutR
  induction r generalizing c with
  | nil => simp
  | cons x r ih =>
    rw [List.length_cons, List.range_succ_eq_map, List.filter_cons]
    cases c with
    | zero =>
      simp only [ne_eq, not_true_eq_false, decide_false, Bool.false_eq_true, if_false]
      rw [List.filter_map, List.map_map]
      have : (List.range r.length).filter ((fun i => decide ¬(i = 0)) ∘ Nat.succ) = List.range r.length := List.filter_eq_self.mpr fun a _ => by simp
      rw [this]
      show (List.range r.length).map (fun i => (x :: r).getD (i + 1) 0) = _
      have h2 : (List.range r.length).map (fun i => (x :: r).getD (i + 1) 0) = (List.range r.length).map fun i => r.getD i 0 := List.map_congr_left fun i _ => by simp
      rw [h2]
      have h3 := map_range r 0 (id : Int → Int)
      rw [List.map_id] at h3
      simpa using h3.symm
    | succ c =>
      have h1 : decide ((0 : Nat) ≠ c + 1) = true := by simp
      rw [if_pos h1, List.map_cons, List.filter_map, List.map_map]
      have h2 : (List.range r.length).filter ((fun i => decide (i ≠ c + 1)) ∘ Nat.succ) = (List.range r.length).filter fun i => decide (i ≠ c) := List.filter_congr fun a _ => by simp
      rw [h2]
      have h3 : ((List.range r.length).filter fun i => decide (i ≠ c)).map ((fun i => (x :: r).getD i 0) ∘ Nat.succ) = ((List.range r.length).filter fun i => decide (i ≠ c)).map fun i => r.getD i 0 := List.map_congr_left fun i _ => by simp
      rw [h3, ih]
      simp
/-- a matrix, the rows tuples or lists -/
def AxV (H : Hp) (v : V) (m : Mx) : Prop := MxV H v m ∨ LlV H v m
section
variable {K : PySem.W.Frag} {σ : L2.St} {H : Hp} {ta tb tc te tl : TE}
theorem rv_ixt {x y z : V} (h : RV (rIxT K) x y H z) : RV (rIx K) x y H z := fun H1 e Q q => .inr (.inl (h H1 e Q q))
theorem rv_ixl {x y z : V} (h : RV (rIxL K) x y H z) : RV (rIx K) x y H z := fun H1 e Q q => .inl (h H1 e Q q)
theorem ent_evA {v : V} {m : Mx} {n i j : Nat} (h : Ev ta σ H v) (hi : Ev tb σ H (.int (i : Int))) (hj : Ev tc σ H (.int (j : Int))) (hx : AxV H v m) (hm : Sq n m) (h1 : i < n) (h2 : j < n) : Ev (tOp (rIx K) (tOp (rIx K) ta tb) tc) σ H (.int (ent m i j)) := by
  have hr : m[i]? = some (m.getD i []) := get_some (by rw [hm.1]; exact h1) []
  have hrl := hm.2 _ (List.mem_of_getElem? hr)
  rcases hx with ⟨a, as, rfl, ha, has⟩ | ⟨a, as, rfl, ha, has⟩
  · obtain ⟨b, hb, hpb⟩ := has.get2 hr
    exact ev_op (ev_op h hi (rv_ixt (rv_ixT (st_of ha) (atI_nat (by rw [List.getElem?_map, hb]; rfl))))) hj (rv_ixt (rv_ixT (st_of hpb) (atI_nat (get_pt (by rw [hrl]; exact h2)))))
  · obtain ⟨b, hb, hpb⟩ := paired_get2 has hr
    exact ev_op (ev_op h hi (rv_ixl (rv_ixL (sq_of ha) (atI_nat (by rw [List.getElem?_map, hb]; rfl))))) hj (rv_ixl (rv_ixL (sq_of hpb) (atI_nat (get_pt (by rw [hrl]; exact h2)))))
theorem ev_lenA {v : V} {m : Mx} (h : Ev te σ H v) (hx : AxV H v m) : Ev (tCB (rLenS K) (tCons te tNil)) σ H (.int (m.length : Int)) := by
  rcases hx with ⟨a, as, rfl, ha, has⟩ | ⟨a, as, rfl, ha, has⟩
  · exact ev_is (ev_lenT h ha) (by rw [List.length_map, has.len])
  · exact ev_is (ev_lenL h ha) (by rw [List.length_map, Paired.length has])
/-- numbers told exactly, some left out -/
theorem evp_lcF {wi : TI} {g : TG} {tt : TT} {te : TE} {vs : List Nat} {n : Nat} {y : Nat → V → Hp → Prop} (hi : EvI wi σ H n y) (f : Nat → Bool) (val : Nat → Int) (hn : n ≤ sizeLine)
    (hb : ∀ i x H', i < n → Ex H H' → y i x H' → ∃ σ2, (∀ Q, Q σ2 H' → g x (wipe σ vs) H' Q) ∧ wipe σ2 vs = wipe σ vs ∧ EvT tt σ2 H' (f i) ∧ (f i = true → Ev te σ2 H' (.int (val i)))) :
    EvP (tLc wi g tt te vs) σ H fun v H' => ∃ b, v = .ref b ∧ H b = none ∧ H' b = some (.lst ((((List.range n).filter f).map val).map V.int)) := by
  refine (evp_lc hi f (fun i u _ => u = .int (val i)) hn (fun _ _ _ _ _ h => h) fun i x H' hin e hy => ?_).imp fun v H' e ⟨D, ys, ev, hD0, hD, hp⟩ => ⟨D, ev, hD0, ?_⟩
  · obtain ⟨σ2, h1, h2, h3, h4⟩ := hb i x H' hin e hy
    exact ⟨σ2, h1, h2, h3, fun hf => evp_of_ev (h4 hf)⟩
  · rw [hD, List.map_map, paired_eq hp]
    rfl
/-- a list of lists of numbers -/
theorem evp_ll {wi : TI} {g : TG} {tt : TT} {te : TE} {vs : List Nat} {n : Nat} {y : Nat → V → Hp → Prop} (hi : EvI wi σ H n y) (f : Nat → Bool) (rows : Nat → Pt) (hn : n ≤ sizeLine)
    (hb : ∀ i x H', i < n → Ex H H' → y i x H' → ∃ σ2, (∀ Q, Q σ2 H' → g x (wipe σ vs) H' Q) ∧ wipe σ2 vs = wipe σ vs ∧ EvT tt σ2 H' (f i) ∧ (f i = true → EvP te σ2 H' fun v H'' => ∃ b, v = .ref b ∧ H' b = none ∧ H'' b = some (.lst ((rows i).map V.int)))) :
    EvP (tLc wi g tt te vs) σ H fun v H' => LlV H' v (((List.range n).filter f).map rows) := by
  refine (evp_lcG hi f (fun D i u H => ∃ b, u = .ref b ∧ b ≠ D ∧ H b = some (.lst ((rows i).map V.int))) hn (fun D i v H H' k ⟨b, h1, h2, h3⟩ => ⟨b, h1, h2, k _ _ h2 h3⟩) fun i x D acc H' hin e hD0 hD hy => ?_).imp fun v H' e ⟨D, ys, ev, hD0, hD, hp⟩ => ?_
  · obtain ⟨σ2, h1, h2, h3, h4⟩ := hb i x H' hin e hy
    exact ⟨σ2, h1, h2, h3, fun hf => (h4 hf).imp fun v H'' e ⟨b, ev, hb0, hb1⟩ => ⟨b, ev, (fun z => by rw [z, hD] at hb0; cases hb0), hb1⟩⟩
  · have : ∀ {l : List Nat} {ys : List V}, Paired (fun i u => ∃ b, u = V.ref b ∧ b ≠ D ∧ H' b = some (.lst ((rows i).map V.int))) l ys → ∃ as : List Addr, ys = as.map V.ref ∧ Paired (fun b r => H' b = some (.lst (r.map V.int))) as (l.map rows) := by
      intro l ys hp
      induction hp with
      | nil => exact ⟨[], rfl, .nil⟩
      | cons h _ ih =>
        obtain ⟨as, rfl, q⟩ := ih
        obtain ⟨b, rfl, _, hb⟩ := h
        exact ⟨b :: as, rfl, .cons hb q⟩
    obtain ⟨as, rfl, q⟩ := this hp
    exact ⟨D, as, ev, hD, q⟩
/-- over a tuple made for it -/
theorem evi_tupP {n : Nat} {Px : List V → Prop} (h : EvP tl σ H fun v H' => ∃ a xs, v = .ref a ∧ H' a = some (.tup xs) ∧ xs.length = n ∧ Px xs) : EvI (iTup K tl) σ H n (fun i x H' => ∃ xs, xs[i]? = some x ∧ Px xs) := fun H1 e R q => h H1 e _ fun v H2 e2 ⟨a, xs, ev, ha, hl, px⟩ =>
  ⟨a, ev, ⟨xs, st_of ha⟩, q _ (fun H => SqT K H a xs) H2 e2 ⟨fun i H hi hg => walk_tup.goes i H (by omega) hg, fun H hg => hl ▸ walk_tup.stops H hg, fun i H x H' hi hg hy => by
    obtain ⟨e1, e2⟩ := walk_tup.yields i H x H' (by omega) hg hy
    exact ⟨by rw [e1]; exact Ex.refl H, xs, e2, px⟩⟩ fun H3 e3 => ex_t e3 (st_of ha)⟩
theorem eq_nat (a b : Nat) : decide (V.int (a : Int) = V.int (b : Int)) = decide (a = b) := by
  by_cases h : a = b
  · subst h
    rw [decide_eq_true rfl, decide_eq_true rfl]
  · have : ¬ V.int (a : Int) = V.int (b : Int) := fun z => h (by injection z with z; omega)
    rw [decide_eq_false h, decide_eq_false this]
end
section
variable {K : PySem.W.Frag}
theorem AxV.ex {H H' : Hp} {v : V} {m : Mx} (h : AxV H v m) (e : Ex H H') : AxV H' v m := by
  rcases h with h | ⟨a, as, h1, h2, h3⟩
  · exact .inl (h.ex e)
  · exact .inr ⟨a, as, h1, e _ _ h2, Paired.mapP h3 fun _ _ q => e _ _ q⟩
theorem p_law_det (n0 : Nat) (vs : List V) (H : Hp) (Q : VK) (E : XK) (h : sp_ldF (n0 + 1) vs H Q E) : t_law_det K n0 (En Q) (start ["_law_matrix_here", "_law_at", "_law_found", "_law_sign", "_law_small", "_law_row_here", "_law_place"] vs) H := by
  obtain ⟨R, ⟨n, v, m, rfl, hv, hm, h1, h3, hf, hs, rfl⟩, k⟩ := h
  have hax : AxV H v m := hv.elim .inl fun h => .inr h.1
  have ht : ∀ (c : Nat) {H' : Hp}, Ex H H' → EvT (tTest (tOp rEq (tCB (rLenS K) (tCons (tVar 0) tNil)) (tC (.int (c : Int))))) (start ["_law_matrix_here", "_law_at", "_law_found", "_law_sign", "_law_small", "_law_row_here", "_law_place"] [v]) H' (decide (n = c)) := fun c H' e =>
    et_test (ev_is (ev_op (ev_lenA (ev_var rfl) (hax.ex e)) ev_c (rv_eq rfl)) (by rw [eq_nat, hm.1]))
  refine q_when (ht 1 (Ex.refl H)) (fun hb H1 e1 => ?_) fun hb H1 e1 => ?_
  · obtain rfl := of_decide_eq_true hb
    exact ret_ev (v := .int (detM m)) (ev_is (ent_evA (i := 0) (j := 0) (ev_var rfl) ev_c ev_c (hax.ex e1) hm (by decide) (by decide)) (by rw [det1 hm])) rfl fun v H' e' r => k v H' (e1.trans e') r
  have n1 := of_decide_eq_false hb
  refine q_when (ht 2 e1) (fun hb H2 e2 => ?_) fun hb H2 e2 => ?_
  · obtain rfl := of_decide_eq_true hb
    have en : ∀ i j : Nat, i < 2 → j < 2 → Ev (tOp (rIx K) (tOp (rIx K) (tVar 0) (tC (.int (i : Int)))) (tC (.int (j : Int)))) (start ["_law_matrix_here", "_law_at", "_law_found", "_law_sign", "_law_small", "_law_row_here", "_law_place"] [v]) H2 (.int (ent m i j)) := fun i j hi hj => ent_evA (ev_var rfl) ev_c ev_c (hax.ex (e1.trans e2)) hm hi hj
    exact ret_ev (v := .int (detM m)) (ev_is (ev_op (ev_op (en 0 0 (by decide) (by decide)) (en 1 1 (by decide) (by decide)) (rv_I (.inl (ent_sm hs hm (by decide) (by decide))))) (ev_op (en 0 1 (by decide) (by decide)) (en 1 0 (by decide) (by decide)) (rv_I (.inl (ent_sm hs hm (by decide) (by decide))))) rv_I0) (by rw [det2 hm])) rfl fun v H' e' r => k v H' ((e1.trans e2).trans e') r
  have n2 := of_decide_eq_false hb
  obtain rfl : n = 3 := by omega
  obtain ⟨f0, rfl⟩ : ∃ f, n0 = f + 1 := ⟨n0 - 1, by omega⟩
  obtain ⟨a, as, rfl, ha, has⟩ : MxV H v m := hv.elim id fun h => by have := h.2; omega
  have e12 := e1.trans e2
  refine q_asgG (evp_tup (vs := [.int 0, .int 1]) (ea_cons ev_c (ea_cons ev_c ea_nil)) (by decide)) fun u H3 e3 ⟨t, eu, ht3⟩ => ?_
  subst eu
  refine g_pair ht3 _ ?_
  have e13 := e12.trans e3
  obtain ⟨r0, rs, em, hr0⟩ := head_of hm
  have hhd : m.headD [] = r0 := by rw [em]; rfl
  have h0m : m[0]? = some r0 := by rw [em]; rfl
  have hent0 : ∀ j, ent m 0 j = r0.getD j 0 := fun j => by unfold ent; rw [getD_of h0m]
  refine q_forF (mu := []) (evf_rng1 (ta := tC (.int 3)) (n := 3) ev_c (by decide)) (fun i σ' H' => (∃ x y z w : Option V, σ' = [some (V.ref a), x, some (.int (sumR i fun j => sgn j * r0.getD j 0 * detN 2 (witM m 0 j))), some (.int (sgn i)), y, z, w]) ∧ i ≤ 3) (fun i σ' H' H'' e q => q) ⟨⟨none, none, none, none, rfl⟩, by decide⟩ (fun B i x σ' H' hin eB kp ⟨⟨x1, x2, x3, x4, es⟩, hi3⟩ hy => ?_) fun σ' H' kp ⟨⟨x1, x2, x3, x4, es⟩, _⟩ => ?_
  · subst hy es
    have hi3 : i < 3 := hin
    have ek : Ex H H' := fun c o hc => kp.1 c o (by simp) (eB c o (e13 c o hc))
    -- the small matrix
    have hsl : EvP (tSl (rSlA K) (tVar 0) (tPart (tC (.int 1))) tNoPart) [some (V.ref a), some (.int (i : Int)), some (.int (sumR i fun j => sgn j * r0.getD j 0 * detN 2 (witM m 0 j))), some (.int (sgn i)), x2, x3, x4] H' fun u H'' => ∃ b, u = .ref b ∧ H'' b = some (.tup ((as.drop 1).map V.ref)) := fun H1 e Q q => by
      refine ⟨V.ref a, rfl, 1, rfl, ?_⟩
      refine ⟨a, as.map V.ref, rfl, st_of (e _ _ (ek _ _ ha)), fun hw => ?_, fun _ l hl => ?_⟩
      · exfalso
        have hl : (as.map V.ref).length = 3 := by rw [List.length_map, has.len, hm.1]
        have := hw.1
        rw [hl] at this
        revert this
        decide
      · refine q _ _ (Ex.new hl) ⟨l, rfl, ?_⟩
        rw [upd_same]
        have hl : (as.map V.ref).length = 3 := by rw [List.length_map, has.len, hm.1]
        have : cutV (as.map V.ref) (some 1) none = (as.drop 1).map V.ref := by
          unfold cutV
          rw [hl, show HT.sIx 3 0 (some 1) = 1 from by decide, show HT.sIx 3 3 none = 3 from rfl, ← List.map_drop, List.take_of_length_le]
          rw [List.length_map, List.length_drop, has.len, hm.1]
          decide
        rw [this]
    have hsm : EvP (tLc (iTup K (tSl (rSlA K) (tVar 0) (tPart (tC (.int 1))) tNoPart)) (gName 5) tYes (tLc (iRng1 (tCons (tC (.int 3)) tNil)) (gName 6) (tTest (tOp rNe (tVar 6) (tVar 1))) (tOp (rIx K) (tVar 5) (tVar 6)) [6]) [5]) [some (V.ref a), some (.int (i : Int)), some (.int (sumR i fun j => sgn j * r0.getD j 0 * detN 2 (witM m 0 j))), some (.int (sgn i)), x2, x3, x4] H' fun u H'' => LlV H'' u (witM m 0 i) := by
      have hi := evi_tupP (K := K) (n := 2) (Px := fun xs => xs = (as.drop 1).map V.ref) (hsl.imp fun u H'' e ⟨b, eu, hb⟩ => ⟨b, _, eu, hb, by rw [List.length_map, List.length_drop, has.len, hm.1], rfl⟩)
      refine (evp_ll hi (fun _ => true) (fun j => cutR (m.getD (j + 1) []) i) (by decide) fun j x H2 hj e2 ⟨xs, hx, exs⟩ => ?_).imp fun u H'' e hu => ?_
      · subst exs
        rw [List.getElem?_map, List.getElem?_drop] at hx
        cases ec : as[1 + j]? with
        | none => rw [ec] at hx; cases hx
        | some c =>
          rw [ec] at hx
          obtain rfl := Option.some.inj hx
          obtain ⟨r, hr, hc⟩ := has.get ec
          have hrl := hm.2 r (List.mem_of_getElem? hr)
          refine ⟨_, fun Q q => q, rfl, et_yes, fun _ => ?_⟩
          have hi2 := evi_rng1 (σ := [some (V.ref a), some (.int (i : Int)), some (.int (sumR i fun j => sgn j * r0.getD j 0 * detN 2 (witM m 0 j))), some (.int (sgn i)), x2, some (.ref c), x4]) (H := H2) (ta := tC (.int 3)) (n := 3) ev_c (by decide)
          have hval : (((List.range 3).filter fun p => decide (p ≠ i)).map fun p => r.getD p 0) = cutR (m.getD (j + 1) []) i := by
            rw [cut_filter hrl, Nat.add_comm, getD_of hr]
          rw [← hval]
          refine evp_lcF hi2 (fun p => decide (p ≠ i)) (fun p => r.getD p 0) (by decide) fun p x H3 hp e3 hx => ?_
          subst hx
          refine ⟨_, fun Q q => q, rfl, et_test (ev_is (ev_op (ev_var rfl) (ev_var rfl) (rv_ne rfl)) ?_), fun _ => ev_op (ev_var rfl) (ev_var rfl) (rv_ixt (rv_ixT (st_of (e3 _ _ (e2 _ _ (ek _ _ hc)))) (atI_nat (get_pt (by rw [hrl]; exact hp)))))⟩
          rw [eq_nat]
          simp
      · have : ((List.range 2).filter fun _ => true).map (fun j => cutR (m.getD (j + 1) []) i) = witM m 0 i := by
          unfold witM
          rw [hm.1]
          rfl
        rw [this] at hu
        exact hu
    refine q_asgP hsm fun u H1 e1 hu => ?_
    have hm0 : Ev (tOp (rIx K) (tOp (rIx K) (tVar 0) (tC (.int 0))) (tVar 1)) [some (V.ref a), some (.int (i : Int)), some (.int (sumR i fun j => sgn j * r0.getD j 0 * detN 2 (witM m 0 j))), some (.int (sgn i)), some u, x3, x4] H1 (.int (r0.getD i 0)) := by
      rw [← hent0]
      exact ent_evA (i := 0) (ev_var rfl) ev_c (ev_var rfl) (.inl ⟨a, as, rfl, e1 _ _ (ek _ _ ha), (has.ex ek).ex e1⟩) hm (by decide) hi3
    have hsm0 : -(2 ^ 64) < r0.getD i 0 ∧ r0.getD i 0 < 2 ^ 64 := by
      rw [← hent0]
      exact ent_sm hs hm (by decide) hi3
    have hdet : Ev (tCall (sp_ldF (f0 + 1)) [] E0 (tCons (tVar 4) tNil)) [some (V.ref a), some (.int (i : Int)), some (.int (sumR i fun j => sgn j * r0.getD j 0 * detN 2 (witM m 0 j))), some (.int (sgn i)), some u, x3, x4] H1 (.int (detM (witM m 0 i))) := by
      have hw := witM_sq (n := 2) hm (by decide) hi3 (r := 0) (c := i)
      refine ev_callV (ea_cons (ev_var rfl) ea_nil) (spp_use fun H2 e2 => ⟨2, u, witM m 0 i, rfl, .inr ⟨?_, by decide⟩, hw, by decide, by decide, by omega, witM_sm hs, rfl⟩)
      obtain ⟨b, bs, h1, h2, h3⟩ := hu
      exact ⟨b, bs, h1, e2 _ _ h2, Paired.mapP h3 fun _ _ q => e2 _ _ q⟩
    have hdd : detM (witM m 0 i) = detN 2 (witM m 0 i) := by
      unfold detM
      rw [(witM_sq (n := 2) hm (by decide) hi3 (r := 0) (c := i)).1]
    rw [hdd] at hdet
    refine s_par (Pa := isV (.int (sumR (i + 1) fun j => sgn j * r0.getD j 0 * detN 2 (witM m 0 j)))) (Pb := isV (.int (sgn (i + 1)))) ?_ (fun _ _ _ _ => evp_of_ev (ev_is (ev_op ev_c (ev_var rfl) rv_I0) ?_)) fun x y H2 H3 e2 hx e3 hy => ?_
    · refine evp_of_ev ?_
      rw [sumR_succ]
      exact ev_op (ev_var rfl) (ev_op (ev_op (ev_var rfl) hm0 (rv_I (.inr hsm0))) hdet (rv_I (.inl (sgn_sm i hsm0)))) rv_I0
    · congr 1
      have : ∀ i, i < 3 → (0 : Int) - sgn i = sgn (i + 1) := by decide
      exact this i hi3
    · obtain rfl : x = _ := hx
      obtain rfl : y = _ := hy
      exact ⟨⟨⟨_, _, _, _, rfl⟩, hi3⟩, kp.trans (((Kp.ex e1).trans (Kp.ex e2)).trans (Kp.ex e3))⟩
  · subst es
    refine ret_ev (v := .int (detM m)) (ev_is (ev_var rfl) ?_) rfl fun v H3 e3 r => k v H3 (fun c o hc => e3 c o (kp.1 c o (by simp) (e13 c o hc))) r
    unfold detM
    rw [hm.1]
    show V.int _ = V.int (sumR 3 fun j => sgn j * (m.headD []).getD j 0 * detN 2 (witM m 0 j))
    rw [hhd]
    rfl
end
end K13
namespace K13
open PySem PySem.Spec PyProof.Rows L2 Evl
theorem q_asgTup {σ : L2.St} {H : Hp} {ta : TA} {vs : List V} {g : TG} {tz : TS} {D : Ends} (h : EvA ta σ H vs) (hl : vs.length ≤ 100000) (k : ∀ t H1, Ex H H1 → H1 t = some (.tup vs) → g (.ref t) σ H1 (tz D)) : tSeq (tAsg (tTup ta) g) tz D σ H :=
  q_asgG (evp_tup h hl) fun u H1 e ⟨t, eu, ht⟩ => by
    subst eu
    exact k t H1 e ht
section
variable {K : PySem.W.Frag}
theorem p_law_moved (vs : List V) (H : Hp) (Q : VK) (E : XK) (h : sp_law_moved vs H Q E) : t_law_moved K (En Q) (start ["_law_matrix_here", "_law_point", "_law_row_here", "_law_at"] vs) H := by
  obtain ⟨R, ⟨n, a, b, m, p, rfl, ⟨a', as, rfl, ha, has⟩, ⟨b', rfl, hb⟩, hm, hp, hz, hs, rfl⟩, k⟩ := h
  refine ret_of ?_ rfl k
  refine evp_tupI ?_
  unfold movM
  rw [map_range m [], List.map_map]
  have hi := evi_tupR (K := K) (σ := start ["_law_matrix_here", "_law_point", "_law_row_here", "_law_at"] [.ref a', .ref b']) (tl := tVar 0) (ev_var rfl) ha
  rw [has.len] at hi
  refine evp_lcV hi _ (by rw [hm.1]; exact Nat.le_of_lt (szl _)) fun i v H' hin e ⟨c, ea, hx⟩ => ?_
  subst hx
  obtain ⟨r, hr, hc⟩ := has.get ea
  have hrm : r ∈ m := List.mem_of_getElem? hr
  have hrl := hm.2 r hrm
  refine ⟨_, fun Q q => q, rfl, ?_⟩
  rw [Function.comp, getD_of hr]
  unfold dotI
  rw [zipWith_range _ r p 0 0 (by rw [hrl, hp])]
  refine ev_sumL ?_
  rw [List.map_map]
  have hi2 := evi_rng1 (σ := [some (V.ref a'), some (.ref b'), some (.ref c), none]) (H := H') (ta := tCB (rLenS K) (tCons (tVar 1) tNil)) (n := (p.length : Int)) (ev_is (ev_lenT (ev_var rfl) (e _ _ hb)) (by rw [List.length_map])) (by omega)
  rw [Int.toNat_natCast, hp, ← hrl] at hi2
  refine evp_lcV hi2 _ (by rw [hrl]; exact Nat.le_of_lt (szl _)) fun j x H2 hj e2 hx => ?_
  subst hx
  exact ⟨_, fun Q q => q, rfl, ev_op (ev_ixP (ev_var rfl) (ev_var rfl) (e2 _ _ (e _ _ hc)) hj) (ev_ixP (ev_var rfl) (ev_var rfl) (e2 _ _ (e _ _ hb)) (by rw [hp, ← hrl]; exact hj)) (rv_I (.inl (hs r hrm _ (getD_mem hj 0))))⟩
theorem p_law_sum (vs : List V) (H : Hp) (Q : VK) (E : XK) (h : sp_law_sum vs H Q E) : t_law_sum K (En Q) (start ["_law_one", "_law_other", "_law_at"] vs) H := by
  obtain ⟨R, ⟨a, b, r, p, rfl, ⟨a', rfl, ha⟩, ⟨b', rfl, hb⟩, hl, hz, rfl⟩, k⟩ := h
  refine ret_of (evp_tupI ?_) rfl k
  unfold addP
  rw [zipWith_range _ r p 0 0 hl, List.map_map]
  have hi := evi_rng1 (σ := start ["_law_one", "_law_other", "_law_at"] [.ref a', .ref b']) (H := H) (ta := tCB (rLenS K) (tCons (tVar 0) tNil)) (n := (r.length : Int)) (ev_is (ev_lenT (ev_var rfl) ha) (by rw [List.length_map])) (by omega)
  rw [Int.toNat_natCast] at hi
  refine evp_lcV hi _ (Nat.le_of_lt (szl _)) fun j x H2 hj e2 hx => ?_
  subst hx
  exact ⟨_, fun Q q => q, rfl, ev_op (ev_ixP (ev_var rfl) (ev_var rfl) (e2 _ _ ha) hj) (ev_ixP (ev_var rfl) (ev_var rfl) (e2 _ _ hb) (by rw [← hl]; exact hj)) rv_I0⟩
theorem p_law_less (vs : List V) (H : Hp) (Q : VK) (E : XK) (h : sp_law_less vs H Q E) : t_law_less K (En Q) (start ["_law_one", "_law_other", "_law_at"] vs) H := by
  obtain ⟨R, ⟨a, b, r, p, rfl, ⟨a', rfl, ha⟩, ⟨b', rfl, hb⟩, hl, hz, rfl⟩, k⟩ := h
  refine ret_of (evp_tupI ?_) rfl k
  unfold subP
  rw [zipWith_range _ r p 0 0 hl, List.map_map]
  have hi := evi_rng1 (σ := start ["_law_one", "_law_other", "_law_at"] [.ref a', .ref b']) (H := H) (ta := tCB (rLenS K) (tCons (tVar 0) tNil)) (n := (r.length : Int)) (ev_is (ev_lenT (ev_var rfl) ha) (by rw [List.length_map])) (by omega)
  rw [Int.toNat_natCast] at hi
  refine evp_lcV hi _ (Nat.le_of_lt (szl _)) fun j x H2 hj e2 hx => ?_
  subst hx
  exact ⟨_, fun Q q => q, rfl, ev_op (ev_ixP (ev_var rfl) (ev_var rfl) (e2 _ _ ha) hj) (ev_ixP (ev_var rfl) (ev_var rfl) (e2 _ _ hb) (by rw [← hl]; exact hj)) rv_I0⟩
theorem ev_ixK {σ : L2.St} {H : Hp} {ta tb : TE} {a : Addr} {xs : List V} {i : Nat} {x : V} (h : Ev ta σ H (.ref a)) (h' : Ev tb σ H (.int (i : Int))) (ha : H a = some (.lst xs)) (hx : xs[i]? = some x) : Ev (tOp (rIxL K) ta tb) σ H x := ev_op h h' (rv_ixL (sq_of ha) (atI_nat hx))
theorem ev_int1 {σ : L2.St} {H : Hp} {te : TE} {i : Int} (h : Ev te σ H (.int i)) : Ev (tCB rInt1 (tCons te tNil)) σ H (.int i) := ev_cb (ea_cons h ea_nil) fun H1 e Q q => .inl ⟨i, rfl, q H1 (Ex.refl H1)⟩
theorem evi_tupPt {σ : L2.St} {H : Hp} {tl : TE} {p : Pt} (h : EvP tl σ H fun v H' => PtV H' v p) : EvI (iTup K tl) σ H p.length (fun i x _ => x = .int (p.getD i 0)) :=
  (evi_tupP (n := p.length) (Px := fun xs => xs = p.map V.int) (h.imp fun v H' e ⟨a, ev, ha⟩ => ⟨a, _, ev, ha, List.length_map _, rfl⟩)).imp fun i x H' hi ⟨xs, hx, ex⟩ => by
    subst ex
    exact (pt_get hx).1
theorem p_law_key (vs : List V) (H : Hp) (Q : VK) (E : XK) (h : sp_law_key vs H Q E) : t_law_key K (En Q) (start ["_law_way_here", "_law_point", "_law_number"] vs) H := by
  obtain ⟨R, ⟨n, a, b, A, D, p, rfl, ⟨a', xs, x2, rfl, ha, hx2, hA, hx3⟩, hb, hm, hp, hz, hs, hD, rfl⟩, k⟩ := h
  refine ret_of (evp_tupI ?_) rfl k
  unfold restsP
  have hmv : EvP (tCall sp_law_moved [] E0 (tCons (tOp (rIxL K) (tVar 0) (tC (.int 2))) (tCons (tVar 1) tNil))) (start ["_law_way_here", "_law_point", "_law_number"] [.ref a', b]) H fun v H' => PtV H' v (movM A p) :=
    evp_callA (ea_cons (ev_ixK (i := 2) (ev_var rfl) ev_c ha hx2) (ea_cons (ev_var rfl) ea_nil)) (spp_use fun H1 e1 => ⟨n, x2, b, A, p, rfl, hA.ex e1, hb.ex e1, hm, hp, hz, hs, rfl⟩)
  have hi := evi_tupPt (K := K) hmv
  rw [map_range (movM A p) 0, List.map_map]
  refine evp_lcV hi _ (by rw [movM_len hm]; exact Nat.le_of_lt (szl _)) fun i x H' hin e hx => ?_
  subst hx
  exact ⟨_, fun Q q => q, rfl, ev_op (ev_int1 (ev_var rfl)) (ev_ixK (i := 3) (ev_var rfl) ev_c (e _ _ ha) hx3) (rv_I hD)⟩
theorem dotI_sub : ∀ (r p q : Pt), p.length = q.length → dotI r (subP p q) = dotI r p - dotI r q
  | [], p, q, _ => by unfold dotI; simp
  | x :: r, [], [], _ => by unfold dotI subP; simp
  | x :: r, y :: p, z :: q, h => by
    have := dotI_sub r p q (by simpa using h)
    unfold dotI subP at *
    simp only [List.zipWith_cons_cons, List.sum_cons]
    rw [this]
    grind
theorem movM_sub (m : Mx) {p q : Pt} (h : p.length = q.length) : movM m (subP p q) = subP (movM m p) (movM m q) := by
  unfold movM
  induction m with
  | nil => rfl
  | cons r m ih =>
    rw [List.map_cons, List.map_cons, List.map_cons, ih, dotI_sub r p q h]
    rfl
theorem divP_eq (a b : Pt) (d : Int) : (subP a b).map (fun x => x.fdiv d) = divP a b d := by
  unfold subP divP
  rw [List.map_zipWith]
theorem p_law_step (vs : List V) (H : Hp) (Q : VK) (E : XK) (h : sp_law_step vs H Q E) : t_law_step K (En Q) (start ["_law_way_here", "_law_point", "_law_number", "_law_led", "_law_item"] vs) H := by
  obtain ⟨R, ⟨a, b, w, p, rfl, hlw, ok, hb, hp, rfl⟩, k⟩ := h
  obtain ⟨a', x0, x1, x2, d, rfl, ha, h0, h1, h2, hd⟩ := hlw
  have hlw : LW H (.ref a') w := ⟨a', x0, x1, x2, d, rfl, ha, h0, h1, h2, hd⟩
  have n3 := ok.n3
  refine q_asg (v := .int (w.num p : Int)) ?_ fun H1 e1 => ?_
  · exact ev_dget (ps := (List.range (w.ds.map w.key).length).map fun i => ((w.ds.map w.key).getD i [], V.int (i : Int))) (p := w.key p) (show H d = _ by rw [← numK_tab]; exact hd) (ev_ixK (i := 4) (ev_var rfl) ev_c ha rfl)
      (fun H2 e2 => evp_callA (ea_cons (ev_var rfl) (ea_cons (ev_var rfl) ea_nil)) (spp_use fun H3 e3 => ⟨w.n, .ref a', b, w.A, w.D, p, rfl, hlw.k.ex (e2.trans e3), hb.ex (e2.trans e3), ok.asq, hp, by omega, ok.asm, ok.dne.1, rfl⟩)) (num_lk (ok.all p hp) ok.nd)
  · have hnum := ok.numlt hp
    obtain ⟨l, ls, rfl, hl, hls⟩ := h1.ex e1
    obtain ⟨c, hc, hcp⟩ := hls.get2 (i := w.num p) (p := w.dig p) (by unfold Way.dig; exact get_some hnum [])
    have hdl := ok.len _ (ok.digm hp)
    have hsub : EvP (tCall sp_law_less [] E0 (tCons (tVar 1) (tCons (tOp (rIxL K) (tOp (rIxL K) (tVar 0) (tC (.int 1))) (tVar 2)) tNil))) [some (V.ref a'), some b, some (.int (w.num p : Int)), none, none] H1 fun v H' => PtV H' v (subP p (w.dig p)) :=
      evp_callA (ea_cons (ev_var rfl) (ea_cons (ev_ixK (ev_ixK (i := 1) (ev_var rfl) ev_c (e1 _ _ ha) rfl) (ev_var rfl) hl (x := .ref c) (by rw [List.getElem?_map, hc]; rfl)) ea_nil)) (spp_use fun H2 e2 => ⟨b, .ref c, p, w.dig p, rfl, (hb.ex e1).ex e2, ⟨c, rfl, e2 _ _ hcp⟩, by rw [hp, hdl], by omega, rfl⟩)
    have hsl : (subP p (w.dig p)).length = w.n := by
      unfold subP
      rw [List.length_zipWith, hp, hdl, Nat.min_self]
    have hled : EvP (tCall sp_law_moved [] E0 (tCons (tOp (rIxL K) (tVar 0) (tC (.int 2))) (tCons (tCall sp_law_less [] E0 (tCons (tVar 1) (tCons (tOp (rIxL K) (tOp (rIxL K) (tVar 0) (tC (.int 1))) (tVar 2)) tNil))) tNil))) [some (V.ref a'), some b, some (.int (w.num p : Int)), none, none] H1 fun v H' => PtV H' v (movM w.A (subP p (w.dig p))) :=
      evp_call2 (evp_of_ev (ev_ixK (i := 2) (ev_var rfl) ev_c (e1 _ _ ha) rfl)) fun x H2 e2 hx => ⟨_, hsub.mono e2, fun y H3 e3 hy => spp_use fun H4 e4 => ⟨w.n, x, y, w.A, _, rfl, by rw [show x = x2 from hx]; exact (((h2.ex e1).ex e2).ex e3).ex e4, hy.ex e4, ok.asq, hsl, by omega, ok.asm, rfl⟩⟩
    refine q_asgP hled fun u H2 e2 hu => ?_
    have e12 := e1.trans e2
    have hrest : EvP (tCB (rTup K) (tCons (tLc (iTup K (tVar 3)) (gName 4) tYes (tOp (rI CDivN fun i j => .int (i.fdiv j)) (tVar 4) (tOp (rIxL K) (tVar 0) (tC (.int 3)))) [4]) tNil)) [some (V.ref a'), some b, some (.int (w.num p : Int)), some u, none] H2 fun v H' => PtV H' v (w.rest p) := by
      refine evp_tupI ?_
      have hr : w.rest p = (movM w.A (subP p (w.dig p))).map (fun x => x.fdiv w.D) := by
        unfold Way.rest
        rw [movM_sub _ (by rw [hp, hdl]), divP_eq]
      rw [hr, map_range (movM w.A (subP p (w.dig p))) 0, List.map_map]
      have hi := evi_tupPt (K := K) (σ := [some (V.ref a'), some b, some (.int (w.num p : Int)), some u, none]) (H := H2) (tl := tVar 3) (evp_varPt rfl hu)
      refine evp_lcV hi _ (by rw [movM_len ok.asq]; exact Nat.le_of_lt (szl _)) fun i x H' hin e hx => ?_
      subst hx
      exact ⟨_, fun Q q => q, rfl, ev_op (ev_var rfl) (ev_ixK (i := 3) (ev_var rfl) ev_c (e _ _ (e12 _ _ ha)) rfl) (rv_I ok.dne)⟩
    refine ret_of (A := fun v H' => ∃ t b, v = .ref t ∧ H' t = some (.tup [.int (w.num p : Int), .ref b]) ∧ PtA H' b (w.rest p)) ((evp_pair (Pa := isV (.int (w.num p : Int))) (Pb := fun v H' => PtV H' v (w.rest p)) (evp_of_ev (ev_var rfl)) fun _ _ e _ => hrest.mono e).imp fun v H' e ⟨t, x, y, H3, H4, ev, ht, hx, _, ⟨b, ey, hb⟩, e5⟩ => ?_) rfl fun v H3 e3 r => k v H3 (e12.trans e3) r
    obtain rfl : x = .int (w.num p : Int) := hx
    subst ey
    exact ⟨t, b, ev, ht, e5 _ _ hb⟩
end
end K13
namespace K13
open PySem PySem.Spec PyProof.Rows L2 Evl
section
variable {K : PySem.W.Frag}
theorem p_law_adjugate (vs : List V) (H : Hp) (Q : VK) (E : XK) (h : sp_law_adjugate vs H Q E) : t_law_adjugate K (En Q) (start ["_law_matrix_here", "_law_row_here", "_law_size", "_law_found", "_law_line", "_law_column", "_law_small", "_law_at", "_law_place"] vs) H := by
  obtain ⟨R, ⟨n, a, m, rfl, ⟨a', as, rfl, ha, has⟩, hm, h1, h3, hs, rfl⟩, k⟩ := h
  have hl0 : (as.map V.ref).length = n := by rw [List.length_map, has.len, hm.1]
  have htup : EvP (tTup (tCons (tCB (rLenS K) (tCons (tVar 0) tNil)) (tCons (tLst tNil) tNil))) (start ["_law_matrix_here", "_law_row_here", "_law_size", "_law_found", "_law_line", "_law_column", "_law_small", "_law_at", "_law_place"] [V.ref a']) H fun u H' => ∃ t l, u = .ref t ∧ H' t = some (.tup [.int (n : Int), .ref l]) ∧ H l = none ∧ H' l = some (.lst []) :=
    (evp_pair (Pa := isV (.int (n : Int))) (Pb := fun u H' => ∃ l, u = .ref l ∧ H l = none ∧ H' l = some (.lst [])) (evp_of_ev (ev_is (ev_lenT (ev_var rfl) ha) (by rw [hl0]))) fun _ H1 e1 _ => (evp_lst ea_nil (by decide)).imp fun u H' e ⟨l, eu, h0, h⟩ => ⟨l, eu, fresh_back e1 h0, h⟩).imp fun u H' e ⟨t, x, y, H3, H4, eu, ht, hx, _, ⟨l, ey, hl0, hl⟩, e5⟩ => by
      obtain rfl : x = .int (n : Int) := hx
      subst ey
      exact ⟨t, l, eu, ht, hl0, e5 _ _ hl⟩
  refine q_asgG htup fun u H1 e1 ⟨t, l, eu, ht, hl, hl1⟩ => ?_
  subst eu
  refine g_pair ht _ ?_
  have hi := evf_rng1 (mu := [l]) (σ := [some (V.ref a'), none, some (.int (n : Int)), some (.ref l), none, none, none, none, none]) (H := H1) (ta := tVar 2) (n := (n : Int)) (ev_var rfl) (by omega)
  rw [Int.toNat_natCast] at hi
  refine q_forF hi (fun i σ' H' => (∃ x1 x4 x5 x6 x7 x8, σ' = [some (V.ref a'), x1, some (.int (n : Int)), some (.ref l), x4, x5, x6, x7, x8]) ∧ LA H' l ((List.range i).map fun i => (List.range n).map fun j => sgn (i + j) * detN (n - 1) (witM m j i))) (fun i σ' H' H'' e q => ⟨q.1, q.2.ex e⟩) ⟨⟨none, none, none, none, none, none, rfl⟩, LA.nil hl1⟩ (fun B i x σ' H' hin eB kp ⟨⟨x1, x4, x5, x6, x7, x8, es⟩, la⟩ hy => ?_) fun σ' H' kp ⟨⟨x1, x4, x5, x6, x7, x8, es⟩, la⟩ => ?_
  · subst hy es
    have ek : Ex H H' := kp_ex (H1 := B) (fun c o hc => eB c o (e1 c o hc)) kp (none1 hl)
    refine q_asgL (el_lst ea_nil (by decide)) fun l2 H2 hl2 e2 h2 => ?_
    have hi2 := evf_rng1 (mu := [l2]) (σ := [some (V.ref a'), some (.int (i : Int)), some (.int (n : Int)), some (.ref l), some (.ref l2), x5, x6, x7, x8]) (H := H2) (ta := tVar 2) (n := (n : Int)) (ev_var rfl) (by omega)
    rw [Int.toNat_natCast] at hi2
    refine q_forF hi2 (fun j σ' H' => (∃ x5 x6 x7 x8, σ' = [some (V.ref a'), some (.int (i : Int)), some (.int (n : Int)), some (.ref l), some (.ref l2), x5, x6, x7, x8]) ∧ H' l2 = some (.lst (((List.range j).map fun j => sgn (i + j) * detN (n - 1) (witM m j i)).map V.int))) (fun i σ' H' H'' e q => ⟨q.1, e _ _ q.2⟩) ⟨⟨x5, x6, x7, x8, rfl⟩, h2⟩ (fun B2 j x σ' H3 hjn eB2 kp2 ⟨⟨y5, y6, y7, y8, es⟩, li⟩ hy => ?_) fun σ' H3 kp2 ⟨⟨y5, y6, y7, y8, es⟩, li⟩ => ?_
    · subst hy es
      have ek2 : Ex H' H3 := kp_ex (H1 := B2) (fun c o hc => eB2 c o (e2 c o hc)) kp2 (none1 hl2)
      have ekk := ek.trans ek2
      -- the small matrix
      have hsm : EvP (tLc (iRng1 (tCons (tVar 2) tNil)) (gName 7) (tTest (tOp rNe (tVar 7) (tVar 5))) (tLc (iRng1 (tCons (tVar 2) tNil)) (gName 8) (tTest (tOp rNe (tVar 8) (tVar 1))) (tOp (rIxT K) (tOp (rIxT K) (tVar 0) (tVar 7)) (tVar 8)) [8]) [7]) [some (V.ref a'), some (.int (i : Int)), some (.int (n : Int)), some (.ref l), some (.ref l2), some (.int (j : Int)), y6, y7, y8] H3 fun u H'' => LlV H'' u (witM m j i) := by
        have hia := evi_rng1 (σ := [some (V.ref a'), some (.int (i : Int)), some (.int (n : Int)), some (.ref l), some (.ref l2), some (.int (j : Int)), y6, y7, y8]) (H := H3) (ta := tVar 2) (n := (n : Int)) (ev_var rfl) (by omega)
        rw [Int.toNat_natCast] at hia
        refine (evp_ll hia (fun p => decide (p ≠ j)) (fun p => cutR (m.getD p []) i) (Nat.le_of_lt (szl _)) fun p x H4 hp e4 hx => ?_).imp fun u H'' e hu => by
          unfold witM
          rw [hm.1]
          exact hu
        subst hx
        refine ⟨_, fun Q q => q, rfl, et_test (ev_is (ev_op (ev_var rfl) (ev_var rfl) (rv_ne rfl)) (by rw [eq_nat]; simp)), fun _ => ?_⟩
        have hr : m[p]? = some (m.getD p []) := get_some (by rw [hm.1]; exact hp) []
        have hrl := hm.2 _ (List.mem_of_getElem? hr)
        rw [← cut_filter hrl]
        have hib := evi_rng1 (σ := [some (V.ref a'), some (.int (i : Int)), some (.int (n : Int)), some (.ref l), some (.ref l2), some (.int (j : Int)), y6, some (.int (p : Int)), y8]) (H := H4) (ta := tVar 2) (n := (n : Int)) (ev_var rfl) (by omega)
        rw [Int.toNat_natCast] at hib
        refine evp_lcF hib (fun q => decide (q ≠ i)) (fun q => (m.getD p []).getD q 0) (Nat.le_of_lt (szl _)) fun q x H5 hq e5 hx => ?_
        subst hx
        exact ⟨_, fun Q q => q, rfl, et_test (ev_is (ev_op (ev_var rfl) (ev_var rfl) (rv_ne rfl)) (by rw [eq_nat]; simp)), fun _ => ent_ev (ev_var rfl) (ev_var rfl) (ev_var rfl) (e5 _ _ (e4 _ _ (ekk _ _ ha))) (((has.ex ekk).ex e4).ex e5) hm hp hq⟩
      refine q_asgP hsm fun u H4 e4 hu => ?_
      have hsg : Ev (tOp (rI0 fun i j => .int (i - j)) (tC (.int 1)) (tOp (rI CMul fun i j => .int (i * j)) (tC (.int 2)) (tOp (rI (fun _ j => 0 < j) fun i j => .int (i % j)) (tCB rInt1 (tCons (tOp (rI0 fun i j => .int (i + j)) (tVar 1) (tVar 5)) tNil)) (tC (.int 2))))) [some (V.ref a'), some (.int (i : Int)), some (.int (n : Int)), some (.ref l), some (.ref l2), some (.int (j : Int)), some u, y7, y8] H4 (.int (sgn (i + j))) := by
        refine ev_is (ev_op ev_c (ev_op ev_c (ev_op (ev_int1 (ev_op (ev_var rfl) (ev_var rfl) rv_I0)) ev_c (rv_I (by decide))) (rv_I (.inl (by decide)))) rv_I0) ?_
        congr 1
        unfold sgn
        by_cases hk : (i + j) % 2 = 1
        · rw [if_pos hk]
          have : ((i : Int) + (j : Int)) % 2 = 1 := by omega
          rw [this]
          rfl
        · rw [if_neg hk]
          have : ((i : Int) + (j : Int)) % 2 = 0 := by omega
          rw [this]
          rfl
      have hdet : Ev (tIf (tTest (tOp (rI0 fun i j => .bl (decide (j < i))) (tVar 2) (tC (.int 1)))) (tCall (sp_ldF 2) [] E0 (tCons (tVar 6) tNil)) (tC (.int 1))) [some (V.ref a'), some (.int (i : Int)), some (.int (n : Int)), some (.ref l), some (.ref l2), some (.int (j : Int)), some u, y7, y8] H4 (.int (detN (n - 1) (witM m j i))) := by
        refine ev_if (b := decide ((1 : Int) < n)) (et_test (ev_op (ev_var rfl) ev_c rv_I0)) (fun hb => ?_) fun hb => ?_
        · have hn := of_decide_eq_true hb
          obtain ⟨n1, rfl⟩ : ∃ q, n = q + 1 := ⟨n - 1, by omega⟩
          have hw := witM_sq (r := j) (c := i) hm hjn hin
          have hd : detN (n1 + 1 - 1) (witM m j i) = detM (witM m j i) := by
            unfold detM
            rw [hw.1]
            rfl
          rw [hd]
          refine ev_callV (ea_cons (ev_var rfl) ea_nil) (spp_use fun H5 e5 => ⟨n1, u, witM m j i, rfl, .inr ⟨?_, by omega⟩, hw, by omega, by omega, by omega, witM_sm hs, rfl⟩)
          obtain ⟨b, bs, h1, h2, h3⟩ := hu
          exact ⟨b, bs, h1, e5 _ _ h2, Paired.mapP h3 fun _ _ q => e5 _ _ q⟩
        · have hn := of_decide_eq_false hb
          obtain rfl : n = 1 := by omega
          exact ev_c
      refine s_appI (e4 _ _ li) (ev_var rfl) (i := sgn (i + j) * detN (n - 1) (witM m j i)) (ev_op hsg hdet (rv_I (.inl ?_))) (szl _ (by rw [List.length_map, List.length_range]; omega)) fun H5 h5 k5 _ => ⟨⟨⟨_, _, _, _, rfl⟩, ?_⟩, kp2.trans ((Kp.ex e4).trans (k5 _ (List.mem_cons_self ..)))⟩
      · have := sgn_sm (i + j) (x := 1) (by decide)
        rw [Int.mul_one] at this
        exact this
      · rw [range_map_snoc]
        exact h5
    · subst es
      have ek2 : Ex H' H3 := kp_ex e2 kp2 (none1 hl2)
      refine s_appPt (la.ex ek2) (ev_var rfl) (evp_tupLI (ev_var rfl) li) (szl _ (by rw [List.length_map, List.length_range]; omega)) fun H4 la4 k4 => ⟨⟨⟨_, _, _, _, _, _, rfl⟩, ?_⟩, kp.trans ((Kp.ex ek2).trans (k4 _ (List.mem_cons_self ..)))⟩
      rw [range_map_snoc]
      exact la4
  · subst es
    refine ret_of (evp_tupLA (ev_var rfl) la) rfl fun v H3 e3 r => k v H3 ((kp_ex e1 kp (none1 hl)).trans e3) ?_
    unfold adjM
    rw [hm.1]
    exact r
def growB (k : Nat) (ps : List Pt) : List Pt := ps.flatMap fun p => (List.range k).map fun (j : Nat) => p ++ [(j : Int)]
theorem growB_len (k : Nat) (ps : List Pt) : (growB k ps).length = ps.length * k := by
  unfold growB
  induction ps with
  | nil => simp
  | cons p r ih => rw [List.flatMap_cons, List.length_append, ih, List.length_map, List.length_range, List.length_cons, Nat.add_mul, Nat.one_mul, Nat.add_comm]
theorem growB_snoc (k : Nat) (ps : List Pt) (p : Pt) : growB k (ps ++ [p]) = growB k ps ++ (List.range k).map fun (j : Nat) => p ++ [(j : Int)] := by
  unfold growB
  rw [List.flatMap_append]
  simp
theorem boxL_succ (n k : Nat) : boxL (n + 1) k = growB k (boxL n k) := rfl
theorem boxL_len (k : Nat) : ∀ n, (boxL n k).length = k ^ n
  | 0 => rfl
  | n + 1 => by rw [boxL_succ, growB_len, boxL_len k n, Nat.pow_succ]
theorem boxL_mem {k : Nat} : ∀ {n : Nat} {p : Pt}, p ∈ boxL n k → p.length = n
  | 0, p, h => by rw [List.mem_singleton.mp h]; rfl
  | n + 1, p, h => by
    rw [boxL_succ] at h
    unfold growB at h
    obtain ⟨q, hq, hp⟩ := List.mem_flatMap.mp h
    obtain ⟨j, _, rfl⟩ := List.mem_map.mp hp
    rw [List.length_append, boxL_mem hq]
    rfl
theorem p_law_boxes (vs : List V) (H : Hp) (Q : VK) (E : XK) (h : sp_law_boxes vs H Q E) : t_law_boxes K (En Q) (start ["_law_size", "_law_most", "_law_found", "_law_turn", "_law_more", "_law_point", "_law_number"] vs) H := by
  obtain ⟨R, ⟨n, b, rfl, hn, hz, hb, hb1, rfl⟩, k⟩ := h
  have hszl : sizeLine = 16777216 := sizeLine_eq
  have hpw : ∀ m, m ≤ n → b ^ m ≤ 16000000 := fun m hm => Nat.le_trans (Nat.pow_le_pow_right hb1 hm) hz
  refine q_asgP (P := fun v H' => ∃ l, v = .ref l ∧ H l = none ∧ LA H' l [[]]) (evp_lstPts (epa_cons (evp_pt (p := []) ea_nil (by decide)) fun _ _ => epa_nil) (by decide)) fun u H1 e1 ⟨l, eu, hl0, hl⟩ => ?_
  subst eu
  have hi := evf_rng1 (mu := []) (σ := [some (.int (n : Int)), some (.int (b : Int)), some (V.ref l), none, none, none, none]) (H := H1) (ta := tVar 0) (n := n) (ev_var rfl) (by omega)
  rw [Int.toNat_natCast] at hi
  refine q_forF hi (fun i σ' H' => ∃ l x3 x4 x5, σ' = [some (.int (n : Int)), some (.int (b : Int)), some (V.ref l), x3, x4, x5, none] ∧ H l = none ∧ LA H' l (boxL i b) ∧ Ex H H') (fun i σ' H' H'' e ⟨l, x3, x4, x5, h1, h2, h3, h4⟩ => ⟨l, x3, x4, x5, h1, h2, h3.ex e, h4.trans e⟩) ⟨l, none, none, none, rfl, hl0, hl, e1⟩ (fun B i x σ' H' hin eB kp ⟨l2, x3, x4, x5, es, hl20, hl2, ee⟩ hy => ?_) fun σ' H' kp ⟨l2, x3, x4, x5, es, hl20, hl2, ee⟩ => ?_
  · subst hy es
    refine q_asgL (el_lst ea_nil (by decide)) fun l3 H2 hl3 e2 h2 => ?_
    have hi2 := evf_LA (K := K) (mu := []) (σ := [some (.int (n : Int)), some (.int (b : Int)), some (V.ref l2), some (.int (i : Int)), some (.ref l3), x5, none]) (tl := tVar 2) (ev_var rfl) (hl2.ex e2) (by simp) fun _ _ => trivial
    refine q_forF hi2 (fun j σ' H3 => ∃ l3 x5, σ' = [some (.int (n : Int)), some (.int (b : Int)), some (V.ref l2), some (.int (i : Int)), some (.ref l3), x5, none] ∧ H l3 = none ∧ LA H3 l3 (growB b ((boxL i b).take j)) ∧ Ex H H3 ∧ Kp [] H' H3) (fun j σ' H3 H4 e ⟨l3, x5, h1, h2, h3, h4, h5⟩ => ⟨l3, x5, h1, h2, h3.ex e, h4.trans e, h5.trans (Kp.ex e)⟩) ⟨l3, x5, rfl, fresh_back ee hl3, LA.nil h2, ee.trans e2, Kp.ex e2⟩
      (fun B2 j y σ' H3 hj eB2 kp2 ⟨l4, x5, es, hl40, hl4, ee3, kh3⟩ ⟨p, hp, c, ey, hc⟩ => ?_) fun σ' H3 kp2 ⟨l4, x5, es, hl40, hl4, ee3, kh3⟩ => ?_
    · subst es ey
      have hcp : PtA H3 c p := (Kp.ex eB2 |>.trans kp2).2 _ _ hc
      have hpl := boxL_mem (List.mem_of_getElem? hp)
      have hgl : (growB b ((boxL i b).take (j + 1))).length ≤ 16000000 := by
        rw [growB_len, List.length_take]
        refine Nat.le_trans (Nat.mul_le_mul_right _ (Nat.min_le_right _ _)) ?_
        rw [boxL_len, ← Nat.pow_succ]
        exact hpw _ hin
      have htk : (boxL i b).take (j + 1) = (boxL i b).take j ++ [p] := by rw [List.take_succ, hp]; rfl
      rw [htk, growB_snoc, List.length_append, List.length_map, List.length_range] at hgl
      have hib := evi_rng1 (σ := [some (.int (n : Int)), some (.int (b : Int)), some (V.ref l2), some (.int (i : Int)), some (.ref l4), some (.ref c), none]) (H := H3) (ta := tVar 1) (n := (b : Int)) (ev_var rfl) (by omega)
      rw [Int.toNat_natCast] at hib
      have hcomp : EvP (tLc (iRng1 (tCons (tVar 1) tNil)) (gName 6) tYes (tOp (rCatA K) (tVar 5) (tTup (tCons (tVar 6) tNil))) [6]) [some (.int (n : Int)), some (.int (b : Int)), some (V.ref l2), some (.int (i : Int)), some (.ref l4), some (.ref c), none] H3 fun u H' => ∃ D, u = .ref D ∧ LA H' D ((List.range b).map fun (j : Nat) => p ++ [(j : Int)]) := by
        refine (evp_lc hib (fun _ => true) (fun j u H => PtV H u (p ++ [(j : Int)])) (by omega) (fun _ _ _ _ e q => q.tex e) fun q x H4 hq e4 hx => ?_).imp fun u H' e ⟨D, ys, eu, _, hD, hpr⟩ => ⟨D, eu, ?_⟩
        · subst hx
          refine ⟨_, fun Q q => q, rfl, et_yes, fun _ => evp_catA (by simp; omega) (evp_varPt rfl ⟨c, rfl, e4 _ _ hcp⟩) fun H5 e5 => evp_pt (p := [(q : Int)]) (ea_cons (ev_var rfl) ea_nil) (by simp)⟩
        · rw [filter_yes] at hpr
          have : Paired (fun r u => PtV H' u r) ((List.range b).map fun (j : Nat) => p ++ [(j : Int)]) ys := paired_map_l hpr
          obtain ⟨as, rfl, has⟩ := pts_of this
          exact ⟨as, hD, has⟩
      have hcat : EvP (tOp rCat (tVar 4) (tLc (iRng1 (tCons (tVar 1) tNil)) (gName 6) tYes (tOp (rCatA K) (tVar 5) (tTup (tCons (tVar 6) tNil))) [6])) [some (.int (n : Int)), some (.int (b : Int)), some (V.ref l2), some (.int (i : Int)), some (.ref l4), some (.ref c), none] H3 fun u H' => ∃ D, u = .ref D ∧ H3 D = none ∧ LA H' D (growB b ((boxL i b).take (j + 1))) := by
        refine evp_op (evp_of_ev (ev_var rfl)) fun x H4 e4 hx => ⟨_, hcomp.mono e4, fun y H5 e5 ⟨D, ey, as2, hD, has2⟩ H6 e6 Q q => ?_⟩
        obtain rfl : x = .ref l4 := hx
        subst ey
        obtain ⟨as1, h1, has1⟩ := ((hl4.ex e4).ex e5).ex e6
        refine ⟨l4, D, as1.map V.ref, as2.map V.ref, rfl, rfl, h1, e6 _ _ hD, ?_, fun r hr => q _ _ (Ex.new hr) ⟨r, rfl, fresh_back ((e4.trans e5).trans e6) hr, as1 ++ as2, by rw [List.map_append]; exact upd_same, ?_⟩⟩
        · rw [List.length_map, List.length_map, has1.len, has2.len, List.length_map, List.length_range]
          omega
        · rw [htk, growB_snoc]
          exact Pts.ex (paired_append has1 (has2.ex e6)) (Ex.new hr)
      refine s_asgP hcat fun u H4 e4 ⟨D, eu, hD0, hD⟩ => ?_
      subst eu
      exact ⟨⟨D, some (.ref c), rfl, fresh_back ee3 hD0, hD, ee3.trans e4, kh3.trans (Kp.ex e4)⟩, kp2.trans (Kp.ex e4)⟩
    · subst es
      rw [List.take_length] at hl4
      refine s_asg (v := .ref l4) (ev_var rfl) fun H4 e4 => ⟨⟨l4, _, _, _, rfl, hl40, by rw [boxL_succ]; exact hl4.ex e4, ee3.trans e4⟩, (kp.trans kh3).trans (Kp.ex e4)⟩
  · subst es
    exact ret_ev (v := .ref l2) (ev_var rfl) rfl fun u H2 e2 r => k u H2 (ee.trans e2) ⟨l2, r, hl20, hl2.ex e2⟩
end
end K13
namespace K13
open PySem PySem.Spec PyProof.Rows L2 Evl
theorem lst_cons {A : TE} {B : TA} {σ : L2.St} {H : Hp} {Q : VK} (h : A σ H fun x H1 => B σ H1 fun xs H2 => (x :: xs).length ≤ sizeLine ∧ ∀ p, H2 p = none → Q (.ref p) (upd H2 p (.lst (x :: xs)))) : tLst (tCons A B) σ H Q := h
section
variable {K : PySem.W.Frag}
theorem p_law_greatest (vs : List V) (H : Hp) (Q : VK) (E : XK) (h : sp_law_greatest vs H Q E) : t_law_greatest K (En Q) (start ["_law_point", "_law_number"] vs) H := by
  obtain ⟨R, ⟨a, p, rfl, ha, h0, hz, rfl⟩, k⟩ := h
  refine ret_ev (v := .int (maxL (p.map absI))) (ev_maxL ?_ (by rw [List.length_map]; exact h0)) rfl k
  have hi := evi_tupPt (K := K) (σ := start ["_law_point", "_law_number"] [a]) (H := H) (tl := tVar 0) (evp_varPt rfl ha)
  rw [map_range p 0, List.map_map]
  refine evp_lcV hi _ (Nat.le_of_lt (szl _)) fun i x H' hin e hx => ?_
  subst hx
  exact ⟨_, fun Q q => q, rfl, ev_abs (ev_var rfl)⟩
theorem shell_cube (b : Nat) : ∀ n, (boxL n (2 * b + 1)).map (fun p => p.map fun x => x - (b : Int)) = cubeL n b
  | 0 => rfl
  | n + 1 => by
    rw [boxL_succ, cubeL_succ, ← shell_cube b n]
    unfold growB growC
    rw [List.map_flatMap, List.flatMap_map]
    congr 1
    funext p
    rw [List.map_map]
    refine List.map_congr_left fun j _ => ?_
    show (p ++ [(j : Int)]).map _ = p.map _ ++ [_]
    rw [List.map_append]
    rfl
theorem p_law_shell (vs : List V) (H : Hp) (Q : VK) (E : XK) (h : sp_law_shell vs H Q E) : t_law_shell K (En Q) (start ["_law_size", "_law_most", "_law_point", "_law_number"] vs) H := by
  obtain ⟨R, ⟨n, b, rfl, hn, hz, hb, rfl⟩, k⟩ := h
  have hbx : EvP (tCall sp_law_boxes [] E0 (tCons (tVar 0) (tCons (tOp (rI0 fun i j => .int (i + j)) (tOp (rI CMul fun i j => .int (i * j)) (tC (.int 2)) (tVar 1)) (tC (.int 1))) tNil))) (start ["_law_size", "_law_most", "_law_point", "_law_number"] [.int (n : Int), .int (b : Int)]) H fun u H' => ∃ l, u = .ref l ∧ H l = none ∧ LA H' l (boxL n (2 * b + 1)) := fun H0 e0 Q q =>
    evp_callA (P := fun u H' => ∃ l, u = .ref l ∧ H l = none ∧ LA H' l (boxL n (2 * b + 1))) (ea_cons (ev_var rfl) (ea_cons (ev_op (ev_op ev_c (ev_var rfl) (rv_I (.inl (by decide)))) ev_c rv_I0) ea_nil)) (fun H3 e3 Q q E => ⟨_, ⟨n, 2 * b + 1, by simp, hn, by omega, by omega, by omega, rfl⟩, fun u H' e' ⟨l, eu, hl0, hh⟩ => q u H' e' ⟨l, eu, fresh_back e3 hl0, hh⟩⟩) H0 e0 Q q
  have hi := (evf_listPts (K := K) (mu := []) (fun b hb => by cases hb) hbx).i
  refine ret_of (evp_lc hi (fun _ => true) (fun i u H' => PtV H' u (((boxL n (2 * b + 1)).getD i []).map fun x => x - (b : Int))) (by rw [boxL_len]; have : sizeLine = 16777216 := sizeLine_eq; omega) (fun _ _ _ _ e q => q.tex e) fun i y H' hin e ⟨p, hp, hy⟩ => ?_) rfl fun v H' e ⟨D, ys, ev, hD0, hD, hp2⟩ => k v H' e ⟨D, ev, hD0, ?_⟩
  · refine ⟨_, fun Q q => q, rfl, et_yes, fun _ => ?_⟩
    rw [getD_of hp]
    refine evp_tupI ?_
    rw [map_range p 0, List.map_map]
    have hi2 := evi_tupPt (K := K) (σ := [some (.int (n : Int)), some (.int (b : Int)), some y, none]) (H := H') (tl := tVar 2) (evp_varPt rfl hy)
    have hpl := boxL_mem (List.mem_of_getElem? hp)
    refine evp_lcV hi2 _ (by rw [hpl]; exact Nat.le_of_lt (szl _)) fun j x H2 hj e2 hx => ?_
    subst hx
    exact ⟨_, fun Q q => q, rfl, ev_op (ev_var rfl) (ev_var rfl) rv_I0⟩
  · rw [filter_yes] at hp2
    have : Paired (fun r u => PtV H' u r) ((List.range (boxL n (2 * b + 1)).length).map fun i => ((boxL n (2 * b + 1)).getD i []).map fun x => x - (b : Int)) ys := paired_map_l hp2
    rw [← map_range (boxL n (2 * b + 1)) [] fun p => p.map fun x => x - (b : Int), shell_cube] at this
    obtain ⟨as, rfl, has⟩ := pts_of this
    exact ⟨as, hD, has⟩
theorem p_law_way_of (vs : List V) (H : Hp) (Q : VK) (E : XK) (h : sp_law_way_of vs H Q E) : t_law_way_of K (En Q) (start ["_law_matrix_here", "_law_digits_here", "_law_way_here", "_law_number"] vs) H := by
  obtain ⟨R, ⟨a, b, w, rfl, hx, hb, ok, rfl⟩, k⟩ := h
  have n3 := ok.n3
  have hs : ∀ r ∈ w.m, Sm r := fun r hr x hx => by have := ok.mok.2.2.2.1 r hr x hx; omega
  have hlist : EvP (tLst (tCons (tVar 0) (tCons (tVar 1) (tCons (tCall sp_law_adjugate [] E0 (tCons (tVar 0) tNil)) (tCons (tCall (sp_ldF 2) [] E0 (tCons (tVar 0) tNil)) (tCons tDNewT tNil)))))) (start ["_law_matrix_here", "_law_digits_here", "_law_way_here", "_law_number"] [a, b]) H fun u H' => ∃ l x2 d, u = .ref l ∧ H l = none ∧ H d = none ∧ l ≠ d ∧ H' l = some (.lst [a, b, x2, .int w.D, .ref d]) ∧ MxV H' x2 w.A ∧ DP H' d [] := fun H0 e0 Q q => by
    refine lst_cons ⟨a, rfl, ?_⟩
    refine lst_in ⟨b, rfl, ?_⟩
    refine lst_in ?_
    refine evp_callA (P := fun u H' => MxV H' u w.A) (σ := start ["_law_matrix_here", "_law_digits_here", "_law_way_here", "_law_number"] [a, b]) (H := H) (ea_cons (ev_var rfl) ea_nil) (spp_use fun H1 e1 => ⟨w.n, a, w.m, rfl, hx.ex e1, ok.mok.1, n3.1, n3.2, hs, rfl⟩) H0 e0 _ fun x2 H1 e1 h2 => ?_
    refine lst_in ?_
    refine ev_callV (z := .int w.D) (σ := start ["_law_matrix_here", "_law_digits_here", "_law_way_here", "_law_number"] [a, b]) (H := H) (ea_cons (ev_var rfl) ea_nil) (spp_use fun H1 e1 => ⟨w.n, a, w.m, rfl, .inl (hx.ex e1), ok.mok.1, n3.1, n3.2, by show w.n ≤ 1 + 2; omega, hs, rfl⟩) H1 (e0.trans e1) _ fun H2 e2 => ?_
    refine lst_in ?_
    refine evp_dnew (H := H) H2 ((e0.trans e1).trans e2) _ fun v H3 e3 ⟨d, ev, hd0, hd⟩ => ?_
    subst ev
    refine ⟨by rw [sizeLine_eq]; show (5 : Nat) ≤ 16777216; decide, fun l hl => q _ _ (((e1.trans e2).trans e3).trans (Ex.new hl)) ⟨l, x2, d, rfl, fresh_back (((e0.trans e1).trans e2).trans e3) hl, hd0, (fun z => by rw [z, hd] at hl; cases hl), upd_same, ((h2.ex e2).ex e3).ex (Ex.new hl), (Ex.new hl) _ _ hd⟩⟩
  refine q_asgP hlist fun u H1 e1 ⟨l, x2, d, eu, hl0, hd0, hld, hl, hx2, hd⟩ => ?_
  subst eu
  obtain ⟨la, ls, rfl, hla, hls⟩ := hb.ex e1
  have hi := evf_rng1 (mu := [d]) (σ := [some a, some (V.ref la), some (.ref l), none]) (H := H1) (ta := tCB (rLenS K) (tCons (tVar 1) tNil)) (n := (w.ds.length : Int)) (ev_is (ev_lenL (ev_var rfl) hla) (by rw [List.length_map, hls.len])) (by have := ok.dlen; omega)
  rw [Int.toNat_natCast] at hi
  have hks : (w.ds.map w.key).length = w.ds.length := List.length_map _
  refine q_forF hi (fun i σ' H' => (∃ x, σ' = [some a, some (V.ref la), some (.ref l), x]) ∧ DP H' d ((List.range i).map fun j => ((w.ds.map w.key).getD j [], V.int (j : Int)))) (fun i σ' H' H'' e q => ⟨q.1, e _ _ q.2⟩) ⟨⟨none, rfl⟩, hd⟩ (fun B i x σ' H' hin eB kp ⟨⟨y, es⟩, hD⟩ hy => ?_) fun σ' H' kp ⟨⟨y, es⟩, hD⟩ => ?_
  · subst hy es
    have kB : Kp [d] H1 H' := (Kp.ex eB).trans kp
    have hl' := kB.1 _ _ (fun z => hld (List.mem_singleton.mp z)) hl
    have hlad : la ∉ [d] := fun z => by
      rw [List.mem_singleton.mp z, hd] at hla
      cases hla
    have hla' := kB.1 _ _ hlad hla
    have hdi : w.ds[i]? = some (w.ds.getD i []) := get_some hin []
    obtain ⟨c, hc, hcp⟩ := hls.get2 hdi
    have hcp' := kB.2 _ _ hcp
    have hdl := ok.len _ (List.mem_of_getElem? hdi)
    have hkey : (w.ds.map w.key).getD i [] = w.key (w.ds.getD i []) := getD_of (by rw [List.getElem?_map, hdi]; rfl)
    show sDPut _ _ _ _ [some a, some (V.ref la), some (.ref l), some (.int (i : Int))] H'
    refine s_dput (P := isV (.int (i : Int))) (p := w.key (w.ds.getD i [])) hD (evp_of_ev (ev_var rfl)) (fun H2 e2 => ev_ixK (i := 4) (ev_var rfl) ev_c (e2 _ _ hl') rfl) (fun H2 e2 => evp_callA (ea_cons (ev_var rfl) (ea_cons (ev_ixK (ev_var rfl) (ev_var rfl) (e2 _ _ hla') (x := .ref c) (by rw [List.getElem?_map, hc]; rfl)) ea_nil)) (spp_use fun H3 e3 => ⟨w.n, .ref l, .ref c, w.A, w.D, _, rfl, ⟨l, _, x2, rfl, e3 _ _ (e2 _ _ hl'), rfl, ((hx2.tex kB.2).ex e2).ex e3, rfl⟩, ⟨c, rfl, e3 _ _ (e2 _ _ hcp')⟩, ok.asq, hdl, by omega, ok.asm, ok.dne.1, rfl⟩)) (by rw [List.length_map, List.length_range]; have := ok.dlen; exact szl _) fun v4 H4 H5 e4 hv4 e5 => ?_
    obtain rfl : v4 = .int (i : Int) := hv4
    have hD5 := e5 _ _ (e4 _ _ hD)
    refine ⟨⟨⟨_, rfl⟩, ?_⟩, (kp.trans (Kp.ex (e4.trans e5))).trans (Kp.dT (List.mem_cons_self ..) hD5)⟩
    show upd H5 d _ d = _
    rw [upd_same, putP_new, range_map_snoc, hkey]
    intro z
    rw [List.map_map] at z
    obtain ⟨j, hj, ej⟩ := List.mem_map.mp z
    have hj := List.mem_range.mp hj
    have h1 : (w.ds.map w.key)[j]? = some (w.key (w.ds.getD i [])) := by
      rw [get_some (by rw [hks]; omega) []]
      exact congrArg some ej
    have h2 : (w.ds.map w.key)[i]? = some (w.key (w.ds.getD i [])) := by rw [List.getElem?_map, hdi]; rfl
    have := nodup_get ok.nd h1 h2
    omega
  · subst es
    have eH : Ex H H' := kp_ex e1 kp (none1 hd0)
    have hl' := kp.1 _ _ (fun z => hld (List.mem_singleton.mp z)) hl
    have hlad : la ∉ [d] := fun z => by
      rw [List.mem_singleton.mp z, hd] at hla
      cases hla
    refine ret_ev (v := .ref l) (ev_var rfl) rfl fun u H2 e2 r => k u H2 (eH.trans e2) ⟨l, a, .ref la, x2, d, r, e2 _ _ hl', hx.ex (eH.trans e2), (LA.kp ⟨ls, hla, hls⟩ hlad kp).ex e2 |>.pl, (hx2.tex kp.2).ex e2, ?_⟩
    rw [numK_tab, hks]
    exact e2 _ _ hD
end
end K13
namespace K13
open PySem PySem.Spec PyProof.Rows L2 Evl
section
variable {K : PySem.W.Frag}
theorem evp_triple {σ : L2.St} {H : Hp} {ta tb tc : TE} {Pa Pb Pc : V → Hp → Prop} (ha : EvP ta σ H Pa) (hb : ∀ x H1, Ex H H1 → Pa x H1 → EvP tb σ H1 Pb) (hc : ∀ x y H1 H2, Ex H H1 → Pa x H1 → Ex H1 H2 → Pb y H2 → EvP tc σ H2 Pc) :
    EvP (tTup (tCons ta (tCons tb (tCons tc tNil)))) σ H fun v H' => ∃ t x y z H1 H2 H3, v = .ref t ∧ H' t = some (.tup [x, y, z]) ∧ Pa x H1 ∧ Ex H1 H2 ∧ Pb y H2 ∧ Ex H2 H3 ∧ Pc z H3 ∧ Ex H3 H' := fun H0 e Q q =>
  ha H0 e _ fun x H1 e1 px => hb x H1 (e.trans e1) px H1 (Ex.refl H1) _ fun y H2 e2 py => hc x y H1 H2 (e.trans e1) px e2 py H2 (Ex.refl H2) _ fun z H3 e3 pz => ⟨by rw [sizeLine_eq]; show (3 : Nat) ≤ 16777216; decide, fun t ht => q _ _ (((e1.trans e2).trans e3).trans (Ex.new ht)) ⟨t, x, y, z, H1, H2, H3, rfl, upd_same, px, e2, py, e3, pz, Ex.new ht⟩⟩
theorem q_par3d {σ : L2.St} {H : Hp} {ta tb tc : TE} {Pa Pb : V → Hp → Prop} {Pc : V → V → V → Hp → Prop} {i j k : Nat} {D : Ends} {tz : TS} (ha : EvP ta σ H Pa) (hb : ∀ x H1, Ex H H1 → Pa x H1 → EvP tb σ H1 Pb) (hc : ∀ x y H1 H2, Ex H H1 → Pa x H1 → Ex H1 H2 → Pb y H2 → EvP tc σ H2 (Pc x y))
    (kk : ∀ x y z H1 H2 H3, Ex H H1 → Pa x H1 → Ex H1 H2 → Pb y H2 → Ex H2 H3 → Pc x y z H3 → tz D (((σ.set i (some x)).set j (some y)).set k (some z)) H3) : tSeq (tPar3 i j k (tCons ta (tCons tb (tCons tc tNil)))) tz D σ H :=
  ha H (Ex.refl H) _ fun x H1 e1 p1 => hb x H1 e1 p1 H1 (Ex.refl H1) _ fun y H2 e2 p2 => hc x y H1 H2 e1 p1 e2 p2 H2 (Ex.refl H2) _ fun z H3 e3 p3 => ⟨x, y, z, rfl, kk x y z H1 H2 H3 e1 p1 e2 p2 e3 p3⟩
theorem p_law_walk (vs : List V) (H : Hp) (Q : VK) (E : XK) (h : sp_law_walk vs H Q E) : t_law_walk K (En Q) (start ["_law_way_here", "_law_point", "_law_turn", "_law_places", "_law_digits_here", "_law_points", "_law_number"] vs) H := by
  obtain ⟨R, ⟨v, x, w, p, rfl, hw, ok, hx, hp, ⟨i0, j0, hij, hj0, hor⟩, rfl⟩, k⟩ := h
  have nl : ∀ {σ : L2.St} {H1 : Hp}, EvP (tLst tNil) σ H1 fun v H' => ∃ l, v = .ref l ∧ H1 l = none ∧ H' l = some (.lst []) := (evp_lst ea_nil (by decide)).imp fun v H' e ⟨l, ev, h0, h⟩ => ⟨l, ev, h0, h⟩
  refine q_par3d (Pa := fun v H' => ∃ d, v = .ref d ∧ H d = none ∧ DP H' d []) (Pb := fun v H' => ∃ l, v = .ref l ∧ H l = none ∧ H' l = some (.lst [])) (Pc := fun _ y v H' => ∃ l, v = .ref l ∧ H l = none ∧ H' l = some (.lst []) ∧ y ≠ v) evp_dnew (fun _ H1 e1 _ => nl.imp fun v H' e ⟨l, ev, h0, h⟩ => ⟨l, ev, fresh_back e1 h0, h⟩) (fun _ y H1 H2 e1 _ e2 ⟨l0, ey, _, hl0⟩ => nl.imp fun v H' e ⟨l, ev, h0, h⟩ => ⟨l, ev, fresh_back (e1.trans e2) h0, h, fun z => by
    rw [ey, ev] at z
    injection z with z
    rw [← z, hl0] at h0
    cases h0⟩) fun _ _ _ H1 H2 H3 e1 ⟨d, ex, hd0, hd⟩ e2 ⟨l, ey, hl0, hl⟩ e3 ⟨l2, ez, hl20, hl2, hyz⟩ => ?_
  subst ex ey ez
  have e13 := (e1.trans e2).trans e3
  have hd3 : DP H3 d [] := e3 _ _ (e2 _ _ hd)
  have hl3 : H3 l = some (.lst []) := e3 _ _ hl
  have hld : l ≠ d := ne_of hl3 hd3 (by intro z; cases z)
  have hl2d : l2 ≠ d := ne_of hl2 hd3 (by intro z; cases z)
  have hll : l2 ≠ l := fun z => hyz (by rw [z])
  have hn : ∀ k, (w.orb p k).length = w.n := ok.orblen hp
  have hmem : ∀ b ∈ [d, l, l2], H b = none := fun b hb => by
    rcases List.mem_cons.mp hb with rfl | hb
    · exact hd0
    rcases List.mem_cons.mp hb with rfl | hb
    · exact hl0
    · rw [List.mem_singleton.mp hb]; exact hl20
  refine q_forF (mu := [d, l, l2]) (y := fun i x _ => x = .int (i : Int)) (n := 20000) (evf_rng1 (ta := tC (.int 20000)) (n := 20000) ev_c (by decide)) (fun k2 σ' H' => k2 ≤ j0 ∧ ∃ (y : V) (z c : Option V), σ' = [some v, some y, c, some (.ref d), some (.ref l), some (.ref l2), z] ∧ PtV H' y (w.orb p k2) ∧ DP H' d ((List.range k2).map fun i => (w.orb p i, V.int (i : Int))) ∧ H' l = some (.lst (((List.range k2).map fun k => (w.num (w.orb p k) : Int)).map V.int)) ∧ LA H' l2 ((List.range k2).map (w.orb p)) ∧ ∀ a b, a < b → b < k2 → w.orb p a ≠ w.orb p b)
    (fun i σ' H' H'' e ⟨h1, y, z, c, h2, h3, h4, h5, h6, h7⟩ => ⟨h1, y, z, c, h2, h3.ex e, e _ _ h4, e _ _ h5, h6.ex e, h7⟩) ⟨Nat.zero_le _, x, none, none, rfl, hx.ex e13, hd3, hl3, LA.nil hl2, fun a b _ h => by omega⟩
    (fun B k2 x σ' H' hin eB kp ⟨hk, y, z, c, es, hy, hD, hL, hP, hdis⟩ hx => ?_) fun σ' H' kp ⟨hk, _⟩ => by omega
  subst hx es
  have ee : Ex H H' := kp_ex (H1 := B) (e13.trans eB) kp hmem
  have hdin := et_din (σ := [some v, some y, some (.int (k2 : Int)), some (.ref d), some (.ref l), some (.ref l2), z]) (ty := tVar 1) (td := tVar 3) hD (evp_varPt rfl hy) fun _ _ => ev_var rfl
  rw [orb_keys] at hdin
  refine q_when hdin (fun hb H4 e4 => ?_) fun hb H4 e4 => ?_
  · have hin : w.orb p k2 ∈ (List.range k2).map (w.orb p) := of_decide_eq_true hb
    obtain ⟨i, hi, ei⟩ := List.mem_map.mp hin
    have hi := List.mem_range.mp hi
    refine (evp_triple (Pa := isV (.ref l)) (Pb := isV (.int (i : Int))) (Pc := isV (.ref l2)) (evp_of_ev (ev_var rfl)) (fun x4 H5 e5 _ => evp_of_ev (ev_dget (p := w.orb p k2) (e5 _ _ (e4 _ _ hD)) (ev_var rfl) (fun H6 e6 => evp_varPt rfl ((hy.ex (e4.trans e5)).ex e6)) (by rw [← ei]; exact lk_orb hi hdis))) fun _ _ _ _ _ _ _ _ => evp_of_ev (ev_var rfl)).run fun u H5 e5 ⟨t, x5, y5, z5, H6, H7, H8, eu, ht, hx5, _, hy5, _, hz5, _⟩ => ?_
    obtain rfl : x5 = .ref l := hx5
    obtain rfl : y5 = .int (i : Int) := hy5
    obtain rfl : z5 = .ref l2 := hz5
    exact k u H5 ((ee.trans e4).trans e5) ⟨t, l, i, k2, l2, eu, ht, e5 _ _ (e4 _ _ hL), hi, ei, hdis⟩
  · have hnot : w.orb p k2 ∉ (List.range k2).map (w.orb p) := fun z => by
      rw [decide_eq_true z] at hb
      cases hb
    have hlt : k2 < j0 := by
      refine Nat.lt_of_le_of_ne hk fun z => hnot ?_
      rw [z, ← hor]
      exact List.mem_map.mpr ⟨i0, List.mem_range.mpr hij, rfl⟩
    have hdis2 : ∀ a b, a < b → b < k2 + 1 → w.orb p a ≠ w.orb p b := fun a b hab hb e => by
      by_cases hb2 : b < k2
      · exact hdis a b hab hb2 e
      · obtain rfl : b = k2 := by omega
        exact hnot (List.mem_map.mpr ⟨a, List.mem_range.mpr hab, e⟩)
    have hsz : k2 < sizeLine := szl _
    refine q_dput (P := isV (.int (k2 : Int))) (e4 _ _ hD) (evp_of_ev (ev_is (ev_lenL (ev_var rfl) (e4 _ _ hL)) (by rw [List.length_map, List.length_map, List.length_range]))) (fun _ _ => ev_var rfl) (fun H5 e5 => evp_varPt rfl (hy.ex (e4.trans e5))) (by rw [List.length_map, List.length_range]; exact hsz) fun v4 H5 H6 e5 hv4 e6 => ?_
    obtain rfl : v4 = .int (k2 : Int) := hv4
    rw [putP_new _ (by rw [orb_keys]; exact hnot), ← range_map_snoc (f := fun i => (w.orb p i, V.int (i : Int)))]
    have e46 := (e4.trans e5).trans e6
    have hDd : H6 d = some (.dT (tabP ((List.range k2).map fun i => (w.orb p i, V.int (i : Int))))) := e46 _ _ hD
    have kd : Kp [d, l, l2] H6 (upd H6 d (.dT (tabP ((List.range (k2 + 1)).map fun i => (w.orb p i, V.int (i : Int)))))) := Kp.dT (List.mem_cons_self ..) hDd
    have kd1 : Kp [d] H6 (upd H6 d (.dT (tabP ((List.range (k2 + 1)).map fun i => (w.orb p i, V.int (i : Int)))))) := Kp.dT (List.mem_cons_self ..) hDd
    have ee7 : Ex H (upd H6 d (.dT (tabP ((List.range (k2 + 1)).map fun i => (w.orb p i, V.int (i : Int)))))) := kp_ex (ee.trans e46) kd1 (none1 hd0)
    have hL7 := kd1.1 _ _ (fun z => hld (List.mem_singleton.mp z)) (e46 _ _ hL)
    have hP7 : LA _ l2 _ := (hP.ex e46).kp (fun z => hl2d (List.mem_singleton.mp z)) kd1
    have hy7 := (hy.ex e46).tex kd.2
    have hD7 : DP (upd H6 d (.dT (tabP ((List.range (k2 + 1)).map fun i => (w.orb p i, V.int (i : Int)))))) d ((List.range (k2 + 1)).map fun i => (w.orb p i, V.int (i : Int))) := upd_same
    generalize upd H6 d (.dT (tabP ((List.range (k2 + 1)).map fun i => (w.orb p i, V.int (i : Int))))) = H7 at kd kd1 ee7 hL7 hP7 hy7 hD7
    refine q_appPt hP7 (ev_var rfl) (evp_varPt rfl hy7) (by rw [List.length_map, List.length_range]; exact hsz) fun H8 hP8 k8 => ?_
    have kq := k8 [l2] (List.mem_cons_self ..)
    have ee8 : Ex H H8 := kp_ex ee7 kq (none1 hl20)
    have hy8 := hy7.tex kq.2
    have hD8 : DP H8 d _ := kq.1 _ _ (fun z => hl2d (List.mem_singleton.mp z).symm) hD7
    have hL8 := kq.1 _ _ (fun z => hll (List.mem_singleton.mp z).symm) hL7
    refine q_asgG (P := fun v H' => ∃ t b, v = .ref t ∧ H' t = some (.tup [.int (w.num (w.orb p k2) : Int), .ref b]) ∧ PtA H' b (w.orb p (k2 + 1))) (evp_callA (ea_cons (ev_var rfl) (ea_cons (ev_var rfl) ea_nil)) (spp_use fun H9 e9 => ⟨v, y, w, w.orb p k2, rfl, hw.ex (ee8.trans e9), ok, hy8.ex e9, hn k2, rfl⟩)) fun u H9 e9 ⟨t, b, eu, ht, hb⟩ => ?_
    subst eu
    refine g_pair ht _ ?_
    refine s_appI (ns := (List.range k2).map fun k => (w.num (w.orb p k) : Int)) (e9 _ _ hL8) (ev_var rfl) (ev_var rfl) (by rw [List.length_map, List.length_range]; exact hsz) fun H10 h10 k10 x10 => ?_
    have kz := k10 [l] (List.mem_cons_self ..)
    refine ⟨⟨hlt, .ref b, some (.int (w.num (w.orb p k2) : Int)), some (.int (k2 : Int)), rfl, ⟨b, rfl, kz.2 _ _ hb⟩, kz.1 _ _ (fun z => hld (List.mem_singleton.mp z).symm) (e9 _ _ hD8), ?_, ?_, hdis2⟩, ?_⟩
    · rw [range_map_snoc (f := fun k => (w.num (w.orb p k) : Int))]
      exact h10
    · rw [range_map_snoc]
      exact (hP8.ex e9).kp (fun z => hll (List.mem_singleton.mp z)) kz
    · exact ((((kp.trans (Kp.ex e46)).trans kd).trans (k8 _ (by simp))).trans (Kp.ex e9)).trans (k10 _ (by simp))
theorem p_law_row (vs : List V) (H : Hp) (Q : VK) (E : XK) (h : sp_law_row vs H Q E) : t_law_row K (En Q) (start ["_law_way_here", "_law_point", "_law_digits_here", "_law_place", "_law_points"] vs) H := by
  obtain ⟨R, ⟨v, x, w, p, rfl, hw, ok, hx, hp, hper, rfl⟩, k⟩ := h
  refine q_asgG (P := fun v H' => ∃ t l i j l2, v = .ref t ∧ H' t = some (.tup [.ref l, .int (i : Nat), .ref l2]) ∧ H' l = some (.lst (((List.range j).map fun k => (w.num (w.orb p k) : Int)).map V.int)) ∧ i < j ∧ w.orb p i = w.orb p j ∧ ∀ a b, a < b → b < j → w.orb p a ≠ w.orb p b) (evp_callA (ea_cons (ev_var rfl) (ea_cons (ev_var rfl) ea_nil)) (spp_use fun H7 e7 => ⟨v, x, w, p, rfl, hw.ex e7, ok, hx.ex e7, hp, hper, rfl⟩)) fun u H1 e1 ⟨t, l, i, j, l2, eu, ht, hl, hij, ho, hd⟩ => ?_
  subst eu
  refine g_three ht _ ?_
  have hlen : ((List.range j).map fun k => (w.num (w.orb p k) : Int)).length = j := by rw [List.length_map, List.length_range]
  have hdrop : ((List.range j).map fun k => (w.num (w.orb p k) : Int)).drop i = [0] ↔ w.Row p := by
    rw [Way.row_iff ho hij hd]
    constructor
    · intro h
      have h1 := congrArg List.length h
      rw [List.length_drop, hlen] at h1
      have h1 : j - i = 1 := h1
      have h2 : (((List.range j).map fun k => (w.num (w.orb p k) : Int)).drop i)[0]? = some 0 := by rw [h]; rfl
      rw [List.getElem?_drop, Nat.add_zero, List.getElem?_map, List.getElem?_range hij] at h2
      have h3 : (w.num (w.orb p i) : Int) = 0 := Option.some.inj h2
      exact ⟨by omega, by omega⟩
    · rintro ⟨rfl, h2⟩
      refine List.ext_getElem? fun a => ?_
      rw [List.getElem?_drop, List.getElem?_map]
      cases a with
      | zero =>
        rw [show i + 0 = i from rfl, List.getElem?_range hij]
        show some (w.num (w.orb p i) : Int) = some 0
        rw [h2]
        rfl
      | succ a =>
        rw [List.getElem?_eq_none (by rw [List.length_range]; omega)]
        rfl
  have hcut : cutI ((List.range j).map fun k => (w.num (w.orb p k) : Int)) (some (i : Int)) none = ((List.range j).map fun k => (w.num (w.orb p k) : Int)).drop i := cutI_hi (by rw [hlen]; omega)
  have ht2 := et_test (ev_eqL (K := K) (σ := [some v, some x, some (.ref l), some (.int (i : Int)), some (.ref l2)]) (H := H1) (p := ((List.range j).map fun k => (w.num (w.orb p k) : Int)).drop i) (q := [0]) (ta := tSl (rSlL K) (tVar 2) (tPart (tVar 3)) tNoPart) (tb := tLst (tCons (tC (.int 0)) tNil)) ((evp_slL (ev_var rfl) (eo_some (ev_var rfl)) eo_none hl).imp fun v H' _ q => by rw [hcut] at q; exact q) fun _ _ => evp_nl (ns := [0]) (ea_cons ev_c ea_nil) (by decide))
  refine ret_of (A := fun v _ => (v = .non ∧ ¬ w.Row p) ∨ ((∃ a, v = .ref a) ∧ w.Row p)) (evp_if ht2 (fun hb => (evp_slL (ev_var rfl) eo_none (eo_some (ev_var rfl)) hl).imp fun v H' _ ⟨a, ev, _⟩ => .inr ⟨⟨a, ev⟩, hdrop.mp (of_decide_eq_true hb)⟩) fun hb => EvP.of ev_c fun _ _ => .inl ⟨rfl, fun z => of_decide_eq_false hb (hdrop.mpr z)⟩) rfl fun v H3 e3 r => k v H3 (e1.trans e3) r
end
end K13
namespace K13
open PySem PySem.Spec PyProof.Rows L2 Evl
theorem unit_comp {n i : Nat} (hn : n ≤ 3) (hi : i < n) (v : Int) : (List.range n).map (fun j => if j = i then v else 0) = unitP n i v := by
  match n, hn, i, hi with
  | 1, _, 0, _ => rfl
  | 2, _, 0, _ => rfl
  | 2, _, 1, _ => rfl
  | 3, _, 0, _ => rfl
  | 3, _, 1, _ => rfl
  | 3, _, 2, _ => rfl
theorem units_swap : ∀ l : List Nat, ∀ f g : Nat → Pt, (l.flatMap fun i => [f i, g i]).Perm (l.flatMap fun i => [g i, f i])
  | [], f, g => .nil
  | a :: l, f, g => by
    rw [List.flatMap_cons, List.flatMap_cons]
    exact (List.Perm.swap (g a) (f a) []).append (units_swap l f g)
section
variable {K : PySem.W.Frag}
theorem p_law_units (vs : List V) (H : Hp) (Q : VK) (E : XK) (h : sp_law_units vs H Q E) : t_law_units K (En Q) (start ["_law_size", "_law_found", "_law_at", "_law_number", "_law_place"] vs) H := by
  obtain ⟨R, ⟨n, rfl, h0, hn3, rfl⟩, k⟩ := h
  refine q_asgL (el_lst ea_nil (by decide)) fun l H1 hl e1 h1 => ?_
  have L : ∀ i, ((List.range i).flatMap fun i => [unitP n i (-1), unitP n i 1]).length = 2 * i := fun i => by
    induction i with
    | zero => rfl
    | succ i ih => rw [List.range_succ, List.flatMap_append, List.length_append, ih]; simp; omega
  refine q_forF (mu := [l]) (evf_rng1 (n := n) (ev_var rfl) (by omega)) (fun i σ' H' => (∃ x y, σ' = [some (.int n), some (.ref l), x, y, none]) ∧ LA H' l ((List.range i).flatMap fun i => [unitP n i (-1), unitP n i 1])) (fun i σ' H' H'' e q => ⟨q.1, q.2.ex e⟩) ⟨⟨none, none, rfl⟩, LA.nil h1⟩ (fun B i x σ' H' hi eB kp ⟨⟨a, b, es⟩, la⟩ hy => ?_) fun σ' H' kp ⟨⟨a, b, es⟩, la⟩ => ?_
  · subst hy es
    rw [Int.toNat_natCast] at hi
    refine s_forF (mu := [l]) (y := fun j x _ => ∃ xs, xs[j]? = some x ∧ xs.length = 2 ∧ xs = [.int (-1), .int 1]) (evf_listP (Px := fun xs _ => xs = [.int (-1), .int 1]) (fun b hb => ?_) (fun _ _ _ _ h => h) ((evp_lst (ea_cons ev_neg1 (ea_cons ev_c ea_nil)) (by decide)).imp fun v H' e ⟨t, ev, h0, ht⟩ => ⟨t, _, ev, h0, ht, rfl, rfl⟩))
      (fun j σ' H' => (∃ y, σ' = [some (.int n), some (.ref l), some (.int i), y, none]) ∧ LA H' l (((List.range i).flatMap fun i => [unitP n i (-1), unitP n i 1]) ++ [unitP n i (-1), unitP n i 1].take j)) (fun i σ' H' H'' e q => ⟨q.1, q.2.ex e⟩) ⟨⟨b, rfl⟩, by rw [List.take_zero, List.append_nil]; exact la⟩ (fun B2 j x σ' H2 hj eB2 kp2 ⟨⟨y, es⟩, la2⟩ ⟨xs, hx, _, ex⟩ => ?_) fun σ' H2 kp2 ⟨⟨y, es⟩, la2⟩ => ⟨⟨⟨some (.int i), y, es⟩, ?_⟩, kp.trans kp2⟩
    · rcases List.mem_cons.mp hb with rfl | hb
      · exact la.ne
      · cases hb
    · subst es ex
      obtain ⟨c, hc, rfl⟩ : ∃ c : Int, [unitP n i (-1), unitP n i 1].take (j + 1) = [unitP n i (-1), unitP n i 1].take j ++ [unitP n i c] ∧ x = .int c := by
        match j, hj with
        | 0, _ => exact ⟨-1, rfl, (Option.some.inj hx).symm⟩
        | 1, _ => exact ⟨1, rfl, (Option.some.inj hx).symm⟩
      refine s_appPt (p := unitP n i c) la2 (ev_var rfl) ?_ ?_ fun H3 la3 k3 => ⟨⟨⟨some (.int c), rfl⟩, ?_⟩, kp2.trans (k3 _ (List.mem_cons_self ..))⟩
      · refine evp_tupI ?_
        rw [← unit_comp hn3 hi, List.map_map]
        have hi2 := evi_rng1 (σ := [some (.int (n : Int)), some (.ref l), some (.int (i : Int)), some (.int c), none]) (H := H2) (ta := tVar 0) (n := (n : Int)) (ev_var rfl) (by omega)
        rw [Int.toNat_natCast] at hi2
        refine evp_lcV hi2 _ (Nat.le_of_lt (szl _)) fun q x H3 hq e3 hx => ?_
        subst hx
        refine ⟨_, fun Q q => q, rfl, ev_if (b := decide (q = i)) (et_test (ev_is (ev_op (ev_var rfl) (ev_var rfl) (rv_eq rfl)) (by rw [eq_nat]))) (fun hb => ?_) fun hb => ?_⟩
        · rw [Function.comp, if_pos (of_decide_eq_true hb)]
          exact ev_var rfl
        · rw [Function.comp, if_neg (of_decide_eq_false hb)]
          exact ev_c
      · rw [List.length_append, L, List.length_take]
        have : sizeLine = 16777216 := sizeLine_eq
        simp
        omega
      · rw [hc, ← List.append_assoc]
        exact la3
    · rw [List.range_succ, List.flatMap_append]
      simpa using la2
  · subst es
    rw [Int.toNat_natCast] at la
    refine ret_of (evp_sortT (d := n) h0 (fun p hp => ?_) (evp_var (v := .ref l) rfl fun H2 e2 => ⟨l, rfl, la.ex e2⟩)) rfl fun v H2 e2 ⟨ps', hp, hv⟩ => k v H2 ((kp_ex e1 kp (none1 hl)).trans e2) ⟨ps', hp.trans (units_swap _ _ _), hv⟩
    obtain ⟨i, hi, hp⟩ := List.mem_flatMap.mp hp
    have hi := List.mem_range.mp hi
    have hu : ∀ c, (unitP n i c).length = n := fun c => by
      unfold unitP
      rw [List.length_append, List.length_cons, List.length_replicate, List.length_replicate]
      omega
    rcases List.mem_cons.mp hp with rfl | hp
    · exact hu _
    · rcases List.mem_cons.mp hp with rfl | hp
      · exact hu _
      · cases hp
theorem q_pop {σ : L2.St} {H : Hp} {D : Ends} {tz : TS} {i j : Nat} {y : V} {l : Addr} {xs : List V} (hj : σ[j]? = some (some (.ref l))) (hl : H l = some (.lst (xs ++ [y]))) (k : tz D (σ.set i (some y)) (upd H l (.lst xs))) : tSeq (tAsg (tBM0 K "list" rPop (tVar j)) (gName i)) tz D σ H := by
  refine ⟨.ref l, hj, .inl ⟨rfl, _, sq_of hl⟩, l, xs ++ [y], y, rfl, rfl, hl, by simp, ?_⟩
  rw [List.dropLast_concat]
  exact k
/-- a list of points less its last -/
theorem la_last {H : Hp} {l : Addr} {L' : List Pt} {y0 : Pt} (h : LA H l (L' ++ [y0])) : ∃ (bs : List Addr) (b : Addr), H l = some (.lst (bs.map V.ref ++ [.ref b])) ∧ Pts H bs L' ∧ PtA H b y0 := by
  obtain ⟨bs, hb1, hb2⟩ := h
  obtain ⟨bs', b, rfl⟩ : ∃ bs' b, bs = bs' ++ [b] := by
    have hbn : bs ≠ [] := fun z => by have := hb2.len; rw [z] at this; simp at this
    exact ⟨bs.dropLast, bs.getLast hbn, (List.dropLast_concat_getLast hbn).symm⟩
  have hlen2 : bs'.length = L'.length := by have := hb2.len; simp at this; exact this
  refine ⟨bs', b, by rw [hb1, List.map_append]; rfl, ?_, ?_⟩
  · exact paired_iff hlen2 fun i x y h1 h2 => by
      have hi := (List.getElem?_eq_some_iff.mp h1).1
      obtain ⟨q, hq, hqb⟩ := hb2.get (i := i) (b := x) (by rw [List.getElem?_append_left hi]; exact h1)
      rw [List.getElem?_append_left (by omega)] at hq
      rw [h2] at hq
      obtain rfl := Option.some.inj hq
      exact hqb
  · obtain ⟨q, hq, hqb⟩ := hb2.get (i := bs'.length) (b := b) (by simp)
    rw [hlen2, List.getElem?_append_right (Nat.le_refl _)] at hq
    simp at hq
    rw [hq]
    exact hqb
end
end K13
namespace K13
open PySem PySem.Spec PyProof.Rows L2 Evl
theorem LA.nodupS {H : Hp} {l : Addr} {ps : List Pt} (h : LA H l ps) : ∃ as : List Addr, H l = some (.lst (as.map V.ref)) := let ⟨as, h1, _⟩ := h; ⟨as, h1⟩
section
variable {K : PySem.W.Frag}
/-- `if q not in found: found[q] = True; left.append(q)`, q in slot i -/
theorem s_meet {σ : L2.St} {H : Hp} {D : Ends} {i jd jl : Nat} {d l bq : Addr} {q : Pt} {F L : List Pt} (hi : σ[i]? = some (some (.ref bq))) (hjd : σ[jd]? = some (some (.ref d))) (hjl : σ[jl]? = some (some (.ref l))) (hld : l ≠ d) (hq : PtA H bq q) (hD : DP H d (trueT F)) (hL : LA H l L) (hf : F.length < sizeLine) (hl : L.length < sizeLine)
    (k1 : q ∉ F → ∀ H1, Kp [d, l] H H1 → DP H1 d (trueT (F ++ [q])) → LA H1 l (L ++ [q]) → D.nx σ H1) (k2 : q ∈ F → ∀ H1, Ex H H1 → D.nx σ H1) :
    tIfS (tB (tDNotIn (tVar i) (tVar jd))) (tSeq (sDPut (tVar jd) (tVar i) (tC (.bl true))) (tDrop (tBM K "list" rAppend (tVar jl) (tCons (tVar i) tNil)))) tNext D σ H := by
  have hnot := et_dnotin (σ := σ) (ty := tVar i) (td := tVar jd) hD (evp_varPt hi ⟨bq, rfl, hq⟩) fun _ _ => ev_var hjd
  rw [trueT_keys] at hnot
  refine s_when hnot (fun hb H1 e1 => ?_) fun hb H1 e1 => k2 (Classical.byContradiction fun z => by rw [decide_eq_false z] at hb; cases hb) H1 e1
  have hqn : q ∉ F := fun z => by rw [decide_eq_true z] at hb; cases hb
  refine q_dput (P := isV (.bl true)) (e1 _ _ hD) (evp_of_ev ev_c) (fun _ _ => ev_var hjd) (fun H7 e7 => evp_varPt hi ⟨bq, rfl, e7 _ _ (e1 _ _ hq)⟩) (by unfold trueT; rw [List.length_map]; exact hf) fun v7 H7 H8 e7 hv7 e8 => ?_
  obtain rfl : v7 = .bl true := hv7
  rw [putP_new _ (by rw [trueT_keys]; exact hqn)]
  have e18 := (e1.trans e7).trans e8
  have hD8 := e18 _ _ hD
  have htt : trueT F ++ [(q, V.bl true)] = trueT (F ++ [q]) := by unfold trueT; rw [List.map_append]; rfl
  rw [htt]
  have kd : Kp [d, l] H8 (upd H8 d (.dT (tabP (trueT (F ++ [q]))))) := Kp.dT (List.mem_cons_self ..) hD8
  have la8 : LA (upd H8 d (.dT (tabP (trueT (F ++ [q]))))) l L := (hL.ex e18).kp (mu := [d]) (fun z => hld (List.mem_singleton.mp z)) (Kp.dT (List.mem_cons_self ..) hD8)
  have hb8 := kd.2 _ _ (e18 _ _ hq)
  have hD9 : DP (upd H8 d (.dT (tabP (trueT (F ++ [q]))))) d (trueT (F ++ [q])) := upd_same
  generalize upd H8 d (.dT (tabP (trueT (F ++ [q])))) = H9 at kd la8 hb8 hD9
  exact s_appPt la8 (ev_var hjl) (evp_varPt hi ⟨bq, rfl, hb8⟩) hl fun H10 la10 k10 => k1 hqn H10 (((Kp.ex e18).trans kd).trans (k10 _ (List.mem_cons_of_mem _ (List.mem_cons_self ..)))) ((k10 [l] (List.mem_cons_self ..)).1 _ _ (fun z => hld (List.mem_singleton.mp z).symm) hD9) la10
theorem p_law_closed (vs : List V) (H : Hp) (Q : VK) (E : XK) (h : sp_law_closed vs H Q E) : t_law_closed K (En Q) (start ["_law_way_here", "_law_points", "_law_point", "_law_turn", "_law_found", "_law_left", "_law_digit", "_law_carried"] vs) H := by
  obtain ⟨R, ⟨v, x, w, P, rfl, hw, ok, ⟨a, as, rfl, ha, has⟩, hP, hPl, hPn, h0, rfl⟩, kQ⟩ := h
  obtain ⟨aw, y0, y1, y2, dw, rfl, haw, hm0, hds, hA, hdw⟩ := hw
  have hw : LW H (.ref aw) w := ⟨aw, y0, y1, y2, dw, rfl, haw, hm0, hds, hA, hdw⟩
  obtain ⟨lw, lws, rfl, hlw, hlws⟩ := hds
  have hszl : sizeLine = 16777216 := sizeLine_eq
  refine q_par (Pa := fun v H' => ∃ d, v = .ref d ∧ H d = none ∧ DP H' d []) (Pb := fun v H' => ∃ l, v = .ref l ∧ H l = none ∧ H' l = some (.lst [])) evp_dnew (fun _ H1 e1 _ => (evp_lst ea_nil (by decide)).imp fun v H' e ⟨l, ev, h0, h⟩ => ⟨l, ev, fresh_back e1 h0, h⟩) fun _ _ H1 H2 e1 ⟨d, ex, hd0, hd⟩ e2 ⟨l, ey, hl0, hl⟩ => ?_
  subst ex ey
  have hd2 : DP H2 d (trueT []) := e2 _ _ hd
  have hld : l ≠ d := ne_of hl hd2 (by intro z; cases z)
  have e12 := e1.trans e2
  have hmem : ∀ b ∈ [d, l], H b = none := fun b hb => by
    rcases List.mem_cons.mp hb with rfl | hb
    · exact hd0
    · rw [List.mem_singleton.mp hb]; exact hl0
  have nomem : ∀ {b : Addr} {o : HO}, H b = some o → b ∉ [d, l] := fun h z => by rw [hmem _ z] at h; cases h
  -- the points are met
  have hi := evf_LA (K := K) (mu := [d, l]) (σ := [some (.ref aw), some (V.ref a), none, none, some (.ref d), some (.ref l), none, none]) (tl := tVar 1) (ev_var rfl) (LA.ex ⟨as, ha, has⟩ e12) (nomem ha) fun _ _ => trivial
  refine q_forF hi (fun i σ' H' => (∃ c, σ' = [some (.ref aw), some (V.ref a), c, none, some (.ref d), some (.ref l), none, none]) ∧ DP H' d (trueT (P.take i)) ∧ LA H' l (P.take i)) (fun i σ' H' H'' e q => ⟨q.1, e _ _ q.2.1, q.2.2.ex e⟩) ⟨⟨none, rfl⟩, by rw [List.take_zero]; exact hd2, by rw [List.take_zero]; exact LA.nil hl⟩
    (fun B i z σ' H' hin eB kp ⟨⟨c, es⟩, hD, hL⟩ ⟨p, hp, b, ez, hb⟩ => ?_) fun σ' H' kp ⟨⟨c, es⟩, hD, hL⟩ => ?_
  · subst es ez
    have hb' := (Kp.ex eB |>.trans kp).2 _ _ hb
    have htk : P.take (i + 1) = P.take i ++ [p] := by rw [List.take_succ, hp]; rfl
    have hnp : p ∉ P.take i := fun z => by
      obtain ⟨j, hj, ej⟩ := List.mem_iff_getElem.mp z
      have hj2 : j < i := by rw [List.length_take] at hj; omega
      have : P[j]? = some p := by
        rw [List.getElem_take] at ej
        rw [List.getElem?_eq_getElem (by rw [List.length_take] at hj; omega), ej]
      have := nodup_get hPn this hp
      omega
    show tIfS _ _ _ _ [some (.ref aw), some (V.ref a), some (.ref b), none, some (.ref d), some (.ref l), none, none] H'
    refine s_meet (q := p) rfl rfl rfl hld hb' hD hL (by rw [List.length_take]; omega) (by rw [List.length_take]; omega) (fun _ H3 k3 hD3 hL3 => ⟨⟨⟨_, rfl⟩, by rw [htk]; exact hD3, by rw [htk]; exact hL3⟩, kp.trans k3⟩) fun z => absurd z hnp
  · subst es
    rw [List.take_length] at hD hL
    have eH : Ex H H' := kp_ex e12 kp hmem
    -- what follows the loop
    have fin : ∀ (σ' : L2.St) (H' : Hp) (F L : List Pt), σ'[4]? = some (some (.ref d)) → Ex H H' → DP H' d (trueT F) → Grow w P F L → (L = [] ∨ 600 < F.length) → tRet (tIf (tTest (tOp (rI0 fun i j => .bl (decide (i ≤ j))) (tCB rLenT (tCons (tVar 4) tNil)) (tC (.int 600)))) (tCB rSortD (tCons (tVar 4) tNil)) (tC .non)) (En Q) σ' H' := by
      intro σ' H' F L h4 ee hD gr hor
      have hlen : Ev (tCB rLenT (tCons (tVar 4) tNil)) σ' H' (.int (F.length : Int)) := ev_is (ev_lenD hD (ev_var h4)) (by unfold trueT; rw [List.length_map])
      have hsort : EvP (tCB rSortD (tCons (tVar 4) tNil)) σ' H' fun u H' => ∃ qs : List Pt, qs.Perm F ∧ PLV H' u qs := fun H5 e5 Q q => by
        refine ev_var h4 H5 (Ex.refl H5) _ fun H6 e6 => ⟨d, tabP (trueT F), F, w.n, rfl, e6 _ _ (e5 _ _ hD), ?_, h0, gr.len, fun ts qs p hp hpr hpn => q _ _ (e6.trans (Ex.new hpn)) ⟨qs, hp, p, ts, rfl, upd_same, Pts.ex hpr (Ex.new hpn)⟩⟩
        unfold tabP trueT
        rw [List.map_map, List.map_map]
        rfl
      refine ret_of (A := fun v H' => (∃ F, w.Least P F ∧ F.length ≤ 600 ∧ PLV H' v F) ∨ (v = .non ∧ w.Big P)) (evp_if (b := decide ((F.length : Int) ≤ 600)) (et_test (ev_op hlen ev_c rv_I0)) (fun hb => hsort.imp fun u H5 e5 ⟨qs, hp, hu⟩ => ?_) fun hb => EvP.of ev_c fun _ _ => .inr ⟨rfl, F, gr.nd, by have := of_decide_eq_false hb; omega, gr.least⟩) rfl fun u H5 e5 r => kQ u H5 (ee.trans e5) r
      have h600 : F.length ≤ 600 := by have := of_decide_eq_true hb; omega
      have hL : L = [] := hor.resolve_right (by omega)
      subst hL
      refine .inl ⟨qs, ⟨hp.nodup_iff.mpr gr.nd, fun p h => hp.mem_iff.mpr (gr.sub p h), fun p h q hq => ?_, fun S h1 h2 p h => gr.least S h1 h2 p (hp.mem_iff.mp h)⟩, by rw [hp.length_eq]; exact h600, hu⟩
      rcases gr.done p (hp.mem_iff.mp h) with z | z
      · cases z
      · exact hp.mem_iff.mpr (z q hq)
    refine q_forF (mu := [d, l]) (y := fun i x _ => x = .int (i : Int)) (n := 601) (evf_rng1 (ta := tC (.int 601)) (n := 601) ev_c (by decide)) (fun i σ' H' => ∃ (F L : List Pt) (c2 c3 c6 c7 : Option V), F.length = i + L.length ∧ F.length ≤ 650 ∧ σ' = [some (.ref aw), some (V.ref a), c2, c3, some (.ref d), some (.ref l), c6, c7] ∧ Ex H H' ∧ DP H' d (trueT F) ∧ LA H' l L ∧ Grow w P F L)
      (fun i σ' H' H'' e ⟨F, L, c2, c3, c6, c7, h1, h2, h3, h4, h5, h6, h7⟩ => ⟨F, L, c2, c3, c6, c7, h1, h2, h3, h4.trans e, e _ _ h5, h6.ex e, h7⟩) ⟨P, P, c, none, none, none, by omega, by omega, rfl, eH, hD, hL, ⟨hPn, fun p h => h, fun S _ h => h, hP, fun p h => h, fun p h => .inl h⟩⟩
      (fun B i x σ' H3 hin eB kp3 ⟨F, L, c2, c3, c6, c7, hFL, hF, es, ee, hD, hL, gr⟩ hx => ?_) fun σ' H3 kp3 ⟨F, L, c2, c3, c6, c7, hFL, hF, es, ee, hD, hL, gr⟩ => ?_
    · subst hx es
      have hlen : ∀ {H4}, Ex H3 H4 → Ev (tCB rLenT (tCons (tVar 4) tNil)) [some (.ref aw), some (V.ref a), c2, some (.int (i : Int)), some (.ref d), some (.ref l), c6, c7] H4 (.int (F.length : Int)) := fun e => ev_is (ev_lenD (e _ _ hD) (ev_var rfl)) (by unfold trueT; rw [List.length_map])
      refine q_when (et_or (a := decide (L = [])) (b := decide ((600 : Int) < F.length)) (et_test (ev_eqLA (ev_var rfl) hL)) fun _ => et_test (ev_op (hlen (Ex.refl _)) ev_c rv_I0)) (fun hb H4 e4 => ?_) fun hb H4 e4 => ?_
      · rw [Bool.or_eq_true] at hb
        exact fin _ H4 F L rfl (ee.trans e4) (e4 _ _ hD) gr (hb.elim (fun h => .inl (of_decide_eq_true h)) fun h => .inr (by have := of_decide_eq_true h; omega))
      · rw [Bool.or_eq_false_iff] at hb
        have hne : L ≠ [] := of_decide_eq_false hb.1
        have h600 : F.length ≤ 600 := by have := of_decide_eq_false hb.2; omega
        obtain ⟨L', y0, rfl⟩ : ∃ L' y0, L = L' ++ [y0] := ⟨L.dropLast, L.getLast hne, (List.dropLast_concat_getLast hne).symm⟩
        obtain ⟨bs, b, hb1, hb2, hyb⟩ := la_last (hL.ex e4)
        have hy0F : y0 ∈ F := gr.left y0 (by simp)
        have hy0l := gr.len y0 hy0F
        refine q_pop rfl hb1 ?_
        have tx := TEx.lst (o' := .lst (bs.map V.ref)) hb1
        have kl : Kp [d, l] H4 (upd H4 l (.lst (bs.map V.ref))) := Kp.lst (by simp) hb1
        have la5 : LA (upd H4 l (.lst (bs.map V.ref))) l L' := ⟨bs, upd_same, hb2.tex tx⟩
        have hD5 : DP (upd H4 l (.lst (bs.map V.ref))) d (trueT F) := by
          show upd H4 l _ d = _
          rw [upd_ne hld.symm]
          exact e4 _ _ hD
        have ee5 : Ex H (upd H4 l (.lst (bs.map V.ref))) := Ex.mut (ee.trans e4) hl0
        have hyb5 := tx _ _ hyb
        generalize upd H4 l (.lst (bs.map V.ref)) = H5 at kl la5 hD5 ee5 hyb5
        have kp5 : Kp [d, l] B H5 := (kp3.trans (Kp.ex e4)).trans kl
        have hid := evf_LA (K := K) (mu := [d, l]) (σ := [some (.ref aw), some (V.ref a), some (.ref b), some (.int (i : Int)), some (.ref d), some (.ref l), c6, c7]) (tl := tOp (rIxL K) (tVar 0) (tC (.int 1))) (ev_ixK (i := 1) (ev_var rfl) ev_c (ee5 _ _ haw) rfl) (LA.ex ⟨lws, hlw, hlws⟩ ee5) (nomem hlw) fun _ _ => trivial
        refine s_forF hid (fun j σ' H' => ∃ (F2 L2 : List Pt) (c6 c7 : Option V), F2.length = (i + 1) + L2.length ∧ F2.length ≤ F.length + j ∧ σ' = [some (.ref aw), some (V.ref a), some (.ref b), some (.int (i : Int)), some (.ref d), some (.ref l), c6, c7] ∧ DP H' d (trueT F2) ∧ LA H' l L2 ∧ F2.Nodup ∧ (∀ p ∈ F, p ∈ F2) ∧ (∀ S, w.Closed S → (∀ p ∈ P, p ∈ S) → ∀ p ∈ F2, p ∈ S) ∧ (∀ p ∈ F2, p.length = w.n) ∧ (∀ p ∈ L2, p ∈ F2) ∧ (∀ p ∈ F2, p = y0 ∨ p ∈ L2 ∨ ∀ q ∈ w.carries p, q ∈ F2) ∧ ∀ q ∈ (w.carries y0).take j, q ∈ F2)
          (fun j σ' H' H'' e ⟨F2, L2, c6, c7, h1, h2, h3, h4, h5, h6⟩ => ⟨F2, L2, c6, c7, h1, h2, h3, e _ _ h4, h5.ex e, h6⟩)
          ⟨F, L', c6, c7, by simp at hFL; omega, by omega, rfl, hD5, la5, gr.nd, fun p h => h, gr.least, gr.len, fun p hp => gr.left p (by simp [hp]), fun p hp => by
            rcases gr.done p hp with h | h
            · rcases List.mem_append.mp h with h | h
              · exact .inr (.inl h)
              · exact .inl (List.mem_singleton.mp h)
            · exact .inr (.inr h), fun q hq => by simp at hq⟩
          (fun B2 j y σ' H6 hj eB2 kp6 ⟨F2, L2, d6, d7, hm2, hf2, es, hD6, hL6, nd2, sub2, least2, len2, left2, done2, tk2⟩ ⟨dg, hdg, bd, ey, hbd⟩ => ?_) fun σ' H6 kp6 ⟨F2, L2, d6, d7, hm2, hf2, es, hD6, hL6, nd2, sub2, least2, len2, left2, done2, tk2⟩ => ?_
        · subst es ey
          have k56 : Kp [d, l] H5 H6 := (Kp.ex eB2).trans kp6
          have ee6 : Ex H H6 := kp_ex ee5 k56 hmem
          have hbd6 := k56.2 _ _ hbd
          have hyb6 := k56.2 _ _ hyb5
          have hdm := List.mem_of_getElem? hdg
          have hdl := ok.len dg hdm
          have hal : (addP y0 dg).length = w.n := by
            unfold addP
            rw [List.length_zipWith, hy0l, hdl, Nat.min_self]
          have hcj : (w.carries y0)[j]? = some (w.rest (addP y0 dg)) := by
            unfold Way.carries
            rw [List.getElem?_map, hdg]
            rfl
          have hqm := List.mem_of_getElem? hcj
          have hqt : (w.carries y0).take (j + 1) = (w.carries y0).take j ++ [w.rest (addP y0 dg)] := by rw [List.take_succ, hcj]; rfl
          have hj12 : j < 12 := by
            have hj' : j < w.ds.length := (List.getElem?_eq_some_iff.mp hdg).1
            have := ok.dlen
            omega
          have h1 : EvP (tCall sp_law_sum [] E0 (tCons (tVar 2) (tCons (tVar 6) tNil))) [some (.ref aw), some (V.ref a), some (.ref b), some (.int (i : Int)), some (.ref d), some (.ref l), some (.ref bd), d7] H6 fun v H' => PtV H' v (addP y0 dg) := evp_callA (ea_cons (ev_var rfl) (ea_cons (ev_var rfl) ea_nil)) (spp_use fun H7 e7 => ⟨.ref b, .ref bd, y0, dg, rfl, ⟨b, rfl, e7 _ _ hyb6⟩, ⟨bd, rfl, e7 _ _ hbd6⟩, by rw [hy0l, hdl], by have := ok.n3; omega, rfl⟩)
          have h2 : EvP (tCall sp_law_step [] E0 (tCons (tVar 0) (tCons (tCall sp_law_sum [] E0 (tCons (tVar 2) (tCons (tVar 6) tNil))) tNil))) [some (.ref aw), some (V.ref a), some (.ref b), some (.int (i : Int)), some (.ref d), some (.ref l), some (.ref bd), d7] H6 fun v H' => ∃ t b, v = .ref t ∧ H' t = some (.tup [.int (w.num (addP y0 dg) : Int), .ref b]) ∧ PtA H' b (w.rest (addP y0 dg)) :=
            evp_call2 (evp_of_ev (ev_var rfl)) fun x H7 e7 hx => ⟨_, h1.mono e7, fun y H8 e8 hy => by
              obtain rfl : x = .ref aw := hx
              exact spp_use fun H9 e9 => ⟨.ref aw, y, w, addP y0 dg, rfl, hw.ex (((ee6.trans e7).trans e8).trans e9), ok, hy.ex e9, hal, rfl⟩⟩
          have h3 : EvP (tOp (rIxT K) (tCall sp_law_step [] E0 (tCons (tVar 0) (tCons (tCall sp_law_sum [] E0 (tCons (tVar 2) (tCons (tVar 6) tNil))) tNil))) (tC (.int 1))) [some (.ref aw), some (V.ref a), some (.ref b), some (.int (i : Int)), some (.ref d), some (.ref l), some (.ref bd), d7] H6 fun v H' => PtV H' v (w.rest (addP y0 dg)) :=
            evp_op h2 fun x H7 e7 ⟨t, c, ex, ht, hc⟩ => ⟨_, evp_of_ev ev_c, fun y H8 e8 hy H9 e9 Q q => by
              subst ex
              obtain rfl : y = .int 1 := hy
              exact ⟨t, _, 1, .ref c, rfl, rfl, st_of (e9 _ _ (e8 _ _ ht)), atI_nat (j := 1) rfl, q _ H9 (Ex.refl H9) ⟨c, rfl, e9 _ _ (e8 _ _ hc)⟩⟩⟩
          refine q_asgP h3 fun u H7 e7 ⟨bq, eu, hbq⟩ => ?_
          subst eu
          show tIfS _ _ _ _ [some (.ref aw), some (V.ref a), some (.ref b), some (.int (i : Int)), some (.ref d), some (.ref l), some (.ref bd), some (.ref bq)] H7
          refine s_meet (q := w.rest (addP y0 dg)) rfl rfl rfl hld hbq (e7 _ _ hD6) (hL6.ex e7) (by omega) (by omega) (fun hqn H8 k8 hD8 hL8 => ⟨⟨F2 ++ [w.rest (addP y0 dg)], L2 ++ [w.rest (addP y0 dg)], some (.ref bd), some (.ref bq), ?_, ?_, rfl, hD8, hL8, ?_, ?_, ?_, ?_, ?_, ?_, ?_⟩, (kp6.trans (Kp.ex e7)).trans k8⟩) fun hqF H8 e8 => ⟨⟨F2, L2, some (.ref bd), some (.ref bq), hm2, by omega, rfl, e8 _ _ (e7 _ _ hD6), (hL6.ex e7).ex e8, nd2, sub2, least2, len2, left2, done2, fun p hp => ?_⟩, kp6.trans (Kp.ex (e7.trans e8))⟩
          · rw [List.length_append, List.length_append]
            simp
            omega
          · rw [List.length_append]
            simp
            omega
          · rw [List.nodup_append]
            exact ⟨nd2, by simp, fun a ha b hb z => hqn (by rw [List.mem_singleton] at hb; rw [← hb, ← z]; exact ha)⟩
          · exact fun p hp => List.mem_append_left _ (sub2 p hp)
          · intro S hS hPS p hp
            rcases List.mem_append.mp hp with hp | hp
            · exact least2 S hS hPS p hp
            · rw [List.mem_singleton.mp hp]
              exact hS y0 (least2 S hS hPS y0 (sub2 y0 hy0F)) _ hqm
          · intro p hp
            rcases List.mem_append.mp hp with hp | hp
            · exact len2 p hp
            · rw [List.mem_singleton.mp hp]
              exact ok.restlen
          · intro p hp
            rcases List.mem_append.mp hp with hp | hp
            · exact List.mem_append_left _ (left2 p hp)
            · exact List.mem_append_right _ hp
          · intro p hp
            rcases List.mem_append.mp hp with hp | hp
            · rcases done2 p hp with h | h | h
              · exact .inl h
              · exact .inr (.inl (List.mem_append_left _ h))
              · exact .inr (.inr fun q hq => List.mem_append_left _ (h q hq))
            · exact .inr (.inl (List.mem_append_right _ hp))
          · intro p hp
            rw [hqt] at hp
            rcases List.mem_append.mp hp with hp | hp
            · exact List.mem_append_left _ (tk2 p hp)
            · exact List.mem_append_right _ hp
          · rw [hqt] at hp
            rcases List.mem_append.mp hp with hp | hp
            · exact tk2 p hp
            · rw [List.mem_singleton.mp hp]
              exact hqF
        · subst es
          have hcl : (w.carries y0).length = w.ds.length := by unfold Way.carries; rw [List.length_map]
          refine ⟨⟨F2, L2, _, _, _, _, hm2, ?_, rfl, kp_ex ee5 kp6 hmem, hD6, hL6, ⟨nd2, fun p hp => sub2 p (gr.sub p hp), least2, len2, left2, fun p hp => ?_⟩⟩, kp5.trans kp6⟩
          · have := ok.dlen
            omega
          · rcases done2 p hp with h | h | h
            · subst h
              refine .inr fun q hq => tk2 q ?_
              rw [← hcl, List.take_length]
              exact hq
            · exact .inl h
            · exact .inr h
    · subst es
      exact fin _ H3 F L rfl ee hD gr (.inr (by omega))
end
end K13
namespace K13
open PySem PySem.Spec PyProof.Rows L2 Evl
section
variable {P : Program} {w : World} {K : PySem.W.Frag} {mg : Str → Option Value} {base : Heap} {C Ct : Addr}
theorem sc_law_cell : FnScope ["_law_script", "_law_index"] ["_law_script", "_law_index"] (defScope (top 57)) := ⟨rfl, rfl, rfl, by decide +kernel, rfl, by decide +kernel, by decide +kernel⟩
def t_law_cell (K : PySem.W.Frag) : TS :=
    (tSeq (tIfS (tTest (tOp (rI0 fun i j => .bl (decide (i < j))) (tVar 1) (tCB (rLenS K) (tCons (tVar 0) tNil)))) (tRet (tOp (rIxL K) (tVar 0) (tVar 1))) tNext)
    (tRet (tOp (rI (fun _ j => 0 < j) fun i j => .int (i % j)) (tCB (rSum K) (tCons (tSl (rSlL K) (tVar 0) tNoPart (tPart (tC (.int 1)))) tNil)) (tC (.int 1000003)))))
theorem d_law_cell (G : Glo K mg C)  {f : Addr} {cdv : Value} {A : Around} {outer : List Env} {s : Shared} {H : Hp} {E : XK} (hr : Room 0 (A.deeper (envOfC "_law_cell" (defScope (top 57)) s.heap.objs.size f cdv))) :
    PSs (cxOf (L2.CX P w) P w K mg base ["_law_script", "_law_index"] "_law_cell" (defScope (top 57)) f cdv A outer s H E).nox (defBody (top 57)) (t_law_cell K) :=
    (pss_cons (ps_if (pt_cmpR op_lt (pv 1) (pe_callB (cLenK K rfl) (by rfl) G.g_len boot_len (pa_cons (pv 0) pa_nil)) (nomark _)) (pss_one (ps_ret (pe_ix (ixL K rfl) (pv 0) (pv 1) (fun _ _ => rfl)))) pss_nil)
    (pss_one (ps_ret (pe_op op_mod (pe_callB (cSumK K rfl rfl) (by rfl) G.g_sum boot_sum (pa_cons (pe_slice (slLK K rfl) (pv 0) po_none (po_some pe_int)) pa_nil)) pe_int))))
theorem sc_law_hash : FnScope ["_law_seed", "_law_index", "_law_mixed"] ["_law_seed", "_law_index"] (defScope (top 58)) := ⟨rfl, rfl, rfl, by decide +kernel, rfl, by decide +kernel, by decide +kernel⟩
def t_law_hash (K : PySem.W.Frag) : TS :=
    (tSeq (tAsg (tOp (rI (fun _ j => 0 < j) fun i j => .int (i % j)) (tCB rInt1 (tCons (tOp (rI0 fun i j => .int (i + j)) (tOp (rI0 fun i j => .int (i + j)) (tOp (rI0 fun i j => .int (i + j)) (tOp (rI CMulW fun i j => .int (i * j)) (tVar 0) (tC (.int 1103515245))) (tOp (rI CMulW fun i j => .int (i * j)) (tOp (rI CMulW fun i j => .int (i * j)) (tC (.int 7919)) (tVar 1)) (tVar 1))) (tVar 1)) (tC (.int 1))) tNil)) (tC (.int 2147483647))) (gName 2))
    (tSeq (tAsg (tOp (rI (fun _ j => 0 < j) fun i j => .int (i % j)) (tCB rInt1 (tCons (tOp (rI0 fun i j => .int (i + j)) (tOp (rI CMulW fun i j => .int (i * j)) (tVar 2) (tVar 2)) (tC (.int 69621))) tNil)) (tC (.int 2147483629))) (gName 2))
    (tRet (tOp (rI (fun _ j => 0 < j) fun i j => .int (i % j)) (tCB rInt1 (tCons (tOp (rI CMulW fun i j => .int (i * j)) (tVar 2) (tC (.int 48271))) tNil)) (tC (.int 2147483587))))))
theorem d_law_hash (G : Glo K mg C)  {f : Addr} {cdv : Value} {A : Around} {outer : List Env} {s : Shared} {H : Hp} {E : XK} (hr : Room 0 (A.deeper (envOfC "_law_hash" (defScope (top 58)) s.heap.objs.size f cdv))) :
    PSs (cxOf (L2.CX P w) P w K mg base ["_law_seed", "_law_index", "_law_mixed"] "_law_hash" (defScope (top 58)) f cdv A outer s H E).nox (defBody (top 58)) (t_law_hash K) :=
    (pss_cons (ps_set (i := 2) sc_law_hash.nd rfl (by first | exact .inl rfl | exact .inr rfl) (pe_op op_mod (pe_callTy call_int1' (by rfl) G.g_int boot_int (pa_cons (pe_op op_add (pe_op op_add (pe_op op_add (pe_op op_mulW (pv 0) pe_int) (pe_op op_mulW (pe_op op_mulW pe_int (pv 1)) (pv 1))) (pv 1)) pe_int) pa_nil)) pe_int))
    (pss_cons (ps_set (i := 2) sc_law_hash.nd rfl (by first | exact .inl rfl | exact .inr rfl) (pe_op op_mod (pe_callTy call_int1' (by rfl) G.g_int boot_int (pa_cons (pe_op op_add (pe_op op_mulW (pv 2) (pv 2)) pe_int) pa_nil)) pe_int))
    (pss_one (ps_ret (pe_op op_mod (pe_callTy call_int1' (by rfl) G.g_int boot_int (pa_cons (pe_op op_mulW (pv 2) pe_int) pa_nil)) pe_int)))))
theorem sc_law_generator : FnScope ["_law_script", "_law_index", "_law_seed"] ["_law_script", "_law_index"] (defScope (top 59)) := ⟨rfl, rfl, rfl, by decide +kernel, rfl, by decide +kernel, by decide +kernel⟩
def t_law_generator (K : PySem.W.Frag) : TS :=
    (tSeq (tAsg (tCall (sp_law_cell K) [] E0 (tCons (tVar 0) (tCons (tVar 1) tNil))) (gName 2))
    (tRet (tLst (tCons (tOp (rI (fun _ j => 0 < j) fun i j => .int (i % j)) (tCB rInt1 (tCons (tCB rMax2' (tCons (tOp (rI0 fun i j => .int (i - j)) (tVar 2) (tOp (rI CPowW fun i j => .int (i ^ j.toNat)) (tC (.int 10)) (tC (.int 18)))) (tCons (tC (.int 0)) tNil))) tNil)) (tOp (rI CPowW fun i j => .int (i ^ j.toNat)) (tOp (rI CPowW fun i j => .int (i ^ j.toNat)) (tC (.int 10)) (tC (.int 60))) (tC (.int 10)))) (tCons (tOp (rI (fun _ j => 0 < j) fun i j => .int (i % j)) (tCB rInt1 (tCons (tVar 2) tNil)) (tC (.int 2147483647))) (tCons (tOp (rI CMulW fun i j => .int (i * j)) (tC (.int 1000)) (tVar 1)) tNil))))))
theorem d_law_generator (G : Glo K mg C) (c_law_cell : Fn P w K mg base (L2.CX P w) 1 "_law_cell" ["_law_script", "_law_index"] (sp_law_cell K)) {f : Addr} {cdv : Value} {A : Around} {outer : List Env} {s : Shared} {H : Hp} {E : XK} (hr : Room 1 (A.deeper (envOfC "_law_generator" (defScope (top 59)) s.heap.objs.size f cdv))) :
    PSs (cxOf (L2.CX P w) P w K mg base ["_law_script", "_law_index", "_law_seed"] "_law_generator" (defScope (top 59)) f cdv A outer s H E).nox (defBody (top 59)) (t_law_generator K) :=
    (pss_cons (ps_set (i := 2) sc_law_generator.nd rfl (by first | exact .inl rfl | exact .inr rfl) (pe_f c_law_cell hr (by decide) passL (by rfl) (pa_cons (pv 0) (pa_cons (pv 1) pa_nil))))
    (pss_one (ps_ret (pe_lst (pa_cons (pe_op op_mod (pe_callTy call_int1' (by rfl) G.g_int boot_int (pa_cons (pe_callB (call_max2' rfl) (by rfl) G.g_max boot_max (pa_cons (pe_op op_sub (pv 2) (pe_op op_powW pe_int pe_int)) (pa_cons pe_int pa_nil))) pa_nil)) (pe_op op_powW (pe_op op_powW pe_int pe_int) pe_int)) (pa_cons (pe_op op_mod (pe_callTy call_int1' (by rfl) G.g_int boot_int (pa_cons (pv 2) pa_nil)) pe_int) (pa_cons (pe_op op_mulW pe_int (pv 1)) pa_nil)))))))
theorem sc_law_random : FnScope ["_law_generator_here", "_law_limit", "_law_drawn", "_law_turn"] ["_law_generator_here", "_law_limit"] (defScope (top 60)) := ⟨rfl, rfl, rfl, by decide +kernel, rfl, by decide +kernel, by decide +kernel⟩
def t_law_random (K : PySem.W.Frag) : TS :=
    (tSeq (tIfS (tTest (tOp (rI0 fun i j => .bl (decide (j < i))) (tOp (rIxL K) (tVar 0) (tC (.int 0))) (tC (.int 0)))) (tSeq (tAsg (tOp (rI (fun _ j => 0 < j) fun i j => .int (i % j)) (tCB rInt1 (tCons (tOp (rIxL K) (tVar 0) (tC (.int 0))) tNil)) (tVar 1)) (gName 2))
    (tSeq (tAsg (tOp (rI CDivN fun i j => .int (i.fdiv j)) (tOp (rIxL K) (tVar 0) (tC (.int 0))) (tVar 1)) (gSub (tVar 0) (tC (.int 0)) rSetL))
    (tRet (tVar 2)))) tNext)
    (tSeq (tAsg (tC (.int 0)) (gName 2))
    (tSeq (tFor (iRng1 (tCons (tOp (rI0 fun i j => .int (i + j)) (tC (.int 1)) (tOp (rI CDivN fun i j => .int (i.fdiv j)) (tBits (tVar 1)) (tC (.int 30)))) tNil)) (gName 3) (tSeq (tAsg (tOp (rI0 fun i j => .int (i + j)) (tOp (rIxL K) (tVar 0) (tC (.int 2))) (tC (.int 1))) (gSub (tVar 0) (tC (.int 2)) rSetL))
    (tAsg (tOp (rI0 fun i j => .int (i + j)) (tOp (rI CMulW fun i j => .int (i * j)) (tVar 2) (tC (.int 2147483587))) (tCall sp_law_hash [] E0 (tCons (tOp (rIxL K) (tVar 0) (tC (.int 1))) (tCons (tOp (rIxL K) (tVar 0) (tC (.int 2))) tNil)))) (gName 2))))
    (tRet (tOp (rI (fun _ j => 0 < j) fun i j => .int (i % j)) (tCB rInt1 (tCons (tVar 2) tNil)) (tVar 1))))))
theorem d_law_random (G : Glo K mg C) (c_law_hash : Fn P w K mg base (L2.CX P w) 1 "_law_hash" ["_law_seed", "_law_index"] sp_law_hash) {f : Addr} {cdv : Value} {A : Around} {outer : List Env} {s : Shared} {H : Hp} {E : XK} (hr : Room 1 (A.deeper (envOfC "_law_random" (defScope (top 60)) s.heap.objs.size f cdv))) :
    PSs (cxOf (L2.CX P w) P w K mg base ["_law_generator_here", "_law_limit", "_law_drawn", "_law_turn"] "_law_random" (defScope (top 60)) f cdv A outer s H E).nox (defBody (top 60)) (t_law_random K) :=
    (pss_cons (ps_if (pt_cmpR op_gt (pe_ix (ixL K rfl) (pv 0) pe_int (fun _ _ => rfl)) pe_int (nomark _)) (pss_cons (ps_set (i := 2) sc_law_random.nd rfl (by first | exact .inl rfl | exact .inr rfl) (pe_op op_mod (pe_callTy call_int1' (by rfl) G.g_int boot_int (pa_cons (pe_ix (ixL K rfl) (pv 0) pe_int (fun _ _ => rfl)) pa_nil)) (pv 1)))
    (pss_cons (ps_asg (pe_op op_fdivN (pe_ix (ixL K rfl) (pv 0) pe_int (fun _ _ => rfl)) (pv 1)) (pg_sub (pv 0) pe_int set_list))
    (pss_one (ps_ret (pv 2))))) pss_nil)
    (pss_cons (ps_set (i := 2) sc_law_random.nd rfl (by first | exact .inl rfl | exact .inr rfl) pe_int)
    (pss_cons (ps_for PassesOwn.never rfl (pi_range1 (by rfl) G.g_range (pa_cons (pe_op op_add pe_int (pe_op op_fdivN (pe_bits (pv 1)) pe_int)) pa_nil)) (pg_name (i := 3) sc_law_random.nd rfl (by first | exact .inl rfl | exact .inr rfl)) (pss_cons (ps_asg (pe_op op_add (pe_ix (ixL K rfl) (pv 0) pe_int (fun _ _ => rfl)) pe_int) (pg_sub (pv 0) pe_int set_list))
    (pss_one (ps_set (i := 2) sc_law_random.nd rfl (by first | exact .inl rfl | exact .inr rfl) (pe_op op_add (pe_op op_mulW (pv 2) pe_int) (pe_f c_law_hash hr (by decide) passL (by rfl) (pa_cons (pe_ix (ixL K rfl) (pv 0) pe_int (fun _ _ => rfl)) (pa_cons (pe_ix (ixL K rfl) (pv 0) pe_int (fun _ _ => rfl)) pa_nil))))))))
    (pss_one (ps_ret (pe_op op_mod (pe_callTy call_int1' (by rfl) G.g_int boot_int (pa_cons (pv 2) pa_nil)) (pv 1)))))))
end
end K13
namespace K13
open PySem PySem.Spec PyProof.Rows L2 Evl
section
variable {K : PySem.W.Frag}
theorem mulW_of {i j : Int} (hi : i.natAbs < 2 ^ 200) (hj : j.natAbs < 2 ^ 200) : CMulW i j := by
  unfold CMulW
  have b : ∀ n : Nat, n < 2 ^ 200 → n.log2 ≤ 200 := fun n h => by
    by_cases z : n = 0
    · rw [z]; decide
    · have := (Nat.log2_lt z).mpr h
      omega
  have := b _ hi
  have := b _ hj
  omega
theorem p_law_cell (vs : List V) (H : Hp) (Q : VK) (E : XK) (h : sp_law_cell K vs H Q E) : t_law_cell K (En Q) (start ["_law_script", "_law_index"] vs) H := by
  obtain ⟨R, ⟨a, ns, i, rfl, ha, hl, rfl⟩, k⟩ := h
  refine q_when (et_test (ev_op (ev_var rfl) (ev_len (ev_var rfl) ha) rv_I0)) (fun hb H1 e => ?_) (fun hb H1 e => ?_)
  · have hi : i < ns.length := by
      have := of_decide_eq_true hb
      rw [List.length_map] at this
      omega
    have hx := get_pt (p := ns) hi
    exact s_ret (ev_op (ev_var rfl) (ev_var rfl) (rv_ixL (ex_l e ha) (atI_nat hx))) fun H2 e2 => k _ H2 (e.trans e2) ⟨_, rfl⟩
  · refine s_ret (v := .int ((cutI ns none (some 1)).sum % 1000003)) (ev_op (ev_sumL ?_) ev_c (rv_I (by decide))) fun H2 e2 => k _ H2 (e.trans e2) ⟨_, rfl⟩
    rw [← cutV_map]
    exact el_sl (ev_var rfl) eo_none (eo_some ev_c) (ex_l e ha)
theorem p_law_hash (vs : List V) (H : Hp) (Q : VK) (E : XK) (h : sp_law_hash vs H Q E) : t_law_hash K (En Q) (start ["_law_seed", "_law_index", "_law_mixed"] vs) H := by
  obtain ⟨R, ⟨x, i, rfl, h1, h2, h3, h4, rfl⟩, k⟩ := h
  have hii : (7919 * i).natAbs < 2 ^ 200 := by omega
  refine q_asg (ev_op (ev_int1 (ev_op (ev_op (ev_op (ev_op (ev_var rfl) ev_c (rv_I (mulW_of (by omega) (by decide)))) (ev_op (ev_op ev_c (ev_var rfl) (rv_I (mulW_of (by decide) (by omega)))) (ev_var rfl) (rv_I (mulW_of hii (by omega)))) rv_I0) (ev_var rfl) rv_I0) ev_c rv_I0)) ev_c (rv_I (by decide))) fun H1 e1 => ?_
  generalize hm : (x * 1103515245 + 7919 * i * i + i + 1) % 2147483647 = m
  have hm0 : 0 ≤ m ∧ m < 2147483647 := by omega
  refine q_asg (ev_op (ev_int1 (ev_op (ev_op (ev_var rfl) (ev_var rfl) (rv_I (mulW_of (by omega) (by omega)))) ev_c rv_I0)) ev_c (rv_I (by decide))) fun H2 e2 => ?_
  generalize hm2 : (m * m + 69621) % 2147483629 = m2
  have hm20 : 0 ≤ m2 ∧ m2 < 2147483629 := by omega
  refine s_ret (ev_op (ev_int1 (ev_op (ev_var rfl) ev_c (rv_I (mulW_of (by omega) (by decide))))) ev_c (rv_I (by decide))) fun H3 e3 => k _ H3 (e1.trans (e2.trans e3)) ⟨_, rfl, by omega, by omega⟩
theorem ev_max2' {σ : L2.St} {H : Hp} {ta tb : TE} {i j : Int} (ha : Ev ta σ H (.int i)) (hb : Ev tb σ H (.int j)) : Ev (tCB rMax2' (tCons ta (tCons tb tNil))) σ H (.int (if j > i then j else i)) := ev_cb (ea_cons ha (ea_cons hb ea_nil)) fun H1 e Q q => ⟨i, j, rfl, q H1 (Ex.refl H1)⟩
theorem ev_min2' {σ : L2.St} {H : Hp} {ta tb : TE} {i j : Int} (ha : Ev ta σ H (.int i)) (hb : Ev tb σ H (.int j)) : Ev (tCB rMin2' (tCons ta (tCons tb tNil))) σ H (.int (if j < i then j else i)) := ev_cb (ea_cons ha (ea_cons hb ea_nil)) fun H1 e Q q => ⟨i, j, rfl, q H1 (Ex.refl H1)⟩
theorem p_law_generator (vs : List V) (H : Hp) (Q : VK) (E : XK) (h : sp_law_generator K vs H Q E) : t_law_generator K (En Q) (start ["_law_script", "_law_index", "_law_seed"] vs) H := by
  obtain ⟨R, ⟨a, ns, i, rfl, ha, hl, hi, rfl⟩, k⟩ := h
  refine q_asgP (P := fun v _ => ∃ x : Int, v = .int x) (evp_callA (ea_cons (ev_var rfl) (ea_cons (ev_var rfl) ea_nil)) (spp_use fun H1 e => ⟨a, ns, i, rfl, ex_l e ha, hl, rfl⟩)) fun v H1 e1 ⟨x, ev⟩ => ?_
  subst ev
  have p1 : CPowW 10 18 := ⟨by decide, by decide +kernel⟩
  have p2 : CPowW 10 60 := ⟨by decide, by decide +kernel⟩
  have p3 : CPowW (10 ^ 60) 10 := ⟨by decide, by decide +kernel⟩
  have hpos : (0 : Int) < (10 ^ 60) ^ 10 := by decide
  generalize hM : (if (0 : Int) > x - 10 ^ 18 then 0 else x - 10 ^ 18) = M
  refine s_retL (xs := [.int (M % (10 ^ 60) ^ 10), .int (x % 2147483647), .int (1000 * i)]) (el_lst (ea_cons (ev_op (ev_int1 (ev_is (ev_max2' (ev_op (ev_var rfl) (ev_op ev_c ev_c (rv_I p1)) rv_I0) ev_c) (by rw [← hM]; rfl))) (ev_op (ev_op ev_c ev_c (rv_I p2)) ev_c (rv_I p3)) (rv_I hpos)) (ea_cons (ev_op (ev_int1 (ev_var rfl)) ev_c (rv_I (by decide))) (ea_cons (ev_op ev_c (ev_var rfl) (rv_I (mulW_of (by decide) (by omega)))) ea_nil))) (by show 3 ≤ 100000; decide)) fun p H2 hp e2 h2 => k _ H2 (e1.trans e2) ⟨p, rfl, fresh_back e1 hp, _, _, _, h2, Int.emod_nonneg _ (Int.ne_of_gt hpos), ?_, by omega, by omega, by omega, by omega⟩
  have := Int.emod_lt_of_pos M hpos
  have e : ((10 : Int) ^ 60) ^ 10 = 10 ^ 600 := Int.pow_mul.symm
  rw [e] at this
  rw [e]
  exact this
theorem RG.ex {b : Nat} {H H' : Hp} {g : Addr} (h : RG b H g) (e : Ex H H') : RG b H' g := let ⟨x, y, c, h1, h2⟩ := h; ⟨x, y, c, e _ _ h1, h2⟩
theorem bits_le {n : Nat} (h : n ≤ 100000) : Builtin.Int.intBits (n : Int) ≤ 17 := PySem.intBits_le_iff.mpr (by omega)
theorem p_law_random (vs : List V) (H : Hp) (Q : VK) (E : XK) (h : sp_law_random vs H Q E) : t_law_random K (En Q) (start ["_law_generator_here", "_law_limit", "_law_drawn", "_law_turn"] vs) H := by
  obtain ⟨g, n, b, rfl, h1, h2, ⟨x, y, c, hg, hx, hx2, hy, hy2, hc, hc2⟩, hb, k⟩ := h
  have hn : (0 : Int) < (n : Int) := by omega
  refine q_when (et_test (ev_op (ev_ixK (i := 0) (ev_var rfl) ev_c hg rfl) ev_c rv_I0)) (fun hb H1 e => ?_) (fun hb H1 e => ?_)
  · refine q_asg (ev_op (ev_int1 (ev_ixK (i := 0) (ev_var rfl) ev_c (e _ _ hg) rfl)) (ev_var rfl) (rv_I hn)) fun H2 e2 => ?_
    have hg2 := e2 _ _ (e _ _ hg)
    refine q_setL (j := 0) hg2 (ev_op (ev_ixK (i := 0) (ev_var rfl) ev_c hg2 rfl) (ev_var rfl) (rv_I ⟨by omega, by omega⟩)) (ev_var rfl) ev_c (by show 0 < 3; decide) fun H3 e3 => ?_
    have hg3 := e3 _ _ hg2
    refine s_ret (v := .int (x % (n : Int))) (ev_var rfl) fun H4 e4 => ?_
    have hr : x % (n : Int) = ((x % (n : Int)).toNat : Int) := (Int.toNat_of_nonneg (Int.emod_nonneg _ (by omega))).symm
    rw [hr]
    refine k _ (by have := Int.emod_lt_of_pos x hn; omega) H4 (((Kp.ex (e.trans (e2.trans e3))).trans (Kp.lst (List.mem_singleton.mpr rfl) hg3)).trans (Kp.ex e4)) ⟨x.fdiv n, y, c, e4 _ _ (upd_same ..), ?_, ?_, hy, hy2, hc, by omega⟩
    · rw [Int.fdiv_eq_ediv_of_nonneg _ (Int.le_of_lt hn)]
      exact Int.ediv_nonneg hx (Int.le_of_lt hn)
    · rw [Int.fdiv_eq_ediv_of_nonneg _ (Int.le_of_lt hn)]
      exact Int.lt_of_le_of_lt (Int.ediv_le_self _ hx) hx2
  · refine q_asg ev_c fun H2 e2 => ?_
    have hbits : (1 : Int) + (((Builtin.Int.intBits (n : Int) : Nat) : Int)).fdiv 30 = 1 := by
      have := bits_le h2
      rw [Int.fdiv_eq_ediv_of_nonneg _ (by decide)]
      omega
    have hev : Ev (tOp (rI0 fun i j => .int (i + j)) (tC (.int 1)) (tOp (rI CDivN fun i j => .int (i.fdiv j)) (tBits (tVar 1)) (tC (.int 30)))) [some (V.ref g), some (.int (n : Int)), some (.int 0), none] H2 (.int 1) := by
      refine ev_is (ev_op ev_c (ev_op (x := .int ((Builtin.Int.intBits (n : Int) : Nat) : Int)) (fun H1 e Q q => ⟨_, rfl, n, rfl, q H1 (Ex.refl H1)⟩) ev_c (rv_I ⟨by decide, by decide⟩)) rv_I0) (by rw [hbits])
    have hg2 := e2 _ _ (e _ _ hg)
    refine q_forR1 (n := 1) (ea_cons hev ea_nil) (by decide) (fun i σ' H' => (i = 0 ∧ σ' = [some (V.ref g), some (.int (n : Int)), some (.int 0), none] ∧ Ex H2 H') ∨ (i = 1 ∧ ∃ d z, σ' = [some (V.ref g), some (.int (n : Int)), some (.int d), z] ∧ Kp [g] H2 H' ∧ RG (b + 1) H' g)) (fun H3 e3 => .inl ⟨rfl, rfl, e3⟩) (fun i σ' H' hi hp => ?_) (fun σ' H' hp => ?_)
    · rcases hp with ⟨rfl, rfl, e3⟩ | ⟨rfl, -⟩
      · have hg3 := e3 _ _ hg2
        refine q_setL (j := 2) hg3 (ev_op (ev_ixK (i := 2) (ev_var rfl) ev_c hg3 rfl) ev_c rv_I0) (ev_var rfl) ev_c (by show 2 < 3; decide) fun H4 e4 => ?_
        have hg4 : upd H4 g (.lst [.int x, .int y, .int (c + 1)]) g = _ := upd_same ..
        refine s_asgP (P := fun v _ => ∃ d : Int, v = .int d) (evp_op (Pa := fun v _ => v = .int (0 * 2147483587)) (evp_opV (ev_var rfl) ev_c (rp_of (rv_I (mulW_of (by decide) (by decide))))) fun u H5 e5 eu => ⟨_, evp_callA (ea_cons (ev_ixK (i := 1) (ev_var rfl) ev_c (e5 _ _ hg4) rfl) (ea_cons (ev_ixK (i := 2) (ev_var rfl) ev_c (e5 _ _ hg4) rfl) ea_nil)) (spp_use fun H6 e6 => ⟨y, c + 1, rfl, hy, hy2, by omega, by omega, rfl⟩), ?_⟩) fun v H5 e5 ⟨d, ev⟩ => ?_
        · rintro w H6 e6 ⟨z, ez, -⟩
          subst eu ez
          exact fun H7 e7 Q q => ⟨_, _, rfl, rfl, q _ H7 (Ex.refl _) ⟨_, rfl⟩⟩
        · subst ev
          exact .inr ⟨rfl, d, _, rfl, ((Kp.ex (e3.trans e4)).trans (Kp.lst (List.mem_singleton.mpr rfl) (e4 _ _ hg3))).trans (Kp.ex e5), x, y, c + 1, e5 _ _ hg4, hx, hx2, hy, hy2, by omega, by omega⟩
      · omega
    · rcases hp with ⟨h, -⟩ | ⟨-, d, z, rfl, kp, hr⟩
      · cases h
      · refine s_ret (v := .int (d % (n : Int))) (ev_op (ev_int1 (ev_var rfl)) (ev_var rfl) (rv_I hn)) fun H4 e4 => ?_
        have hr' : d % (n : Int) = ((d % (n : Int)).toNat : Int) := (Int.toNat_of_nonneg (Int.emod_nonneg _ (by omega))).symm
        rw [hr']
        exact k _ (by have := Int.emod_lt_of_pos d hn; omega) H4 ((Kp.ex (e.trans e2)).trans (kp.trans (Kp.ex e4))) (hr.ex e4)
end
end K13
namespace K13
open PySem PySem.Spec PyProof.Rows L2 Evl
/-! the matrices that are drawn -/
def mostA (s l : Int) : Int := absI (s * l + 1) - 1
def sgA (r : Nat) : Int := 1 - 2 * (r : Int)
def pairs6 : List Pt := [[2, 2], [-2, 3], [2, -3], [3, 4], [-2, -2], [6, -2]]
def pairs11 : List Pt := [[1, 1], [-1, 1], [2, 0], [0, 2], [1, 2], [2, 1], [-2, 1], [2, 2], [3, 1], [0, 3], [-1, 3]]
def trip6 : List Pt := [[2, 2, 2], [2, 2, 3], [-2, 2, 2], [2, -2, 3], [-2, -2, -2], [3, 2, -2]]
def plane0 : List Mx := (List.range 8).flatMap fun (a : Nat) => (List.range 2).flatMap fun (b : Nat) => (List.range (2 * mostA (sgA b) (2 + a) + 1).toNat).map fun (r : Nat) => [[0, 0 - sgA b * (2 + a)], [1, mostA (sgA b) (2 + a) - r]]
def plane1 : List Mx := pairs6.flatMap fun q => (List.range 5).map fun (r : Nat) => [[q.getD 0 0, (r : Int) - 2], [0, q.getD 1 0]]
def plane2 : List Mx := (List.range 3).flatMap fun (a : Nat) => (List.range 2).flatMap fun (b : Nat) => (List.range (2 * mostA (sgA b) (2 + a) + 1).toNat).map fun (r : Nat) => [[1, 0 - 1 - sgA b * (2 + a) - ((r : Int) - mostA (sgA b) (2 + a))], [1, 0 - 1 - ((r : Int) - mostA (sgA b) (2 + a))]]
def plane3 : List Mx := pairs11.map fun q => [[q.getD 0 0, 0 - q.getD 1 0], [q.getD 1 0, q.getD 0 0]]
def planeM : List Mx := plane0 ++ (plane1 ++ (plane2 ++ plane3))
def lineM : List Mx := (List.range 2).flatMap fun (a : Nat) => (List.range 11).map fun (b : Nat) => [[sgA a * (2 + b)]]
def threes : List Pt := (List.range 3).flatMap fun (a : Nat) => (List.range 3).flatMap fun (b : Nat) => (List.range 3).map fun (c : Nat) => [(a : Int) - 1, (b : Int) - 1, (c : Int) - 1]
def cube0 : List Mx := (List.range 2).flatMap fun (a : Nat) => (List.range 8).map fun (b : Nat) => [[0, 0, sgA a * (2 + b)], [1, 0, 0], [0, 1, 0]]
def cube1 : List Mx := trip6.flatMap fun s => threes.map fun t => [[s.getD 0 0, t.getD 0 0, t.getD 1 0], [0, s.getD 1 0, t.getD 2 0], [0, 0, s.getD 2 0]]
def cube2 : List Mx := (List.range 2).flatMap fun (a : Nat) => (List.range 5).flatMap fun (b : Nat) => threes.map fun t => [[1, -1, t.getD 0 0], [1, 1, t.getD 1 0], [0, 0, sgA a * (2 + b)]]
def allM : List Mx := lineM ++ (planeM ++ (cube0 ++ (cube1 ++ cube2)))
/-- a promise that draws: the generator at g keeps its shape, all else stays -/
def spR (k : Nat) (A : List V → Hp → Addr → (V → Hp → Prop) → Prop) : Sp := fun vs H Q _ => ∃ g b R, A vs H g R ∧ RG b H g ∧ b + 1000 * k ≤ 900000000 ∧ ∀ v H', Kp [g] H H' → RG (b + k) H' g → R v H' → Q v H'
def sp_law_plane : Sp := spR 10 fun vs _ g R => vs = [.ref g] ∧ R = fun v H' => ∃ m ∈ planeM, MxV H' v m
def sp_law_matrix : Sp := spR 20 fun vs _ g R => vs = [.ref g] ∧ R = fun v H' => ∃ m ∈ allM, MxV H' v m
/-! expressions that draw: ints -/
def EvR (te : TE) (σ : L2.St) (g : Addr) (b b' : Nat) (S : Int → Prop) : Prop := ∀ H1, RG b H1 g → ∀ Q : VK, (∀ i H2, Kp [g] H1 H2 → RG b' H2 g → S i → Q (.int i) H2) → te σ H1 Q
def EvRA (ta : TA) (σ : L2.St) (g : Addr) (b b' : Nat) (S : Pt → Prop) : Prop := ∀ H1, RG b H1 g → ∀ Q : List V → Hp → Prop, (∀ p H2, Kp [g] H1 H2 → RG b' H2 g → S p → Q (p.map V.int) H2) → ta σ H1 Q
def EvRP (te : TE) (σ : L2.St) (g : Addr) (b b' : Nat) (S : Pt → Prop) : Prop := ∀ H1, RG b H1 g → ∀ Q : VK, (∀ p v H2, Kp [g] H1 H2 → RG b' H2 g → S p → PtV H2 v p → Q v H2) → te σ H1 Q
def EvRM (ta : TA) (σ : L2.St) (g : Addr) (b b' : Nat) (S : Mx → Prop) : Prop := ∀ H1, RG b H1 g → ∀ Q : List V → Hp → Prop, (∀ m as H2, Kp [g] H1 H2 → RG b' H2 g → S m → Pts H2 as m → Q (as.map V.ref) H2) → ta σ H1 Q
section
variable {K : PySem.W.Frag} {σ : L2.St} {g : Addr} {b b1 b2 : Nat} {S T : Int → Prop} {U W : Pt → Prop} {te ta tb : TE} {tr : TA}
theorem RG.mono (h : RG b H g) (l : b ≤ b1) : RG b1 H g := let ⟨x, y, c, h1, h2, h3, h4, h5, h6, h7⟩ := h; ⟨x, y, c, h1, h2, h3, h4, h5, h6, by omega⟩
theorem er_c {i : Int} : EvR (tC (.int i)) σ g b b (· = i) := fun H1 h Q q => q i H1 Kp.refl h rfl
theorem er_var {i : Nat} {x : Int} (h : σ[i]? = some (some (.int x))) : EvR (tVar i) σ g b b (· = x) := fun H1 hg Q q => ⟨_, h, q x H1 Kp.refl hg rfl⟩
theorem er_rnd {n : Nat} {tn : TE} (h : σ[0]? = some (some (.ref g))) (hn : EvR tn σ g b b (· = (n : Int))) (h1 : 1 ≤ n) (h2 : n ≤ 100000) (hb : b ≤ 900000000) :
    EvR (tCall sp_law_random [] E0 (tCons (tVar 0) (tCons tn tNil))) σ g b (b + 1) (fun i => ∃ r : Nat, r < n ∧ i = (r : Int)) := fun H1 hg Q q =>
  ⟨_, h, hn H1 hg _ fun i H2 k2 g2 hi => by
    subst hi
    exact ⟨g, n, b, rfl, h1, h2, g2, hb, fun r hr H' kp hg' => q _ H' (k2.trans kp) hg' ⟨r, hr, rfl⟩⟩⟩
theorem er_op {C : Int → Int → Prop} {f : Int → Int → Int} (ha : EvR ta σ g b b1 S) (hb : EvR tb σ g b1 b2 T) (hc : ∀ i j, S i → T j → C i j) : EvR (tOp (rI C fun i j => .int (f i j)) ta tb) σ g b b2 (fun k => ∃ i j, S i ∧ T j ∧ k = f i j) := fun H1 hg Q q =>
  ha H1 hg _ fun i H2 k2 g2 hi => hb H2 g2 _ fun j H3 k3 g3 hj => ⟨i, j, rfl, rfl, hc i j hi hj, q _ H3 (k2.trans k3) g3 ⟨i, j, hi, hj, rfl⟩⟩
theorem er_op0 {f : Int → Int → Int} (ha : EvR ta σ g b b1 S) (hb : EvR tb σ g b1 b2 T) : EvR (tOp (rI0 fun i j => .int (f i j)) ta tb) σ g b b2 (fun k => ∃ i j, S i ∧ T j ∧ k = f i j) := fun H1 hg Q q =>
  ha H1 hg _ fun i H2 k2 g2 hi => hb H2 g2 _ fun j H3 k3 g3 hj => ⟨i, j, rfl, rfl, q _ H3 (k2.trans k3) g3 ⟨i, j, hi, hj, rfl⟩⟩
theorem er_neg (ha : EvR ta σ g b b1 S) : EvR (tUn (rU fun i => .int (-i)) ta) σ g b b1 (fun k => ∃ i, S i ∧ k = -i) := fun H1 hg Q q =>
  ha H1 hg _ fun i H2 k2 g2 hi => ⟨i, rfl, q _ H2 k2 g2 ⟨i, hi, rfl⟩⟩
theorem er_abs (ha : EvR ta σ g b b1 S) : EvR (tCB rAbs1 (tCons ta tNil)) σ g b b1 (fun k => ∃ i, S i ∧ k = absI i) := fun H1 hg Q q =>
  ha H1 hg _ fun i H2 k2 g2 hi => ⟨i, rfl, q _ H2 k2 g2 ⟨i, hi, rfl⟩⟩
theorem EvR.imp (h : EvR ta σ g b b1 S) (k : ∀ i, S i → T i) : EvR ta σ g b b1 T := fun H1 hg Q q => h H1 hg Q fun i H2 k2 g2 hi => q i H2 k2 g2 (k i hi)
theorem era_nil : EvRA tNil σ g b b (· = []) := fun H1 hg Q q => q [] H1 Kp.refl hg rfl
theorem era_cons (ha : EvR ta σ g b b1 S) (hr : EvRA tr σ g b1 b2 U) : EvRA (tCons ta tr) σ g b b2 (fun p => ∃ x r, S x ∧ U r ∧ p = x :: r) := fun H1 hg Q q =>
  ha H1 hg _ fun i H2 k2 g2 hi => hr H2 g2 _ fun r H3 k3 g3 hr => q (i :: r) H3 (k2.trans k3) g3 ⟨i, r, hi, hr, rfl⟩
theorem erp (h : EvRA tr σ g b b1 U) (hz : ∀ p, U p → p.length ≤ 1000) : EvRP (tTup tr) σ g b b1 U := fun H1 hg Q q =>
  h H1 hg _ fun p H2 k2 g2 hp => ⟨by rw [List.length_map]; exact sz_of (Nat.le_trans (hz p hp) (by decide)), fun t ht => q p _ _ (k2.trans (Kp.ex (Ex.new ht))) (g2.ex (Ex.new ht)) hp ⟨t, rfl, upd_same⟩⟩
theorem erm_nil : EvRM tNil σ g b b (· = []) := fun H1 hg Q q => q [] [] H1 Kp.refl hg rfl .nil
theorem erm_cons {M : Mx → Prop} (ha : EvRP ta σ g b b1 U) (hr : EvRM tr σ g b1 b2 M) : EvRM (tCons ta tr) σ g b b2 (fun m => ∃ p r, U p ∧ M r ∧ m = p :: r) := fun H1 hg Q q =>
  ha H1 hg _ fun p v H2 k2 g2 hp ⟨a, ev, ha⟩ => by
    subst ev
    exact hr H2 g2 _ fun r as H3 k3 g3 hr has => q (p :: r) (a :: as) H3 (k2.trans k3) g3 ⟨p, r, hp, hr, rfl⟩ (.cons (k3.2 _ _ ha) has)
theorem s_retM {M : Mx → Prop} {D : Ends} {H : Hp} (h : EvRM tr σ g b b1 M) (hz : ∀ m, M m → m.length ≤ 1000) (hg : RG b H g) (k : ∀ v H' m, Kp [g] H H' → RG b1 H' g → M m → MxV H' v m → D.rt v H') : tRet (tTup tr) D σ H :=
  h H hg _ fun m as H2 k2 g2 hm has => ⟨by rw [List.length_map, has.len]; exact sz_of (Nat.le_trans (hz m hm) (by decide)), fun t ht => k _ _ m (k2.trans (Kp.ex (Ex.new ht))) (g2.ex (Ex.new ht)) hm ⟨t, as, rfl, upd_same, has.ex (Ex.new ht)⟩⟩
theorem q_asgR {i : Nat} {D : Ends} {tz : TS} {H : Hp} (h : EvR te σ g b b1 S) (hg : RG b H g) (k : ∀ x H1, Kp [g] H H1 → RG b1 H1 g → S x → tz D (σ.set i (some (.int x))) H1) : tSeq (tAsg te (gName i)) tz D σ H := h H hg _ k
theorem q_parR {i j : Nat} {D : Ends} {tz : TS} {H : Hp} (ha : EvR ta σ g b b1 S) (hb : EvR tb σ g b1 b2 T) (hg : RG b H g) (k : ∀ x y H1, Kp [g] H H1 → RG b2 H1 g → S x → T y → tz D ((σ.set i (some (.int x))).set j (some (.int y))) H1) : tSeq (tPar i j (tCons ta (tCons tb tNil))) tz D σ H :=
  ha H hg _ fun x H1 k1 g1 hx => hb H1 g1 _ fun y H2 k2 g2 hy => ⟨_, _, rfl, k x y H2 (k1.trans k2) g2 hx hy⟩
end
end K13
namespace K13
open PySem PySem.Spec PyProof.Rows L2 Evl
section
variable {P : Program} {w : World} {K : PySem.W.Frag} {mg : Str → Option Value} {base : Heap} {C Ct : Addr}
theorem sc_law_plane : FnScope ["_law_generator_here", "_law_kind", "_law_turn", "_law_most", "_law_by", "_law_one", "_law_other", "_law_low", "_law_sign"] ["_law_generator_here"] (defScope (top 68)) := ⟨rfl, rfl, rfl, by decide +kernel, rfl, by decide +kernel, by decide +kernel⟩
def t_law_plane (K : PySem.W.Frag) : TS :=
    (tSeq (tPar 1 2 (tCons (tCall sp_law_random [] E0 (tCons (tVar 0) (tCons (tC (.int 4)) tNil))) (tCons (tCall sp_law_random [] E0 (tCons (tVar 0) (tCons (tC (.int 11)) tNil))) tNil)))
    (tSeq (tIfS (tTest (tOp rEq (tVar 1) (tC (.int 0)))) (tSeq (tPar 7 8 (tCons (tOp (rI0 fun i j => .int (i + j)) (tC (.int 2)) (tCall sp_law_random [] E0 (tCons (tVar 0) (tCons (tC (.int 8)) tNil)))) (tCons (tOp (rI0 fun i j => .int (i - j)) (tC (.int 1)) (tOp (rI CMul fun i j => .int (i * j)) (tC (.int 2)) (tCall sp_law_random [] E0 (tCons (tVar 0) (tCons (tC (.int 2)) tNil))))) tNil)))
    (tSeq (tAsg (tOp (rI0 fun i j => .int (i - j)) (tCB rAbs1 (tCons (tOp (rI0 fun i j => .int (i + j)) (tOp (rI CMul fun i j => .int (i * j)) (tVar 8) (tVar 7)) (tC (.int 1))) tNil)) (tC (.int 1))) (gName 3))
    (tRet (tTup (tCons (tTup (tCons (tC (.int 0)) (tCons (tOp (rI0 fun i j => .int (i - j)) (tC (.int 0)) (tOp (rI CMul fun i j => .int (i * j)) (tVar 8) (tVar 7))) tNil))) (tCons (tTup (tCons (tC (.int 1)) (tCons (tOp (rI0 fun i j => .int (i - j)) (tVar 3) (tCall sp_law_random [] E0 (tCons (tVar 0) (tCons (tOp (rI0 fun i j => .int (i + j)) (tOp (rI CMul fun i j => .int (i * j)) (tC (.int 2)) (tVar 3)) (tC (.int 1))) tNil)))) tNil))) tNil)))))) tNext)
    (tSeq (tIfS (tTest (tOp rEq (tVar 1) (tC (.int 1)))) (tSeq (tAsg (tOp (rIxL K) (tLst (tCons (tTup (tCons (tC (.int 2)) (tCons (tC (.int 2)) tNil))) (tCons (tTup (tCons (tUn (rU fun i => .int (-i)) (tC (.int 2))) (tCons (tC (.int 3)) tNil))) (tCons (tTup (tCons (tC (.int 2)) (tCons (tUn (rU fun i => .int (-i)) (tC (.int 3))) tNil))) (tCons (tTup (tCons (tC (.int 3)) (tCons (tC (.int 4)) tNil))) (tCons (tTup (tCons (tUn (rU fun i => .int (-i)) (tC (.int 2))) (tCons (tUn (rU fun i => .int (-i)) (tC (.int 2))) tNil))) (tCons (tTup (tCons (tC (.int 6)) (tCons (tUn (rU fun i => .int (-i)) (tC (.int 2))) tNil))) tNil))))))) (tCall sp_law_random [] E0 (tCons (tVar 0) (tCons (tC (.int 6)) tNil)))) (gTup K 2 (gCons (gName 5) (gCons (gName 6) gNil))))
    (tRet (tTup (tCons (tTup (tCons (tVar 5) (tCons (tOp (rI0 fun i j => .int (i - j)) (tCall sp_law_random [] E0 (tCons (tVar 0) (tCons (tC (.int 5)) tNil))) (tC (.int 2))) tNil))) (tCons (tTup (tCons (tC (.int 0)) (tCons (tVar 6) tNil))) tNil))))) tNext)
    (tSeq (tIfS (tTest (tOp rEq (tVar 1) (tC (.int 2)))) (tSeq (tPar 7 8 (tCons (tOp (rI0 fun i j => .int (i + j)) (tC (.int 2)) (tCall sp_law_random [] E0 (tCons (tVar 0) (tCons (tC (.int 3)) tNil)))) (tCons (tOp (rI0 fun i j => .int (i - j)) (tC (.int 1)) (tOp (rI CMul fun i j => .int (i * j)) (tC (.int 2)) (tCall sp_law_random [] E0 (tCons (tVar 0) (tCons (tC (.int 2)) tNil))))) tNil)))
    (tSeq (tAsg (tOp (rI0 fun i j => .int (i - j)) (tCB rAbs1 (tCons (tOp (rI0 fun i j => .int (i + j)) (tOp (rI CMul fun i j => .int (i * j)) (tVar 8) (tVar 7)) (tC (.int 1))) tNil)) (tC (.int 1))) (gName 3))
    (tSeq (tAsg (tOp (rI0 fun i j => .int (i - j)) (tCall sp_law_random [] E0 (tCons (tVar 0) (tCons (tOp (rI0 fun i j => .int (i + j)) (tOp (rI CMul fun i j => .int (i * j)) (tC (.int 2)) (tVar 3)) (tC (.int 1))) tNil))) (tVar 3)) (gName 4))
    (tRet (tTup (tCons (tTup (tCons (tC (.int 1)) (tCons (tOp (rI0 fun i j => .int (i - j)) (tOp (rI0 fun i j => .int (i - j)) (tOp (rI0 fun i j => .int (i - j)) (tC (.int 0)) (tC (.int 1))) (tOp (rI CMul fun i j => .int (i * j)) (tVar 8) (tVar 7))) (tVar 4)) tNil))) (tCons (tTup (tCons (tC (.int 1)) (tCons (tOp (rI0 fun i j => .int (i - j)) (tOp (rI0 fun i j => .int (i - j)) (tC (.int 0)) (tC (.int 1))) (tVar 4)) tNil))) tNil))))))) tNext)
    (tSeq (tAsg (tOp (rIxL K) (tLst (tCons (tTup (tCons (tC (.int 1)) (tCons (tC (.int 1)) tNil))) (tCons (tTup (tCons (tUn (rU fun i => .int (-i)) (tC (.int 1))) (tCons (tC (.int 1)) tNil))) (tCons (tTup (tCons (tC (.int 2)) (tCons (tC (.int 0)) tNil))) (tCons (tTup (tCons (tC (.int 0)) (tCons (tC (.int 2)) tNil))) (tCons (tTup (tCons (tC (.int 1)) (tCons (tC (.int 2)) tNil))) (tCons (tTup (tCons (tC (.int 2)) (tCons (tC (.int 1)) tNil))) (tCons (tTup (tCons (tUn (rU fun i => .int (-i)) (tC (.int 2))) (tCons (tC (.int 1)) tNil))) (tCons (tTup (tCons (tC (.int 2)) (tCons (tC (.int 2)) tNil))) (tCons (tTup (tCons (tC (.int 3)) (tCons (tC (.int 1)) tNil))) (tCons (tTup (tCons (tC (.int 0)) (tCons (tC (.int 3)) tNil))) (tCons (tTup (tCons (tUn (rU fun i => .int (-i)) (tC (.int 1))) (tCons (tC (.int 3)) tNil))) tNil)))))))))))) (tVar 2)) (gTup K 2 (gCons (gName 5) (gCons (gName 6) gNil))))
    (tRet (tTup (tCons (tTup (tCons (tVar 5) (tCons (tOp (rI0 fun i j => .int (i - j)) (tC (.int 0)) (tVar 6)) tNil))) (tCons (tTup (tCons (tVar 6) (tCons (tVar 5) tNil))) tNil)))))))))
theorem d_law_plane (G : Glo K mg C) (c_law_random : Fn P w K mg base (L2.CX P w) 2 "_law_random" ["_law_generator_here", "_law_limit"] sp_law_random) {f : Addr} {cdv : Value} {A : Around} {outer : List Env} {s : Shared} {H : Hp} {E : XK} (hr : Room 2 (A.deeper (envOfC "_law_plane" (defScope (top 68)) s.heap.objs.size f cdv))) :
    PSs (cxOf (L2.CX P w) P w K mg base ["_law_generator_here", "_law_kind", "_law_turn", "_law_most", "_law_by", "_law_one", "_law_other", "_law_low", "_law_sign"] "_law_plane" (defScope (top 68)) f cdv A outer s H E).nox (defBody (top 68)) (t_law_plane K) :=
    (pss_cons (ps_par rfl sc_law_plane.nd (i := 1) (j := 2) rfl rfl (by decide) rfl rfl (pa_cons (pe_f c_law_random hr (by decide) passL (by rfl) (pa_cons (pv 0) (pa_cons pe_int pa_nil))) (pa_cons (pe_f c_law_random hr (by decide) passL (by rfl) (pa_cons (pv 0) (pa_cons pe_int pa_nil))) pa_nil)) (by rfl))
    (pss_cons (ps_if (pt_cmpR op_eq (pv 1) pe_int (nomark _)) (pss_cons (ps_par rfl sc_law_plane.nd (i := 7) (j := 8) rfl rfl (by decide) rfl rfl (pa_cons (pe_op op_add pe_int (pe_f c_law_random hr (by decide) passL (by rfl) (pa_cons (pv 0) (pa_cons pe_int pa_nil)))) (pa_cons (pe_op op_sub pe_int (pe_op op_mul pe_int (pe_f c_law_random hr (by decide) passL (by rfl) (pa_cons (pv 0) (pa_cons pe_int pa_nil))))) pa_nil)) (by rfl))
    (pss_cons (ps_set (i := 3) sc_law_plane.nd rfl (by first | exact .inl rfl | exact .inr rfl) (pe_op op_sub (pe_callB call_abs1 (by rfl) G.g_abs boot_abs (pa_cons (pe_op op_add (pe_op op_mul (pv 8) (pv 7)) pe_int) pa_nil)) pe_int))
    (pss_one (ps_ret (pe_tup (pa_cons (pe_tup (pa_cons pe_int (pa_cons (pe_op op_sub pe_int (pe_op op_mul (pv 8) (pv 7))) pa_nil))) (pa_cons (pe_tup (pa_cons pe_int (pa_cons (pe_op op_sub (pv 3) (pe_f c_law_random hr (by decide) passL (by rfl) (pa_cons (pv 0) (pa_cons (pe_op op_add (pe_op op_mul pe_int (pv 3)) pe_int) pa_nil)))) pa_nil))) pa_nil))))))) pss_nil)
    (pss_cons (ps_if (pt_cmpR op_eq (pv 1) pe_int (nomark _)) (pss_cons (ps_asg (pe_ix (ixL K rfl) (pe_lst (pa_cons (pe_tup (pa_cons pe_int (pa_cons pe_int pa_nil))) (pa_cons (pe_tup (pa_cons (pe_un un_neg pe_int) (pa_cons pe_int pa_nil))) (pa_cons (pe_tup (pa_cons pe_int (pa_cons (pe_un un_neg pe_int) pa_nil))) (pa_cons (pe_tup (pa_cons pe_int (pa_cons pe_int pa_nil))) (pa_cons (pe_tup (pa_cons (pe_un un_neg pe_int) (pa_cons (pe_un un_neg pe_int) pa_nil))) (pa_cons (pe_tup (pa_cons pe_int (pa_cons (pe_un un_neg pe_int) pa_nil))) pa_nil))))))) (pe_f c_law_random hr (by decide) passL (by rfl) (pa_cons (pv 0) (pa_cons pe_int pa_nil))) (fun _ _ => rfl)) (pgT K rfl rfl (pgs_cons (pg_name (i := 5) sc_law_plane.nd rfl (by first | exact .inl rfl | exact .inr rfl)) (pgs_cons (pg_name (i := 6) sc_law_plane.nd rfl (by first | exact .inl rfl | exact .inr rfl)) pgs_nil))))
    (pss_one (ps_ret (pe_tup (pa_cons (pe_tup (pa_cons (pv 5) (pa_cons (pe_op op_sub (pe_f c_law_random hr (by decide) passL (by rfl) (pa_cons (pv 0) (pa_cons pe_int pa_nil))) pe_int) pa_nil))) (pa_cons (pe_tup (pa_cons pe_int (pa_cons (pv 6) pa_nil))) pa_nil)))))) pss_nil)
    (pss_cons (ps_if (pt_cmpR op_eq (pv 1) pe_int (nomark _)) (pss_cons (ps_par rfl sc_law_plane.nd (i := 7) (j := 8) rfl rfl (by decide) rfl rfl (pa_cons (pe_op op_add pe_int (pe_f c_law_random hr (by decide) passL (by rfl) (pa_cons (pv 0) (pa_cons pe_int pa_nil)))) (pa_cons (pe_op op_sub pe_int (pe_op op_mul pe_int (pe_f c_law_random hr (by decide) passL (by rfl) (pa_cons (pv 0) (pa_cons pe_int pa_nil))))) pa_nil)) (by rfl))
    (pss_cons (ps_set (i := 3) sc_law_plane.nd rfl (by first | exact .inl rfl | exact .inr rfl) (pe_op op_sub (pe_callB call_abs1 (by rfl) G.g_abs boot_abs (pa_cons (pe_op op_add (pe_op op_mul (pv 8) (pv 7)) pe_int) pa_nil)) pe_int))
    (pss_cons (ps_set (i := 4) sc_law_plane.nd rfl (by first | exact .inl rfl | exact .inr rfl) (pe_op op_sub (pe_f c_law_random hr (by decide) passL (by rfl) (pa_cons (pv 0) (pa_cons (pe_op op_add (pe_op op_mul pe_int (pv 3)) pe_int) pa_nil))) (pv 3)))
    (pss_one (ps_ret (pe_tup (pa_cons (pe_tup (pa_cons pe_int (pa_cons (pe_op op_sub (pe_op op_sub (pe_op op_sub pe_int pe_int) (pe_op op_mul (pv 8) (pv 7))) (pv 4)) pa_nil))) (pa_cons (pe_tup (pa_cons pe_int (pa_cons (pe_op op_sub (pe_op op_sub pe_int pe_int) (pv 4)) pa_nil))) pa_nil)))))))) pss_nil)
    (pss_cons (ps_asg (pe_ix (ixL K rfl) (pe_lst (pa_cons (pe_tup (pa_cons pe_int (pa_cons pe_int pa_nil))) (pa_cons (pe_tup (pa_cons (pe_un un_neg pe_int) (pa_cons pe_int pa_nil))) (pa_cons (pe_tup (pa_cons pe_int (pa_cons pe_int pa_nil))) (pa_cons (pe_tup (pa_cons pe_int (pa_cons pe_int pa_nil))) (pa_cons (pe_tup (pa_cons pe_int (pa_cons pe_int pa_nil))) (pa_cons (pe_tup (pa_cons pe_int (pa_cons pe_int pa_nil))) (pa_cons (pe_tup (pa_cons (pe_un un_neg pe_int) (pa_cons pe_int pa_nil))) (pa_cons (pe_tup (pa_cons pe_int (pa_cons pe_int pa_nil))) (pa_cons (pe_tup (pa_cons pe_int (pa_cons pe_int pa_nil))) (pa_cons (pe_tup (pa_cons pe_int (pa_cons pe_int pa_nil))) (pa_cons (pe_tup (pa_cons (pe_un un_neg pe_int) (pa_cons pe_int pa_nil))) pa_nil)))))))))))) (pv 2) (fun _ _ => rfl)) (pgT K rfl rfl (pgs_cons (pg_name (i := 5) sc_law_plane.nd rfl (by first | exact .inl rfl | exact .inr rfl)) (pgs_cons (pg_name (i := 6) sc_law_plane.nd rfl (by first | exact .inl rfl | exact .inr rfl)) pgs_nil))))
    (pss_one (ps_ret (pe_tup (pa_cons (pe_tup (pa_cons (pv 5) (pa_cons (pe_op op_sub pe_int (pv 6)) pa_nil))) (pa_cons (pe_tup (pa_cons (pv 6) (pa_cons (pv 5) pa_nil))) pa_nil))))))))))
theorem sc_law_matrix : FnScope ["_law_generator_here", "_law_size", "_law_more", "_law_kind", "_law_sign", "_law_sides", "_law_at"] ["_law_generator_here"] (defScope (top 69)) := ⟨rfl, rfl, rfl, by decide +kernel, rfl, by decide +kernel, by decide +kernel⟩
def t_law_matrix (K : PySem.W.Frag) : TS :=
    (tSeq (tAsg (tOp (rIxL K) (tLst (tCons (tC (.int 1)) (tCons (tC (.int 1)) (tCons (tC (.int 2)) (tCons (tC (.int 2)) (tCons (tC (.int 2)) (tCons (tC (.int 2)) (tCons (tC (.int 3)) (tCons (tC (.int 3)) tNil))))))))) (tCall sp_law_random [] E0 (tCons (tVar 0) (tCons (tC (.int 8)) tNil)))) (gName 1))
    (tSeq (tIfS (tTest (tOp rEq (tVar 1) (tC (.int 1)))) (tRet (tTup (tCons (tTup (tCons (tOp (rI CMul fun i j => .int (i * j)) (tOp (rI0 fun i j => .int (i - j)) (tC (.int 1)) (tOp (rI CMul fun i j => .int (i * j)) (tC (.int 2)) (tCall sp_law_random [] E0 (tCons (tVar 0) (tCons (tC (.int 2)) tNil))))) (tOp (rI0 fun i j => .int (i + j)) (tC (.int 2)) (tCall sp_law_random [] E0 (tCons (tVar 0) (tCons (tC (.int 11)) tNil))))) tNil)) tNil))) tNext)
    (tSeq (tIfS (tTest (tOp rEq (tVar 1) (tC (.int 2)))) (tRet (tCall sp_law_plane [] E0 (tCons (tVar 0) tNil))) tNext)
    (tSeq (tPar 3 4 (tCons (tCall sp_law_random [] E0 (tCons (tVar 0) (tCons (tC (.int 3)) tNil))) (tCons (tOp (rI0 fun i j => .int (i - j)) (tC (.int 1)) (tOp (rI CMul fun i j => .int (i * j)) (tC (.int 2)) (tCall sp_law_random [] E0 (tCons (tVar 0) (tCons (tC (.int 2)) tNil))))) tNil)))
    (tSeq (tIfS (tTest (tOp rEq (tVar 3) (tC (.int 0)))) (tRet (tTup (tCons (tTup (tCons (tC (.int 0)) (tCons (tC (.int 0)) (tCons (tOp (rI CMul fun i j => .int (i * j)) (tVar 4) (tOp (rI0 fun i j => .int (i + j)) (tC (.int 2)) (tCall sp_law_random [] E0 (tCons (tVar 0) (tCons (tC (.int 8)) tNil))))) tNil)))) (tCons (tTup (tCons (tC (.int 1)) (tCons (tC (.int 0)) (tCons (tC (.int 0)) tNil)))) (tCons (tTup (tCons (tC (.int 0)) (tCons (tC (.int 1)) (tCons (tC (.int 0)) tNil)))) tNil))))) tNext)
    (tSeq (tAsg (tLc (iRng1 (tCons (tC (.int 3)) tNil)) (gName 6) tYes (tOp (rI0 fun i j => .int (i - j)) (tCall sp_law_random [] E0 (tCons (tVar 0) (tCons (tC (.int 3)) tNil))) (tC (.int 1))) [6]) (gName 2))
    (tSeq (tIfS (tTest (tOp rEq (tVar 3) (tC (.int 1)))) (tSeq (tAsg (tOp (rIxL K) (tLst (tCons (tTup (tCons (tC (.int 2)) (tCons (tC (.int 2)) (tCons (tC (.int 2)) tNil)))) (tCons (tTup (tCons (tC (.int 2)) (tCons (tC (.int 2)) (tCons (tC (.int 3)) tNil)))) (tCons (tTup (tCons (tUn (rU fun i => .int (-i)) (tC (.int 2))) (tCons (tC (.int 2)) (tCons (tC (.int 2)) tNil)))) (tCons (tTup (tCons (tC (.int 2)) (tCons (tUn (rU fun i => .int (-i)) (tC (.int 2))) (tCons (tC (.int 3)) tNil)))) (tCons (tTup (tCons (tUn (rU fun i => .int (-i)) (tC (.int 2))) (tCons (tUn (rU fun i => .int (-i)) (tC (.int 2))) (tCons (tUn (rU fun i => .int (-i)) (tC (.int 2))) tNil)))) (tCons (tTup (tCons (tC (.int 3)) (tCons (tC (.int 2)) (tCons (tUn (rU fun i => .int (-i)) (tC (.int 2))) tNil)))) tNil))))))) (tCall sp_law_random [] E0 (tCons (tVar 0) (tCons (tC (.int 6)) tNil)))) (gName 5))
    (tRet (tTup (tCons (tTup (tCons (tOp (rIxT K) (tVar 5) (tC (.int 0))) (tCons (tOp (rIxL K) (tVar 2) (tC (.int 0))) (tCons (tOp (rIxL K) (tVar 2) (tC (.int 1))) tNil)))) (tCons (tTup (tCons (tC (.int 0)) (tCons (tOp (rIxT K) (tVar 5) (tC (.int 1))) (tCons (tOp (rIxL K) (tVar 2) (tC (.int 2))) tNil)))) (tCons (tTup (tCons (tC (.int 0)) (tCons (tC (.int 0)) (tCons (tOp (rIxT K) (tVar 5) (tC (.int 2))) tNil)))) tNil)))))) tNext)
    (tRet (tTup (tCons (tTup (tCons (tC (.int 1)) (tCons (tUn (rU fun i => .int (-i)) (tC (.int 1))) (tCons (tOp (rIxL K) (tVar 2) (tC (.int 0))) tNil)))) (tCons (tTup (tCons (tC (.int 1)) (tCons (tC (.int 1)) (tCons (tOp (rIxL K) (tVar 2) (tC (.int 1))) tNil)))) (tCons (tTup (tCons (tC (.int 0)) (tCons (tC (.int 0)) (tCons (tOp (rI CMul fun i j => .int (i * j)) (tVar 4) (tOp (rI0 fun i j => .int (i + j)) (tC (.int 2)) (tCall sp_law_random [] E0 (tCons (tVar 0) (tCons (tC (.int 5)) tNil))))) tNil)))) tNil))))))))))))
theorem d_law_matrix (G : Glo K mg C) (c_law_random : Fn P w K mg base (L2.CX P w) 2 "_law_random" ["_law_generator_here", "_law_limit"] sp_law_random) (c_law_plane : Fn P w K mg base (L2.CX P w) 3 "_law_plane" ["_law_generator_here"] sp_law_plane) {f : Addr} {cdv : Value} {A : Around} {outer : List Env} {s : Shared} {H : Hp} {E : XK} (hr : Room 3 (A.deeper (envOfC "_law_matrix" (defScope (top 69)) s.heap.objs.size f cdv))) :
    PSs (cxOf (L2.CX P w) P w K mg base ["_law_generator_here", "_law_size", "_law_more", "_law_kind", "_law_sign", "_law_sides", "_law_at"] "_law_matrix" (defScope (top 69)) f cdv A outer s H E).nox (defBody (top 69)) (t_law_matrix K) :=
    (pss_cons (ps_set (i := 1) sc_law_matrix.nd rfl (by first | exact .inl rfl | exact .inr rfl) (pe_ix (ixL K rfl) (pe_lst (pa_cons pe_int (pa_cons pe_int (pa_cons pe_int (pa_cons pe_int (pa_cons pe_int (pa_cons pe_int (pa_cons pe_int (pa_cons pe_int pa_nil))))))))) (pe_f c_law_random hr (by decide) passL (by rfl) (pa_cons (pv 0) (pa_cons pe_int pa_nil))) (fun _ _ => rfl)))
    (pss_cons (ps_if (pt_cmpR op_eq (pv 1) pe_int (nomark _)) (pss_one (ps_ret (pe_tup (pa_cons (pe_tup (pa_cons (pe_op op_mul (pe_op op_sub pe_int (pe_op op_mul pe_int (pe_f c_law_random hr (by decide) passL (by rfl) (pa_cons (pv 0) (pa_cons pe_int pa_nil))))) (pe_op op_add pe_int (pe_f c_law_random hr (by decide) passL (by rfl) (pa_cons (pv 0) (pa_cons pe_int pa_nil))))) pa_nil)) pa_nil)))) pss_nil)
    (pss_cons (ps_if (pt_cmpR op_eq (pv 1) pe_int (nomark _)) (pss_one (ps_ret (pe_f c_law_plane hr (by decide) passL (by rfl) (pa_cons (pv 0) pa_nil)))) pss_nil)
    (pss_cons (ps_par rfl sc_law_matrix.nd (i := 3) (j := 4) rfl rfl (by decide) rfl rfl (pa_cons (pe_f c_law_random hr (by decide) passL (by rfl) (pa_cons (pv 0) (pa_cons pe_int pa_nil))) (pa_cons (pe_op op_sub pe_int (pe_op op_mul pe_int (pe_f c_law_random hr (by decide) passL (by rfl) (pa_cons (pv 0) (pa_cons pe_int pa_nil))))) pa_nil)) (by rfl))
    (pss_cons (ps_if (pt_cmpR op_eq (pv 3) pe_int (nomark _)) (pss_one (ps_ret (pe_tup (pa_cons (pe_tup (pa_cons pe_int (pa_cons pe_int (pa_cons (pe_op op_mul (pv 4) (pe_op op_add pe_int (pe_f c_law_random hr (by decide) passL (by rfl) (pa_cons (pv 0) (pa_cons pe_int pa_nil))))) pa_nil)))) (pa_cons (pe_tup (pa_cons pe_int (pa_cons pe_int (pa_cons pe_int pa_nil)))) (pa_cons (pe_tup (pa_cons pe_int (pa_cons pe_int (pa_cons pe_int pa_nil)))) pa_nil)))))) pss_nil)
    (pss_cons (ps_setLc (i := 2) (own := [("_law_at", 6)]) rfl sc_law_matrix.nd rfl rfl (sw_true rfl rfl rfl (by decide +kernel)) (pi_range1 (by rfl) G.g_range (pa_cons pe_int pa_nil)) (blkOk_by (N := ["_law_generator_here", "_law_size", "_law_more", "_law_kind", "_law_sign", "_law_sides", "_law_at"]) (sc := defScope (top 69)) (by decide +kernel)) (fun _ _ _ _ _ => (pg_name (i := 6) sc_law_matrix.nd rfl (by first | exact .inl rfl | exact .inr rfl))) (fun _ _ _ _ _ => pts_nil) (fun _ _ _ _ _ => (pe_op op_sub (pe_f c_law_random hr (by decide) passL (by rfl) (pa_cons (pv 0) (pa_cons pe_int pa_nil))) pe_int)))
    (pss_cons (ps_if (pt_cmpR op_eq (pv 3) pe_int (nomark _)) (pss_cons (ps_set (i := 5) sc_law_matrix.nd rfl (by first | exact .inl rfl | exact .inr rfl) (pe_ix (ixL K rfl) (pe_lst (pa_cons (pe_tup (pa_cons pe_int (pa_cons pe_int (pa_cons pe_int pa_nil)))) (pa_cons (pe_tup (pa_cons pe_int (pa_cons pe_int (pa_cons pe_int pa_nil)))) (pa_cons (pe_tup (pa_cons (pe_un un_neg pe_int) (pa_cons pe_int (pa_cons pe_int pa_nil)))) (pa_cons (pe_tup (pa_cons pe_int (pa_cons (pe_un un_neg pe_int) (pa_cons pe_int pa_nil)))) (pa_cons (pe_tup (pa_cons (pe_un un_neg pe_int) (pa_cons (pe_un un_neg pe_int) (pa_cons (pe_un un_neg pe_int) pa_nil)))) (pa_cons (pe_tup (pa_cons pe_int (pa_cons pe_int (pa_cons (pe_un un_neg pe_int) pa_nil)))) pa_nil))))))) (pe_f c_law_random hr (by decide) passL (by rfl) (pa_cons (pv 0) (pa_cons pe_int pa_nil))) (fun _ _ => rfl)))
    (pss_one (ps_ret (pe_tup (pa_cons (pe_tup (pa_cons (pe_ix (ixT K rfl) (pv 5) pe_int (fun _ _ => rfl)) (pa_cons (pe_ix (ixL K rfl) (pv 2) pe_int (fun _ _ => rfl)) (pa_cons (pe_ix (ixL K rfl) (pv 2) pe_int (fun _ _ => rfl)) pa_nil)))) (pa_cons (pe_tup (pa_cons pe_int (pa_cons (pe_ix (ixT K rfl) (pv 5) pe_int (fun _ _ => rfl)) (pa_cons (pe_ix (ixL K rfl) (pv 2) pe_int (fun _ _ => rfl)) pa_nil)))) (pa_cons (pe_tup (pa_cons pe_int (pa_cons pe_int (pa_cons (pe_ix (ixT K rfl) (pv 5) pe_int (fun _ _ => rfl)) pa_nil)))) pa_nil))))))) pss_nil)
    (pss_one (ps_ret (pe_tup (pa_cons (pe_tup (pa_cons pe_int (pa_cons (pe_un un_neg pe_int) (pa_cons (pe_ix (ixL K rfl) (pv 2) pe_int (fun _ _ => rfl)) pa_nil)))) (pa_cons (pe_tup (pa_cons pe_int (pa_cons pe_int (pa_cons (pe_ix (ixL K rfl) (pv 2) pe_int (fun _ _ => rfl)) pa_nil)))) (pa_cons (pe_tup (pa_cons pe_int (pa_cons pe_int (pa_cons (pe_op op_mul (pv 4) (pe_op op_add pe_int (pe_f c_law_random hr (by decide) passL (by rfl) (pa_cons (pv 0) (pa_cons pe_int pa_nil))))) pa_nil)))) pa_nil)))))))))))))
end
end K13
namespace K13
open PySem PySem.Spec PyProof.Rows L2 Evl
theorem RG.ne {b : Nat} {H : Hp} {g p : Addr} (h : RG b H g) (hp : H p = none) : p ≠ g := fun e => by
  obtain ⟨_, _, _, h, -⟩ := h
  rw [e, h] at hp
  cases hp
section
variable {K : PySem.W.Frag} {σ : L2.St} {g : Addr} {b b1 b2 : Nat}
theorem pick_in {tr : TA} {tn : TE} {M : Mx → Prop} {ps : List Pt} {H : Hp} {Q : VK} (h : EvRM tr σ g b b1 M) (hM : ∀ m, M m → m = ps) (hz : ps.length ≤ 1000) (hn : EvR tn σ g b1 b2 fun i => ∃ r : Nat, r < ps.length ∧ i = (r : Int)) (hg : RG b H g)
    (k : ∀ p, p ∈ ps → ∀ t H1, Kp [g] H H1 → RG b2 H1 g → PtA H1 t p → Q (.ref t) H1) : tOp (rIxL K) (tLst tr) tn σ H Q :=
  h H hg _ fun m as H2 k2 g2 hm has => by
    have := hM m hm
    subst this
    refine ⟨by rw [List.length_map, has.len]; exact sz_of (Nat.le_trans hz (by decide)), fun t ht => ?_⟩
    refine hn _ (g2.ex (Ex.new ht)) _ fun i H3 k3 g3 ⟨r, hr, ei⟩ => ?_
    subst ei
    have hl := k3.1 t _ (by rw [List.mem_singleton]; exact g2.ne ht) upd_same
    obtain ⟨a, ea, ha⟩ := has.get2 (get_some hr [])
    refine ⟨t, _, (r : Int), .ref a, rfl, rfl, sq_of hl, atI_nat (by rw [List.getElem?_map, ea]; rfl), k _ (getD_mem hr []) a H3 ((k2.trans (Kp.ex (Ex.new ht))).trans k3) g3 (k3.2 _ _ (Ex.new ht _ _ ha))⟩
theorem q_pick {tr : TA} {tn : TE} {gt : TG} {tz : TS} {D : Ends} {M : Mx → Prop} {ps : List Pt} {H : Hp} (h : EvRM tr σ g b b1 M) (hM : ∀ m, M m → m = ps) (hz : ps.length ≤ 1000) (hn : EvR tn σ g b1 b2 fun i => ∃ r : Nat, r < ps.length ∧ i = (r : Int)) (hg : RG b H g)
    (k : ∀ p, p ∈ ps → ∀ t H1, Kp [g] H H1 → RG b2 H1 g → PtA H1 t p → gt (.ref t) σ H1 (tz D)) : tSeq (tAsg (tOp (rIxL K) (tLst tr) tn) gt) tz D σ H := pick_in (K := K) h hM hz hn hg k
theorem er_nat {te : TE} {i : Int} {n : Nat} (h : EvR te σ g b b1 (· = i)) (e : i = (n : Int)) : EvR te σ g b b1 (· = (n : Int)) := h.imp fun _ hi => hi.trans e
theorem most_ok : ∀ a : Nat, a < 8 → ∀ b : Nat, b < 2 → 0 ≤ mostA (sgA b) (2 + (a : Int)) ∧ mostA (sgA b) (2 + (a : Int)) ≤ 100 := by decide
theorem pair6 : ∀ p ∈ pairs6, p = [p.getD 0 0, p.getD 1 0] := by decide
theorem pair11 : ∀ p ∈ pairs11, p = [p.getD 0 0, p.getD 1 0] := by decide
theorem sg_lt {b : Nat} (h : b < 2) : -(2 ^ 64 : Int) < sgA b ∧ sgA b < 2 ^ 64 := by
  unfold sgA
  omega
theorem p_law_plane (vs : List V) (H : Hp) (Q : VK) (E : XK) (h : sp_law_plane vs H Q E) : t_law_plane K (En Q) (start ["_law_generator_here", "_law_kind", "_law_turn", "_law_most", "_law_by", "_law_one", "_law_other", "_law_low", "_law_sign"] vs) H := by
  obtain ⟨g, b, R, ⟨rfl, rfl⟩, hg, hb, k⟩ := h
  refine q_parR (er_rnd rfl (er_nat (n := 4) er_c rfl) (by decide) (by decide) (by omega)) (er_rnd rfl (er_nat (n := 11) er_c rfl) (by decide) (by decide) (by omega)) hg fun x y H1 k1 g1 ⟨kd, hkd, ex⟩ ⟨tn, htn, ey⟩ => ?_
  subst ex ey
  have fin : ∀ (m : Mx) (v : V) (H' : Hp) (c : Nat), c ≤ b + 10 → Kp [g] H1 H' → RG c H' g → m ∈ planeM → MxV H' v m → Q v H' := fun m v H' c hc kp hg' hm hv => k v H' (k1.trans kp) (hg'.mono hc) ⟨m, hm, hv⟩
  refine q_when (et_test (ev_op (ev_var rfl) ev_c (rv_eq rfl))) (fun hb1 H2 e2 => ?_) (fun hb1 H2 e2 => ?_)
  · refine q_parR (er_op0 er_c (er_rnd rfl (er_nat (n := 8) er_c rfl) (by decide) (by decide) (by omega))) (er_op0 er_c (er_op er_c (er_rnd rfl (er_nat (n := 2) er_c rfl) (by decide) (by decide) (by omega)) (by rintro i j rfl -; exact .inl (by decide)))) (g1.ex e2) fun x y H3 k3 g3 ⟨_, _, e, ⟨r1, hr1, e'⟩, ex⟩ ⟨_, _, f, ⟨_, _, f', ⟨r2, hr2, f''⟩, f3⟩, ey⟩ => ?_
    subst e e' ex f f' f'' f3 ey
    obtain ⟨hm0, hm1⟩ := most_ok r1 hr1 r2 hr2
    have hs := sg_lt hr2
    refine q_asgR (S := (· = mostA (sgA r2) (2 + (r1 : Int)))) ((er_op0 (er_abs (er_op0 (er_op (er_var rfl) (er_var rfl) (by rintro i j rfl -; exact .inl hs)) er_c)) er_c).imp ?_) g3 fun z H4 k4 g4 ez => ?_
    · rintro i ⟨_, _, ⟨_, ⟨_, _, ⟨_, _, rfl, rfl, rfl⟩, rfl, rfl⟩, rfl⟩, rfl, rfl⟩
      rfl
    subst ez
    have hN : 2 * mostA (sgA r2) (2 + (r1 : Int)) + 1 = ((2 * mostA (sgA r2) (2 + (r1 : Int)) + 1).toNat : Int) := by omega
    have hN1 : 1 ≤ (2 * mostA (sgA r2) (2 + (r1 : Int)) + 1).toNat := by omega
    have hN2 : (2 * mostA (sgA r2) (2 + (r1 : Int)) + 1).toNat ≤ 100000 := by omega
    refine s_retM (erm_cons (erp (era_cons er_c (era_cons (er_op0 er_c (er_op (er_var rfl) (er_var rfl) (by rintro i j rfl -; exact .inl hs))) era_nil)) ?_) (erm_cons (erp (era_cons er_c (era_cons (er_op0 (er_var rfl) (er_rnd (n := (2 * mostA (sgA r2) (2 + (r1 : Int)) + 1).toNat) rfl ((er_op0 (er_op er_c (er_var rfl) (by rintro i j rfl -; exact .inl (by decide))) er_c).imp (by rintro i ⟨_, _, ⟨_, _, rfl, rfl, rfl⟩, rfl, rfl⟩; exact hN)) hN1 hN2 (by omega))) era_nil)) ?_) erm_nil)) ?_ g4 fun v H' m kp hg' hm hv => fin m v H' _ (by omega) (((Kp.ex e2).trans (k3.trans k4)).trans kp) hg' ?_ hv
    · rintro p ⟨x, r, rfl, ⟨_, _, ⟨_, _, rfl, ⟨_, _, rfl, rfl, rfl⟩, rfl⟩, rfl, rfl⟩, rfl⟩
      show 2 ≤ 1000
      decide
    · rintro p ⟨x, r, rfl, ⟨_, _, -, rfl, rfl⟩, rfl⟩
      show 2 ≤ 1000
      decide
    · rintro m ⟨p, r, -, ⟨p', r', -, rfl, rfl⟩, rfl⟩
      show 2 ≤ 1000
      decide
    · obtain ⟨p, r, ⟨_, _, rfl, ⟨_, _, ⟨_, _, rfl, ⟨_, _, rfl, rfl, rfl⟩, rfl⟩, rfl, rfl⟩, rfl⟩, ⟨p', r', ⟨_, _, rfl, ⟨_, _, ⟨_, _, rfl, ⟨r3, hr3, rfl⟩, rfl⟩, rfl, rfl⟩, rfl⟩, rfl, rfl⟩, rfl⟩ := hm
      exact List.mem_append_left _ (List.mem_flatMap.mpr ⟨r1, List.mem_range.mpr hr1, List.mem_flatMap.mpr ⟨r2, List.mem_range.mpr hr2, List.mem_map.mpr ⟨r3, List.mem_range.mpr hr3, rfl⟩⟩⟩)
  refine q_when (et_test (ev_op (ev_var rfl) ev_c (rv_eq rfl))) (fun hb1 H3 e3 => ?_) (fun hb1 H3 e3 => ?_)
  · refine q_pick (ps := pairs6) (erm_cons (erp (era_cons er_c (era_cons er_c era_nil)) ?_) (erm_cons (erp (era_cons (er_neg er_c) (era_cons er_c era_nil)) ?_) (erm_cons (erp (era_cons er_c (era_cons (er_neg er_c) era_nil)) ?_) (erm_cons (erp (era_cons er_c (era_cons er_c era_nil)) ?_) (erm_cons (erp (era_cons (er_neg er_c) (era_cons (er_neg er_c) era_nil)) ?_) (erm_cons (erp (era_cons er_c (era_cons (er_neg er_c) era_nil)) ?_) erm_nil)))))) ?_ (by decide) (er_rnd rfl (er_nat (n := 6) er_c rfl) (by decide) (by decide) (by omega)) ((g1.ex e2).ex e3) fun p hp t H4 k4 g4 ht => ?_
    iterate 6
      · rintro p ⟨x, r, -, ⟨_, _, -, rfl, rfl⟩, rfl⟩
        show 2 ≤ 1000
        decide
    · intro m hm
      simp at hm
      rw [hm]
      rfl
    · rw [pair6 p hp] at ht
      refine g_pair ht _ ?_
      refine s_retM (erm_cons (erp (era_cons (er_var rfl) (era_cons (er_op0 (er_rnd rfl (er_nat (n := 5) er_c rfl) (by decide) (by decide) (by omega)) er_c) era_nil)) ?_) (erm_cons (erp (era_cons er_c (era_cons (er_var rfl) era_nil)) ?_) erm_nil)) ?_ g4 fun v H' m kp hg' hm hv => fin m v H' _ (by omega) (((Kp.ex (e2.trans e3)).trans k4).trans kp) hg' ?_ hv
      · rintro p ⟨x, r, -, ⟨_, _, -, rfl, rfl⟩, rfl⟩
        show 2 ≤ 1000
        decide
      · rintro p ⟨x, r, -, ⟨_, _, -, rfl, rfl⟩, rfl⟩
        show 2 ≤ 1000
        decide
      · rintro m ⟨p, r, -, ⟨p', r', -, rfl, rfl⟩, rfl⟩
        show 2 ≤ 1000
        decide
      · obtain ⟨p', r, ⟨_, _, rfl, ⟨_, _, ⟨_, _, ⟨r1, hr1, rfl⟩, rfl, rfl⟩, rfl, rfl⟩, rfl⟩, ⟨p2, r', ⟨_, _, rfl, ⟨_, _, rfl, rfl, rfl⟩, rfl⟩, rfl, rfl⟩, rfl⟩ := hm
        exact List.mem_append_right _ (List.mem_append_left _ (List.mem_flatMap.mpr ⟨p, hp, List.mem_map.mpr ⟨r1, List.mem_range.mpr hr1, rfl⟩⟩))
  refine q_when (et_test (ev_op (ev_var rfl) ev_c (rv_eq rfl))) (fun hb1 H4 e4 => ?_) (fun hb1 H4 e4 => ?_)
  · have g2 := ((g1.ex e2).ex e3).ex e4
    refine q_parR (er_op0 er_c (er_rnd rfl (er_nat (n := 3) er_c rfl) (by decide) (by decide) (by omega))) (er_op0 er_c (er_op er_c (er_rnd rfl (er_nat (n := 2) er_c rfl) (by decide) (by decide) (by omega)) (by rintro i j rfl -; exact .inl (by decide)))) g2 fun x y H5 k5 g5 ⟨_, _, e, ⟨r1, hr1, e'⟩, ex⟩ ⟨_, _, f, ⟨_, _, f', ⟨r2, hr2, f''⟩, f3⟩, ey⟩ => ?_
    subst e e' ex f f' f'' f3 ey
    obtain ⟨hm0, hm1⟩ := most_ok r1 (by omega) r2 hr2
    have hs := sg_lt hr2
    refine q_asgR (S := (· = mostA (sgA r2) (2 + (r1 : Int)))) ((er_op0 (er_abs (er_op0 (er_op (er_var rfl) (er_var rfl) (by rintro i j rfl -; exact .inl hs)) er_c)) er_c).imp ?_) g5 fun z H6 k6 g6 ez => ?_
    · rintro i ⟨_, _, ⟨_, ⟨_, _, ⟨_, _, rfl, rfl, rfl⟩, rfl, rfl⟩, rfl⟩, rfl, rfl⟩
      rfl
    subst ez
    have hN : 2 * mostA (sgA r2) (2 + (r1 : Int)) + 1 = ((2 * mostA (sgA r2) (2 + (r1 : Int)) + 1).toNat : Int) := by omega
    have hN1 : 1 ≤ (2 * mostA (sgA r2) (2 + (r1 : Int)) + 1).toNat := by omega
    have hN2 : (2 * mostA (sgA r2) (2 + (r1 : Int)) + 1).toNat ≤ 100000 := by omega
    refine q_asgR (er_op0 (er_rnd (n := (2 * mostA (sgA r2) (2 + (r1 : Int)) + 1).toNat) rfl ((er_op0 (er_op er_c (er_var rfl) (by rintro i j rfl -; exact .inl (by decide))) er_c).imp (by rintro i ⟨_, _, ⟨_, _, rfl, rfl, rfl⟩, rfl, rfl⟩; exact hN)) hN1 hN2 (by omega)) (er_var rfl)) g6 fun z H7 k7 g7 ⟨_, _, ⟨r3, hr3, f⟩, f', ez⟩ => ?_
    subst f f' ez
    refine s_retM (erm_cons (erp (era_cons er_c (era_cons (er_op0 (er_op0 (er_op0 er_c er_c) (er_op (er_var rfl) (er_var rfl) (by rintro i j rfl -; exact .inl hs))) (er_var rfl)) era_nil)) ?_) (erm_cons (erp (era_cons er_c (era_cons (er_op0 (er_op0 er_c er_c) (er_var rfl)) era_nil)) ?_) erm_nil)) ?_ g7 fun v H' m kp hg' hm hv => fin m v H' _ (by omega) (((Kp.ex (e2.trans (e3.trans e4))).trans (k5.trans (k6.trans k7))).trans kp) hg' ?_ hv
    · rintro p ⟨x, r, -, ⟨_, _, -, rfl, rfl⟩, rfl⟩
      show 2 ≤ 1000
      decide
    · rintro p ⟨x, r, -, ⟨_, _, -, rfl, rfl⟩, rfl⟩
      show 2 ≤ 1000
      decide
    · rintro m ⟨p, r, -, ⟨p', r', -, rfl, rfl⟩, rfl⟩
      show 2 ≤ 1000
      decide
    · obtain ⟨p, r, ⟨_, _, rfl, ⟨_, _, ⟨_, _, ⟨_, _, ⟨_, _, rfl, rfl, rfl⟩, ⟨_, _, rfl, rfl, rfl⟩, rfl⟩, rfl, rfl⟩, rfl, rfl⟩, rfl⟩, ⟨p', r', ⟨_, _, rfl, ⟨_, _, ⟨_, _, ⟨_, _, rfl, rfl, rfl⟩, rfl, rfl⟩, rfl, rfl⟩, rfl⟩, rfl, rfl⟩, rfl⟩ := hm
      exact List.mem_append_right _ (List.mem_append_right _ (List.mem_append_left _ (List.mem_flatMap.mpr ⟨r1, List.mem_range.mpr hr1, List.mem_flatMap.mpr ⟨r2, List.mem_range.mpr hr2, List.mem_map.mpr ⟨r3, List.mem_range.mpr hr3, rfl⟩⟩⟩)))
  · have g2 := ((g1.ex e2).ex e3).ex e4
    refine q_pick (ps := pairs11) (erm_cons (erp (era_cons er_c (era_cons er_c era_nil)) ?_) (erm_cons (erp (era_cons (er_neg er_c) (era_cons er_c era_nil)) ?_) (erm_cons (erp (era_cons er_c (era_cons er_c era_nil)) ?_) (erm_cons (erp (era_cons er_c (era_cons er_c era_nil)) ?_) (erm_cons (erp (era_cons er_c (era_cons er_c era_nil)) ?_) (erm_cons (erp (era_cons er_c (era_cons er_c era_nil)) ?_) (erm_cons (erp (era_cons (er_neg er_c) (era_cons er_c era_nil)) ?_) (erm_cons (erp (era_cons er_c (era_cons er_c era_nil)) ?_) (erm_cons (erp (era_cons er_c (era_cons er_c era_nil)) ?_) (erm_cons (erp (era_cons er_c (era_cons er_c era_nil)) ?_) (erm_cons (erp (era_cons (er_neg er_c) (era_cons er_c era_nil)) ?_) erm_nil))))))))))) ?_ (by decide) ((er_var rfl).imp fun i hi => ⟨tn, htn, hi⟩) g2 fun p hp t H5 k5 g5 ht => ?_
    iterate 11
      · rintro p ⟨x, r, -, ⟨_, _, -, rfl, rfl⟩, rfl⟩
        show 2 ≤ 1000
        decide
    · intro m hm
      simp at hm
      rw [hm]
      rfl
    · rw [pair11 p hp] at ht
      refine g_pair ht _ ?_
      refine s_retM (erm_cons (erp (era_cons (er_var rfl) (era_cons (er_op0 er_c (er_var rfl)) era_nil)) ?_) (erm_cons (erp (era_cons (er_var rfl) (era_cons (er_var rfl) era_nil)) ?_) erm_nil)) ?_ g5 fun v H' m kp hg' hm hv => fin m v H' _ (by omega) (((Kp.ex (e2.trans (e3.trans e4))).trans k5).trans kp) hg' ?_ hv
      · rintro p ⟨x, r, -, ⟨_, _, -, rfl, rfl⟩, rfl⟩
        show 2 ≤ 1000
        decide
      · rintro p ⟨x, r, -, ⟨_, _, -, rfl, rfl⟩, rfl⟩
        show 2 ≤ 1000
        decide
      · rintro m ⟨p, r, -, ⟨p', r', -, rfl, rfl⟩, rfl⟩
        show 2 ≤ 1000
        decide
      · obtain ⟨p', r, ⟨_, _, rfl, ⟨_, _, ⟨_, _, rfl, rfl, rfl⟩, rfl, rfl⟩, rfl⟩, ⟨p2, r', ⟨_, _, rfl, ⟨_, _, rfl, rfl, rfl⟩, rfl⟩, rfl, rfl⟩, rfl⟩ := hm
        exact List.mem_append_right _ (List.mem_append_right _ (List.mem_append_right _ (List.mem_map.mpr ⟨p, hp, rfl⟩)))
end
end K13
namespace K13
open PySem PySem.Spec PyProof.Rows L2 Evl
section
variable {K : PySem.W.Frag} {σ : L2.St} {g : Addr} {b b1 b2 : Nat}
theorem el_ints {ns : List Int} {ta : TA} {H : Hp} (h : EvA ta σ H (ns.map V.int)) (hz : ns.length ≤ 1000) : EvL (tLst ta) σ H (ns.map V.int) := el_lst h (by rw [List.length_map]; omega)
/-- a comprehension that draws -/
theorem lcR {te tn : TE} {H : Hp} {Q : VK} {j n : Nat} {vs : List Nat} {S : Int → Prop} (hn : Ev tn σ H (.int (n : Int))) (hz : n ≤ 1000) (σ2 : Int → L2.St) (hw : ∀ x, (wipe σ vs).set j (some (.int x)) = σ2 x) (hws : ∀ x, wipe (σ2 x) vs = wipe σ vs)
    (he : ∀ c x, c ≤ b + n → EvR te (σ2 x) g c (c + 1) S) (hg : RG b H g)
    (k : ∀ (l : Addr) (p : Pt) (H1 : Hp), Kp [g] H H1 → RG (b + n) H1 g → p.length = n → (∀ x ∈ p, S x) → H l = none → H1 l = some (.lst (p.map V.int)) → Q (.ref l) H1) :
    tLc (iRng1 (tCons tn tNil)) (gName j) tYes te vs σ H Q := by
  refine evf_rng1 (mu := [g]) (σ := σ) (H := H) (ta := tn) (n := (n : Int)) hn (by omega) H (Ex.refl H) _ fun J G H2 e2 w hG => ?_
  intro D hD
  rw [Int.toNat_natCast] at w
  have hDg : D ∉ [g] := by
    rw [List.mem_singleton]
    exact (hg.ex e2).ne hD
  refine ⟨fun i m H' => m = n - i ∧ i ≤ n ∧ Kp [g] H2 H' ∧ RG (b + i) H' g ∧ ∃ p : Pt, H' D = some (.lst (p.map V.int)) ∧ p.length = i ∧ ∀ x ∈ p, S x, ⟨n, by simp, Nat.zero_le _, Kp.ex (Ex.new hD), (hg.ex e2).ex (Ex.new hD), [], upd_same, rfl, fun _ h => nomatch h⟩, ?_⟩
  rintro i m H' ⟨rfl, hin, kp, hr, p, hp, hpl, hps⟩
  by_cases hlt : i < n
  · refine .inr ⟨w.goes i H' hlt (hG H' kp), fun H'' => Kp [g] H2 H'' ∧ RG (b + (i + 1)) H'' g ∧ ∃ p : Pt, H'' D = some (.lst (p.map V.int)) ∧ p.length = i + 1 ∧ ∀ x ∈ p, S x, fun H'' ⟨a, b⟩ => ⟨n - (i + 1), by omega, rfl, hlt, a, b⟩, fun x H3 hy => ?_⟩
    obtain ⟨e3, hx⟩ := w.yields i H' x H3 hlt (hG H' kp) hy
    subst hx
    show wipe ((wipe σ vs).set j (some (.int (i : Int)))) vs = wipe σ vs ∧ te ((wipe σ vs).set j (some (.int (i : Int)))) H3 _
    rw [hw]
    refine ⟨hws _, he (b + i) i (by omega) H3 (hr.ex e3) _ fun z H4 k4 g4 hz' => ?_⟩
    have h4 := k4.1 D _ hDg (e3 _ _ hp)
    have kq := (kp.trans (Kp.ex e3)).trans k4
    refine ⟨_, h4, by rw [List.length_map, hpl]; exact Nat.lt_of_le_of_lt (Nat.le_trans hin hz) (by decide), ⟨fun a o ha q => ?_, kq.2.trans (TEx.lst h4)⟩, ?_, p ++ [z], ?_, ?_, ?_⟩
    · rw [upd_ne (fun z => by rw [z, hD] at q; cases q)]
      exact kq.1 a o ha q
    · obtain ⟨x, y, c, h, hh⟩ := g4
      exact ⟨x, y, c, by rw [upd_ne (fun z => hDg (by rw [z]; exact List.mem_singleton.mpr rfl))]; exact h, hh⟩
    · rw [upd_same, List.map_append]
      rfl
    · rw [List.length_append, hpl]
      rfl
    · intro x hx
      rcases List.mem_append.mp hx with h | h
      · exact hps x h
      · rw [List.mem_singleton.mp h]
        exact hz'
  · have : i = n := by omega
    subst this
    exact .inl ⟨w.stops H' (hG H' kp), k D p H' ((Kp.ex e2).trans kp) hr hpl hps (fresh_back e2 hD) hp⟩
theorem q_lcR {te : TE} {D : Ends} {tz : TS} {H : Hp} {i j n : Nat} {vs : List Nat} {S : Int → Prop} {n0 : Int} (hn : n0 = (n : Int)) (hz : n ≤ 1000) (σ2 : Int → L2.St) (hw : ∀ x, (wipe σ vs).set j (some (.int x)) = σ2 x) (hws : ∀ x, wipe (σ2 x) vs = wipe σ vs)
    (he : ∀ c x, c ≤ b + n → EvR te (σ2 x) g c (c + 1) S) (hg : RG b H g)
    (k : ∀ (l : Addr) (p : Pt) (H1 : Hp), Kp [g] H H1 → RG (b + n) H1 g → p.length = n → (∀ x ∈ p, S x) → H l = none → H1 l = some (.lst (p.map V.int)) → tz D (σ.set i (some (.ref l))) H1) :
    tSeq (tAsg (tLc (iRng1 (tCons (tC (.int n0)) tNil)) (gName j) tYes te vs) (gName i)) tz D σ H := lcR (Q := fun v H1 => tz D (σ.set i (some v)) H1) (by rw [hn]; exact ev_c) hz σ2 hw hws he hg k
theorem pickI_in {ta : TA} {tn : TE} {Q : VK} {ns : Pt} {H : Hp} (h : EvA ta σ H (ns.map V.int)) (hz : ns.length ≤ 1000) (hn : EvR tn σ g b b2 fun i => ∃ r : Nat, r < ns.length ∧ i = (r : Int)) (hg : RG b H g)
    (k : ∀ x, x ∈ ns → ∀ H1, Kp [g] H H1 → RG b2 H1 g → Q (.int x) H1) : tOp (rIxL K) (tLst ta) tn σ H Q :=
  el_ints h hz H (Ex.refl H) _ fun t H1 ht e1 h1 => hn H1 (hg.ex e1) _ fun i H2 k2 g2 ⟨r, hr, ei⟩ => by
    subst ei
    have hl := k2.1 t _ (by rw [List.mem_singleton]; exact hg.ne ht) h1
    exact ⟨t, _, (r : Int), .int (ns.getD r 0), rfl, rfl, sq_of hl, atI_nat (get_pt hr), k _ (getD_mem hr 0) H2 ((Kp.ex e1).trans k2) g2⟩
theorem q_pickI {ta : TA} {tn : TE} {i : Nat} {tz : TS} {D : Ends} {ns : Pt} {H : Hp} (h : EvA ta σ H (ns.map V.int)) (hz : ns.length ≤ 1000) (hn : EvR tn σ g b b2 fun i => ∃ r : Nat, r < ns.length ∧ i = (r : Int)) (hg : RG b H g)
    (k : ∀ x, x ∈ ns → ∀ H1, Kp [g] H H1 → RG b2 H1 g → tz D (σ.set i (some (.int x))) H1) : tSeq (tAsg (tOp (rIxL K) (tLst ta) tn) (gName i)) tz D σ H := pickI_in (K := K) h hz hn hg k
theorem s_ret3 {t1 t2 t3 : TE} {D : Ends} {p1 p2 : Pt} {U : Pt → Prop} {H : Hp} (h1 : EvP t1 σ H fun v H' => PtV H' v p1) (h2 : EvP t2 σ H fun v H' => PtV H' v p2)
    (h3 : ∀ H2, Ex H H2 → RG b H2 g → ∀ Q : VK, (∀ p v H3, Kp [g] H2 H3 → RG b1 H3 g → U p → PtV H3 v p → Q v H3) → t3 σ H2 Q) (hg : RG b H g)
    (k : ∀ v H' p3, Kp [g] H H' → RG b1 H' g → U p3 → MxV H' v [p1, p2, p3] → D.rt v H') : tRet (tTup (tCons t1 (tCons t2 (tCons t3 tNil)))) D σ H :=
  h1 H (Ex.refl H) _ fun v1 H1 e1 ⟨a1, ev1, ha1⟩ => h2 H1 e1 _ fun v2 H2 e2 ⟨a2, ev2, ha2⟩ => h3 H2 (e1.trans e2) ((hg.ex e1).ex e2) _ fun p v3 H3 k3 g3 hp ⟨a3, ev3, ha3⟩ => by
    subst ev1 ev2 ev3
    refine ⟨by show 3 ≤ sizeLine; decide, fun t ht => k _ _ p (((Kp.ex (e1.trans e2)).trans k3).trans (Kp.ex (Ex.new ht))) (g3.ex (Ex.new ht)) hp ⟨t, [a1, a2, a3], rfl, upd_same, ?_⟩⟩
    exact .cons (Ex.new ht _ _ (k3.2 _ _ (e2 _ _ ha1))) (.cons (Ex.new ht _ _ (k3.2 _ _ ha2)) (.cons (Ex.new ht _ _ ha3) .nil))
theorem three_len : ∀ p ∈ trip6, p.length = 3 := by decide
theorem sm1 : ∀ m : Mx, m.length = 1 → m.length ≤ 1000 := fun m h => by omega
theorem mem_threes {p : Pt} (hl : p.length = 3) (h : ∀ x ∈ p, ∃ r : Nat, r < 3 ∧ x = (r : Int) - 1) : p ∈ threes := by
  match p, hl with
  | [x, y, z], _ =>
    obtain ⟨a, ha, rfl⟩ := h x (by simp)
    obtain ⟨b, hb, rfl⟩ := h y (by simp)
    obtain ⟨c, hc, rfl⟩ := h z (by simp)
    exact List.mem_flatMap.mpr ⟨a, List.mem_range.mpr ha, List.mem_flatMap.mpr ⟨b, List.mem_range.mpr hb, List.mem_map.mpr ⟨c, List.mem_range.mpr hc, rfl⟩⟩⟩
theorem p_law_matrix (vs : List V) (H : Hp) (Q : VK) (E : XK) (h : sp_law_matrix vs H Q E) : t_law_matrix K (En Q) (start ["_law_generator_here", "_law_size", "_law_more", "_law_kind", "_law_sign", "_law_sides", "_law_at"] vs) H := by
  obtain ⟨g, b, R, ⟨rfl, rfl⟩, hg, hb, k⟩ := h
  refine q_pickI (ns := [1, 1, 2, 2, 2, 2, 3, 3]) (ea_cons ev_c (ea_cons ev_c (ea_cons ev_c (ea_cons ev_c (ea_cons ev_c (ea_cons ev_c (ea_cons ev_c (ea_cons ev_c ea_nil)))))))) (by decide) (er_rnd rfl (er_nat (n := 8) er_c rfl) (by decide) (by decide) (by omega)) hg fun sz hsz H2 k12 g2 => ?_
  have hsz3 : sz = 1 ∨ sz = 2 ∨ sz = 3 := by
    have : ∀ x ∈ ([1, 1, 2, 2, 2, 2, 3, 3] : Pt), x = 1 ∨ x = 2 ∨ x = 3 := by decide
    exact this sz hsz
  show tSeq _ _ (En Q) [some (V.ref g), some (.int sz), none, none, none, none, none] H2
  have fin : ∀ (m : Mx) (v : V) (H' : Hp) (c : Nat), c ≤ b + 20 → Kp [g] H2 H' → RG c H' g → m ∈ allM → MxV H' v m → Q v H' := fun m v H' c hc kp hg' hm hv => k v H' (k12.trans kp) (hg'.mono hc) ⟨m, hm, hv⟩
  refine q_when (et_test (ev_op (ev_var rfl) ev_c (rv_eq rfl))) (fun hb1 H3 e3 => ?_) (fun hb1 H3 e3 => ?_)
  · refine s_retM (erm_cons (erp (era_cons (er_op (er_op0 er_c (er_op er_c (er_rnd rfl (er_nat (n := 2) er_c rfl) (by decide) (by decide) (by omega)) (by rintro i j rfl -; exact .inl (by decide)))) (er_op0 er_c (er_rnd rfl (er_nat (n := 11) er_c rfl) (by decide) (by decide) (by omega))) ?_) era_nil) ?_) erm_nil) ?_ (g2.ex e3) fun v H' m kp hg' hm hv => fin m v H' _ (by omega) ((Kp.ex e3).trans kp) hg' ?_ hv
    · rintro i j ⟨_, _, rfl, ⟨_, _, rfl, ⟨r, hr, rfl⟩, rfl⟩, rfl⟩ -
      exact .inl (by show -(2 ^ 64 : Int) < 1 - 2 * (r : Int) ∧ 1 - 2 * (r : Int) < 2 ^ 64; omega)
    · rintro p ⟨x, r, -, rfl, rfl⟩
      show 1 ≤ 1000
      decide
    · rintro m ⟨p, r, -, rfl, rfl⟩
      show 1 ≤ 1000
      decide
    · obtain ⟨p, _, ⟨_, _, ⟨_, _, ⟨_, _, rfl, ⟨_, _, rfl, ⟨r1, hr1, rfl⟩, rfl⟩, rfl⟩, ⟨_, _, rfl, ⟨r2, hr2, rfl⟩, rfl⟩, rfl⟩, rfl, rfl⟩, rfl, rfl⟩ := hm
      exact List.mem_append_left _ (List.mem_flatMap.mpr ⟨r1, List.mem_range.mpr hr1, List.mem_map.mpr ⟨r2, List.mem_range.mpr hr2, rfl⟩⟩)
  refine q_when (et_test (ev_op (ev_var rfl) ev_c (rv_eq rfl))) (fun hb1 H4 e4 => ?_) (fun hb1 H4 e4 => ?_)
  · have g4 := (g2.ex e3).ex e4
    refine ⟨_, rfl, g, b + 1, _, ⟨rfl, rfl⟩, g4, by omega, fun v H' kp hg' ⟨m, hm, hv⟩ => fin m v H' _ (by omega) ((Kp.ex (e3.trans e4)).trans kp) hg' (List.mem_append_right _ (List.mem_append_left _ hm)) hv⟩
  have g4 := (g2.ex e3).ex e4
  refine q_parR (er_rnd rfl (er_nat (n := 3) er_c rfl) (by decide) (by decide) (by omega)) (er_op0 er_c (er_op er_c (er_rnd rfl (er_nat (n := 2) er_c rfl) (by decide) (by decide) (by omega)) (by rintro i j rfl -; exact .inl (by decide)))) g4 fun x y H5 k5 g5 ⟨kd, hkd, ex⟩ ⟨_, _, f, ⟨_, _, f', ⟨r2, hr2, f''⟩, f3⟩, ey⟩ => ?_
  subst ex f f' f'' f3 ey
  have hs := sg_lt hr2
  refine q_when (et_test (ev_op (ev_var rfl) ev_c (rv_eq rfl))) (fun hb1 H6 e6 => ?_) (fun hb1 H6 e6 => ?_)
  · refine s_retM (erm_cons (erp (era_cons er_c (era_cons er_c (era_cons (er_op (er_var rfl) (er_op0 er_c (er_rnd rfl (er_nat (n := 8) er_c rfl) (by decide) (by decide) (by omega))) (by rintro i j rfl -; exact .inl hs)) era_nil))) ?_) (erm_cons (erp (era_cons er_c (era_cons er_c (era_cons er_c era_nil))) ?_) (erm_cons (erp (era_cons er_c (era_cons er_c (era_cons er_c era_nil))) ?_) erm_nil))) ?_ (g5.ex e6) fun v H' m kp hg' hm hv => fin m v H' _ (by omega) (((Kp.ex (e3.trans e4)).trans (k5.trans (Kp.ex e6))).trans kp) hg' ?_ hv
    iterate 3
      · rintro p ⟨x, r, -, ⟨_, _, -, ⟨_, _, -, rfl, rfl⟩, rfl⟩, rfl⟩
        show 3 ≤ 1000
        decide
    · rintro m ⟨p, r, -, ⟨p', r', -, ⟨p2, r2, -, rfl, rfl⟩, rfl⟩, rfl⟩
      show 3 ≤ 1000
      decide
    · obtain ⟨p, r, ⟨_, _, rfl, ⟨_, _, rfl, ⟨_, _, ⟨_, _, rfl, ⟨_, _, rfl, ⟨r3, hr3, rfl⟩, rfl⟩, rfl⟩, rfl, rfl⟩, rfl⟩, rfl⟩, ⟨p1, r1, ⟨_, _, rfl, ⟨_, _, rfl, ⟨_, _, rfl, rfl, rfl⟩, rfl⟩, rfl⟩, ⟨p2, r2, ⟨_, _, rfl, ⟨_, _, rfl, ⟨_, _, rfl, rfl, rfl⟩, rfl⟩, rfl⟩, rfl, rfl⟩, rfl⟩, rfl⟩ := hm
      exact List.mem_append_right _ (List.mem_append_right _ (List.mem_append_left _ (List.mem_flatMap.mpr ⟨_, List.mem_range.mpr hr2, List.mem_map.mpr ⟨r3, List.mem_range.mpr hr3, rfl⟩⟩)))
  refine q_lcR (n := 3) (S := fun x => ∃ r : Nat, r < 3 ∧ x = (r : Int) - 1) rfl (by decide) _ (fun x => rfl) (fun x => rfl) (fun c x hc => (er_op0 (er_rnd rfl (er_nat (n := 3) er_c rfl) (by decide) (by decide) (by omega)) er_c).imp ?_) (g5.ex e6) fun l p H7 k7 g7 hp3 hps hln hl => ?_
  · rintro i ⟨_, _, ⟨r, hr, rfl⟩, rfl, rfl⟩
    exact ⟨r, hr, rfl⟩
  have ht3 := mem_threes hp3 hps
  have klast : Kp [g] H2 H7 := (Kp.ex (e3.trans e4)).trans ((k5.trans (Kp.ex e6)).trans k7)
  have lg : l ∉ [g] := by
    rw [List.mem_singleton]
    intro e
    obtain ⟨x, y, c, h, -⟩ := g5.ex e6
    rw [← e, hln] at h
    cases h
  have ixl : ∀ {i : Nat} {σ' : L2.St} {H' : Hp}, σ'[2]? = some (some (.ref l)) → H' l = some (.lst (p.map V.int)) → i < 3 → Ev (tOp (rIxL K) (tVar 2) (tC (.int (i : Int)))) σ' H' (.int (p.getD i 0)) := fun hσ hl' hi => ev_ixK (ev_var hσ) ev_c hl' (get_pt (by rw [hp3]; exact hi))
  refine q_when (et_test (ev_op (ev_var rfl) ev_c (rv_eq rfl))) (fun hb1 H8 e8 => ?_) (fun hb1 H8 e8 => ?_)
  · refine q_pick (ps := trip6) (erm_cons (erp (era_cons er_c (era_cons er_c (era_cons er_c era_nil))) ?_) (erm_cons (erp (era_cons er_c (era_cons er_c (era_cons er_c era_nil))) ?_) (erm_cons (erp (era_cons (er_neg er_c) (era_cons er_c (era_cons er_c era_nil))) ?_) (erm_cons (erp (era_cons er_c (era_cons (er_neg er_c) (era_cons er_c era_nil))) ?_) (erm_cons (erp (era_cons (er_neg er_c) (era_cons (er_neg er_c) (era_cons (er_neg er_c) era_nil))) ?_) (erm_cons (erp (era_cons er_c (era_cons er_c (era_cons (er_neg er_c) era_nil))) ?_) erm_nil)))))) ?_ (by decide) (er_rnd rfl (er_nat (n := 6) er_c rfl) (by decide) (by decide) (by omega)) (g7.ex e8) fun s hs t H9 k9 g9 ht => ?_
    iterate 6
      · rintro p ⟨x, r, -, ⟨_, _, -, ⟨_, _, -, rfl, rfl⟩, rfl⟩, rfl⟩
        show 3 ≤ 1000
        decide
    · intro m hm
      simp at hm
      rw [hm]
      rfl
    · have hl9 := k9.1 l _ lg (e8 _ _ hl)
      have hs3 := three_len s hs
      have ixt : ∀ {i : Nat} {σ' : L2.St} {H' : Hp}, σ'[5]? = some (some (.ref t)) → Ex H9 H' → i < 3 → Ev (tOp (rIxT K) (tVar 5) (tC (.int (i : Int)))) σ' H' (.int (s.getD i 0)) := fun hσ e' hi => ev_ixP (ev_var hσ) ev_c (e' _ _ ht) (by rw [hs3]; exact hi)
      refine s_ret3 (U := (· = [0, 0, s.getD 2 0])) (p1 := [s.getD 0 0, p.getD 0 0, p.getD 1 0]) (p2 := [0, s.getD 1 0, p.getD 2 0]) (evp_pt (ea_cons (ixt rfl (Ex.refl _) (by decide)) (ea_cons (ixl rfl hl9 (by decide)) (ea_cons (ixl rfl hl9 (by decide)) ea_nil))) (by show 3 ≤ 100000; decide)) (evp_pt (ea_cons ev_c (ea_cons (ixt rfl (Ex.refl _) (by decide)) (ea_cons (ixl rfl hl9 (by decide)) ea_nil))) (by show 3 ≤ 100000; decide)) (fun H2 e2 hg' Q q => evp_pt (p := [0, 0, s.getD 2 0]) (ea_cons ev_c (ea_cons ev_c (ea_cons (ixt rfl e2 (by decide)) ea_nil))) (by show 3 ≤ 100000; decide) H2 (Ex.refl _) Q fun v H3 e3 hv => q _ v H3 (Kp.ex e3) (hg'.ex e3) rfl hv) g9 fun v H' p3 kp hg' hp3 hv => ?_
      subst hp3
      exact fin _ v H' _ (by omega) ((klast.trans ((Kp.ex e8).trans k9)).trans kp) hg' (List.mem_append_right _ (List.mem_append_right _ (List.mem_append_right _ (List.mem_append_left _ (List.mem_flatMap.mpr ⟨s, hs, List.mem_map.mpr ⟨p, ht3, rfl⟩⟩))))) hv
  · have hl8 := e8 _ _ hl
    refine s_ret3 (p1 := [1, -1, p.getD 0 0]) (p2 := [1, 1, p.getD 1 0]) (evp_pt (ea_cons ev_c (ea_cons ev_neg1 (ea_cons (ixl rfl hl8 (by decide)) ea_nil))) (by show 3 ≤ 100000; decide)) (evp_pt (ea_cons ev_c (ea_cons ev_c (ea_cons (ixl rfl hl8 (by decide)) ea_nil))) (by show 3 ≤ 100000; decide)) (fun H2 e2 hg' => erp (era_cons er_c (era_cons er_c (era_cons (er_op (er_var rfl) (er_op0 er_c (er_rnd rfl (er_nat (n := 5) er_c rfl) (by decide) (by decide) (by omega))) (by rintro i j rfl -; exact .inl hs)) era_nil))) (by
      rintro p ⟨x, r, -, ⟨_, _, -, ⟨_, _, -, rfl, rfl⟩, rfl⟩, rfl⟩
      show 3 ≤ 1000
      decide) H2 hg') (g7.ex e8) fun v H' p3 kp hg' hp3 hv => ?_
    obtain ⟨_, _, rfl, ⟨_, _, rfl, ⟨_, _, ⟨_, _, rfl, ⟨_, _, rfl, ⟨r3, hr3, rfl⟩, rfl⟩, rfl⟩, rfl, rfl⟩, rfl⟩, rfl⟩ := hp3
    exact fin _ v H' _ (by omega) ((klast.trans (Kp.ex e8)).trans kp) hg' (List.mem_append_right _ (List.mem_append_right _ (List.mem_append_right _ (List.mem_append_right _ (List.mem_flatMap.mpr ⟨_, List.mem_range.mpr hr2, List.mem_flatMap.mpr ⟨r3, List.mem_range.mpr hr3, List.mem_map.mpr ⟨p, ht3, rfl⟩⟩⟩))))) hv
end
end K13
namespace K13
open PySem PySem.Spec PyProof.Rows L2 Evl
def keyM (m : Mx) (p : Pt) : Pt := restsP (movM (adjM m) p) (detM m)
def leastS (m : Mx) (k : Nat) (found : List Pt) (p : Pt) : List Pt := if found.length < k ∧ keyM m p ∉ found.map (keyM m) then found ++ [p] else found
/-- the least digits -/
def leastD (n : Nat) (m : Mx) : List Pt := (boxL n (detM m).natAbs).foldl (leastS m (detM m).natAbs) []
def Shift (n : Nat) (m : Mx) (f e : Pt) : Prop := e = f ∨ ∃ by' : Pt, by'.length = n ∧ (∀ x ∈ by', ∃ r : Nat, r < 3 ∧ x = (r : Int) - 1) ∧ e = addP f (movM m by')
def DigsOf (n : Nat) (m : Mx) (ds : List Pt) : Prop := ds = leastD n m ∨ ∃ es os, ds = (leastD n m).take 1 ++ os ∧ os.Perm es ∧ Paired (Shift n m) ((leastD n m).drop 1) es
def sp_law_digits : Sp := spR 100 fun vs H g R => ∃ (a b : V) (n : Nat) (m : Mx), vs = [.ref g, a, b] ∧ MxV H a m ∧ LK H b (adjM m) (detM m) ∧ Mok n m ∧ (∀ r ∈ adjM m, Sm r) ∧ R = fun v H' => ∃ ds, PLV H' v ds ∧ DigsOf n m ds
/-- the ways that are drawn -/
def Drawn (w : Way) : Prop := w.m ∈ allM ∧ w.m.length = w.n ∧ DigsOf w.n w.m w.ds
def famW (c b : Nat) : Way := ⟨2, [[0, 0 - (2 + (c : Int))], [1, 0 - ((b : Int) - 1)]], (List.range (2 + c)).map fun (i : Nat) => [(i : Int), 0]⟩
def linW (c : Nat) : Way := ⟨1, [[0 - (2 + (c : Int))]], (List.range (2 + c)).map fun (i : Nat) => [(i : Int)]⟩
def sp_law_way : Sp := spR 200 fun vs _ g R => vs = [.ref g] ∧ R = fun v H' => ∃ w, LW H' v w ∧ Drawn w
def sp_law_family : Sp := spR 5 fun vs _ g R => vs = [.ref g] ∧ R = fun v H' => ∃ c b, c < 8 ∧ b < c + 4 ∧ LW H' v (famW c b)
def sp_law_any_way : Sp := spR 300 fun vs _ g R => vs = [.ref g] ∧ R = fun v H' => ∃ w, LW H' v w ∧ Drawn w
end K13
namespace K13
open PySem PySem.Spec PyProof.Rows L2 Evl
section
variable {P : Program} {w : World} {K : PySem.W.Frag} {mg : Str → Option Value} {base : Heap} {C Ct : Addr}
theorem sc_law_digits : FnScope ["_law_generator_here", "_law_matrix_here", "_law_way_here", "_law_point", "_law_others", "_law_size", "_law_many", "_law_found", "_law_seen", "_law_by", "_law_place", "_law_at"] ["_law_generator_here", "_law_matrix_here", "_law_way_here"] (defScope (top 71)) := ⟨rfl, rfl, rfl, by decide +kernel, rfl, by decide +kernel, by decide +kernel⟩
def t_law_digits (K : PySem.W.Frag) : TS :=
    (tSeq (tAsg (tTup (tCons (tCB (rLenS K) (tCons (tVar 1) tNil)) (tCons (tCB rAbs1 (tCons (tOp (rIxL K) (tVar 2) (tC (.int 3))) tNil)) (tCons (tLst tNil) (tCons tDNewT tNil))))) (gTup K 4 (gCons (gName 5) (gCons (gName 6) (gCons (gName 7) (gCons (gName 8) gNil))))))
    (tSeq (tFor (iList K (tCall sp_law_boxes [] E0 (tCons (tVar 5) (tCons (tVar 6) tNil)))) (gName 3) (tIfS (tAnd (tTest (tOp (rI0 fun i j => .bl (decide (i < j))) (tCB (rLenS K) (tCons (tVar 7) tNil)) (tVar 6))) (tB (tDNotIn (tCall sp_law_key [] E0 (tCons (tVar 2) (tCons (tVar 3) tNil))) (tVar 8)))) (tSeq (sDPut (tVar 8) (tCall sp_law_key [] E0 (tCons (tVar 2) (tCons (tVar 3) tNil))) (tC (.bl true)))
    (tDrop (tBM K "list" rAppend (tVar 7) (tCons (tVar 3) tNil)))) tNext))
    (tSeq (tIfS (tTest (tOp rEq (tCall sp_law_random [] E0 (tCons (tVar 0) (tCons (tC (.int 3)) tNil))) (tC (.int 0)))) (tRet (tVar 7)) tNext)
    (tSeq (tAsg (tLst tNil) (gName 4))
    (tSeq (tFor (iList K (tSl (rSlL K) (tVar 7) (tPart (tC (.int 1))) tNoPart)) (gName 3) (tSeq (tAsg (tCB (rTup K) (tCons (tLc (iRng1 (tCons (tVar 5) tNil)) (gName 11) tYes (tOp (rI0 fun i j => .int (i - j)) (tCall sp_law_random [] E0 (tCons (tVar 0) (tCons (tC (.int 3)) tNil))) (tC (.int 1))) [11]) tNil)) (gName 9))
    (tSeq (tAsg (tIf (tTest (tOp rEq (tCall sp_law_random [] E0 (tCons (tVar 0) (tCons (tC (.int 2)) tNil))) (tC (.int 0)))) (tCall sp_law_sum [] E0 (tCons (tVar 3) (tCons (tCall sp_law_moved [] E0 (tCons (tVar 1) (tCons (tVar 9) tNil))) tNil))) (tVar 3)) (gName 3))
    (tSeq (tAsg (tCall sp_law_random [] E0 (tCons (tVar 0) (tCons (tOp (rI0 fun i j => .int (i + j)) (tCB (rLenS K) (tCons (tVar 4) tNil)) (tC (.int 1))) tNil))) (gName 10))
    (tAsg (tOp rCat (tOp rCat (tSl (rSlL K) (tVar 4) tNoPart (tPart (tVar 10))) (tLst (tCons (tVar 3) tNil))) (tSl (rSlL K) (tVar 4) (tPart (tVar 10)) tNoPart)) (gName 4))))))
    (tRet (tOp rCat (tSl (rSlL K) (tVar 7) tNoPart (tPart (tC (.int 1)))) (tVar 4))))))))
theorem d_law_digits (G : Glo K mg C) (c_law_boxes : Fn P w K mg base (L2.CX P w) 1 "_law_boxes" ["_law_size", "_law_most"] sp_law_boxes) (c_law_key : Fn P w K mg base (L2.CX P w) 2 "_law_key" ["_law_way_here", "_law_point"] sp_law_key) (c_law_random : Fn P w K mg base (L2.CX P w) 2 "_law_random" ["_law_generator_here", "_law_limit"] sp_law_random) (c_law_moved : Fn P w K mg base (L2.CX P w) 1 "_law_moved" ["_law_matrix_here", "_law_point"] sp_law_moved) (c_law_sum : Fn P w K mg base (L2.CX P w) 1 "_law_sum" ["_law_one", "_law_other"] sp_law_sum) {f : Addr} {cdv : Value} {A : Around} {outer : List Env} {s : Shared} {H : Hp} {E : XK} (hr : Room 2 (A.deeper (envOfC "_law_digits" (defScope (top 71)) s.heap.objs.size f cdv))) :
    PSs (cxOf (L2.CX P w) P w K mg base ["_law_generator_here", "_law_matrix_here", "_law_way_here", "_law_point", "_law_others", "_law_size", "_law_many", "_law_found", "_law_seen", "_law_by", "_law_place", "_law_at"] "_law_digits" (defScope (top 71)) f cdv A outer s H E).nox (defBody (top 71)) (t_law_digits K) :=
    (pss_cons (ps_asg (pe_tup (pa_cons (pe_callB (cLenK K rfl) (by rfl) G.g_len boot_len (pa_cons (pv 1) pa_nil)) (pa_cons (pe_callB call_abs1 (by rfl) G.g_abs boot_abs (pa_cons (pe_ix (ixL K rfl) (pv 2) pe_int (fun _ _ => rfl)) pa_nil)) (pa_cons (pe_lst pa_nil) (pa_cons pe_dnewT pa_nil))))) (pgT K rfl rfl (pgs_cons (pg_name (i := 5) sc_law_digits.nd rfl (by first | exact .inl rfl | exact .inr rfl)) (pgs_cons (pg_name (i := 6) sc_law_digits.nd rfl (by first | exact .inl rfl | exact .inr rfl)) (pgs_cons (pg_name (i := 7) sc_law_digits.nd rfl (by first | exact .inl rfl | exact .inr rfl)) (pgs_cons (pg_name (i := 8) sc_law_digits.nd rfl (by first | exact .inl rfl | exact .inr rfl)) pgs_nil))))))
    (pss_cons (ps_for PassesOwn.never rfl (piL K rfl (pe_f c_law_boxes hr (by decide) passL (by rfl) (pa_cons (pv 5) (pa_cons (pv 6) pa_nil)))) (pg_name (i := 3) sc_law_digits.nd rfl (by first | exact .inl rfl | exact .inr rfl)) (pss_one (ps_if (PW.pt (pt_and (pt_cmpR op_lt (pe_callB (cLenK K rfl) (by rfl) G.g_len boot_len (pa_cons (pv 7) pa_nil)) (pv 6) (nomark _)) (pt_and1 (pt_cmp (pc_dnotin (hu_of hr) (pe_f c_law_key hr (by decide) passL (by rfl) (pa_cons (pv 2) (pa_cons (pv 3) pa_nil))) (pv 8)))))) (pss_cons (ps_dput (hu_of hr) (pv 8) (pe_f c_law_key hr (by decide) passL (by rfl) (pa_cons (pv 2) (pa_cons (pv 3) pa_nil))) pe_bl rfl)
    (pss_one (ps_expr (pe_bmK K rfl PySem.F.plainAttrs_list PySem.F.slot_list_append PySem.F.type_list_append mt_append (pv 7) (pa_cons (pv 3) pa_nil))))) pss_nil)))
    (pss_cons (ps_if (pt_cmpR op_eq (pe_f c_law_random hr (by decide) passL (by rfl) (pa_cons (pv 0) (pa_cons pe_int pa_nil))) pe_int (nomark _)) (pss_one (ps_ret (pv 7))) pss_nil)
    (pss_cons (ps_set (i := 4) sc_law_digits.nd rfl (by first | exact .inl rfl | exact .inr rfl) (pe_lst pa_nil))
    (pss_cons (ps_for PassesOwn.never rfl (piL K rfl (pe_slice (slLK K rfl) (pv 7) (po_some pe_int) po_none)) (pg_name (i := 3) sc_law_digits.nd rfl (by first | exact .inl rfl | exact .inr rfl)) (pss_cons (ps_set (i := 9) sc_law_digits.nd rfl (by first | exact .inl rfl | exact .inr rfl) (pe_callTy (cTupK K rfl) (by rfl) G.g_tuple boot_tuple (pa_cons (pe_lc (own := [("_law_at", 11)]) rfl sc_law_digits.nd (pi_range1 (by rfl) G.g_range (pa_cons (pv 5) pa_nil)) (blkOk_by (N := ["_law_generator_here", "_law_matrix_here", "_law_way_here", "_law_point", "_law_others", "_law_size", "_law_many", "_law_found", "_law_seen", "_law_by", "_law_place", "_law_at"]) (sc := defScope (top 71)) (by decide +kernel)) (fun _ _ _ _ _ => (pg_name (i := 11) sc_law_digits.nd rfl (by first | exact .inl rfl | exact .inr rfl))) (fun _ _ _ _ _ => pts_nil) (fun _ _ _ _ _ => (pe_op op_sub (pe_f c_law_random hr (by decide) passL (by rfl) (pa_cons (pv 0) (pa_cons pe_int pa_nil))) pe_int))) pa_nil)))
    (pss_cons (ps_set (i := 3) sc_law_digits.nd rfl (by first | exact .inl rfl | exact .inr rfl) (pe_ifExp (pt_cmpR op_eq (pe_f c_law_random hr (by decide) passL (by rfl) (pa_cons (pv 0) (pa_cons pe_int pa_nil))) pe_int (nomark _)) (pe_f c_law_sum hr (by decide) passL (by rfl) (pa_cons (pv 3) (pa_cons (pe_f c_law_moved hr (by decide) passL (by rfl) (pa_cons (pv 1) (pa_cons (pv 9) pa_nil))) pa_nil))) (pv 3)))
    (pss_cons (ps_set (i := 10) sc_law_digits.nd rfl (by first | exact .inl rfl | exact .inr rfl) (pe_f c_law_random hr (by decide) passL (by rfl) (pa_cons (pv 0) (pa_cons (pe_op op_add (pe_callB (cLenK K rfl) (by rfl) G.g_len boot_len (pa_cons (pv 4) pa_nil)) pe_int) pa_nil))))
    (pss_one (ps_set (i := 4) sc_law_digits.nd rfl (by first | exact .inl rfl | exact .inr rfl) (pe_op op_cat (pe_op op_cat (pe_slice (slLK K rfl) (pv 4) po_none (po_some (pv 10))) (pe_lst (pa_cons (pv 3) pa_nil))) (pe_slice (slLK K rfl) (pv 4) (po_some (pv 10)) po_none))))))))
    (pss_one (ps_ret (pe_op op_cat (pe_slice (slLK K rfl) (pv 7) po_none (po_some pe_int)) (pv 4)))))))))
theorem sc_law_way : FnScope ["_law_generator_here", "_law_matrix_here", "_law_bare"] ["_law_generator_here"] (defScope (top 73)) := ⟨rfl, rfl, rfl, by decide +kernel, rfl, by decide +kernel, by decide +kernel⟩
def t_law_way (K : PySem.W.Frag) : TS :=
    (tSeq (tAsg (tCall sp_law_matrix [] E0 (tCons (tVar 0) tNil)) (gName 1))
    (tSeq (tAsg (tLst (tCons (tVar 1) (tCons (tLst tNil) (tCons (tCall sp_law_adjugate [] E0 (tCons (tVar 1) tNil)) (tCons (tCall (sp_ldF 2) [] E0 (tCons (tVar 1) tNil)) (tCons tDNewT tNil)))))) (gName 2))
    (tRet (tCall sp_law_way_of [] E0 (tCons (tVar 1) (tCons (tCall sp_law_digits [] E0 (tCons (tVar 0) (tCons (tVar 1) (tCons (tVar 2) tNil)))) tNil))))))
theorem d_law_way (G : Glo K mg C) (c_law_matrix : Fn P w K mg base (L2.CX P w) 4 "_law_matrix" ["_law_generator_here"] sp_law_matrix) (c_law_det : Fn P w K mg base (L2.CX P w) 3 "_law_det" ["_law_matrix_here"] (sp_ldF 2)) (c_law_adjugate : Fn P w K mg base (L2.CX P w) 4 "_law_adjugate" ["_law_matrix_here"] sp_law_adjugate) (c_law_digits : Fn P w K mg base (L2.CX P w) 3 "_law_digits" ["_law_generator_here", "_law_matrix_here", "_law_way_here"] sp_law_digits) (c_law_way_of : Fn P w K mg base (L2.CX P w) 5 "_law_way_of" ["_law_matrix_here", "_law_digits_here"] sp_law_way_of) {f : Addr} {cdv : Value} {A : Around} {outer : List Env} {s : Shared} {H : Hp} {E : XK} (hr : Room 5 (A.deeper (envOfC "_law_way" (defScope (top 73)) s.heap.objs.size f cdv))) :
    PSs (cxOf (L2.CX P w) P w K mg base ["_law_generator_here", "_law_matrix_here", "_law_bare"] "_law_way" (defScope (top 73)) f cdv A outer s H E).nox (defBody (top 73)) (t_law_way K) :=
    (pss_cons (ps_set (i := 1) sc_law_way.nd rfl (by first | exact .inl rfl | exact .inr rfl) (pe_f c_law_matrix hr (by decide) passL (by rfl) (pa_cons (pv 0) pa_nil)))
    (pss_cons (ps_set (i := 2) sc_law_way.nd rfl (by first | exact .inl rfl | exact .inr rfl) (pe_lst (pa_cons (pv 1) (pa_cons (pe_lst pa_nil) (pa_cons (pe_f c_law_adjugate hr (by decide) passL (by rfl) (pa_cons (pv 1) pa_nil)) (pa_cons (pe_f c_law_det hr (by decide) passL (by rfl) (pa_cons (pv 1) pa_nil)) (pa_cons pe_dnewT pa_nil)))))))
    (pss_one (ps_ret (pe_f c_law_way_of hr (by decide) passL (by rfl) (pa_cons (pv 1) (pa_cons (pe_f c_law_digits hr (by decide) passL (by rfl) (pa_cons (pv 0) (pa_cons (pv 1) (pa_cons (pv 2) pa_nil)))) pa_nil)))))))
theorem sc_law_family : FnScope ["_law_generator_here", "_law_low", "_law_by", "_law_at"] ["_law_generator_here"] (defScope (top 78)) := ⟨rfl, rfl, rfl, by decide +kernel, rfl, by decide +kernel, by decide +kernel⟩
def t_law_family (K : PySem.W.Frag) : TS :=
    (tSeq (tAsg (tOp (rI0 fun i j => .int (i + j)) (tC (.int 2)) (tCall sp_law_random [] E0 (tCons (tVar 0) (tCons (tC (.int 8)) tNil)))) (gName 1))
    (tSeq (tAsg (tOp (rI0 fun i j => .int (i - j)) (tCall sp_law_random [] E0 (tCons (tVar 0) (tCons (tOp (rI0 fun i j => .int (i + j)) (tVar 1) (tC (.int 2))) tNil))) (tC (.int 1))) (gName 2))
    (tRet (tCall sp_law_way_of [] E0 (tCons (tTup (tCons (tTup (tCons (tC (.int 0)) (tCons (tOp (rI0 fun i j => .int (i - j)) (tC (.int 0)) (tVar 1)) tNil))) (tCons (tTup (tCons (tC (.int 1)) (tCons (tOp (rI0 fun i j => .int (i - j)) (tC (.int 0)) (tVar 2)) tNil))) tNil))) (tCons (tLc (iRng1 (tCons (tVar 1) tNil)) (gName 3) tYes (tTup (tCons (tVar 3) (tCons (tC (.int 0)) tNil))) [3]) tNil))))))
theorem d_law_family (G : Glo K mg C) (c_law_random : Fn P w K mg base (L2.CX P w) 2 "_law_random" ["_law_generator_here", "_law_limit"] sp_law_random) (c_law_way_of : Fn P w K mg base (L2.CX P w) 5 "_law_way_of" ["_law_matrix_here", "_law_digits_here"] sp_law_way_of) {f : Addr} {cdv : Value} {A : Around} {outer : List Env} {s : Shared} {H : Hp} {E : XK} (hr : Room 5 (A.deeper (envOfC "_law_family" (defScope (top 78)) s.heap.objs.size f cdv))) :
    PSs (cxOf (L2.CX P w) P w K mg base ["_law_generator_here", "_law_low", "_law_by", "_law_at"] "_law_family" (defScope (top 78)) f cdv A outer s H E).nox (defBody (top 78)) (t_law_family K) :=
    (pss_cons (ps_set (i := 1) sc_law_family.nd rfl (by first | exact .inl rfl | exact .inr rfl) (pe_op op_add pe_int (pe_f c_law_random hr (by decide) passL (by rfl) (pa_cons (pv 0) (pa_cons pe_int pa_nil)))))
    (pss_cons (ps_set (i := 2) sc_law_family.nd rfl (by first | exact .inl rfl | exact .inr rfl) (pe_op op_sub (pe_f c_law_random hr (by decide) passL (by rfl) (pa_cons (pv 0) (pa_cons (pe_op op_add (pv 1) pe_int) pa_nil))) pe_int))
    (pss_one (ps_ret (pe_f c_law_way_of hr (by decide) passL (by rfl) (pa_cons (pe_tup (pa_cons (pe_tup (pa_cons pe_int (pa_cons (pe_op op_sub pe_int (pv 1)) pa_nil))) (pa_cons (pe_tup (pa_cons pe_int (pa_cons (pe_op op_sub pe_int (pv 2)) pa_nil))) pa_nil))) (pa_cons (pe_lc (own := [("_law_at", 3)]) rfl sc_law_family.nd (pi_range1 (by rfl) G.g_range (pa_cons (pv 1) pa_nil)) (blkOk_by (N := ["_law_generator_here", "_law_low", "_law_by", "_law_at"]) (sc := defScope (top 78)) (by decide +kernel)) (fun _ _ _ _ _ => (pg_name (i := 3) sc_law_family.nd rfl (by first | exact .inl rfl | exact .inr rfl))) (fun _ _ _ _ _ => pts_nil) (fun _ _ _ _ _ => (pe_tup (pa_cons (pv 3) (pa_cons pe_int pa_nil))))) pa_nil)))))))
theorem sc_law_any_way : FnScope ["_law_generator_here", "_law_kind", "_law_low", "_law_at"] ["_law_generator_here"] (defScope (top 79)) := ⟨rfl, rfl, rfl, by decide +kernel, rfl, by decide +kernel, by decide +kernel⟩
def t_law_any_way (K : PySem.W.Frag) : TS :=
    (tSeq (tAsg (tCall sp_law_random [] E0 (tCons (tVar 0) (tCons (tC (.int 4)) tNil))) (gName 1))
    (tSeq (tIfS (tTest (tOp rEq (tVar 1) (tC (.int 0)))) (tRet (tCall sp_law_family [] E0 (tCons (tVar 0) tNil))) tNext)
    (tSeq (tIfS (tTest (tOp rEq (tVar 1) (tC (.int 1)))) (tSeq (tAsg (tOp (rI0 fun i j => .int (i + j)) (tC (.int 2)) (tCall sp_law_random [] E0 (tCons (tVar 0) (tCons (tC (.int 9)) tNil)))) (gName 2))
    (tRet (tCall sp_law_way_of [] E0 (tCons (tTup (tCons (tTup (tCons (tOp (rI0 fun i j => .int (i - j)) (tC (.int 0)) (tVar 2)) tNil)) tNil)) (tCons (tLc (iRng1 (tCons (tVar 2) tNil)) (gName 3) tYes (tTup (tCons (tVar 3) tNil)) [3]) tNil))))) tNext)
    (tRet (tCall sp_law_way [] E0 (tCons (tVar 0) tNil))))))
theorem d_law_any_way (G : Glo K mg C) (c_law_random : Fn P w K mg base (L2.CX P w) 2 "_law_random" ["_law_generator_here", "_law_limit"] sp_law_random) (c_law_family : Fn P w K mg base (L2.CX P w) 6 "_law_family" ["_law_generator_here"] sp_law_family) (c_law_way_of : Fn P w K mg base (L2.CX P w) 5 "_law_way_of" ["_law_matrix_here", "_law_digits_here"] sp_law_way_of) (c_law_way : Fn P w K mg base (L2.CX P w) 6 "_law_way" ["_law_generator_here"] sp_law_way) {f : Addr} {cdv : Value} {A : Around} {outer : List Env} {s : Shared} {H : Hp} {E : XK} (hr : Room 6 (A.deeper (envOfC "_law_any_way" (defScope (top 79)) s.heap.objs.size f cdv))) :
    PSs (cxOf (L2.CX P w) P w K mg base ["_law_generator_here", "_law_kind", "_law_low", "_law_at"] "_law_any_way" (defScope (top 79)) f cdv A outer s H E).nox (defBody (top 79)) (t_law_any_way K) :=
    (pss_cons (ps_set (i := 1) sc_law_any_way.nd rfl (by first | exact .inl rfl | exact .inr rfl) (pe_f c_law_random hr (by decide) passL (by rfl) (pa_cons (pv 0) (pa_cons pe_int pa_nil))))
    (pss_cons (ps_if (pt_cmpR op_eq (pv 1) pe_int (nomark _)) (pss_one (ps_ret (pe_f c_law_family hr (by decide) passL (by rfl) (pa_cons (pv 0) pa_nil)))) pss_nil)
    (pss_cons (ps_if (pt_cmpR op_eq (pv 1) pe_int (nomark _)) (pss_cons (ps_set (i := 2) sc_law_any_way.nd rfl (by first | exact .inl rfl | exact .inr rfl) (pe_op op_add pe_int (pe_f c_law_random hr (by decide) passL (by rfl) (pa_cons (pv 0) (pa_cons pe_int pa_nil)))))
    (pss_one (ps_ret (pe_f c_law_way_of hr (by decide) passL (by rfl) (pa_cons (pe_tup (pa_cons (pe_tup (pa_cons (pe_op op_sub pe_int (pv 2)) pa_nil)) pa_nil)) (pa_cons (pe_lc (own := [("_law_at", 3)]) rfl sc_law_any_way.nd (pi_range1 (by rfl) G.g_range (pa_cons (pv 2) pa_nil)) (blkOk_by (N := ["_law_generator_here", "_law_kind", "_law_low", "_law_at"]) (sc := defScope (top 79)) (by decide +kernel)) (fun _ _ _ _ _ => (pg_name (i := 3) sc_law_any_way.nd rfl (by first | exact .inl rfl | exact .inr rfl))) (fun _ _ _ _ _ => pts_nil) (fun _ _ _ _ _ => (pe_tup (pa_cons (pv 3) pa_nil)))) pa_nil)))))) pss_nil)
    (pss_one (ps_ret (pe_f c_law_way hr (by decide) passL (by rfl) (pa_cons (pv 0) pa_nil)))))))
end
end K13
namespace K13
open PySem PySem.Spec PyProof.Rows L2 Evl
def cutA {α : Type} (xs : List α) (lo hi : Option Int) : List α := (xs.drop (HT.sIx xs.length 0 lo)).take (HT.sIx xs.length xs.length hi - HT.sIx xs.length 0 lo)
theorem cutA_from {α : Type} (xs : List α) (k : Nat) : cutA xs (some (k : Int)) none = xs.drop k := by
  unfold cutA
  rw [HT.sIx_nat, HT.sIx_none]
  by_cases h : k ≤ xs.length
  · rw [Nat.min_eq_left h, List.take_of_length_le (by rw [List.length_drop]; omega)]
  · rw [Nat.min_eq_right (by omega), List.drop_of_length_le (by omega), List.drop_of_length_le (by omega), List.take_nil]
theorem cutA_to {α : Type} (xs : List α) (k : Nat) : cutA xs none (some (k : Int)) = xs.take k := by
  unfold cutA
  rw [HT.sIx_nat, HT.sIx_none, List.drop_zero, Nat.sub_zero]
  by_cases h : k ≤ xs.length
  · rw [Nat.min_eq_left h]
  · rw [Nat.min_eq_right (by omega), List.take_of_length_le (Nat.le_refl _), List.take_of_length_le (by omega)]
theorem paired_drop {α β : Type} {G : α → β → Prop} : ∀ (k : Nat) {l : List α} {r : List β}, Paired G l r → Paired G (l.drop k) (r.drop k)
  | 0, _, _, h => h
  | _ + 1, _, _, .nil => .nil
  | k + 1, _, _, .cons _ t => paired_drop k t
theorem paired_take {α β : Type} {G : α → β → Prop} : ∀ (k : Nat) {l : List α} {r : List β}, Paired G l r → Paired G (l.take k) (r.take k)
  | 0, _, _, _ => .nil
  | _ + 1, _, _, .nil => .nil
  | k + 1, _, _, .cons h t => .cons h (paired_take k t)
section
variable {K : PySem.W.Frag} {σ : L2.St} {H H' : Hp} {ta tb te : TE} {tl th : TO} {l : Addr} {ps qs : List Pt} {lo hi : Option Int} {g : Addr} {b b1 : Nat}
theorem evp_slLA (h : Ev te σ H (.ref l)) (hx : LA H l ps) (h1 : EvO tl σ H lo) (h2 : EvO th σ H hi) : EvP (tSl (rSlL K) te tl th) σ H fun v H' => ∃ l, v = .ref l ∧ H l = none ∧ LA H' l (cutA ps lo hi) := fun H0 e Q q => by
  obtain ⟨as, ha, has⟩ := hx
  refine el_sl h h1 h2 (sq_of ha) H0 e _ fun p H2 hp e2 hp2 => q _ H2 e2 ⟨p, rfl, fresh_back e hp, cutA as lo hi, ?_, ?_⟩
  · rw [hp2]
    unfold cutV cutA
    rw [List.map_take, List.map_drop, List.length_map]
  · unfold cutA
    rw [has.len]
    exact paired_take _ (paired_drop _ (has.ex (e.trans e2)))
theorem evp_catLA (hz : ps.length + qs.length ≤ 100000) (ha : EvP ta σ H fun v H' => ∃ l, v = .ref l ∧ LA H' l ps) (hb : ∀ H1, Ex H H1 → EvP tb σ H1 fun v H' => ∃ l, v = .ref l ∧ LA H' l qs) : EvP (tOp rCat ta tb) σ H fun v H' => ∃ l, v = .ref l ∧ H l = none ∧ LA H' l (ps ++ qs) := fun H0 e Q q =>
  ha H0 e _ fun v H1 e1 ⟨l1, ev, as, h1, h1'⟩ => hb H1 (e.trans e1) H1 (Ex.refl H1) _ fun u H2 e2 ⟨l2, eu, bs, h2, h2'⟩ => by
    subst ev eu
    refine ⟨l1, l2, _, _, rfl, rfl, e2 _ _ h1, h2, ?_, fun p hp => q _ _ ((e1.trans e2).trans (Ex.new hp)) ⟨p, rfl, fresh_back ((e.trans e1).trans e2) hp, as ++ bs, ?_, paired_append ((h1'.ex e2).ex (Ex.new hp)) (h2'.ex (Ex.new hp))⟩⟩
    · rw [List.length_map, List.length_map, h1'.len, h2'.len]
      exact sz_of hz
    · rw [upd_same, List.map_append]
theorem rnd_in {n : Nat} {tn : TE} {Q : VK} (h0 : σ[0]? = some (some (.ref g))) (hn : Ev tn σ H (.int (n : Int))) (h1 : 1 ≤ n) (h2 : n ≤ 100000) (hb : b ≤ 900000000) (hg : RG b H g) (k : ∀ r : Nat, r < n → ∀ H', Kp [g] H H' → RG (b + 1) H' g → Q (.int (r : Int)) H') : tCall sp_law_random [] E0 (tCons (tVar 0) (tCons tn tNil)) σ H Q :=
  ⟨_, h0, hn H (Ex.refl H) _ fun H1 e => ⟨g, n, b, rfl, h1, h2, hg.ex e, hb, fun r hr H' kp hg' => k r hr H' ((Kp.ex e).trans kp) hg'⟩⟩
theorem q_whenR {c : Int} {S : Int → Prop} {D : Ends} {tu tz : TS} (h : EvR te σ g b b1 S) (hg : RG b H g) (k1 : ∀ H1, Kp [g] H H1 → RG b1 H1 g → tu { D with nx := tz D } σ H1) (k2 : ∀ H1, Kp [g] H H1 → RG b1 H1 g → tz D σ H1) : tSeq (tIfS (tTest (tOp rEq te (tC (.int c)))) tu tNext) tz D σ H :=
  h H hg _ fun i H1 k g1 _ => ⟨rfl, _, rfl, by
    cases decide (V.int i = V.int c)
    · exact k2 H1 k g1
    · exact k1 H1 k g1⟩
theorem ifR_in {c : Int} {S : Int → Prop} {Q : VK} (h : EvR te σ g b b1 S) (hg : RG b H g) (k1 : ∀ H1, Kp [g] H H1 → RG b1 H1 g → ta σ H1 Q) (k2 : ∀ H1, Kp [g] H H1 → RG b1 H1 g → tb σ H1 Q) : tIf (tTest (tOp rEq te (tC (.int c)))) ta tb σ H Q :=
  h H hg _ fun i H1 k g1 _ => ⟨rfl, _, rfl, by
    cases decide (V.int i = V.int c)
    · exact k2 H1 k g1
    · exact k1 H1 k g1⟩
end
end K13
namespace K13
open PySem PySem.Spec PyProof.Rows L2 Evl
theorem g_four {K : PySem.W.Frag} {σ : L2.St} {H : Hp} {i j k l : Nat} {T : Addr} {x y z u : V} (hT : H T = some (.tup [x, y, z, u])) : ∀ Q : L2.St → Hp → Prop, Q ((((σ.set i (some x)).set j (some y)).set k (some z)).set l (some u)) H → gTup K 4 (gCons (gName i) (gCons (gName j) (gCons (gName k) (gCons (gName l) gNil)))) (.ref T) σ H Q := fun Q q => ⟨T, [x, y, z, u], rfl, st_of hT, rfl, x, [y, z, u], rfl, y, [z, u], rfl, z, [u], rfl, u, [], rfl, rfl, q⟩
theorem leastS_len {m : Mx} {k : Nat} {F : List Pt} {p : Pt} (h : F.length ≤ k) : (leastS m k F p).length ≤ k := by
  unfold leastS
  split
  · rename_i c
    rw [List.length_append]
    exact c.1
  · exact h
theorem fold_len {m : Mx} {k : Nat} : ∀ (ps F : List Pt), F.length ≤ k → (ps.foldl (leastS m k) F).length ≤ k
  | [], _, h => h
  | _ :: ps, _, h => fold_len ps _ (leastS_len h)
theorem fold_sub {m : Mx} {k : Nat} : ∀ (ps F : List Pt), ∀ p ∈ ps.foldl (leastS m k) F, p ∈ F ∨ p ∈ ps
  | [], _, p, h => .inl h
  | q :: ps, F, p, h => by
    rcases fold_sub ps _ p h with h | h
    · unfold leastS at h
      split at h
      · rcases List.mem_append.mp h with h | h
        · exact .inl h
        · exact .inr (by rw [List.mem_singleton.mp h]; exact List.mem_cons_self ..)
      · exact .inl h
    · exact .inr (List.mem_cons_of_mem _ h)
theorem leastD_len (n : Nat) (m : Mx) : (leastD n m).length ≤ (detM m).natAbs := fold_len _ _ (Nat.zero_le _)
theorem leastD_mem {n : Nat} {m : Mx} {p : Pt} (h : p ∈ leastD n m) : p.length = n := by
  rcases fold_sub _ _ p h with h | h
  · cases h
  · exact boxL_mem h
section
variable {K : PySem.W.Frag} {g : Addr} {b b1 b2 : Nat}
theorem absI_nat (x : Int) : absI x = (x.natAbs : Int) := by
  unfold absI
  split <;> omega
/-- the least digits are found -/
theorem digits_least {v2 a0 : V} {n : Nat} {m : Mx} {H : Hp} {D : Ends} {tz : TS} {x1 : V} (hb : LK H v2 (adjM m) (detM m)) (mok : Mok n m) (hA : Sq n (adjM m)) (hsm : ∀ r ∈ adjM m, Sm r) (hm : ∃ (a : Addr) (as : List Addr), x1 = .ref a ∧ H a = some (.tup (as.map V.ref)) ∧ as.length = n)
    (k : ∀ (σ' : L2.St) (H' : Hp) (l d : Addr) (z : Option V), σ' = [some a0, some x1, some v2, z, none, some (.int (n : Int)), some (.int ((detM m).natAbs : Int)), some (.ref l), some (.ref d), none, none, none] → Ex H H' → LA H' l (leastD n m) → tz D σ' H') :
    tSeq (tAsg (tTup (tCons (tCB (rLenS K) (tCons (tVar 1) tNil)) (tCons (tCB rAbs1 (tCons (tOp (rIxL K) (tVar 2) (tC (.int 3))) tNil)) (tCons (tLst tNil) (tCons tDNewT tNil))))) (gTup K 4 (gCons (gName 5) (gCons (gName 6) (gCons (gName 7) (gCons (gName 8) gNil))))))
    (tSeq (tFor (iList K (tCall sp_law_boxes [] E0 (tCons (tVar 5) (tCons (tVar 6) tNil)))) (gName 3) (tIfS (tAnd (tTest (tOp (rI0 fun i j => .bl (decide (i < j))) (tCB (rLenS K) (tCons (tVar 7) tNil)) (tVar 6))) (tB (tDNotIn (tCall sp_law_key [] E0 (tCons (tVar 2) (tCons (tVar 3) tNil))) (tVar 8)))) (tSeq (sDPut (tVar 8) (tCall sp_law_key [] E0 (tCons (tVar 2) (tCons (tVar 3) tNil))) (tC (.bl true)))
    (tDrop (tBM K "list" rAppend (tVar 7) (tCons (tVar 3) tNil)))) tNext)) tz) D [some a0, some x1, some v2, none, none, none, none, none, none, none, none, none] H := by
  obtain ⟨a1, as1, rfl, ha1, hal⟩ := hm
  obtain ⟨sq, n1, n3, hent, hd1, hd2, hdn, -⟩ := mok
  have hk12 : (detM m).natAbs ≤ 12 := by omega
  have hk1 : 1 ≤ (detM m).natAbs := by omega
  have hszl : sizeLine = 16777216 := sizeLine_eq
  generalize hkk : (detM m).natAbs = kk at *
  have htup : EvP (tTup (tCons (tCB (rLenS K) (tCons (tVar 1) tNil)) (tCons (tCB rAbs1 (tCons (tOp (rIxL K) (tVar 2) (tC (.int 3))) tNil)) (tCons (tLst tNil) (tCons tDNewT tNil))))) [some a0, some (.ref a1), some v2, none, none, none, none, none, none, none, none, none] H fun u H' => ∃ t l d, u = .ref t ∧ H' t = some (.tup [.int (n : Int), .int (kk : Int), .ref l, .ref d]) ∧ H l = none ∧ H d = none ∧ l ≠ d ∧ LA H' l [] ∧ DP H' d (trueT []) := fun H0 e Q q => by
    refine tup_cons ?_
    refine ev_is (ev_lenT (ev_var rfl) ha1) (by rw [List.length_map, hal]) H0 e _ fun H1 e1 => ?_
    refine lst_in ?_
    obtain ⟨ab, xs, x2, eb, hb1, hb2, hb3, hb4⟩ := hb
    subst eb
    refine ev_is (ev_abs (ev_ixK (i := 3) (ev_var rfl) ev_c hb1 hb4)) (by rw [absI_nat, hkk]) H1 (e.trans e1) _ fun H2 e2 => ?_
    refine lst_in ?_
    refine evp_lst ea_nil (by decide) H2 (Ex.refl H2) _ fun u H3 e3 ⟨l, eu, hl0, hl⟩ => ?_
    subst eu
    refine lst_in ?_
    refine evp_dnew (H := H3) H3 (Ex.refl H3) _ fun u H4 e4 ⟨d, eu, hd0, hd⟩ => ?_
    subst eu
    exact ⟨by rw [hszl]; show (4 : Nat) ≤ 16777216; decide, fun t ht => q _ _ (((e1.trans e2).trans (e3.trans e4)).trans (Ex.new ht)) ⟨t, l, d, rfl, upd_same, fresh_back ((e.trans e1).trans e2) hl0, fresh_back (((e.trans e1).trans e2).trans e3) hd0, (fun (z : l = d) => by rw [z] at hl; rw [hl] at hd0; cases hd0), LA.nil (Ex.new ht _ _ (e4 _ _ hl)), Ex.new ht _ _ hd⟩⟩
  refine q_asgG htup fun u H1 e1 ⟨t, l, d, eu, ht, hl0, hd0, hld, hl, hd⟩ => ?_
  subst eu
  refine g_four ht _ ?_
  have hmem : ∀ c ∈ [d, l], H c = none := fun c hc => by
    rcases List.mem_cons.mp hc with rfl | hc
    · exact hd0
    · rw [List.mem_singleton.mp hc]; exact hl0
  have hmu : ∀ c ∈ [d, l], H1 c ≠ none := fun c hc => by
    rcases List.mem_cons.mp hc with rfl | hc
    · rw [hd]; exact fun z => nomatch z
    · rw [List.mem_singleton.mp hc]; exact hl.ne
  have hbox : EvP (tCall sp_law_boxes [] E0 (tCons (tVar 5) (tCons (tVar 6) tNil))) [some a0, some (.ref a1), some v2, none, none, some (.int (n : Int)), some (.int (kk : Int)), some (.ref l), some (.ref d), none, none, none] H1 fun u H' => ∃ l, u = .ref l ∧ H1 l = none ∧ LA H' l (boxL n kk) := fun H0 e0 Q q =>
    evp_callA (P := fun u H' => ∃ l, u = .ref l ∧ H1 l = none ∧ LA H' l (boxL n kk)) (ea_cons (ev_var rfl) (ea_cons (ev_var rfl) ea_nil)) (fun H3 e3 Q q E => ⟨_, ⟨n, kk, rfl, n3, Nat.le_trans (Nat.pow_le_pow_left hk12 n) (Nat.le_trans (Nat.pow_le_pow_right (by decide) n3) (by decide)), by omega, hk1, rfl⟩, fun u H' e' ⟨l, eu, hl0, hh⟩ => q u H' e' ⟨l, eu, fresh_back e3 hl0, hh⟩⟩) H0 e0 Q q
  have hi := evf_listPts (K := K) (mu := [d, l]) hmu hbox
  refine q_forF hi (fun i σ' H' => ∃ z, σ' = [some a0, some (.ref a1), some v2, z, none, some (.int (n : Int)), some (.int (kk : Int)), some (.ref l), some (.ref d), none, none, none] ∧ DP H' d (trueT ((((boxL n kk).take i).foldl (leastS m kk) []).map (keyM m))) ∧ LA H' l (((boxL n kk).take i).foldl (leastS m kk) [])) (fun i σ' H' H'' e ⟨z, h1, h2, h3⟩ => ⟨z, h1, e _ _ h2, h3.ex e⟩) ⟨none, rfl, hd, hl⟩
    (fun B i x σ' H' hin eB kp ⟨z, es, hD, hL⟩ ⟨p, hp, hx⟩ => ?_) fun σ' H' kp ⟨z, es, hD, hL⟩ => ?_
  · subst es
    have eH : Ex H H' := kp_ex (e1.trans eB) kp hmem
    have hpn : p.length = n := boxL_mem (List.mem_of_getElem? hp)
    have htk : (boxL n kk).take (i + 1) = (boxL n kk).take i ++ [p] := by rw [List.take_succ, hp]; rfl
    rw [htk, List.foldl_append]
    have hFl := fold_len (m := m) (k := kk) ((boxL n kk).take i) [] (Nat.zero_le _)
    generalize ((boxL n kk).take i).foldl (leastS m kk) [] = F at hD hL hFl ⊢
    show tIfS _ _ _ _ [some a0, some (.ref a1), some v2, some x, none, some (.int (n : Int)), some (.int (kk : Int)), some (.ref l), some (.ref d), none, none, none] H'
    have hkey : ∀ H7, Ex H' H7 → EvP (tCall sp_law_key [] E0 (tCons (tVar 2) (tCons (tVar 3) tNil))) [some a0, some (.ref a1), some v2, some x, none, some (.int (n : Int)), some (.int (kk : Int)), some (.ref l), some (.ref d), none, none, none] H7 fun u H' => PtV H' u (keyM m p) := fun H7 e7 =>
      evp_callA (ea_cons (ev_var rfl) (ea_cons (ev_var rfl) ea_nil)) (spp_use fun H8 e8 => ⟨n, v2, x, adjM m, detM m, p, rfl, (hb.ex eH).ex (e7.trans e8), hx.ex (e7.trans e8), hA, hpn, by omega, hsm, hdn, rfl⟩)
    refine s_when (b := decide ((F.length : Int) < (kk : Int)) && !decide (keyM m p ∈ F.map (keyM m))) (et_and (et_test (ev_op (ev_is (ev_len (ev_var rfl) (sq_of hL.choose_spec.1)) (by rw [List.length_map, hL.choose_spec.2.len])) (ev_var rfl) rv_I0)) fun _ => by
      have := et_dnotin (td := tVar 8) hD (hkey H' (Ex.refl H')) fun _ _ => ev_var rfl
      rw [trueT_keys] at this
      exact this) (fun hc H2 e2 => ?_) fun hc H2 e2 => ?_
    · rw [Bool.and_eq_true] at hc
      have hc1 : F.length < kk := by have := of_decide_eq_true hc.1; omega
      have hc2 : keyM m p ∉ F.map (keyM m) := fun z => by
        have := hc.2
        rw [decide_eq_true z] at this
        cases this
      have hS : leastS m kk F p = F ++ [p] := by
        unfold leastS
        rw [if_pos ⟨hc1, hc2⟩]
      show tSeq _ _ _ _ _
      refine q_dput (P := isV (.bl true)) (e2 _ _ hD) (evp_of_ev ev_c) (fun _ _ => ev_var rfl) (fun H7 e7 => hkey H7 (e2.trans e7)) (by unfold trueT; rw [List.length_map, List.length_map, hszl]; omega) fun v7 H7 H8 e7 hv7 e8 => ?_
      obtain rfl : v7 = .bl true := hv7
      rw [putP_new _ (by rw [trueT_keys]; exact hc2)]
      have e28 := (e2.trans e7).trans e8
      have hD8 := e28 _ _ hD
      have htt : trueT (F.map (keyM m)) ++ [(keyM m p, V.bl true)] = trueT ((F ++ [p]).map (keyM m)) := by unfold trueT; rw [List.map_append, List.map_append]; rfl
      rw [htt]
      have kd : Kp [d, l] H8 (upd H8 d (.dT (tabP (trueT ((F ++ [p]).map (keyM m)))))) := Kp.dT (List.mem_cons_self ..) hD8
      have la8 : LA (upd H8 d (.dT (tabP (trueT ((F ++ [p]).map (keyM m)))))) l F := (hL.ex e28).kp (mu := [d]) (fun z => hld (List.mem_singleton.mp z)) (Kp.dT (List.mem_cons_self ..) hD8)
      have hx8 := (hx.ex e28).tex kd.2
      have hD9 : DP (upd H8 d (.dT (tabP (trueT ((F ++ [p]).map (keyM m)))))) d (trueT ((F ++ [p]).map (keyM m))) := upd_same
      generalize upd H8 d (.dT (tabP (trueT ((F ++ [p]).map (keyM m))))) = H9 at kd la8 hx8 hD9
      refine s_appPt la8 (ev_var rfl) (evp_varPt rfl hx8) (by rw [hszl]; omega) fun H10 la10 k10 => ⟨⟨_, rfl, ?_, ?_⟩, kp.trans (((Kp.ex e28).trans kd).trans (k10 _ (List.mem_cons_of_mem _ (List.mem_cons_self ..))))⟩
      · show DP H10 d (trueT ((leastS m kk F p).map (keyM m)))
        rw [hS]
        exact (k10 [l] (List.mem_cons_self ..)).1 _ _ (fun z => hld (List.mem_singleton.mp z).symm) hD9
      · show LA H10 l (leastS m kk F p)
        rw [hS]
        exact la10
    · have hS : leastS m kk F p = F := by
        unfold leastS
        rw [if_neg]
        rintro ⟨c1, c2⟩
        rw [decide_eq_true (show (F.length : Int) < (kk : Int) by omega), decide_eq_false c2] at hc
        cases hc
      refine ⟨⟨_, rfl, ?_, ?_⟩, kp.trans (Kp.ex e2)⟩
      · show DP H2 d (trueT ((leastS m kk F p).map (keyM m)))
        rw [hS]
        exact e2 _ _ hD
      · show LA H2 l (leastS m kk F p)
        rw [hS]
        exact hL.ex e2
  · refine k σ' H' l d z es (kp_ex e1 kp hmem) ?_
    rw [List.take_length] at hL
    unfold leastD
    rw [hkk]
    exact hL
end
end K13
namespace K13
open PySem PySem.Spec PyProof.Rows L2 Evl
theorem la_ne_g {H : Hp} {l g : Addr} {ps : List Pt} {b : Nat} (h : LA H l ps) (hg : RG b H g) : l ∉ [g] := fun z => by
  obtain ⟨as, ha, -⟩ := h
  obtain ⟨x, y, c, h, -⟩ := hg
  rw [List.mem_singleton.mp z, h] at ha
  cases as with
  | nil => cases ha
  | cons a as => cases ha
theorem cb1_in {r : List V → Hp → VK → Prop} {te : TE} {σ : L2.St} {H : Hp} {Q : VK} (h : te σ H fun x H1 => r [x] H1 Q) : tCB r (tCons te tNil) σ H Q := h
theorem asg_in {te : TE} {i : Nat} {D : Ends} {σ : L2.St} {H : Hp} (h : te σ H fun v H1 => D.nx (σ.set i (some v)) H1) : tAsg te (gName i) D σ H := h
theorem seqA_in {te : TE} {i : Nat} {D : Ends} {tz : TS} {σ : L2.St} {H : Hp} (h : te σ H fun v H1 => tz D (σ.set i (some v)) H1) : tSeq (tAsg te (gName i)) tz D σ H := h
theorem perm_put {α : Type} {os es : List α} {e : α} (h : os.Perm es) (r : Nat) : (os.take r ++ [e] ++ os.drop r).Perm (es ++ [e]) := by
  have h1 : (os.take r ++ [e] ++ os.drop r).Perm (e :: (os.take r ++ os.drop r)) := by
    rw [List.append_assoc]
    exact List.perm_middle
  rw [List.take_append_drop] at h1
  exact h1.trans ((h.cons e).trans (List.perm_append_singleton e es).symm)
section
variable {K : PySem.W.Frag} {g : Addr} {b b1 b2 : Nat}
theorem p_law_digits (vs : List V) (H : Hp) (Q : VK) (E : XK) (h : sp_law_digits vs H Q E) : t_law_digits K (En Q) (start ["_law_generator_here", "_law_matrix_here", "_law_way_here", "_law_point", "_law_others", "_law_size", "_law_many", "_law_found", "_law_seen", "_law_by", "_law_place", "_law_at"] vs) H := by
  obtain ⟨g, b, R, ⟨va, vb, n, m, rfl, ha, hb, mok, hsm, rfl⟩, hg, hbb, k⟩ := h
  obtain ⟨aa, as, rfl, ha1, has⟩ := ha
  have ha : MxV H (.ref aa) m := ⟨aa, as, rfl, ha1, has⟩
  have mok' := mok
  obtain ⟨sq, n1, n3, hent, hd1, hd2, hdn, -⟩ := mok'
  have hkl := leastD_len n m
  have hk12 : (leastD n m).length ≤ 12 := by omega
  refine digits_least hb mok (adjM_sq sq) hsm ⟨aa, as, rfl, ha1, by rw [has.len, sq.1]⟩ fun σ' H1 l d z es e1 hL => ?_
  subst es
  have hmem : ∀ p ∈ leastD n m, p.length = n := fun p h => leastD_mem h
  generalize hLL : leastD n m = L at *
  refine q_whenR (er_rnd rfl (er_nat (n := 3) er_c rfl) (by decide) (by decide) (by omega)) (hg.ex e1) (fun H2 k2 g2 => ?_) fun H2 k2 g2 => ?_
  · refine s_ret (ev_var rfl) fun H3 e3 => k _ H3 ((Kp.ex e1).trans (k2.trans (Kp.ex e3))) ((g2.ex e3).mono (by omega)) ⟨L, ?_, ?_⟩
    · exact ((hL.kp (la_ne_g hL (hg.ex e1)) k2).ex e3).pl
    · exact .inl hLL.symm
  have hL2 := hL.kp (la_ne_g hL (hg.ex e1)) k2
  refine q_asgP (evp_lst ea_nil (by decide)) fun u H3 e3 ⟨lo, eu, hlo0, hlo⟩ => ?_
  subst eu
  have hL3 := hL2.ex e3
  have k3 : Kp [g] H H3 := (Kp.ex e1).trans (k2.trans (Kp.ex e3))
  have hsl := evp_slLA (K := K) (σ := [some (.ref g), some (.ref aa), some vb, z, some (.ref lo), some (.int (n : Int)), some (.int ((detM m).natAbs : Int)), some (.ref l), some (.ref d), none, none, none]) (ev_var (i := 7) rfl) hL3 (eo_some (i := 1) ev_c) eo_none
  rw [show cutA L (some 1) none = L.drop 1 from cutA_from L 1] at hsl
  have hmu : ∀ c ∈ [g], H3 c ≠ none := fun c hc => by
    obtain ⟨x, y, c', h, -⟩ := g2.ex e3
    rw [List.mem_singleton.mp hc, h]
    exact fun z => nomatch z
  have hi := evf_listPts (K := K) (mu := [g]) hmu hsl
  have hdl : (L.drop 1).length ≤ 11 := by rw [List.length_drop]; omega
  refine q_forF hi (fun i σ' H' => ∃ (z : Option V) (lo : Addr) (c9 c10 c11 : Option V) (os es : List Pt), σ' = [some (.ref g), some (.ref aa), some vb, z, some (.ref lo), some (.int (n : Int)), some (.int ((detM m).natAbs : Int)), some (.ref l), some (.ref d), c9, c10, c11] ∧ RG (b + 1 + 5 * i) H' g ∧ LA H' lo os ∧ os.Perm es ∧ Paired (Shift n m) ((L.drop 1).take i) es)
    (fun i σ' H' H'' e ⟨z, lo, c9, c10, c11, os, es, h1, h2, h3, h4⟩ => ⟨z, lo, c9, c10, c11, os, es, h1, h2.ex e, h3.ex e, h4⟩) ⟨z, lo, none, none, none, [], [], rfl, g2.ex e3, LA.nil hlo, .refl _, .nil⟩
    (fun B i x σ' H' hin eB kp ⟨z, lo, c9, c10, c11, os, es, eσ, gr, hos, hperm, hpair⟩ ⟨f, hf, hx⟩ => ?_) fun σ' H' kp ⟨z, lo, c9, c10, c11, os, es, eσ, gr, hos, hperm, hpair⟩ => ?_
  · subst eσ
    have hfn : f.length = n := hmem f (List.mem_of_mem_drop (List.mem_of_getElem? hf))
    have hol : os.length = i := by
      rw [hperm.length_eq, ← Paired.length hpair, List.length_take]
      omega
    have hma : MxV H' (.ref aa) m := ha.tex ((k3.trans (Kp.ex eB)).trans kp).2
    show tSeq _ _ _ [some (.ref g), some (.ref aa), some vb, some x, some (.ref lo), some (.int (n : Int)), some (.int ((detM m).natAbs : Int)), some (.ref l), some (.ref d), c9, c10, c11] H'
    refine seqA_in (cb1_in ?_)
    refine lcR (b := b + 1 + 5 * i) (g := g) (n := n) (S := fun x => ∃ r : Nat, r < 3 ∧ x = (r : Int) - 1) (ev_var rfl) (by omega) _ (fun x => rfl) (fun x => rfl) (fun c x hc => (er_op0 (er_rnd rfl (er_nat (n := 3) er_c rfl) (by decide) (by decide) (by omega)) er_c).imp ?_) gr fun lb by' H4 k4 g4 hbl hbs hbn hbA => ?_
    · rintro i ⟨_, _, ⟨r, hr, rfl⟩, rfl, rfl⟩
      exact ⟨r, hr, rfl⟩
    refine ⟨lb, by'.map V.int, rfl, Or.inl ⟨sq_of hbA, fun t ht => ?_⟩⟩
    have ht5 : upd H4 t (.tup (by'.map V.int)) t = some (.tup (by'.map V.int)) := upd_same
    have e5 : Ex H4 (upd H4 t (.tup (by'.map V.int))) := Ex.new ht
    generalize upd H4 t (.tup (by'.map V.int)) = H5 at ht5 e5
    show tSeq _ _ _ [some (.ref g), some (.ref aa), some vb, some x, some (.ref lo), some (.int (n : Int)), some (.int ((detM m).natAbs : Int)), some (.ref l), some (.ref d), some (.ref t), c10, c11] H5
    have k5 : Kp [g] H' H5 := k4.trans (Kp.ex e5)
    have hos5 : LA H5 lo os := hos.kp (la_ne_g hos gr) k5
    -- what follows the shift
    have rest : ∀ (w : V) (e : Pt) (H6 : Hp), Kp [g] H' H6 → RG (b + 1 + 5 * i + n + 1) H6 g → PtV H6 w e → Shift n m f e →
        tSeq (tAsg (tCall sp_law_random [] E0 (tCons (tVar 0) (tCons (tOp (rI0 fun i j => .int (i + j)) (tCB (rLenS K) (tCons (tVar 4) tNil)) (tC (.int 1))) tNil))) (gName 10))
        (tAsg (tOp rCat (tOp rCat (tSl (rSlL K) (tVar 4) tNoPart (tPart (tVar 10))) (tLst (tCons (tVar 3) tNil))) (tSl (rSlL K) (tVar 4) (tPart (tVar 10)) tNoPart)) (gName 4))
        { En Q with nx := fun σ3 H3 => (∃ (z : Option V) (lo : Addr) (c9 c10 c11 : Option V) (os es : List Pt), σ3 = [some (.ref g), some (.ref aa), some vb, z, some (.ref lo), some (.int (n : Int)), some (.int ((detM m).natAbs : Int)), some (.ref l), some (.ref d), c9, c10, c11] ∧ RG (b + 1 + 5 * (i + 1)) H3 g ∧ LA H3 lo os ∧ os.Perm es ∧ Paired (Shift n m) ((L.drop 1).take (i + 1)) es) ∧ Kp [g] B H3 }
        [some (.ref g), some (.ref aa), some vb, some w, some (.ref lo), some (.int (n : Int)), some (.int ((detM m).natAbs : Int)), some (.ref l), some (.ref d), some (.ref t), c10, c11] H6 := by
      intro w e H6 k6 g6 hw hsh
      have hos6 := hos.kp (la_ne_g hos gr) k6
      refine seqA_in (rnd_in (n := os.length + 1) rfl (ev_is (ev_op (ev_is (ev_len (ev_var rfl) (sq_of hos6.choose_spec.1)) (by rw [List.length_map, hos6.choose_spec.2.len])) ev_c rv_I0) (by rfl)) (by omega) (by omega) (by omega) g6 fun r hr H7 k7 g7 => ?_)
      have hos7 := hos6.kp (la_ne_g hos6 g6) k7
      have hw7 := hw.tex k7.2
      have ev4 : ∀ {H8}, Ev (tVar 4) [some (.ref g), some (.ref aa), some vb, some w, some (.ref lo), some (.int (n : Int)), some (.int ((detM m).natAbs : Int)), some (.ref l), some (.ref d), some (.ref t), some (.int (r : Int)), c11] H8 (.ref lo) := ev_var rfl
      have ev10 : ∀ {H8}, Ev (tVar 10) [some (.ref g), some (.ref aa), some vb, some w, some (.ref lo), some (.int (n : Int)), some (.int ((detM m).natAbs : Int)), some (.ref l), some (.ref d), some (.ref t), some (.int (r : Int)), c11] H8 (.int (r : Int)) := ev_var rfl
      have c1 := evp_slLA (K := K) ev4 hos7 eo_none (eo_some ev10)
      rw [cutA_to] at c1
      have c3 : ∀ H8, Ex H7 H8 → EvP (tSl (rSlL K) (tVar 4) (tPart (tVar 10)) tNoPart) [some (.ref g), some (.ref aa), some vb, some w, some (.ref lo), some (.int (n : Int)), some (.int ((detM m).natAbs : Int)), some (.ref l), some (.ref d), some (.ref t), some (.int (r : Int)), c11] H8 fun v H' => ∃ l, v = .ref l ∧ LA H' l (os.drop r) := fun H8 e8 => by
        have := evp_slLA (K := K) ev4 (hos7.ex e8) (eo_some ev10) eo_none
        rw [cutA_from] at this
        exact this.imp fun v H' _ ⟨l, h1, _, h2⟩ => ⟨l, h1, h2⟩
      have hlt := List.length_take_le r os
      have hld := List.length_drop (i := r) (l := os)
      have c12 := evp_catLA (ps := os.take r) (qs := [e]) (by show _ + 1 ≤ _; omega) (c1.imp fun v H' _ ⟨l, h1, _, h2⟩ => ⟨l, h1, h2⟩) fun H8 e8 => (evp_lstPts (ps := [e]) (epa_cons (evp_varPt (i := 3) (v := w) rfl (hw7.ex e8)) fun H9 e9 => epa_nil) (by show 1 ≤ 100000; decide)).imp fun v H' _ ⟨l, h1, _, h2⟩ => ⟨l, h1, h2⟩
      refine s_asgP (evp_catLA (ps := os.take r ++ [e]) (qs := os.drop r) (by rw [List.length_append]; show _ + 1 + _ ≤ _; omega) (c12.imp fun v H' _ ⟨l, h1, _, h2⟩ => ⟨l, h1, h2⟩) c3) fun v H8 e8 ⟨l8, ev8, _, hl8⟩ => ?_
      subst ev8
      refine ⟨⟨_, l8, _, _, _, os.take r ++ [e] ++ os.drop r, es ++ [e], rfl, (g7.ex e8).mono (by omega), hl8, perm_put hperm r, ?_⟩, (kp.trans k6).trans (k7.trans (Kp.ex e8))⟩
      rw [List.take_succ, hf]
      exact paired_snoc hpair hsh
    refine seqA_in (ifR_in (er_rnd rfl (er_nat (n := 2) er_c rfl) (by decide) (by decide) (by omega)) (g4.ex e5) (fun H6 k6 g6 => ?_) fun H6 k6 g6 => ?_)
    · have hx6 := (hx.tex k5.2).tex k6.2
      have hma6 := (hma.tex k5.2).tex k6.2
      have ht6 : PtV H6 (.ref t) by' := ⟨t, rfl, k6.2 _ _ ht5⟩
      have hsum : EvP (tCall sp_law_sum [] E0 (tCons (tVar 3) (tCons (tCall sp_law_moved [] E0 (tCons (tVar 1) (tCons (tVar 9) tNil))) tNil))) [some (.ref g), some (.ref aa), some vb, some x, some (.ref lo), some (.int (n : Int)), some (.int ((detM m).natAbs : Int)), some (.ref l), some (.ref d), some (.ref t), c10, c11] H6 fun u H' => PtV H' u (addP f (movM m by')) :=
        evp_call2 (Pa := isV x) (evp_of_ev (ev_var rfl)) fun x' H7 e7 ex => ⟨fun u H' => PtV H' u (movM m by'), evp_callA (ea_cons (ev_var rfl) (ea_cons (ev_var rfl) ea_nil)) (spp_use fun H8 e8 => ⟨n, _, _, m, by', rfl, hma6.ex (e7.trans e8), ht6.ex (e7.trans e8), sq, hbl, by omega, (fun r hr x hx => by have := hent r hr x hx; omega), rfl⟩), fun y H8 e8 hy => spp_use fun H9 e9 => ⟨_, _, f, movM m by', rfl, by rw [show x' = x from ex]; exact hx6.ex (e7.trans (e8.trans e9)), hy.ex e9, by rw [movM_len sq, hfn], by omega, rfl⟩⟩
      refine hsum.run fun w H7 e7 hw => ?_
      exact rest w _ H7 (k5.trans (k6.trans (Kp.ex e7))) (g6.ex e7) hw (.inr ⟨by', hbl, hbs, rfl⟩)
    · refine (ev_var (i := 3) (v := x) rfl) H6 (Ex.refl H6) _ fun H7 e7 => ?_
      exact rest x f H7 (k5.trans (k6.trans (Kp.ex e7))) (g6.ex e7) (((hx.tex k5.2).tex k6.2).ex e7) (.inl rfl)
  · subst eσ
    have hL' : LA H' l L := hL3.kp (la_ne_g hL3 (g2.ex e3)) kp
    rw [List.take_of_length_le (Nat.le_refl _)] at hpair
    have hol : os.length ≤ 11 := by
      rw [hperm.length_eq, ← Paired.length hpair]
      exact hdl
    have c1 := evp_slLA (K := K) (σ := [some (.ref g), some (.ref aa), some vb, z, some (.ref lo), some (.int (n : Int)), some (.int ((detM m).natAbs : Int)), some (.ref l), some (.ref d), c9, c10, c11]) (ev_var (i := 7) rfl) hL' eo_none (eo_some (i := 1) ev_c)
    rw [show cutA L none (some 1) = L.take 1 from cutA_to L 1] at c1
    have hlt := List.length_take_le 1 L
    refine s_retP (Q := Q) (evp_catLA (ps := L.take 1) (qs := os) (by omega) (c1.imp fun v H' _ ⟨l, h1, _, h2⟩ => ⟨l, h1, h2⟩) fun H8 e8 => EvP.of (ev_var rfl) fun H9 e9 => ⟨lo, rfl, hos.ex (e8.trans e9)⟩) fun v H8 e8 ⟨l8, ev8, _, hl8⟩ => ?_
    subst ev8
    refine k _ H8 ((k3.trans kp).trans (Kp.ex e8)) ((gr.ex e8).mono (by omega)) ⟨L.take 1 ++ os, hl8.pl, .inr ⟨es, os, ?_, hperm, ?_⟩⟩
    · rw [hLL]
    · rw [hLL]
      exact hpair
end
end K13
namespace K13
open PySem PySem.Spec PyProof.Rows L2 Evl
/-- what is true of the ways drawn -/
structure Facts : Prop where
  mok : ∀ m ∈ allM, Mok m.length m ∧ ∀ r ∈ adjM m, Sm r
  ok : ∀ w, Drawn w → w.Ok
  fam : ∀ c b, c < 8 → b < c + 4 → Drawn (famW c b)
  lin : ∀ c, c < 9 → Drawn (linW c)
section
variable {K : PySem.W.Frag} {σ : L2.St} {g : Addr} {b b1 b2 : Nat}
theorem spR_in {k : Nat} {A : List V → Hp → Addr → (V → Hp → Prop) → Prop} {ta : TA} {vs : List V} {R : V → Hp → Prop} {H : Hp} {Q : VK} (h : EvA ta σ H vs) (hA : ∀ H1, Ex H H1 → A vs H1 g R) (hg : RG b H g) (hb : b + 1000 * k ≤ 900000000) (q : ∀ v H', Kp [g] H H' → RG (b + k) H' g → R v H' → Q v H') : tCall (spR k A) [] E0 ta σ H Q :=
  h H (Ex.refl H) _ fun H1 e => by
    show spR k A (vs ++ []) H1 Q E0
    rw [List.append_nil]
    exact ⟨g, b, R, hA H1 e, hg.ex e, hb, fun v H' kp hg' hr => q v H' ((Kp.ex e).trans kp) hg' hr⟩
theorem evp_lcP {wi : TI} {gt : TG} {te : TE} {vs : List Nat} {n : Nat} {H : Hp} {y : Nat → V → Hp → Prop} (hi : EvI wi σ H n y) (ks : Nat → Pt) (hn : n ≤ sizeLine)
    (hb : ∀ i x H', i < n → Ex H H' → y i x H' → ∃ σ2, (∀ Q, Q σ2 H' → gt x (wipe σ vs) H' Q) ∧ wipe σ2 vs = wipe σ vs ∧ EvP te σ2 H' fun v H'' => PtV H'' v (ks i)) :
    EvP (tLc wi gt tYes te vs) σ H fun v H' => PLV H' v ((List.range n).map ks) :=
  (evp_lc hi (fun _ => true) (fun i v H' => PtV H' v (ks i)) hn (fun i v H H' e h => h.tex e) fun i x H' hin e hy => by
    obtain ⟨σ2, h1, h2, h3⟩ := hb i x H' hin e hy
    exact ⟨σ2, h1, h2, et_yes, fun _ => h3⟩).imp fun v H' e ⟨D, ys, ev, h0, hD, hp⟩ => by
    rw [filter_yes] at hp
    obtain ⟨as, rfl, has⟩ := pts_of (paired_map_l (G := fun r u => PtV H' u r) hp)
    exact ⟨D, as, ev, hD, has⟩
theorem p_law_way (F : Facts) (vs : List V) (H : Hp) (Q : VK) (E : XK) (h : sp_law_way vs H Q E) : t_law_way K (En Q) (start ["_law_generator_here", "_law_matrix_here", "_law_bare"] vs) H := by
  obtain ⟨g, b, R, ⟨rfl, rfl⟩, hg, hbb, k⟩ := h
  refine seqA_in (spR_in (k := 20) (R := fun v H' => ∃ m ∈ allM, MxV H' v m) (ea_cons (ev_var rfl) ea_nil) (fun H1 e => ⟨rfl, rfl⟩) hg (by omega) fun a H1 k1 g1 ⟨m, hm, hx⟩ => ?_)
  obtain ⟨mok, hsA⟩ := F.mok m hm
  have mok' := mok
  obtain ⟨sq, n1, n3, hent, -⟩ := mok'
  have hs : ∀ r ∈ m, Sm r := fun r hr x hx => by have := hent r hr x hx; omega
  have hlist : EvP (tLst (tCons (tVar 1) (tCons (tLst tNil) (tCons (tCall sp_law_adjugate [] E0 (tCons (tVar 1) tNil)) (tCons (tCall (sp_ldF 2) [] E0 (tCons (tVar 1) tNil)) (tCons tDNewT tNil)))))) [some (.ref g), some a, none] H1 fun u H' => LK H' u (adjM m) (detM m) := fun H0 e0 Q q => by
    refine lst_cons ⟨a, rfl, ?_⟩
    refine lst_in ?_
    refine evp_lst ea_nil (by decide) H0 (Ex.refl H0) _ fun x1 H2 e2 _ => ?_
    refine lst_in ?_
    refine evp_callA (P := fun u H' => MxV H' u (adjM m)) (σ := [some (.ref g), some a, none]) (H := H1) (ea_cons (ev_var rfl) ea_nil) (spp_use fun H1 e1 => ⟨m.length, a, m, rfl, hx.ex e1, sq, n1, n3, hs, rfl⟩) H2 (e0.trans e2) _ fun x2 H3 e3 h2 => ?_
    refine lst_in ?_
    refine ev_callV (z := .int (detM m)) (σ := [some (.ref g), some a, none]) (H := H1) (ea_cons (ev_var rfl) ea_nil) (spp_use fun H1 e1 => ⟨m.length, a, m, rfl, .inl (hx.ex e1), sq, n1, n3, by show m.length ≤ 1 + 2; omega, hs, rfl⟩) H3 ((e0.trans e2).trans e3) _ fun H4 e4 => ?_
    refine lst_in ?_
    refine evp_dnew (H := H4) H4 (Ex.refl H4) _ fun v H5 e5 ⟨d, ev, hd0, hd⟩ => ?_
    subst ev
    refine ⟨by rw [sizeLine_eq]; show (5 : Nat) ≤ 16777216; decide, fun l hl => q _ _ (((e2.trans e3).trans (e4.trans e5)).trans (Ex.new hl)) ⟨l, _, x2, rfl, upd_same, rfl, ((h2.ex e4).ex e5).ex (Ex.new hl), rfl⟩⟩
  refine q_asgP hlist fun u H2 e2 hk => ?_
  have k2 : Kp [g] H H2 := k1.trans (Kp.ex e2)
  show tCall _ _ _ (tCons _ (tCons _ tNil)) _ H2 _
  refine ⟨a, rfl, ?_⟩
  refine spR_in (k := 100) (σ := [some (.ref g), some a, some u]) (R := fun v H' => ∃ ds, PLV H' v ds ∧ DigsOf m.length m ds) (ea_cons (ev_var rfl) (ea_cons (ev_var rfl) (ea_cons (ev_var rfl) ea_nil))) (fun H3 e3 => ⟨a, u, m.length, m, rfl, (hx.ex e2).ex e3, hk.ex e3, mok, hsA, rfl⟩) (g1.ex e2) (by omega) fun y H3 k3 g3 ⟨ds, hy, hds⟩ => ?_
  have hdr : Drawn ⟨m.length, m, ds⟩ := ⟨hm, rfl, hds⟩
  exact ⟨_, ⟨a, y, ⟨m.length, m, ds⟩, rfl, (hx.ex e2).tex k3.2, hy, F.ok _ hdr, rfl⟩, fun v H' e' hv => k v H' (k2.trans (k3.trans (Kp.ex e'))) ((g3.ex e').mono (by omega)) ⟨_, hv, hdr⟩⟩
theorem p_law_family (F : Facts) (vs : List V) (H : Hp) (Q : VK) (E : XK) (h : sp_law_family vs H Q E) : t_law_family K (En Q) (start ["_law_generator_here", "_law_low", "_law_by", "_law_at"] vs) H := by
  obtain ⟨g, b, R, ⟨rfl, rfl⟩, hg, hbb, k⟩ := h
  refine q_asgR (er_op0 er_c (er_rnd rfl (er_nat (n := 8) er_c rfl) (by decide) (by decide) (by omega))) hg fun x H1 k1 g1 ⟨_, _, e1, ⟨c, hc, e2⟩, ex⟩ => ?_
  subst e1 e2 ex
  refine q_asgR (er_op0 (er_rnd (n := c + 4) rfl ((er_op0 (er_var rfl) er_c).imp (by rintro i ⟨_, _, rfl, rfl, rfl⟩; show (2 + (c : Int)) + 2 = ((c + 4 : Nat) : Int); omega)) (by omega) (by omega) (by omega)) er_c) g1 fun x H2 k2 g2 ⟨_, _, ⟨r, hr, e1⟩, e2, ex⟩ => ?_
  subst e1 e2 ex
  have hdr := F.fam c r hc hr
  have ok := F.ok _ hdr
  have hm : EvP (tTup (tCons (tTup (tCons (tC (.int 0)) (tCons (tOp (rI0 fun i j => .int (i - j)) (tC (.int 0)) (tVar 1)) tNil))) (tCons (tTup (tCons (tC (.int 1)) (tCons (tOp (rI0 fun i j => .int (i - j)) (tC (.int 0)) (tVar 2)) tNil))) tNil))) [some (.ref g), some (.int (2 + (c : Int))), some (.int ((r : Int) - 1)), none] H2 fun v H' => MxV H' v (famW c r).m :=
    evp_tupPts (epa_cons (evp_pt (p := [0, 0 - (2 + (c : Int))]) (ea_cons ev_c (ea_cons (ev_op ev_c (ev_var rfl) rv_I0) ea_nil)) (by show 2 ≤ 100000; decide)) fun H3 e3 => epa_cons (evp_pt (p := [1, 0 - ((r : Int) - 1)]) (ea_cons ev_c (ea_cons (ev_op ev_c (ev_var rfl) rv_I0) ea_nil)) (by show 2 ≤ 100000; decide)) fun H4 e4 => epa_nil) (by show 2 ≤ 100000; decide)
  have hl : ∀ H3, Ex H2 H3 → EvP (tLc (iRng1 (tCons (tVar 1) tNil)) (gName 3) tYes (tTup (tCons (tVar 3) (tCons (tC (.int 0)) tNil))) [3]) [some (.ref g), some (.int (2 + (c : Int))), some (.int ((r : Int) - 1)), none] H3 fun v H' => PLV H' v (famW c r).ds := fun H3 e3 => by
    have hi := evi_rng1 (σ := [some (.ref g), some (.int (2 + (c : Int))), some (.int ((r : Int) - 1)), none]) (H := H3) (ta := tVar 1) (n := ((2 + c : Nat) : Int)) (ev_is (ev_var rfl) (by show V.int _ = V.int _; rw [show (2 + (c : Int)) = ((2 + c : Nat) : Int) by omega])) (by omega)
    rw [Int.toNat_natCast] at hi
    refine evp_lcP hi (fun i => [(i : Int), 0]) (by rw [sizeLine_eq]; omega) fun i x H' hin e hx => ?_
    subst hx
    exact ⟨_, fun Q q => q, rfl, evp_pt (p := [(i : Int), 0]) (ea_cons (ev_var rfl) (ea_cons ev_c ea_nil)) (by show 2 ≤ 100000; decide)⟩
  refine s_retP (Q := Q) (P := fun v H' => LW H' v (famW c r)) (evp_call2 hm fun x H3 e3 hx => ⟨_, hl H3 e3, fun y H4 e4 hy => spp_use fun H5 e5 => ⟨x, y, famW c r, rfl, (hx.ex e4).ex e5, hy.ex e5, ok, rfl⟩⟩) fun v H3 e3 hv => ?_
  exact k v H3 ((k1.trans k2).trans (Kp.ex e3)) ((g2.ex e3).mono (by omega)) ⟨c, r, hc, hr, hv⟩
theorem p_law_any_way (F : Facts) (vs : List V) (H : Hp) (Q : VK) (E : XK) (h : sp_law_any_way vs H Q E) : t_law_any_way K (En Q) (start ["_law_generator_here", "_law_kind", "_law_low", "_law_at"] vs) H := by
  obtain ⟨g, b, R, ⟨rfl, rfl⟩, hg, hbb, k⟩ := h
  refine q_asgR (er_rnd rfl (er_nat (n := 4) er_c rfl) (by decide) (by decide) (by omega)) hg fun x H1 k1 g1 ⟨kd, hkd, ex⟩ => ?_
  subst ex
  refine q_when (et_test (ev_op (ev_var rfl) ev_c (rv_eq rfl))) (fun hb1 H2 e2 => ?_) (fun hb1 H2 e2 => ?_)
  · refine spR_in (k := 5) (σ := [some (.ref g), some (.int (kd : Int)), none, none]) (R := fun v H' => ∃ c b, c < 8 ∧ b < c + 4 ∧ LW H' v (famW c b)) (ea_cons (ev_var rfl) ea_nil) (fun H3 e3 => ⟨rfl, rfl⟩) (g1.ex e2) (by omega) fun v H3 k3 g3 ⟨c, r, hc, hr, hv⟩ => k v H3 ((k1.trans (Kp.ex e2)).trans k3) (g3.mono (by omega)) ⟨_, hv, F.fam c r hc hr⟩
  refine q_when (et_test (ev_op (ev_var rfl) ev_c (rv_eq rfl))) (fun hb1 H3 e3 => ?_) (fun hb1 H3 e3 => ?_)
  · refine q_asgR (er_op0 er_c (er_rnd rfl (er_nat (n := 9) er_c rfl) (by decide) (by decide) (by omega))) ((g1.ex e2).ex e3) fun x H4 k4 g4 ⟨_, _, e1, ⟨c, hc, ec⟩, ex⟩ => ?_
    subst e1 ec ex
    have hdr := F.lin c hc
    have ok := F.ok _ hdr
    have hm : EvP (tTup (tCons (tTup (tCons (tOp (rI0 fun i j => .int (i - j)) (tC (.int 0)) (tVar 2)) tNil)) tNil)) [some (.ref g), some (.int (kd : Int)), some (.int (2 + (c : Int))), none] H4 fun v H' => MxV H' v (linW c).m :=
      evp_tupPts (epa_cons (evp_pt (p := [0 - (2 + (c : Int))]) (ea_cons (ev_op ev_c (ev_var rfl) rv_I0) ea_nil) (by show 1 ≤ 100000; decide)) fun H3 e3 => epa_nil) (by show 1 ≤ 100000; decide)
    have hl : ∀ H3, Ex H4 H3 → EvP (tLc (iRng1 (tCons (tVar 2) tNil)) (gName 3) tYes (tTup (tCons (tVar 3) tNil)) [3]) [some (.ref g), some (.int (kd : Int)), some (.int (2 + (c : Int))), none] H3 fun v H' => PLV H' v (linW c).ds := fun H3 e3 => by
      have hi := evi_rng1 (σ := [some (.ref g), some (.int (kd : Int)), some (.int (2 + (c : Int))), none]) (H := H3) (ta := tVar 2) (n := ((2 + c : Nat) : Int)) (ev_is (ev_var rfl) (by show V.int _ = V.int _; rw [show (2 + (c : Int)) = ((2 + c : Nat) : Int) by omega])) (by omega)
      rw [Int.toNat_natCast] at hi
      refine evp_lcP hi (fun i => [(i : Int)]) (by rw [sizeLine_eq]; omega) fun i x H' hin e hx => ?_
      subst hx
      exact ⟨_, fun Q q => q, rfl, evp_pt (p := [(i : Int)]) (ea_cons (ev_var rfl) ea_nil) (by show 1 ≤ 100000; decide)⟩
    refine s_retP (Q := Q) (P := fun v H' => LW H' v (linW c)) (evp_call2 hm fun x H3 e3 hx => ⟨_, hl H3 e3, fun y H4 e4 hy => spp_use fun H5 e5 => ⟨x, y, linW c, rfl, (hx.ex e4).ex e5, hy.ex e5, ok, rfl⟩⟩) fun v H5 e5 hv => ?_
    exact k v H5 ((k1.trans (Kp.ex (e2.trans e3))).trans (k4.trans (Kp.ex e5))) ((g4.ex e5).mono (by omega)) ⟨_, hv, hdr⟩
  · refine spR_in (k := 200) (σ := [some (.ref g), some (.int (kd : Int)), none, none]) (R := fun v H' => ∃ w, LW H' v w ∧ Drawn w) (ea_cons (ev_var rfl) ea_nil) (fun H3 e3 => ⟨rfl, rfl⟩) ((g1.ex e2).ex e3) (by omega) fun v H4 k4 g4 ⟨w, hv, hd⟩ => k v H4 ((k1.trans (Kp.ex (e2.trans e3))).trans k4) (g4.mono (by omega)) ⟨w, hv, hd⟩
end
end K13
namespace K13
/-! ## Plain: orbits of affine maps in space, bounded by a checked certificate -/
structure V3 where
  x : Int
  y : Int
  z : Int
def V3.dot (r p : V3) : Int := r.x * p.x + (r.y * p.y + r.z * p.z)
structure M3 where
  a : V3
  b : V3
  c : V3
/-- the row r times the matrix -/
def M3.lm (m : M3) (r : V3) : V3 := ⟨r.x * m.a.x + (r.y * m.b.x + r.z * m.c.x), r.x * m.a.y + (r.y * m.b.y + r.z * m.c.y), r.x * m.a.z + (r.y * m.b.z + r.z * m.c.z)⟩
def M3.mv (m : M3) (p : V3) : V3 := ⟨m.a.dot p, m.b.dot p, m.c.dot p⟩
structure N3 where
  x : Nat
  y : Nat
  z : Nat
def N3.v (b : N3) : V3 := ⟨b.x, b.y, b.z⟩
/-- the part above zero, the part below zero -/
def pz (x : Int) : Nat := match x with | .ofNat n => n | .negSucc _ => 0
def nz (x : Int) : Nat := match x with | .ofNat _ => 0 | .negSucc n => Nat.succ n
theorem pz_eq (x : Int) : (pz x : Int) = max x 0 := by
  unfold pz
  split
  · show ((_ : Nat) : Int) = max ((_ : Nat) : Int) 0; omega
  · omega
theorem nz_eq (x : Int) : (nz x : Int) = max (-x) 0 := by
  unfold nz
  split
  · show ((0 : Nat) : Int) = max (-((_ : Nat) : Int)) 0; omega
  · show ((_ + 1 : Nat) : Int) = _; omega
def sp3 (a b c : Nat) (m : N3) : Nat := Nat.add (Nat.mul a m.x) (Nat.add (Nat.mul b m.y) (Nat.mul c m.z))
def V3.pos (r : V3) (m : N3) : Nat := sp3 (pz r.x) (pz r.y) (pz r.z) m
def V3.neg (r : V3) (m : N3) : Nat := sp3 (nz r.x) (nz r.y) (nz r.z) m
/-- greatest -r.f, greatest r.f for f from -mn to mx -/
def V3.up (r : V3) (mx mn : N3) : Nat := Nat.add (r.neg mx) (r.pos mn)
def V3.dn (r : V3) (mx mn : N3) : Nat := Nat.add (r.pos mx) (r.neg mn)
def V3.ln (r : V3) : Nat := Nat.add (Nat.add (pz r.x) (nz r.x)) (Nat.add (Nat.add (pz r.y) (nz r.y)) (Nat.add (pz r.z) (nz r.z)))
def V3.wn (r : V3) (b : N3) : Nat := Nat.add (r.pos b) (r.neg b)
def V3.Bt (f : V3) (mx mn : N3) : Prop := (-(mn.x : Int) ≤ f.x ∧ f.x ≤ mx.x) ∧ (-(mn.y : Int) ≤ f.y ∧ f.y ≤ mx.y) ∧ (-(mn.z : Int) ≤ f.z ∧ f.z ≤ mx.z)
theorem mul_bt {r f : Int} {a b : Nat} (h1 : -(b : Int) ≤ f) (h2 : f ≤ a) : -(((nz r * a + pz r * b : Nat)) : Int) ≤ r * f ∧ r * f ≤ ((pz r * a + nz r * b : Nat) : Int) := by
  have e1 := pz_eq r
  have e2 := nz_eq r
  by_cases c : 0 ≤ r
  · have e3 : (pz r : Int) = r := by omega
    have e4 : nz r = 0 := by omega
    have a1 := Int.mul_le_mul_of_nonneg_left h1 c
    have a2 := Int.mul_le_mul_of_nonneg_left h2 c
    rw [e4]
    push_cast
    rw [e3]
    rw [Int.mul_neg] at a1
    omega
  · have e3 : (nz r : Int) = -r := by omega
    have e4 : pz r = 0 := by omega
    have a1 := Int.mul_le_mul_of_nonneg_left h1 (show 0 ≤ -r by omega)
    have a2 := Int.mul_le_mul_of_nonneg_left h2 (show 0 ≤ -r by omega)
    rw [e4]
    push_cast
    rw [e3]
    rw [Int.mul_neg, Int.neg_mul, Int.neg_mul] at a1
    rw [Int.neg_mul, Int.neg_mul] at a2
    rw [Int.neg_mul, Int.neg_mul]
    omega
theorem dot_bt {r f : V3} {mx mn : N3} (h : f.Bt mx mn) : -(r.dot f) ≤ (r.up mx mn : Nat) ∧ r.dot f ≤ (r.dn mx mn : Nat) := by
  obtain ⟨⟨h1, h2⟩, ⟨h3, h4⟩, h5, h6⟩ := h
  have a := mul_bt (r := r.x) h1 h2
  have b := mul_bt (r := r.y) h3 h4
  have c := mul_bt (r := r.z) h5 h6
  unfold V3.up V3.dn V3.neg V3.pos sp3 V3.dot
  simp only [Nat.add_eq, Nat.mul_eq]
  push_cast at *
  omega
def V3.In (p : V3) (b : N3) : Prop := p.Bt b b
theorem dot_wn {r p : V3} {b : N3} (h : p.In b) : -(r.wn b : Int) ≤ r.dot p ∧ r.dot p ≤ (r.wn b : Nat) := by
  have := dot_bt (r := r) h
  have e : r.up b b = r.wn b := Nat.add_comm _ _
  have e' : r.dn b b = r.wn b := rfl
  rw [e, e'] at this
  omega
theorem wn_const (r : V3) (c : Nat) : r.wn ⟨c, c, c⟩ = c * r.ln := by
  unfold V3.wn V3.ln V3.neg V3.pos sp3
  simp only [Nat.add_eq, Nat.mul_eq]
  grind
/-- one step with noise: x parts of the noise of a point, y of its opposite -/
def Noisy (A : M3) (D : Nat) (mx mn : N3) (be : Nat) (u v : Int) (p : Nat → V3) : Prop :=
  ∀ t r, -(u * ((A.lm r).dn mx mn + be * D * r.ln : Nat) + v * ((A.lm r).up mx mn + be * D * r.ln : Nat)) ≤ D * r.dot (p (t + 1)) - (A.lm r).dot (p t) ∧
    D * r.dot (p (t + 1)) - (A.lm r).dot (p t) ≤ u * ((A.lm r).up mx mn + be * D * r.ln : Nat) + v * ((A.lm r).dn mx mn + be * D * r.ln : Nat)
/-- after k steps -/
def Unr (u v : Int) (p : Nat → V3) (c : V3 → Int) (k : Nat) (r : V3) (hi lo pw : Nat) : Prop :=
  ∀ t, -(u * lo + v * hi) ≤ pw * c (p (t + k)) - r.dot (p t) ∧ pw * c (p (t + k)) - r.dot (p t) ≤ u * hi + v * lo
theorem Unr.step {A : M3} {D : Nat} {mx mn : N3} {be : Nat} {u v : Int} {p : Nat → V3} {c : V3 → Int} {k : Nat} {r : V3} {hi lo pw : Nat} (hn : Noisy A D mx mn be u v p) (h : Unr u v p c k r hi lo pw) :
    Unr u v p c (k + 1) (A.lm r) (D * hi + ((A.lm r).up mx mn + be * D * r.ln)) (D * lo + ((A.lm r).dn mx mn + be * D * r.ln)) (pw * D) := fun t => by
  obtain ⟨h1, h2⟩ := h (t + 1)
  obtain ⟨n1, n2⟩ := hn t r
  rw [show t + 1 + k = t + (k + 1) by omega] at h1 h2
  have hD : (0 : Int) ≤ D := by omega
  have a1 := Int.mul_le_mul_of_nonneg_left h1 hD
  have a2 := Int.mul_le_mul_of_nonneg_left h2 hD
  generalize c (p (t + (k + 1))) = x at *
  generalize (A.lm r).dot (p t) = y at *
  generalize r.dot (p (t + 1)) = z at *
  generalize (A.lm r).up mx mn + be * D * r.ln = h at *
  generalize (A.lm r).dn mx mn + be * D * r.ln = l at *
  push_cast
  generalize (D : Int) = D at *
  generalize (pw : Int) = pw at *
  generalize (hi : Int) = hi at *
  generalize (lo : Int) = lo at *
  generalize (h : Int) = h at *
  generalize (l : Int) = l at *
  constructor <;> grind
/-- the checked loop -/
def loopC (A : M3) (D : Nat) (mx mn : N3) (be : Nat) (R Bj Zj Cp Cm : Nat) (B Z : N3) : Nat → V3 → Nat → Nat → Nat → Bool
  | 0, r, hi, lo, pw => Nat.blt (Nat.add (r.wn B) (Nat.add hi lo)) (Nat.mul (Nat.succ Bj) pw) && (Nat.blt (Nat.add (r.wn Z) hi) (Nat.mul (Nat.succ Zj) pw) && (Nat.blt (Nat.add (r.wn Z) lo) (Nat.mul (Nat.succ Zj) pw) && (Nat.blt (Nat.add (r.wn Z) hi) (Nat.mul (Nat.succ Cp) pw) && (Nat.blt (Nat.add (r.wn Z) lo) (Nat.mul (Nat.succ Cm) pw) && Nat.blt r.ln pw))))
  | k + 1, r, hi, lo, pw => Nat.blt (Nat.add r.ln (Nat.add hi lo)) (Nat.mul (Nat.succ Bj) pw) && (Nat.blt (Nat.add (Nat.mul R r.ln) hi) (Nat.mul (Nat.succ Zj) pw) && (Nat.blt (Nat.add (Nat.mul R r.ln) lo) (Nat.mul (Nat.succ Zj) pw) &&
      loopC A D mx mn be R Bj Zj Cp Cm B Z k (A.lm r) (Nat.add (Nat.mul D hi) (Nat.add ((A.lm r).up mx mn) (Nat.mul (Nat.mul be D) r.ln))) (Nat.add (Nat.mul D lo) (Nat.add ((A.lm r).dn mx mn) (Nat.mul (Nat.mul be D) r.ln))) (Nat.mul pw D)))
theorem fl_le {x : Int} {b pw s : Nat} (h : pw * x ≤ s) (k : Nat.blt s (Nat.mul (Nat.succ b) pw) = true) (p : 0 < pw) : x ≤ b := by
  have k' : s < (b + 1) * pw := Nat.lt_of_succ_le (by simpa [Nat.blt] using k)
  by_cases c : x ≤ b
  · exact c
  · exfalso
    have : (pw : Int) * ((b : Int) + 1) ≤ pw * x := Int.mul_le_mul_of_nonneg_left (by omega) (by omega)
    have h2 : ((s : Nat) : Int) < ((b + 1) * pw : Nat) := by omega
    push_cast at h2
    grind
theorem fl_ge {x : Int} {b pw s : Nat} (h : -(s : Int) ≤ pw * x) (k : Nat.blt s (Nat.mul (Nat.succ b) pw) = true) (p : 0 < pw) : -(b : Int) ≤ x := by
  have := fl_le (x := -x) (b := b) (s := s) (by rw [Int.mul_neg]; omega) k p
  omega
section
variable {A : M3} {D : Nat} {mx mn : N3} {be R Bj Zj Cp Cm : Nat} {B Z : N3} {p : Nat → V3} {c : V3 → Int}
theorem loop_carry (hD : 0 < D) (hn : Noisy A D mx mn be 1 1 p) : ∀ (K : Nat) (k0 : Nat) (r : V3) (hi lo pw : Nat), 0 < pw → Unr 1 1 p c k0 r hi lo pw → loopC A D mx mn be R Bj Zj Cp Cm B Z K r hi lo pw = true →
    (∀ k, k < K → ∀ t, (p t).In ⟨1, 1, 1⟩ → -(Bj : Int) ≤ c (p (t + (k0 + k))) ∧ c (p (t + (k0 + k))) ≤ Bj) ∧ ∀ t, (p t).In B → -(Bj : Int) ≤ c (p (t + (k0 + K))) ∧ c (p (t + (k0 + K))) ≤ Bj
  | 0, k0, r, hi, lo, pw, hp, hu, hl => by
    unfold loopC at hl
    simp only [Bool.and_eq_true, decide_eq_true_eq] at hl
    refine ⟨fun k hk => absurd hk (Nat.not_lt_zero _), fun t ht => ?_⟩
    have h1 := dot_wn (r := r) ht
    obtain ⟨a, b⟩ := hu t
    exact ⟨fl_ge (s := r.wn B + (hi + lo)) (by show _ ≤ pw * c (p (t + k0)); omega) hl.1 hp, fl_le (s := r.wn B + (hi + lo)) (by show pw * c (p (t + k0)) ≤ _; omega) hl.1 hp⟩
  | K + 1, k0, r, hi, lo, pw, hp, hu, hl => by
    unfold loopC at hl
    simp only [Bool.and_eq_true, decide_eq_true_eq] at hl
    obtain ⟨h1, h2, h3, h4⟩ := hl
    have ih := loop_carry hD hn K (k0 + 1) _ _ _ _ (Nat.mul_pos hp hD) (hu.step hn) h4
    refine ⟨fun k hk t ht => ?_, fun t ht => ?_⟩
    · cases k with
      | zero =>
        have h5 := dot_wn (r := r) ht
        rw [wn_const, Nat.one_mul] at h5
        obtain ⟨a, b⟩ := hu t
        exact ⟨fl_ge (s := r.ln + (hi + lo)) (by show _ ≤ pw * c (p (t + k0)); omega) h1 hp, fl_le (s := r.ln + (hi + lo)) (by show pw * c (p (t + k0)) ≤ _; omega) h1 hp⟩
      | succ k =>
        have := ih.1 k (by omega) t ht
        rw [show k0 + 1 + k = k0 + (k + 1) by omega] at this
        exact this
    · have := ih.2 t ht
      rw [show k0 + 1 + K = k0 + (K + 1) by omega] at this
      exact this
theorem loop_orb (hD : 0 < D) (hn : Noisy A D mx mn be 1 0 p) : ∀ (K : Nat) (k0 : Nat) (r : V3) (hi lo pw : Nat), 0 < pw → Unr 1 0 p c k0 r hi lo pw → loopC A D mx mn be R Bj Zj Cp Cm B Z K r hi lo pw = true →
    (∀ k, k < K → ∀ t, (p t).In ⟨R, R, R⟩ → -(Zj : Int) ≤ c (p (t + (k0 + k))) ∧ c (p (t + (k0 + k))) ≤ Zj) ∧ ∀ t, (p t).In Z → (-(Zj : Int) ≤ c (p (t + (k0 + K))) ∧ c (p (t + (k0 + K))) ≤ Zj) ∧ -(Cm : Int) ≤ c (p (t + (k0 + K))) ∧ c (p (t + (k0 + K))) ≤ Cp
  | 0, k0, r, hi, lo, pw, hp, hu, hl => by
    unfold loopC at hl
    simp only [Bool.and_eq_true, decide_eq_true_eq] at hl
    obtain ⟨-, l2, l3, l4, l5, -⟩ := hl
    refine ⟨fun k hk => absurd hk (Nat.not_lt_zero _), fun t ht => ?_⟩
    have h1 := dot_wn (r := r) ht
    obtain ⟨a, b⟩ := hu t
    have a' : -(r.wn Z + lo) ≤ pw * c (p (t + (k0 + 0))) := by show _ ≤ pw * c (p (t + k0)); omega
    have b' : pw * c (p (t + (k0 + 0))) ≤ r.wn Z + hi := by show pw * c (p (t + k0)) ≤ _; omega
    exact ⟨⟨fl_ge a' l3 hp, fl_le b' l2 hp⟩, fl_ge a' l5 hp, fl_le b' l4 hp⟩
  | K + 1, k0, r, hi, lo, pw, hp, hu, hl => by
    unfold loopC at hl
    simp only [Bool.and_eq_true, decide_eq_true_eq] at hl
    obtain ⟨h1, h2, h3, h4⟩ := hl
    have ih := loop_orb hD hn K (k0 + 1) _ _ _ _ (Nat.mul_pos hp hD) (hu.step hn) h4
    refine ⟨fun k hk t ht => ?_, fun t ht => ?_⟩
    · cases k with
      | zero =>
        have h5 := dot_wn (r := r) ht
        rw [wn_const] at h5
        obtain ⟨a, b⟩ := hu t
        exact ⟨fl_ge (s := R * r.ln + lo) (by show _ ≤ pw * c (p (t + k0)); omega) h3 hp, fl_le (s := R * r.ln + hi) (by show pw * c (p (t + k0)) ≤ _; omega) h2 hp⟩
      | succ k =>
        have := ih.1 k (by omega) t ht
        rw [show k0 + 1 + k = k0 + (k + 1) by omega] at this
        exact this
    · have := ih.2 t ht
      rw [show k0 + 1 + K = k0 + (K + 1) by omega] at this
      exact this
theorem loop_fix (hD : 0 < D) (hn : Noisy A D mx mn be 0 0 p) : ∀ (K : Nat) (k0 : Nat) (r : V3) (hi lo pw : Nat), 0 < pw → Unr 0 0 p c k0 r hi lo pw → loopC A D mx mn be R Bj Zj Cp Cm B Z K r hi lo pw = true →
    ∃ (r' : V3) (pw' : Nat), 0 < pw' ∧ r'.ln < pw' ∧ ∀ t, (pw' : Int) * c (p (t + (k0 + K))) = r'.dot (p t)
  | 0, k0, r, hi, lo, pw, hp, hu, hl => by
    unfold loopC at hl
    simp only [Bool.and_eq_true, decide_eq_true_eq] at hl
    obtain ⟨-, -, -, -, -, l6⟩ := hl
    refine ⟨r, pw, hp, Nat.lt_of_succ_le (by simpa [Nat.blt] using l6), fun t => ?_⟩
    obtain ⟨a, b⟩ := hu t
    show pw * c (p (t + k0)) = _
    omega
  | K + 1, k0, r, hi, lo, pw, hp, hu, hl => by
    unfold loopC at hl
    simp only [Bool.and_eq_true, decide_eq_true_eq] at hl
    obtain ⟨h1, h2, h3, h4⟩ := hl
    have ih := loop_fix hD hn K (k0 + 1) _ _ _ _ (Nat.mul_pos hp hD) (hu.step hn) h4
    rw [show k0 + 1 + K = k0 + (K + 1) by omega] at ih
    exact ih
end
structure Crt where
  K : Nat
  R : Nat
  B : N3
  Z : N3
  Cp : N3
  Cm : N3
/-- the whole check: n numbers each -/
def chkC (n : Nat) (A : M3) (D : Nat) (mx mn : N3) (be : Nat) (q : Crt) : Bool :=
  Nat.blt 0 q.K && (loopC A D mx mn be q.R q.B.x q.Z.x q.Cp.x q.Cm.x q.B q.Z q.K ⟨1, 0, 0⟩ 0 0 1 && ((Nat.ble n 1 || loopC A D mx mn be q.R q.B.y q.Z.y q.Cp.y q.Cm.y q.B q.Z q.K ⟨0, 1, 0⟩ 0 0 1) && (Nat.ble n 2 || loopC A D mx mn be q.R q.B.z q.Z.z q.Cp.z q.Cm.z q.B q.Z q.K ⟨0, 0, 1⟩ 0 0 1)))
/-- padded by zeros -/
def V3.Pad (n : Nat) (p : V3) : Prop := (n ≤ 1 → p.y = 0) ∧ (n ≤ 2 → p.z = 0)
section
variable {n : Nat} {A : M3} {D : Nat} {mx mn : N3} {be : Nat} {q : Crt} {p : Nat → V3}
theorem unr0 {u v : Int} : Unr u v p V3.x 0 ⟨1, 0, 0⟩ 0 0 1 ∧ Unr u v p V3.y 0 ⟨0, 1, 0⟩ 0 0 1 ∧ Unr u v p V3.z 0 ⟨0, 0, 1⟩ 0 0 1 := by
  refine ⟨fun t => ?_, fun t => ?_, fun t => ?_⟩ <;> rw [show t + 0 = t from rfl] <;> unfold V3.dot <;> simp
theorem chkC_out (h : chkC n A D mx mn be q = true) : 0 < q.K ∧ loopC A D mx mn be q.R q.B.x q.Z.x q.Cp.x q.Cm.x q.B q.Z q.K ⟨1, 0, 0⟩ 0 0 1 = true ∧
    (n ≤ 1 ∨ loopC A D mx mn be q.R q.B.y q.Z.y q.Cp.y q.Cm.y q.B q.Z q.K ⟨0, 1, 0⟩ 0 0 1 = true) ∧ (n ≤ 2 ∨ loopC A D mx mn be q.R q.B.z q.Z.z q.Cp.z q.Cm.z q.B q.Z q.K ⟨0, 0, 1⟩ 0 0 1 = true) := by
  unfold chkC at h
  simp only [Bool.and_eq_true, Bool.or_eq_true, Nat.ble_eq] at h
  exact ⟨Nat.lt_of_succ_le (by simpa [Nat.blt] using h.1), h.2.1, h.2.2.1, h.2.2.2⟩
/-- for coordinates: what is so of the loop, and of zero, is so -/
theorem or_pad {c : V3 → Int} {m k b : Nat} {z : Prop} (h : n ≤ m ∨ z) (hp : ∀ t, n ≤ m → c (p t) = 0) {P : Int → Prop} (h0 : P 0) (t : Nat) (hz : z → P (c (p t))) : P (c (p t)) := by
  rcases h with h | h
  · rw [hp t h]; exact h0
  · exact hz h
/-- carries from a point by one stay in B -/
theorem crt_carry (hD : 0 < D) (hc : chkC n A D mx mn be q = true) (hn : Noisy A D mx mn be 1 1 p) (hp : ∀ t, (p t).Pad n) (h0 : (p 0).In ⟨1, 1, 1⟩) : ∀ t, (p t).In q.B := by
  obtain ⟨c0, c1, c2, c3⟩ := chkC_out hc
  obtain ⟨u1, u2, u3⟩ := unr0 (p := p) (u := 1) (v := 1)
  have l1 := loop_carry hD hn q.K 0 _ _ _ _ (by decide) u1 c1
  have l2 := fun (c2 : loopC A D mx mn be q.R q.B.y q.Z.y q.Cp.y q.Cm.y q.B q.Z q.K ⟨0, 1, 0⟩ 0 0 1 = true) => loop_carry hD hn q.K 0 _ _ _ _ (by decide) u2 c2
  have l3 := fun (c3 : loopC A D mx mn be q.R q.B.z q.Z.z q.Cp.z q.Cm.z q.B q.Z q.K ⟨0, 0, 1⟩ 0 0 1 = true) => loop_carry hD hn q.K 0 _ _ _ _ (by decide) u3 c3
  have p2 : ∀ t, n ≤ 1 → (p t).y = 0 := fun t => (hp t).1
  have p3 : ∀ t, n ≤ 2 → (p t).z = 0 := fun t => (hp t).2
  have key : ∀ m t, t < m → (p t).In q.B := fun m => by
    induction m with
    | zero => intro t h; omega
    | succ m ih =>
      intro t ht
      by_cases c : t < q.K
      · refine ⟨?_, or_pad (P := fun x => -(q.B.y : Int) ≤ x ∧ x ≤ q.B.y) (b := 0) (k := 0) c2 p2 (by omega) t fun z => ?_, or_pad (P := fun x => -(q.B.z : Int) ≤ x ∧ x ≤ q.B.z) (b := 0) (k := 0) c3 p3 (by omega) t fun z => ?_⟩
        · have a := l1.1 t c 0 h0
          rw [show 0 + (0 + t) = t by omega] at a
          exact a
        · have a := (l2 z).1 t c 0 h0
          rw [show 0 + (0 + t) = t by omega] at a
          exact a
        · have a := (l3 z).1 t c 0 h0
          rw [show 0 + (0 + t) = t by omega] at a
          exact a
      · have hb := ih (t - q.K) (by omega)
        refine ⟨?_, or_pad (P := fun x => -(q.B.y : Int) ≤ x ∧ x ≤ q.B.y) (b := 0) (k := 0) c2 p2 (by omega) t fun z => ?_, or_pad (P := fun x => -(q.B.z : Int) ≤ x ∧ x ≤ q.B.z) (b := 0) (k := 0) c3 p3 (by omega) t fun z => ?_⟩
        · have a := l1.2 _ hb
          rw [show t - q.K + (0 + q.K) = t by omega] at a
          exact a
        · have a := (l2 z).2 _ hb
          rw [show t - q.K + (0 + q.K) = t by omega] at a
          exact a
        · have a := (l3 z).2 _ hb
          rw [show t - q.K + (0 + q.K) = t by omega] at a
          exact a
  exact fun t => key (t + 1) t (by omega)
/-- orbits from a point by R stay in Z, and soon in the box of C -/
theorem crt_orb (hD : 0 < D) (hc : chkC n A D mx mn be q = true) (hn : Noisy A D mx mn be 1 0 p) (hp : ∀ t, (p t).Pad n) (h0 : (p 0).In ⟨q.R, q.R, q.R⟩) : (∀ t, (p t).In q.Z) ∧ ∀ t, q.K ≤ t → (p t).Bt q.Cp q.Cm := by
  obtain ⟨c0, c1, c2, c3⟩ := chkC_out hc
  obtain ⟨u1, u2, u3⟩ := unr0 (p := p) (u := 1) (v := 0)
  have l1 := loop_orb hD hn q.K 0 _ _ _ _ (by decide) u1 c1
  have l2 := fun (c2 : loopC A D mx mn be q.R q.B.y q.Z.y q.Cp.y q.Cm.y q.B q.Z q.K ⟨0, 1, 0⟩ 0 0 1 = true) => loop_orb hD hn q.K 0 _ _ _ _ (by decide) u2 c2
  have l3 := fun (c3 : loopC A D mx mn be q.R q.B.z q.Z.z q.Cp.z q.Cm.z q.B q.Z q.K ⟨0, 0, 1⟩ 0 0 1 = true) => loop_orb hD hn q.K 0 _ _ _ _ (by decide) u3 c3
  have p2 : ∀ t, n ≤ 1 → (p t).y = 0 := fun t => (hp t).1
  have p3 : ∀ t, n ≤ 2 → (p t).z = 0 := fun t => (hp t).2
  have key : ∀ m t, t < m → (p t).In q.Z := fun m => by
    induction m with
    | zero => intro t h; omega
    | succ m ih =>
      intro t ht
      by_cases c : t < q.K
      · refine ⟨?_, or_pad (P := fun x => -(q.Z.y : Int) ≤ x ∧ x ≤ q.Z.y) (b := 0) (k := 0) c2 p2 (by omega) t fun z => ?_, or_pad (P := fun x => -(q.Z.z : Int) ≤ x ∧ x ≤ q.Z.z) (b := 0) (k := 0) c3 p3 (by omega) t fun z => ?_⟩
        · have a := l1.1 t c 0 h0
          rw [show 0 + (0 + t) = t by omega] at a
          exact a
        · have a := (l2 z).1 t c 0 h0
          rw [show 0 + (0 + t) = t by omega] at a
          exact a
        · have a := (l3 z).1 t c 0 h0
          rw [show 0 + (0 + t) = t by omega] at a
          exact a
      · have hb := ih (t - q.K) (by omega)
        refine ⟨?_, or_pad (P := fun x => -(q.Z.y : Int) ≤ x ∧ x ≤ q.Z.y) (b := 0) (k := 0) c2 p2 (by omega) t fun z => ?_, or_pad (P := fun x => -(q.Z.z : Int) ≤ x ∧ x ≤ q.Z.z) (b := 0) (k := 0) c3 p3 (by omega) t fun z => ?_⟩
        · have a := (l1.2 _ hb).1
          rw [show t - q.K + (0 + q.K) = t by omega] at a
          exact a
        · have a := ((l2 z).2 _ hb).1
          rw [show t - q.K + (0 + q.K) = t by omega] at a
          exact a
        · have a := ((l3 z).2 _ hb).1
          rw [show t - q.K + (0 + q.K) = t by omega] at a
          exact a
  have all : ∀ t, (p t).In q.Z := fun t => key (t + 1) t (by omega)
  refine ⟨all, fun t ht => ?_⟩
  have hb := all (t - q.K)
  refine ⟨?_, or_pad (P := fun x => -(q.Cm.y : Int) ≤ x ∧ x ≤ q.Cp.y) (b := 0) (k := 0) c2 p2 (by omega) t fun z => ?_, or_pad (P := fun x => -(q.Cm.z : Int) ≤ x ∧ x ≤ q.Cp.z) (b := 0) (k := 0) c3 p3 (by omega) t fun z => ?_⟩
  · have a := (l1.2 _ hb).2
    rw [show t - q.K + (0 + q.K) = t by omega] at a
    exact a
  · have a := ((l2 z).2 _ hb).2
    rw [show t - q.K + (0 + q.K) = t by omega] at a
    exact a
  · have a := ((l3 z).2 _ hb).2
    rw [show t - q.K + (0 + q.K) = t by omega] at a
    exact a
/-- a point that stays is zero -/
theorem crt_fix {x : V3} (hD : 0 < D) (hc : chkC n A D mx mn be q = true) (hn : Noisy A D mx mn be 0 0 fun _ => x) (hp : x.Pad n) : x = ⟨0, 0, 0⟩ := by
  obtain ⟨c0, c1, c2, c3⟩ := chkC_out hc
  obtain ⟨u1, u2, u3⟩ := unr0 (u := 0) (v := 0) (p := fun _ => x)
  obtain ⟨m, hm, h1, h2, h3⟩ : ∃ m : Nat, (m = x.x.natAbs ∨ m = x.y.natAbs ∨ m = x.z.natAbs) ∧ x.x.natAbs ≤ m ∧ x.y.natAbs ≤ m ∧ x.z.natAbs ≤ m := by
    by_cases a : x.x.natAbs ≤ x.y.natAbs
    · by_cases b : x.y.natAbs ≤ x.z.natAbs
      · exact ⟨_, .inr (.inr rfl), by omega, b, Nat.le_refl _⟩
      · exact ⟨_, .inr (.inl rfl), a, Nat.le_refl _, by omega⟩
    · by_cases b : x.x.natAbs ≤ x.z.natAbs
      · exact ⟨_, .inr (.inr rfl), b, by omega, Nat.le_refl _⟩
      · exact ⟨_, .inl rfl, Nat.le_refl _, by omega, by omega⟩
  have hin : x.In ⟨m, m, m⟩ := by
    refine ⟨⟨?_, ?_⟩, ⟨?_, ?_⟩, ?_, ?_⟩ <;> dsimp only <;> omega
  have key : ∀ (y : Int) (pw : Nat) (r : V3), 0 < pw → r.ln < pw → (pw : Int) * y = r.dot x → m = y.natAbs → m = 0 := fun y pw r h4 h5 h6 h7 => by
    have h8 := dot_wn (r := r) hin
    rw [wn_const, ← h6] at h8
    have h9 : (pw : Int) * m ≤ (m * r.ln : Nat) := by
      have : (m : Int) = y ∨ (m : Int) = -y := by omega
      rcases this with e | e
      · rw [e]; exact h8.2
      · rw [e, Int.mul_neg]; omega
    have h10 : pw * m ≤ m * r.ln := by exact_mod_cast h9
    by_cases c : m = 0
    · exact c
    · have : m * (r.ln + 1) ≤ m * pw := Nat.mul_le_mul_left _ (by omega)
      exfalso
      rw [Nat.mul_add, Nat.mul_one, Nat.mul_comm m pw] at this
      omega
  have e1 : m = x.x.natAbs → m = 0 := fun h => by
    obtain ⟨r1, p1, q1, s1, e1⟩ := loop_fix hD hn q.K 0 _ _ _ _ (by decide) u1 c1
    exact key _ _ _ q1 s1 (e1 0) h
  have e2 : m = x.y.natAbs → m = 0 := fun h => by
    rcases c2 with c | c2
    · have := hp.1 c; omega
    · obtain ⟨r1, p1, q1, s1, e1⟩ := loop_fix hD hn q.K 0 _ _ _ _ (by decide) u2 c2
      exact key _ _ _ q1 s1 (e1 0) h
  have e3 : m = x.z.natAbs → m = 0 := fun h => by
    rcases c3 with c | c3
    · have := hp.2 c; omega
    · obtain ⟨r1, p1, q1, s1, e1⟩ := loop_fix hD hn q.K 0 _ _ _ _ (by decide) u3 c3
      exact key _ _ _ q1 s1 (e1 0) h
  have m0 : m = 0 := by
    rcases hm with h | h | h
    · exact e1 h
    · exact e2 h
    · exact e3 h
  cases x
  congr 1 <;> dsimp only at * <;> omega
end
/-- a step of an orbit -/
def StepO (A : M3) (D : Nat) (mx mn : N3) (be : Nat) (p q : V3) : Prop := ∃ f : V3, f.Bt mx mn ∧ ∃ b : V3, b.In ⟨be, be, be⟩ ∧ D * q.x = A.a.dot p - A.a.dot f - D * b.x ∧ D * q.y = A.b.dot p - A.b.dot f - D * b.y ∧ D * q.z = A.c.dot p - A.c.dot f - D * b.z
/-- a carry -/
def StepC (A : M3) (D : Nat) (mx mn : N3) (be : Nat) (p q : V3) : Prop := ∃ f : V3, f.Bt mx mn ∧ ∃ b : V3, b.In ⟨be, be, be⟩ ∧ ∃ f' : V3, f'.Bt mx mn ∧ ∃ b' : V3, b'.In ⟨be, be, be⟩ ∧ D * q.x = A.a.dot p + A.a.dot f' - A.a.dot f + D * b'.x - D * b.x ∧ D * q.y = A.b.dot p + A.b.dot f' - A.b.dot f + D * b'.y - D * b.y ∧ D * q.z = A.c.dot p + A.c.dot f' - A.c.dot f + D * b'.z - D * b.z
theorem lm_dot (A : M3) (r p : V3) : (A.lm r).dot p = r.x * A.a.dot p + (r.y * A.b.dot p + r.z * A.c.dot p) := by
  unfold M3.lm V3.dot
  grind
section
variable {A : M3} {D : Nat} {mx mn : N3} {be : Nat} {p : Nat → V3}
theorem noisy_orb (h : ∀ t, StepO A D mx mn be (p t) (p (t + 1))) : Noisy A D mx mn be 1 0 p := fun t r => by
  obtain ⟨f, hf, b, hb, e1, e2, e3⟩ := h t
  have e : D * r.dot (p (t + 1)) - (A.lm r).dot (p t) = -(A.lm r).dot f - D * r.dot b := by
    rw [lm_dot, lm_dot]
    unfold V3.dot at *
    generalize (D : Int) = D at *
    grind
  have h1 := dot_bt (r := A.lm r) hf
  have h3 := dot_wn (r := r) hb
  rw [wn_const] at h3
  have hD : (0 : Int) ≤ D := by omega
  have h4 := Int.mul_le_mul_of_nonneg_left h3.1 hD
  have h5 := Int.mul_le_mul_of_nonneg_left h3.2 hD
  rw [e]
  have h6 : ((be * D * r.ln : Nat) : Int) = D * ((be * r.ln : Nat) : Int) := by push_cast; grind
  rw [Int.mul_neg] at h4
  rw [Int.natCast_add, Int.natCast_add, h6]
  omega
theorem noisy_carry (h : ∀ t, StepC A D mx mn be (p t) (p (t + 1))) : Noisy A D mx mn be 1 1 p := fun t r => by
  obtain ⟨f, hf, b, hb, f', hf', b', hb', e1, e2, e3⟩ := h t
  have e : D * r.dot (p (t + 1)) - (A.lm r).dot (p t) = (A.lm r).dot f' - (A.lm r).dot f + D * r.dot b' - D * r.dot b := by
    rw [lm_dot, lm_dot, lm_dot]
    unfold V3.dot at *
    generalize (D : Int) = D at *
    grind
  have h1 := dot_bt (r := A.lm r) hf
  have h1' := dot_bt (r := A.lm r) hf'
  have h3 := dot_wn (r := r) hb
  have h3' := dot_wn (r := r) hb'
  rw [wn_const] at h3 h3'
  have hD : (0 : Int) ≤ D := by omega
  have h4 := Int.mul_le_mul_of_nonneg_left h3.1 hD
  have h5 := Int.mul_le_mul_of_nonneg_left h3.2 hD
  have h4' := Int.mul_le_mul_of_nonneg_left h3'.1 hD
  have h5' := Int.mul_le_mul_of_nonneg_left h3'.2 hD
  rw [e]
  have h6 : ((be * D * r.ln : Nat) : Int) = D * ((be * r.ln : Nat) : Int) := by push_cast; grind
  rw [Int.mul_neg] at h4 h4'
  rw [Int.natCast_add, Int.natCast_add, h6]
  omega
theorem noisy_fix {x : V3} (e1 : D * x.x = A.a.dot x) (e2 : D * x.y = A.b.dot x) (e3 : D * x.z = A.c.dot x) : Noisy A D mx mn be 0 0 fun _ => x := fun t r => by
  have e : D * r.dot x - (A.lm r).dot x = 0 := by
    rw [lm_dot]
    unfold V3.dot at *
    generalize (D : Int) = D at *
    grind
  show _ ≤ D * r.dot x - (A.lm r).dot x ∧ D * r.dot x - (A.lm r).dot x ≤ _
  rw [e]
  omega
end
end K13
namespace K13
/-! ## The check of one matrix -/
def v3 (p : Pt) : V3 := ⟨p.getD 0 0, p.getD 1 0, p.getD 2 0⟩
def m3 (m : Mx) : M3 := ⟨v3 (m.getD 0 []), v3 (m.getD 1 []), v3 (m.getD 2 [])⟩
def smulM (s : Int) (m : Mx) : Mx := m.map fun r => r.map fun x => Int.mul s x
def sg (D : Int) : Int := match D with | .ofNat _ => 1 | .negSucc _ => -1
def fdot : Pt → Pt → Int
  | a :: r, b :: p => Int.add (Int.mul a b) (fdot r p)
  | _, _ => Int.ofNat 0
def kmod (x : Int) (k : Nat) : Nat := match x with | .ofNat n => Nat.mod n k | .negSucc n => Nat.sub k (Nat.succ (Nat.mod n k))
def keyN (A : Mx) (k : Nat) (p : Pt) : List Nat := A.map fun r => kmod (fdot r p) k
def eqN : List Nat → List Nat → Bool
  | [], [] => true
  | a :: l, b :: r => Nat.beq a b && eqN l r
  | _, _ => false
def memN (q : List Nat) : List (List Nat) → Bool
  | [] => false
  | a :: l => eqN q a || memN q l
def leastF (A : Mx) (k : Nat) : Nat → List Pt → List Pt → List (List Nat) → List Pt × List (List Nat)
  | 0, _, F, ks => (F, ks)
  | _ + 1, [], F, ks => (F, ks)
  | c + 1, p :: ps, F, ks => bif memN (keyN A k p) ks then leastF A k (c + 1) ps F ks else leastF A k c ps (p :: F) (keyN A k p :: ks)
/-- the key of p + e_j, from the key of p -/
def nxtN (k : Nat) (j : Nat) : Mx → List Nat → List Nat
  | r :: A, x :: q => kmod (Int.add (Int.ofNat x) (r.getD j 0)) k :: nxtN k j A q
  | _, _ => []
def clsK (A : Mx) (k : Nat) (ks : List (List Nat)) (j : Nat) : Bool := ks.all fun q => memN (nxtN k j A q) ks
def idM (n : Nat) (D : Int) : Mx := (List.range n).map fun i => (List.range n).map fun j => if i = j then D else 0
def cntC (q : Crt) : Nat := (q.Cp.x + q.Cm.x + 1) * ((q.Cp.y + q.Cm.y + 1) * (q.Cp.z + q.Cm.z + 1))
def cntZ (q : Crt) : Nat := (2 * q.Z.x + 1) * ((2 * q.Z.y + 1) * (2 * q.Z.z + 1))
def zokC (n : Nat) (q : Crt) : Bool := Nat.ble q.B.x q.R && (Nat.ble q.B.y q.R && (Nat.ble q.B.z q.R && (Nat.blt (q.K + cntC q) 20000 && (Nat.ble (cntZ q) 16000000 && (Nat.ble ((2 * q.R + 1) ^ n) 16000000 && Nat.ble (if n < 3 then 6 else 3) q.R)))))
def inR (lo hi x : Int) : Bool := decide (lo ≤ x) && decide (x ≤ hi)
def mokB (m : Mx) (D : Int) : Bool := (m.all fun r => decide (r.length = m.length) && r.all fun x => inR (-12) 12 x) && (decide (1 ≤ m.length) && (decide (m.length ≤ 3) && (inR (-12) 12 D && (decide (D ≠ 0) && (decide (brkL m = []) && (strGo 10 (adjM m) (absI D) (adjM m) (absI D) && inR (-1000) 1000 (trM m)))))))
def keyB (n : Nat) (A : Mx) (D : Int) (F : List Pt) (ks : List (List Nat)) : Bool := Nat.beq F.length D.natAbs && (decide (F.getLast? = some (zeroP n)) && ((List.range n).all fun j => clsK A D.natAbs ks j))
def mxP (F : List Pt) (i : Nat) : Nat := (F.map fun p => pz (p.getD i 0)).foldl (fun a b => bif Nat.ble a b then b else a) 0
def mnP (F : List Pt) (i : Nat) : Nat := (F.map fun p => nz (p.getD i 0)).foldl (fun a b => bif Nat.ble a b then b else a) 0
def mxV (F : List Pt) : N3 := ⟨mxP F 0, mxP F 1, mxP F 2⟩
def mnV (F : List Pt) : N3 := ⟨mnP F 0, mnP F 1, mnP F 2⟩
def chkM (m : Mx) (A : Mx) (D : Int) (q : Crt) (F : List Pt) (ks : List (List Nat)) : Bool :=
  mokB m D && (keyB m.length A D F ks && (decide (mulM A m = idM m.length D) && (zokC m.length q && ((A.all fun r => r.all fun x => inR (-1000) 1000 x) && (decide (A.length = m.length) && (A.all fun r => decide (r.length = m.length)) && chkC m.length (m3 (smulM (sg D) A)) D.natAbs (mxV F) (mnV F) 1 q)))))
def chkA (m : Mx) (q : Crt) : Bool := match leastF (adjM m) (detM m).natAbs (detM m).natAbs (boxL m.length (detM m).natAbs) [] [] with
  | (F, ks) => chkM m (adjM m) (detM m) q F ks
def ddp : List Mx → List Mx
  | [] => []
  | a :: l => if l.head? = some a then ddp l else a :: ddp l
def certs : List Crt := [
⟨5, 6, ⟨4, 0, 0⟩, ⟨6, 0, 0⟩, ⟨2, 0, 0⟩, ⟨3, 0, 0⟩⟩,
⟨4, 6, ⟨3, 0, 0⟩, ⟨6, 0, 0⟩, ⟨1, 0, 0⟩, ⟨2, 0, 0⟩⟩,
⟨3, 6, ⟨3, 0, 0⟩, ⟨6, 0, 0⟩, ⟨1, 0, 0⟩, ⟨2, 0, 0⟩⟩,
⟨3, 6, ⟨3, 0, 0⟩, ⟨6, 0, 0⟩, ⟨1, 0, 0⟩, ⟨2, 0, 0⟩⟩,
⟨2, 6, ⟨3, 0, 0⟩, ⟨6, 0, 0⟩, ⟨1, 0, 0⟩, ⟨2, 0, 0⟩⟩,
⟨2, 6, ⟨3, 0, 0⟩, ⟨6, 0, 0⟩, ⟨1, 0, 0⟩, ⟨2, 0, 0⟩⟩,
⟨2, 6, ⟨3, 0, 0⟩, ⟨6, 0, 0⟩, ⟨1, 0, 0⟩, ⟨2, 0, 0⟩⟩,
⟨2, 6, ⟨3, 0, 0⟩, ⟨6, 0, 0⟩, ⟨1, 0, 0⟩, ⟨2, 0, 0⟩⟩,
⟨2, 6, ⟨3, 0, 0⟩, ⟨6, 0, 0⟩, ⟨1, 0, 0⟩, ⟨2, 0, 0⟩⟩,
⟨2, 6, ⟨3, 0, 0⟩, ⟨6, 0, 0⟩, ⟨1, 0, 0⟩, ⟨2, 0, 0⟩⟩,
⟨2, 6, ⟨3, 0, 0⟩, ⟨6, 0, 0⟩, ⟨1, 0, 0⟩, ⟨2, 0, 0⟩⟩,
⟨5, 6, ⟨4, 0, 0⟩, ⟨6, 0, 0⟩, ⟨2, 0, 0⟩, ⟨2, 0, 0⟩⟩,
⟨4, 6, ⟨3, 0, 0⟩, ⟨6, 0, 0⟩, ⟨2, 0, 0⟩, ⟨1, 0, 0⟩⟩,
⟨3, 6, ⟨3, 0, 0⟩, ⟨6, 0, 0⟩, ⟨2, 0, 0⟩, ⟨1, 0, 0⟩⟩,
⟨3, 6, ⟨3, 0, 0⟩, ⟨6, 0, 0⟩, ⟨2, 0, 0⟩, ⟨1, 0, 0⟩⟩,
⟨2, 6, ⟨3, 0, 0⟩, ⟨6, 0, 0⟩, ⟨2, 0, 0⟩, ⟨1, 0, 0⟩⟩,
⟨2, 6, ⟨3, 0, 0⟩, ⟨6, 0, 0⟩, ⟨2, 0, 0⟩, ⟨1, 0, 0⟩⟩,
⟨2, 6, ⟨3, 0, 0⟩, ⟨6, 0, 0⟩, ⟨2, 0, 0⟩, ⟨1, 0, 0⟩⟩,
⟨2, 6, ⟨3, 0, 0⟩, ⟨6, 0, 0⟩, ⟨2, 0, 0⟩, ⟨1, 0, 0⟩⟩,
⟨2, 6, ⟨3, 0, 0⟩, ⟨6, 0, 0⟩, ⟨2, 0, 0⟩, ⟨1, 0, 0⟩⟩,
⟨2, 6, ⟨3, 0, 0⟩, ⟨6, 0, 0⟩, ⟨2, 0, 0⟩, ⟨1, 0, 0⟩⟩,
⟨2, 6, ⟨3, 0, 0⟩, ⟨6, 0, 0⟩, ⟨2, 0, 0⟩, ⟨1, 0, 0⟩⟩,
⟨12, 15, ⟨15, 10, 0⟩, ⟨32, 17, 0⟩, ⟨7, 5, 0⟩, ⟨8, 4, 0⟩⟩,
⟨12, 12, ⟨12, 8, 0⟩, ⟨19, 12, 0⟩, ⟨6, 4, 0⟩, ⟨6, 4, 0⟩⟩,
⟨10, 8, ⟨8, 6, 0⟩, ⟨9, 8, 0⟩, ⟨4, 3, 0⟩, ⟨4, 3, 0⟩⟩,
⟨12, 12, ⟨12, 8, 0⟩, ⟨19, 12, 0⟩, ⟨6, 4, 0⟩, ⟨6, 4, 0⟩⟩,
⟨12, 15, ⟨15, 10, 0⟩, ⟨32, 17, 0⟩, ⟨8, 5, 0⟩, ⟨7, 5, 0⟩⟩,
⟨10, 8, ⟨8, 6, 0⟩, ⟨9, 8, 0⟩, ⟨4, 3, 0⟩, ⟨5, 4, 0⟩⟩,
⟨10, 17, ⟨17, 8, 0⟩, ⟨37, 17, 0⟩, ⟨7, 5, 0⟩, ⟨11, 3, 0⟩⟩,
⟨10, 11, ⟨11, 6, 0⟩, ⟨20, 11, 0⟩, ⟨5, 3, 0⟩, ⟨6, 2, 0⟩⟩,
⟨8, 9, ⟨9, 5, 0⟩, ⟨13, 9, 0⟩, ⟨4, 3, 0⟩, ⟨4, 2, 0⟩⟩,
⟨8, 6, ⟨6, 4, 0⟩, ⟨7, 6, 0⟩, ⟨3, 2, 0⟩, ⟨3, 2, 0⟩⟩,
⟨8, 9, ⟨9, 5, 0⟩, ⟨13, 9, 0⟩, ⟨5, 3, 0⟩, ⟨4, 2, 0⟩⟩,
⟨10, 11, ⟨11, 6, 0⟩, ⟨20, 11, 0⟩, ⟨6, 3, 0⟩, ⟨5, 3, 0⟩⟩,
⟨10, 17, ⟨17, 8, 0⟩, ⟨37, 17, 0⟩, ⟨9, 4, 0⟩, ⟨8, 4, 0⟩⟩,
⟨15, 15, ⟨15, 7, 0⟩, ⟨21, 15, 0⟩, ⟨8, 3, 0⟩, ⟨8, 4, 0⟩⟩,
⟨8, 6, ⟨6, 4, 0⟩, ⟨7, 6, 0⟩, ⟨3, 2, 0⟩, ⟨4, 3, 0⟩⟩,
⟨15, 15, ⟨15, 7, 0⟩, ⟨21, 15, 0⟩, ⟨6, 3, 0⟩, ⟨10, 5, 0⟩⟩,
⟨12, 25, ⟨25, 9, 0⟩, ⟨54, 25, 0⟩, ⟨8, 6, 0⟩, ⟨17, 3, 0⟩⟩,
⟨7, 12, ⟨12, 5, 0⟩, ⟨24, 12, 0⟩, ⟨5, 3, 0⟩, ⟨8, 2, 0⟩⟩,
⟨6, 8, ⟨8, 4, 0⟩, ⟨14, 8, 0⟩, ⟨4, 3, 0⟩, ⟨5, 2, 0⟩⟩,
⟨7, 8, ⟨8, 4, 0⟩, ⟨11, 8, 0⟩, ⟨4, 2, 0⟩, ⟨4, 2, 0⟩⟩,
⟨6, 6, ⟨6, 4, 0⟩, ⟨7, 6, 0⟩, ⟨3, 2, 0⟩, ⟨2, 1, 0⟩⟩,
⟨7, 8, ⟨8, 4, 0⟩, ⟨11, 8, 0⟩, ⟨4, 2, 0⟩, ⟨3, 2, 0⟩⟩,
⟨6, 8, ⟨8, 4, 0⟩, ⟨14, 8, 0⟩, ⟨5, 2, 0⟩, ⟨4, 2, 0⟩⟩,
⟨7, 12, ⟨12, 5, 0⟩, ⟨24, 12, 0⟩, ⟨7, 3, 0⟩, ⟨5, 2, 0⟩⟩,
⟨12, 25, ⟨25, 9, 0⟩, ⟨54, 25, 0⟩, ⟨13, 4, 0⟩, ⟨11, 4, 0⟩⟩,
⟨19, 24, ⟨24, 8, 0⟩, ⟨38, 24, 0⟩, ⟨13, 4, 0⟩, ⟨12, 5, 0⟩⟩,
⟨9, 10, ⟨10, 5, 0⟩, ⟨14, 10, 0⟩, ⟨5, 2, 0⟩, ⟨5, 3, 0⟩⟩,
⟨6, 6, ⟨6, 4, 0⟩, ⟨7, 6, 0⟩, ⟨2, 1, 0⟩, ⟨3, 2, 0⟩⟩,
⟨9, 10, ⟨10, 5, 0⟩, ⟨14, 10, 0⟩, ⟨4, 2, 0⟩, ⟨7, 3, 0⟩⟩,
⟨19, 24, ⟨24, 8, 0⟩, ⟨38, 24, 0⟩, ⟨8, 3, 0⟩, ⟨17, 6, 0⟩⟩,
⟨26, 36, ⟨36, 10, 0⟩, ⟨77, 36, 0⟩, ⟨10, 7, 0⟩, ⟨26, 3, 0⟩⟩,
⟨6, 16, ⟨16, 6, 0⟩, ⟨33, 16, 0⟩, ⟨5, 4, 0⟩, ⟨11, 2, 0⟩⟩,
⟨7, 10, ⟨10, 5, 0⟩, ⟨19, 10, 0⟩, ⟨4, 3, 0⟩, ⟨6, 1, 0⟩⟩,
⟨6, 8, ⟨8, 4, 0⟩, ⟨13, 8, 0⟩, ⟨3, 2, 0⟩, ⟨4, 1, 0⟩⟩,
⟨6, 7, ⟨7, 4, 0⟩, ⟨10, 7, 0⟩, ⟨3, 2, 0⟩, ⟨3, 1, 0⟩⟩,
⟨6, 6, ⟨5, 3, 0⟩, ⟨7, 6, 0⟩, ⟨3, 2, 0⟩, ⟨2, 1, 0⟩⟩,
⟨6, 7, ⟨7, 4, 0⟩, ⟨10, 7, 0⟩, ⟨4, 2, 0⟩, ⟨3, 1, 0⟩⟩,
⟨6, 8, ⟨8, 4, 0⟩, ⟨13, 8, 0⟩, ⟨5, 2, 0⟩, ⟨3, 2, 0⟩⟩,
⟨7, 10, ⟨10, 5, 0⟩, ⟨19, 10, 0⟩, ⟨6, 2, 0⟩, ⟨4, 2, 0⟩⟩,
⟨6, 16, ⟨16, 6, 0⟩, ⟨33, 16, 0⟩, ⟨9, 3, 0⟩, ⟨7, 3, 0⟩⟩,
⟨26, 36, ⟨36, 10, 0⟩, ⟨77, 36, 0⟩, ⟨19, 5, 0⟩, ⟨16, 4, 0⟩⟩,
⟨23, 35, ⟨35, 9, 0⟩, ⟨59, 35, 0⟩, ⟨19, 4, 0⟩, ⟨18, 5, 0⟩⟩,
⟨11, 15, ⟨15, 5, 0⟩, ⟨23, 15, 0⟩, ⟨8, 2, 0⟩, ⟨8, 3, 0⟩⟩,
⟨7, 9, ⟨9, 4, 0⟩, ⟨12, 9, 0⟩, ⟨4, 2, 0⟩, ⟨4, 2, 0⟩⟩,
⟨6, 6, ⟨5, 3, 0⟩, ⟨7, 6, 0⟩, ⟨2, 1, 0⟩, ⟨3, 2, 0⟩⟩,
⟨7, 9, ⟨9, 4, 0⟩, ⟨12, 9, 0⟩, ⟨3, 1, 0⟩, ⟨6, 3, 0⟩⟩,
⟨11, 15, ⟨15, 5, 0⟩, ⟨23, 15, 0⟩, ⟨5, 2, 0⟩, ⟨11, 4, 0⟩⟩,
⟨23, 35, ⟨35, 9, 0⟩, ⟨59, 35, 0⟩, ⟨11, 3, 0⟩, ⟨26, 7, 0⟩⟩,
⟨34, 49, ⟨49, 11, 0⟩, ⟨104, 49, 0⟩, ⟨12, 8, 0⟩, ⟨37, 3, 0⟩⟩,
⟨10, 22, ⟨22, 6, 0⟩, ⟨45, 22, 0⟩, ⟨6, 4, 0⟩, ⟨16, 2, 0⟩⟩,
⟨5, 13, ⟨13, 5, 0⟩, ⟨26, 13, 0⟩, ⟨4, 3, 0⟩, ⟨9, 1, 0⟩⟩,
⟨6, 10, ⟨10, 4, 0⟩, ⟨18, 10, 0⟩, ⟨3, 2, 0⟩, ⟨6, 1, 0⟩⟩,
⟨5, 8, ⟨8, 4, 0⟩, ⟨13, 8, 0⟩, ⟨3, 2, 0⟩, ⟨4, 1, 0⟩⟩,
⟨5, 7, ⟨7, 4, 0⟩, ⟨10, 7, 0⟩, ⟨3, 2, 0⟩, ⟨3, 1, 0⟩⟩,
⟨4, 6, ⟨5, 3, 0⟩, ⟨7, 6, 0⟩, ⟨3, 2, 0⟩, ⟨2, 1, 0⟩⟩,
⟨5, 7, ⟨7, 4, 0⟩, ⟨10, 7, 0⟩, ⟨4, 2, 0⟩, ⟨3, 1, 0⟩⟩,
⟨5, 8, ⟨8, 4, 0⟩, ⟨13, 8, 0⟩, ⟨5, 2, 0⟩, ⟨3, 1, 0⟩⟩,
⟨6, 10, ⟨10, 4, 0⟩, ⟨18, 10, 0⟩, ⟨6, 2, 0⟩, ⟨4, 2, 0⟩⟩,
⟨5, 13, ⟨13, 5, 0⟩, ⟨26, 13, 0⟩, ⟨8, 2, 0⟩, ⟨5, 2, 0⟩⟩,
⟨10, 22, ⟨22, 6, 0⟩, ⟨45, 22, 0⟩, ⟨12, 3, 0⟩, ⟨9, 3, 0⟩⟩,
⟨34, 49, ⟨49, 11, 0⟩, ⟨104, 49, 0⟩, ⟨25, 5, 0⟩, ⟨23, 5, 0⟩⟩,
⟨27, 48, ⟨48, 10, 0⟩, ⟨84, 48, 0⟩, ⟨26, 5, 0⟩, ⟨25, 6, 0⟩⟩,
⟨13, 21, ⟨21, 6, 0⟩, ⟨35, 21, 0⟩, ⟨12, 3, 0⟩, ⟨10, 3, 0⟩⟩,
⟨9, 12, ⟨12, 4, 0⟩, ⟨18, 12, 0⟩, ⟨7, 2, 0⟩, ⟨6, 2, 0⟩⟩,
⟨6, 8, ⟨8, 4, 0⟩, ⟨11, 8, 0⟩, ⟨4, 1, 0⟩, ⟨4, 2, 0⟩⟩,
⟨4, 6, ⟨5, 3, 0⟩, ⟨7, 6, 0⟩, ⟨2, 1, 0⟩, ⟨3, 2, 0⟩⟩,
⟨6, 8, ⟨8, 4, 0⟩, ⟨11, 8, 0⟩, ⟨3, 1, 0⟩, ⟨5, 2, 0⟩⟩,
⟨9, 12, ⟨12, 4, 0⟩, ⟨18, 12, 0⟩, ⟨4, 1, 0⟩, ⟨9, 3, 0⟩⟩,
⟨13, 21, ⟨21, 6, 0⟩, ⟨35, 21, 0⟩, ⟨6, 2, 0⟩, ⟨16, 4, 0⟩⟩,
⟨27, 48, ⟨48, 10, 0⟩, ⟨84, 48, 0⟩, ⟨13, 3, 0⟩, ⟨38, 8, 0⟩⟩,
⟨42, 64, ⟨64, 12, 0⟩, ⟨135, 64, 0⟩, ⟨14, 9, 0⟩, ⟨50, 3, 0⟩⟩,
⟨14, 29, ⟨29, 7, 0⟩, ⟨60, 29, 0⟩, ⟨7, 5, 0⟩, ⟨22, 2, 0⟩⟩,
⟨6, 17, ⟨17, 5, 0⟩, ⟨34, 17, 0⟩, ⟨5, 3, 0⟩, ⟨13, 1, 0⟩⟩,
⟨5, 12, ⟨12, 4, 0⟩, ⟨23, 12, 0⟩, ⟨4, 3, 0⟩, ⟨8, 1, 0⟩⟩,
⟨5, 9, ⟨9, 4, 0⟩, ⟨16, 9, 0⟩, ⟨3, 2, 0⟩, ⟨6, 1, 0⟩⟩,
⟨5, 8, ⟨8, 4, 0⟩, ⟨13, 8, 0⟩, ⟨3, 2, 0⟩, ⟨4, 1, 0⟩⟩,
⟨5, 7, ⟨7, 3, 0⟩, ⟨9, 7, 0⟩, ⟨3, 2, 0⟩, ⟨3, 1, 0⟩⟩,
⟨4, 6, ⟨5, 3, 0⟩, ⟨7, 6, 0⟩, ⟨3, 2, 0⟩, ⟨2, 1, 0⟩⟩,
⟨5, 7, ⟨7, 3, 0⟩, ⟨9, 7, 0⟩, ⟨4, 2, 0⟩, ⟨3, 1, 0⟩⟩,
⟨5, 8, ⟨8, 4, 0⟩, ⟨13, 8, 0⟩, ⟨5, 2, 0⟩, ⟨3, 1, 0⟩⟩,
⟨5, 9, ⟨9, 4, 0⟩, ⟨16, 9, 0⟩, ⟨6, 2, 0⟩, ⟨3, 1, 0⟩⟩,
⟨5, 12, ⟨12, 4, 0⟩, ⟨23, 12, 0⟩, ⟨7, 2, 0⟩, ⟨5, 2, 0⟩⟩,
⟨6, 17, ⟨17, 5, 0⟩, ⟨34, 17, 0⟩, ⟨10, 3, 0⟩, ⟨7, 2, 0⟩⟩,
⟨14, 29, ⟨29, 7, 0⟩, ⟨60, 29, 0⟩, ⟨16, 3, 0⟩, ⟨13, 3, 0⟩⟩,
⟨42, 64, ⟨64, 12, 0⟩, ⟨135, 64, 0⟩, ⟨33, 6, 0⟩, ⟨30, 5, 0⟩⟩,
⟨40, 63, ⟨63, 11, 0⟩, ⟨113, 63, 0⟩, ⟨33, 5, 0⟩, ⟨31, 6, 0⟩⟩,
⟨15, 28, ⟨28, 6, 0⟩, ⟨48, 28, 0⟩, ⟨16, 3, 0⟩, ⟨14, 3, 0⟩⟩,
⟨10, 17, ⟨17, 5, 0⟩, ⟨27, 17, 0⟩, ⟨9, 2, 0⟩, ⟨8, 3, 0⟩⟩,
⟨7, 11, ⟨11, 4, 0⟩, ⟨16, 11, 0⟩, ⟨6, 1, 0⟩, ⟨5, 2, 0⟩⟩,
⟨6, 7, ⟨7, 3, 0⟩, ⟨9, 7, 0⟩, ⟨4, 1, 0⟩, ⟨4, 2, 0⟩⟩,
⟨4, 6, ⟨5, 3, 0⟩, ⟨7, 6, 0⟩, ⟨2, 1, 0⟩, ⟨3, 2, 0⟩⟩,
⟨6, 7, ⟨7, 3, 0⟩, ⟨9, 7, 0⟩, ⟨2, 1, 0⟩, ⟨5, 2, 0⟩⟩,
⟨7, 11, ⟨11, 4, 0⟩, ⟨16, 11, 0⟩, ⟨3, 1, 0⟩, ⟨8, 3, 0⟩⟩,
⟨10, 17, ⟨17, 5, 0⟩, ⟨27, 17, 0⟩, ⟨5, 1, 0⟩, ⟨13, 3, 0⟩⟩,
⟨15, 28, ⟨28, 6, 0⟩, ⟨48, 28, 0⟩, ⟨7, 2, 0⟩, ⟨22, 5, 0⟩⟩,
⟨40, 63, ⟨63, 11, 0⟩, ⟨113, 63, 0⟩, ⟨14, 3, 0⟩, ⟨50, 9, 0⟩⟩,
⟨50, 81, ⟨81, 13, 0⟩, ⟨170, 81, 0⟩, ⟨16, 10, 0⟩, ⟨65, 3, 0⟩⟩,
⟨23, 37, ⟨37, 7, 0⟩, ⟨76, 37, 0⟩, ⟨8, 5, 0⟩, ⟨29, 2, 0⟩⟩,
⟨8, 22, ⟨22, 5, 0⟩, ⟨44, 22, 0⟩, ⟨5, 4, 0⟩, ⟨17, 1, 0⟩⟩,
⟨5, 15, ⟨15, 4, 0⟩, ⟨29, 15, 0⟩, ⟨4, 3, 0⟩, ⟨11, 1, 0⟩⟩,
⟨4, 11, ⟨11, 4, 0⟩, ⟨21, 11, 0⟩, ⟨3, 2, 0⟩, ⟨7, 1, 0⟩⟩,
⟨6, 8, ⟨8, 4, 0⟩, ⟨14, 8, 0⟩, ⟨3, 2, 0⟩, ⟨5, 1, 0⟩⟩,
⟨5, 8, ⟨8, 3, 0⟩, ⟨12, 8, 0⟩, ⟨3, 2, 0⟩, ⟨4, 1, 0⟩⟩,
⟨5, 7, ⟨7, 3, 0⟩, ⟨9, 7, 0⟩, ⟨3, 2, 0⟩, ⟨3, 1, 0⟩⟩,
⟨4, 6, ⟨5, 3, 0⟩, ⟨7, 6, 0⟩, ⟨3, 2, 0⟩, ⟨2, 1, 0⟩⟩,
⟨5, 7, ⟨7, 3, 0⟩, ⟨9, 7, 0⟩, ⟨4, 2, 0⟩, ⟨2, 1, 0⟩⟩,
⟨5, 8, ⟨8, 3, 0⟩, ⟨12, 8, 0⟩, ⟨5, 2, 0⟩, ⟨3, 1, 0⟩⟩,
⟨6, 8, ⟨8, 4, 0⟩, ⟨14, 8, 0⟩, ⟨5, 2, 0⟩, ⟨3, 1, 0⟩⟩,
⟨4, 11, ⟨11, 4, 0⟩, ⟨21, 11, 0⟩, ⟨7, 2, 0⟩, ⟨4, 2, 0⟩⟩,
⟨5, 15, ⟨15, 4, 0⟩, ⟨29, 15, 0⟩, ⟨9, 2, 0⟩, ⟨6, 2, 0⟩⟩,
⟨8, 22, ⟨22, 5, 0⟩, ⟨44, 22, 0⟩, ⟨13, 3, 0⟩, ⟨10, 2, 0⟩⟩,
⟨23, 37, ⟨37, 7, 0⟩, ⟨76, 37, 0⟩, ⟨20, 3, 0⟩, ⟨16, 3, 0⟩⟩,
⟨50, 81, ⟨81, 13, 0⟩, ⟨170, 81, 0⟩, ⟨42, 6, 0⟩, ⟨38, 6, 0⟩⟩,
⟨45, 80, ⟨80, 12, 0⟩, ⟨146, 80, 0⟩, ⟨42, 6, 0⟩, ⟨40, 6, 0⟩⟩,
⟨17, 36, ⟨36, 7, 0⟩, ⟨63, 36, 0⟩, ⟨20, 3, 0⟩, ⟨18, 4, 0⟩⟩,
⟨11, 22, ⟨22, 5, 0⟩, ⟨37, 22, 0⟩, ⟨12, 2, 0⟩, ⟨10, 3, 0⟩⟩,
⟨8, 14, ⟨14, 4, 0⟩, ⟨22, 14, 0⟩, ⟨8, 2, 0⟩, ⟨7, 2, 0⟩⟩,
⟨6, 10, ⟨10, 4, 0⟩, ⟨15, 10, 0⟩, ⟨5, 1, 0⟩, ⟨5, 2, 0⟩⟩,
⟨5, 7, ⟨7, 3, 0⟩, ⟨9, 7, 0⟩, ⟨3, 1, 0⟩, ⟨3, 2, 0⟩⟩,
⟨4, 6, ⟨5, 3, 0⟩, ⟨7, 6, 0⟩, ⟨2, 1, 0⟩, ⟨3, 2, 0⟩⟩,
⟨5, 7, ⟨7, 3, 0⟩, ⟨9, 7, 0⟩, ⟨2, 1, 0⟩, ⟨5, 2, 0⟩⟩,
⟨6, 10, ⟨10, 4, 0⟩, ⟨15, 10, 0⟩, ⟨3, 1, 0⟩, ⟨7, 2, 0⟩⟩,
⟨8, 14, ⟨14, 4, 0⟩, ⟨22, 14, 0⟩, ⟨4, 1, 0⟩, ⟨11, 3, 0⟩⟩,
⟨11, 22, ⟨22, 5, 0⟩, ⟨37, 22, 0⟩, ⟨6, 1, 0⟩, ⟨17, 4, 0⟩⟩,
⟨17, 36, ⟨36, 7, 0⟩, ⟨63, 36, 0⟩, ⟨9, 2, 0⟩, ⟨29, 5, 0⟩⟩,
⟨45, 80, ⟨80, 12, 0⟩, ⟨146, 80, 0⟩, ⟨17, 3, 0⟩, ⟨65, 10, 0⟩⟩,
⟨58, 100, ⟨100, 14, 0⟩, ⟨209, 100, 0⟩, ⟨18, 11, 0⟩, ⟨82, 3, 0⟩⟩,
⟨27, 46, ⟨46, 8, 0⟩, ⟨95, 46, 0⟩, ⟨9, 6, 0⟩, ⟨37, 2, 0⟩⟩,
⟨12, 28, ⟨28, 6, 0⟩, ⟨57, 28, 0⟩, ⟨6, 4, 0⟩, ⟨22, 1, 0⟩⟩,
⟨8, 19, ⟨19, 5, 0⟩, ⟨38, 19, 0⟩, ⟨4, 3, 0⟩, ⟨14, 1, 0⟩⟩,
⟨5, 13, ⟨13, 4, 0⟩, ⟨25, 13, 0⟩, ⟨3, 3, 0⟩, ⟨10, 1, 0⟩⟩,
⟨4, 10, ⟨10, 4, 0⟩, ⟨19, 10, 0⟩, ⟨3, 2, 0⟩, ⟨7, 1, 0⟩⟩,
⟨5, 8, ⟨8, 3, 0⟩, ⟨14, 8, 0⟩, ⟨3, 2, 0⟩, ⟨5, 1, 0⟩⟩,
⟨5, 7, ⟨7, 3, 0⟩, ⟨11, 7, 0⟩, ⟨3, 2, 0⟩, ⟨4, 1, 0⟩⟩,
⟨4, 6, ⟨6, 3, 0⟩, ⟨8, 6, 0⟩, ⟨3, 2, 0⟩, ⟨3, 1, 0⟩⟩,
⟨4, 6, ⟨5, 3, 0⟩, ⟨7, 6, 0⟩, ⟨3, 2, 0⟩, ⟨2, 1, 0⟩⟩,
⟨4, 6, ⟨6, 3, 0⟩, ⟨8, 6, 0⟩, ⟨4, 2, 0⟩, ⟨2, 1, 0⟩⟩,
⟨5, 7, ⟨7, 3, 0⟩, ⟨11, 7, 0⟩, ⟨5, 2, 0⟩, ⟨3, 1, 0⟩⟩,
⟨5, 8, ⟨8, 3, 0⟩, ⟨14, 8, 0⟩, ⟨5, 2, 0⟩, ⟨3, 1, 0⟩⟩,
⟨4, 10, ⟨10, 4, 0⟩, ⟨19, 10, 0⟩, ⟨7, 2, 0⟩, ⟨4, 1, 0⟩⟩,
⟨5, 13, ⟨13, 4, 0⟩, ⟨25, 13, 0⟩, ⟨8, 2, 0⟩, ⟨5, 2, 0⟩⟩,
⟨8, 19, ⟨19, 5, 0⟩, ⟨38, 19, 0⟩, ⟨11, 2, 0⟩, ⟨7, 2, 0⟩⟩,
⟨12, 28, ⟨28, 6, 0⟩, ⟨57, 28, 0⟩, ⟨16, 3, 0⟩, ⟨12, 2, 0⟩⟩,
⟨27, 46, ⟨46, 8, 0⟩, ⟨95, 46, 0⟩, ⟨25, 4, 0⟩, ⟨21, 3, 0⟩⟩,
⟨58, 100, ⟨100, 14, 0⟩, ⟨209, 100, 0⟩, ⟨52, 7, 0⟩, ⟨48, 6, 0⟩⟩,
⟨51, 99, ⟨99, 13, 0⟩, ⟨183, 99, 0⟩, ⟨52, 6, 0⟩, ⟨49, 7, 0⟩⟩,
⟨19, 45, ⟨45, 7, 0⟩, ⟨81, 45, 0⟩, ⟨25, 3, 0⟩, ⟨23, 4, 0⟩⟩,
⟨12, 27, ⟨27, 5, 0⟩, ⟨47, 27, 0⟩, ⟨16, 2, 0⟩, ⟨13, 3, 0⟩⟩,
⟨9, 18, ⟨18, 4, 0⟩, ⟨30, 18, 0⟩, ⟨11, 2, 0⟩, ⟨8, 2, 0⟩⟩,
⟨7, 13, ⟨13, 4, 0⟩, ⟨21, 13, 0⟩, ⟨7, 1, 0⟩, ⟨6, 2, 0⟩⟩,
⟨6, 9, ⟨9, 3, 0⟩, ⟨13, 9, 0⟩, ⟨5, 1, 0⟩, ⟨4, 2, 0⟩⟩,
⟨5, 7, ⟨7, 3, 0⟩, ⟨9, 7, 0⟩, ⟨3, 1, 0⟩, ⟨3, 2, 0⟩⟩,
⟨4, 6, ⟨5, 3, 0⟩, ⟨7, 6, 0⟩, ⟨2, 1, 0⟩, ⟨3, 2, 0⟩⟩,
⟨5, 7, ⟨7, 3, 0⟩, ⟨9, 7, 0⟩, ⟨2, 1, 0⟩, ⟨4, 2, 0⟩⟩,
⟨6, 9, ⟨9, 3, 0⟩, ⟨13, 9, 0⟩, ⟨3, 1, 0⟩, ⟨7, 2, 0⟩⟩,
⟨7, 13, ⟨13, 4, 0⟩, ⟨21, 13, 0⟩, ⟨3, 1, 0⟩, ⟨10, 3, 0⟩⟩,
⟨9, 18, ⟨18, 4, 0⟩, ⟨30, 18, 0⟩, ⟨5, 1, 0⟩, ⟨14, 3, 0⟩⟩,
⟨12, 27, ⟨27, 5, 0⟩, ⟨47, 27, 0⟩, ⟨7, 1, 0⟩, ⟨22, 4, 0⟩⟩,
⟨19, 45, ⟨45, 7, 0⟩, ⟨81, 45, 0⟩, ⟨10, 2, 0⟩, ⟨38, 6, 0⟩⟩,
⟨51, 99, ⟨99, 13, 0⟩, ⟨183, 99, 0⟩, ⟨19, 3, 0⟩, ⟨82, 11, 0⟩⟩,
⟨9, 10, ⟨10, 4, 0⟩, ⟨12, 10, 0⟩, ⟨4, 2, 0⟩, ⟨7, 3, 0⟩⟩,
⟨8, 8, ⟨8, 6, 0⟩, ⟨8, 8, 0⟩, ⟨3, 2, 0⟩, ⟨6, 5, 0⟩⟩,
⟨5, 6, ⟨4, 4, 0⟩, ⟨6, 6, 0⟩, ⟨2, 2, 0⟩, ⟨3, 3, 0⟩⟩,
⟨8, 8, ⟨8, 6, 0⟩, ⟨8, 8, 0⟩, ⟨6, 2, 0⟩, ⟨3, 5, 0⟩⟩,
⟨9, 10, ⟨10, 4, 0⟩, ⟨11, 10, 0⟩, ⟨6, 2, 0⟩, ⟨5, 3, 0⟩⟩,
⟨6, 6, ⟨6, 3, 0⟩, ⟨7, 6, 0⟩, ⟨4, 1, 0⟩, ⟨3, 2, 0⟩⟩,
⟨6, 6, ⟨5, 5, 0⟩, ⟨6, 6, 0⟩, ⟨3, 1, 0⟩, ⟨2, 4, 0⟩⟩,
⟨5, 6, ⟨4, 3, 0⟩, ⟨6, 6, 0⟩, ⟨2, 1, 0⟩, ⟨2, 2, 0⟩⟩,
⟨6, 6, ⟨5, 5, 0⟩, ⟨6, 6, 0⟩, ⟨2, 1, 0⟩, ⟨3, 4, 0⟩⟩,
⟨6, 6, ⟨6, 3, 0⟩, ⟨6, 6, 0⟩, ⟨3, 1, 0⟩, ⟨3, 2, 0⟩⟩,
⟨6, 6, ⟨6, 3, 0⟩, ⟨6, 6, 0⟩, ⟨3, 2, 0⟩, ⟨3, 1, 0⟩⟩,
⟨6, 6, ⟨5, 5, 0⟩, ⟨6, 6, 0⟩, ⟨3, 3, 0⟩, ⟨2, 2, 0⟩⟩,
⟨5, 6, ⟨4, 3, 0⟩, ⟨6, 6, 0⟩, ⟨2, 2, 0⟩, ⟨3, 1, 0⟩⟩,
⟨6, 6, ⟨5, 5, 0⟩, ⟨6, 6, 0⟩, ⟨2, 3, 0⟩, ⟨3, 2, 0⟩⟩,
⟨6, 6, ⟨6, 3, 0⟩, ⟨7, 6, 0⟩, ⟨2, 2, 0⟩, ⟨4, 1, 0⟩⟩,
⟨4, 7, ⟨7, 6, 0⟩, ⟨7, 7, 0⟩, ⟨1, 1, 0⟩, ⟨5, 5, 0⟩⟩,
⟨4, 6, ⟨5, 6, 0⟩, ⟨6, 6, 0⟩, ⟨1, 1, 0⟩, ⟨3, 5, 0⟩⟩,
⟨4, 6, ⟨3, 3, 0⟩, ⟨6, 6, 0⟩, ⟨1, 1, 0⟩, ⟨2, 2, 0⟩⟩,
⟨4, 6, ⟨5, 6, 0⟩, ⟨6, 6, 0⟩, ⟨3, 1, 0⟩, ⟨1, 5, 0⟩⟩,
⟨4, 7, ⟨7, 6, 0⟩, ⟨7, 7, 0⟩, ⟨5, 1, 0⟩, ⟨1, 5, 0⟩⟩,
⟨9, 10, ⟨10, 4, 0⟩, ⟨11, 10, 0⟩, ⟨5, 2, 0⟩, ⟨5, 2, 0⟩⟩,
⟨8, 8, ⟨8, 6, 0⟩, ⟨8, 8, 0⟩, ⟨4, 4, 0⟩, ⟨4, 3, 0⟩⟩,
⟨5, 6, ⟨4, 4, 0⟩, ⟨6, 6, 0⟩, ⟨2, 2, 0⟩, ⟨2, 2, 0⟩⟩,
⟨8, 8, ⟨8, 6, 0⟩, ⟨8, 8, 0⟩, ⟨4, 4, 0⟩, ⟨4, 3, 0⟩⟩,
⟨9, 10, ⟨10, 4, 0⟩, ⟨12, 10, 0⟩, ⟨5, 2, 0⟩, ⟨5, 2, 0⟩⟩,
⟨5, 8, ⟨4, 8, 0⟩, ⟨8, 8, 0⟩, ⟨2, 5, 0⟩, ⟨2, 3, 0⟩⟩,
⟨5, 14, ⟨4, 14, 0⟩, ⟨14, 14, 0⟩, ⟨2, 9, 0⟩, ⟨1, 5, 0⟩⟩,
⟨5, 6, ⟨3, 4, 0⟩, ⟨6, 6, 0⟩, ⟨1, 2, 0⟩, ⟨2, 2, 0⟩⟩,
⟨5, 14, ⟨4, 14, 0⟩, ⟨14, 14, 0⟩, ⟨1, 9, 0⟩, ⟨2, 5, 0⟩⟩,
⟨5, 8, ⟨4, 8, 0⟩, ⟨8, 8, 0⟩, ⟨1, 5, 0⟩, ⟨2, 3, 0⟩⟩,
⟨10, 9, ⟨9, 9, 0⟩, ⟨10, 10, 0⟩, ⟨4, 4, 0⟩, ⟨5, 4, 0⟩⟩,
⟨11, 12, ⟨12, 9, 0⟩, ⟨15, 13, 0⟩, ⟨6, 5, 0⟩, ⟨7, 5, 0⟩⟩,
⟨10, 14, ⟨14, 9, 0⟩, ⟨30, 15, 0⟩, ⟨7, 5, 0⟩, ⟨8, 5, 0⟩⟩,
⟨13, 22, ⟨22, 11, 0⟩, ⟨69, 24, 0⟩, ⟨11, 5, 0⟩, ⟨12, 5, 0⟩⟩,
⟨12, 34, ⟨34, 15, 0⟩, ⟨139, 54, 0⟩, ⟨18, 8, 0⟩, ⟨19, 8, 0⟩⟩,
⟨10, 9, ⟨8, 9, 0⟩, ⟨10, 10, 0⟩, ⟨4, 5, 0⟩, ⟨5, 5, 0⟩⟩,
⟨8, 8, ⟨8, 6, 0⟩, ⟨9, 8, 0⟩, ⟨3, 3, 0⟩, ⟨5, 3, 0⟩⟩,
⟨7, 9, ⟨9, 6, 0⟩, ⟨11, 9, 0⟩, ⟨3, 3, 0⟩, ⟨5, 3, 0⟩⟩,
⟨8, 10, ⟨10, 6, 0⟩, ⟨13, 10, 0⟩, ⟨4, 3, 0⟩, ⟨6, 3, 0⟩⟩,
⟨8, 11, ⟨11, 6, 0⟩, ⟨22, 11, 0⟩, ⟨5, 3, 0⟩, ⟨7, 3, 0⟩⟩,
⟨10, 16, ⟨16, 7, 0⟩, ⟨41, 16, 0⟩, ⟨7, 3, 0⟩, ⟨9, 3, 0⟩⟩,
⟨9, 22, ⟨22, 8, 0⟩, ⟨71, 22, 0⟩, ⟨11, 4, 0⟩, ⟨13, 4, 0⟩⟩,
⟨11, 38, ⟨38, 12, 0⟩, ⟨145, 41, 0⟩, ⟨18, 6, 0⟩, ⟨20, 6, 0⟩⟩,
⟨14, 15, ⟨15, 11, 0⟩, ⟨18, 15, 0⟩, ⟨7, 6, 0⟩, ⟨9, 6, 0⟩⟩,
⟨8, 7, ⟨7, 6, 0⟩, ⟨9, 7, 0⟩, ⟨3, 3, 0⟩, ⟨5, 3, 0⟩⟩,
⟨14, 11, ⟨11, 6, 0⟩, ⟨12, 11, 0⟩, ⟨5, 3, 0⟩, ⟨7, 3, 0⟩⟩,
⟨11, 11, ⟨11, 6, 0⟩, ⟨12, 11, 0⟩, ⟨4, 3, 0⟩, ⟨7, 3, 0⟩⟩,
⟨6, 9, ⟨9, 5, 0⟩, ⟨11, 9, 0⟩, ⟨3, 2, 0⟩, ⟨6, 2, 0⟩⟩,
⟨6, 9, ⟨9, 5, 0⟩, ⟨12, 9, 0⟩, ⟨3, 2, 0⟩, ⟨6, 2, 0⟩⟩,
⟨7, 10, ⟨10, 5, 0⟩, ⟨14, 10, 0⟩, ⟨4, 2, 0⟩, ⟨7, 3, 0⟩⟩,
⟨6, 11, ⟨11, 5, 0⟩, ⟨21, 11, 0⟩, ⟨4, 3, 0⟩, ⟨7, 3, 0⟩⟩,
⟨7, 15, ⟨15, 6, 0⟩, ⟨35, 15, 0⟩, ⟨6, 3, 0⟩, ⟨9, 3, 0⟩⟩,
⟨6, 19, ⟨19, 7, 0⟩, ⟨53, 19, 0⟩, ⟨8, 3, 0⟩, ⟨11, 3, 0⟩⟩,
⟨8, 27, ⟨27, 8, 0⟩, ⟨88, 27, 0⟩, ⟨12, 4, 0⟩, ⟨15, 4, 0⟩⟩,
⟨13, 55, ⟨55, 14, 0⟩, ⟨200, 55, 0⟩, ⟨26, 7, 0⟩, ⟨29, 7, 0⟩⟩,
⟨19, 30, ⟨30, 13, 0⟩, ⟨49, 30, 0⟩, ⟨14, 7, 0⟩, ⟨17, 7, 0⟩⟩,
⟨9, 12, ⟨12, 7, 0⟩, ⟨16, 12, 0⟩, ⟨5, 4, 0⟩, ⟨8, 4, 0⟩⟩,
⟨6, 8, ⟨8, 5, 0⟩, ⟨11, 8, 0⟩, ⟨2, 3, 0⟩, ⟨5, 3, 0⟩⟩,
⟨12, 10, ⟨10, 5, 0⟩, ⟨12, 10, 0⟩, ⟨3, 2, 0⟩, ⟨6, 2, 0⟩⟩,
⟨17, 14, ⟨14, 6, 0⟩, ⟨15, 14, 0⟩, ⟨6, 3, 0⟩, ⟨9, 3, 0⟩⟩,
⟨10, 9, ⟨9, 9, 0⟩, ⟨10, 10, 0⟩, ⟨4, 4, 0⟩, ⟨5, 4, 0⟩⟩,
⟨10, 9, ⟨9, 9, 0⟩, ⟨10, 10, 0⟩, ⟨4, 5, 0⟩, ⟨5, 4, 0⟩⟩,
⟨5, 6, ⟨4, 4, 0⟩, ⟨6, 6, 0⟩, ⟨2, 2, 0⟩, ⟨3, 3, 0⟩⟩,
⟨5, 6, ⟨4, 4, 0⟩, ⟨6, 6, 0⟩, ⟨2, 2, 0⟩, ⟨2, 2, 0⟩⟩,
⟨5, 6, ⟨6, 5, 0⟩, ⟨6, 6, 0⟩, ⟨2, 3, 0⟩, ⟨4, 3, 0⟩⟩,
⟨5, 6, ⟨6, 6, 0⟩, ⟨6, 6, 0⟩, ⟨2, 2, 0⟩, ⟨4, 4, 0⟩⟩,
⟨5, 6, ⟨6, 6, 0⟩, ⟨6, 6, 0⟩, ⟨2, 3, 0⟩, ⟨3, 2, 0⟩⟩,
⟨4, 6, ⟨4, 4, 0⟩, ⟨6, 6, 0⟩, ⟨1, 2, 0⟩, ⟨3, 2, 0⟩⟩,
⟨4, 6, ⟨4, 6, 0⟩, ⟨6, 6, 0⟩, ⟨1, 1, 0⟩, ⟨3, 5, 0⟩⟩,
⟨4, 6, ⟨3, 3, 0⟩, ⟨6, 6, 0⟩, ⟨1, 2, 0⟩, ⟨2, 1, 0⟩⟩,
⟨4, 6, ⟨6, 5, 0⟩, ⟨6, 6, 0⟩, ⟨2, 3, 0⟩, ⟨4, 1, 0⟩⟩,
⟨15, 12, ⟨12, 10, 8⟩, ⟨14, 13, 12⟩, ⟨6, 5, 4⟩, ⟨7, 6, 5⟩⟩,
⟨12, 9, ⟨9, 7, 5⟩, ⟨11, 10, 9⟩, ⟨4, 3, 2⟩, ⟨5, 4, 3⟩⟩,
⟨9, 8, ⟨8, 6, 4⟩, ⟨10, 9, 8⟩, ⟨4, 3, 2⟩, ⟨5, 4, 3⟩⟩,
⟨9, 8, ⟨8, 6, 4⟩, ⟨10, 9, 8⟩, ⟨3, 2, 1⟩, ⟨4, 3, 2⟩⟩,
⟨6, 8, ⟨8, 6, 4⟩, ⟨10, 9, 8⟩, ⟨3, 2, 1⟩, ⟨4, 3, 2⟩⟩,
⟨6, 7, ⟨7, 5, 3⟩, ⟨9, 8, 7⟩, ⟨3, 2, 1⟩, ⟨4, 3, 2⟩⟩,
⟨6, 7, ⟨7, 5, 3⟩, ⟨9, 8, 7⟩, ⟨3, 2, 1⟩, ⟨4, 3, 2⟩⟩,
⟨6, 7, ⟨7, 5, 3⟩, ⟨9, 8, 7⟩, ⟨3, 2, 1⟩, ⟨4, 3, 2⟩⟩,
⟨15, 12, ⟨12, 10, 8⟩, ⟨14, 13, 12⟩, ⟨6, 5, 4⟩, ⟨6, 5, 4⟩⟩,
⟨12, 9, ⟨9, 7, 5⟩, ⟨11, 10, 9⟩, ⟨5, 4, 3⟩, ⟨4, 3, 2⟩⟩,
⟨9, 8, ⟨8, 6, 4⟩, ⟨10, 9, 8⟩, ⟨4, 3, 2⟩, ⟨4, 3, 2⟩⟩,
⟨9, 8, ⟨8, 6, 4⟩, ⟨10, 9, 8⟩, ⟨4, 3, 2⟩, ⟨3, 2, 1⟩⟩,
⟨6, 8, ⟨8, 6, 4⟩, ⟨10, 9, 8⟩, ⟨4, 3, 2⟩, ⟨3, 2, 1⟩⟩,
⟨6, 7, ⟨7, 5, 3⟩, ⟨9, 8, 7⟩, ⟨4, 3, 2⟩, ⟨3, 2, 1⟩⟩,
⟨6, 7, ⟨7, 5, 3⟩, ⟨9, 8, 7⟩, ⟨4, 3, 2⟩, ⟨3, 2, 1⟩⟩,
⟨6, 7, ⟨7, 5, 3⟩, ⟨9, 8, 7⟩, ⟨4, 3, 2⟩, ⟨3, 2, 1⟩⟩,
⟨10, 23, ⟨23, 12, 10⟩, ⟨29, 23, 23⟩, ⟨5, 3, 2⟩, ⟨19, 10, 9⟩⟩,
⟨9, 11, ⟨11, 4, 6⟩, ⟨13, 11, 11⟩, ⟨4, 2, 2⟩, ⟨8, 3, 5⟩⟩,
⟨9, 12, ⟨9, 12, 10⟩, ⟨12, 12, 12⟩, ⟨4, 10, 2⟩, ⟨4, 3, 9⟩⟩,
⟨9, 14, ⟨14, 12, 10⟩, ⟨14, 14, 14⟩, ⟨4, 3, 2⟩, ⟨11, 10, 9⟩⟩,
⟨8, 8, ⟨8, 6, 4⟩, ⟨8, 8, 8⟩, ⟨3, 2, 2⟩, ⟨6, 5, 3⟩⟩,
⟨9, 14, ⟨14, 12, 10⟩, ⟨14, 14, 14⟩, ⟨11, 10, 2⟩, ⟨4, 3, 9⟩⟩,
⟨9, 12, ⟨9, 12, 10⟩, ⟨12, 12, 12⟩, ⟨4, 3, 2⟩, ⟨4, 10, 9⟩⟩,
⟨9, 11, ⟨11, 4, 6⟩, ⟨12, 11, 11⟩, ⟨7, 2, 2⟩, ⟨5, 3, 5⟩⟩,
⟨10, 23, ⟨23, 12, 10⟩, ⟨29, 23, 23⟩, ⟨19, 10, 2⟩, ⟨5, 3, 9⟩⟩,
⟨8, 9, ⟨8, 9, 6⟩, ⟨9, 9, 9⟩, ⟨3, 3, 2⟩, ⟨6, 7, 5⟩⟩,
⟨8, 8, ⟨8, 4, 6⟩, ⟨8, 8, 8⟩, ⟨3, 2, 2⟩, ⟨6, 3, 5⟩⟩,
⟨8, 9, ⟨8, 9, 6⟩, ⟨9, 9, 9⟩, ⟨3, 6, 2⟩, ⟨6, 4, 5⟩⟩,
⟨8, 8, ⟨4, 8, 6⟩, ⟨8, 8, 8⟩, ⟨2, 3, 2⟩, ⟨3, 6, 5⟩⟩,
⟨5, 4, ⟨4, 4, 4⟩, ⟨4, 4, 4⟩, ⟨2, 2, 2⟩, ⟨3, 3, 3⟩⟩,
⟨8, 8, ⟨4, 8, 6⟩, ⟨8, 8, 8⟩, ⟨2, 6, 2⟩, ⟨3, 3, 5⟩⟩,
⟨8, 9, ⟨8, 9, 6⟩, ⟨9, 9, 9⟩, ⟨6, 3, 2⟩, ⟨3, 7, 5⟩⟩,
⟨8, 8, ⟨8, 4, 6⟩, ⟨8, 8, 8⟩, ⟨6, 2, 2⟩, ⟨3, 3, 5⟩⟩,
⟨8, 9, ⟨8, 9, 6⟩, ⟨9, 9, 9⟩, ⟨6, 6, 2⟩, ⟨3, 4, 5⟩⟩,
⟨9, 12, ⟨9, 12, 10⟩, ⟨12, 12, 12⟩, ⟨4, 3, 2⟩, ⟨4, 10, 9⟩⟩,
⟨9, 11, ⟨11, 4, 6⟩, ⟨12, 11, 11⟩, ⟨5, 2, 2⟩, ⟨7, 3, 5⟩⟩,
⟨10, 23, ⟨23, 12, 10⟩, ⟨29, 23, 23⟩, ⟨5, 10, 2⟩, ⟨19, 3, 9⟩⟩,
⟨9, 14, ⟨14, 12, 10⟩, ⟨14, 14, 14⟩, ⟨11, 3, 2⟩, ⟨4, 10, 9⟩⟩,
⟨8, 8, ⟨8, 6, 4⟩, ⟨8, 8, 8⟩, ⟨6, 2, 2⟩, ⟨3, 5, 3⟩⟩,
⟨9, 14, ⟨14, 12, 10⟩, ⟨14, 14, 14⟩, ⟨4, 10, 2⟩, ⟨11, 3, 9⟩⟩,
⟨10, 23, ⟨23, 12, 10⟩, ⟨29, 23, 23⟩, ⟨19, 3, 2⟩, ⟨5, 10, 9⟩⟩,
⟨9, 11, ⟨11, 4, 6⟩, ⟨13, 11, 11⟩, ⟨8, 2, 2⟩, ⟨4, 3, 5⟩⟩,
⟨9, 12, ⟨9, 12, 10⟩, ⟨12, 12, 12⟩, ⟨4, 10, 2⟩, ⟨4, 3, 9⟩⟩,
⟨9, 18, ⟨18, 10, 8⟩, ⟨21, 18, 18⟩, ⟨4, 2, 1⟩, ⟨15, 8, 7⟩⟩,
⟨8, 10, ⟨10, 4, 5⟩, ⟨11, 10, 10⟩, ⟨3, 2, 1⟩, ⟨7, 3, 4⟩⟩,
⟨8, 10, ⟨8, 10, 8⟩, ⟨10, 10, 10⟩, ⟨4, 8, 1⟩, ⟨4, 2, 7⟩⟩,
⟨8, 12, ⟨12, 10, 8⟩, ⟨12, 12, 12⟩, ⟨3, 2, 1⟩, ⟨9, 8, 7⟩⟩,
⟨8, 8, ⟨8, 6, 3⟩, ⟨8, 8, 8⟩, ⟨3, 2, 1⟩, ⟨6, 5, 2⟩⟩,
⟨8, 12, ⟨12, 10, 8⟩, ⟨12, 12, 12⟩, ⟨9, 8, 1⟩, ⟨3, 2, 7⟩⟩,
⟨8, 10, ⟨8, 10, 8⟩, ⟨10, 10, 10⟩, ⟨4, 2, 1⟩, ⟨4, 8, 7⟩⟩,
⟨8, 10, ⟨10, 4, 5⟩, ⟨11, 10, 10⟩, ⟨6, 2, 1⟩, ⟨4, 3, 4⟩⟩,
⟨9, 18, ⟨18, 10, 8⟩, ⟨21, 18, 18⟩, ⟨15, 8, 1⟩, ⟨4, 2, 7⟩⟩,
⟨6, 8, ⟨7, 8, 5⟩, ⟨8, 8, 8⟩, ⟨2, 2, 1⟩, ⟨5, 6, 4⟩⟩,
⟨6, 7, ⟨7, 4, 5⟩, ⟨7, 7, 7⟩, ⟨2, 2, 1⟩, ⟨5, 3, 4⟩⟩,
⟨6, 8, ⟨7, 8, 5⟩, ⟨8, 8, 8⟩, ⟨2, 5, 1⟩, ⟨5, 3, 4⟩⟩,
⟨6, 7, ⟨4, 7, 5⟩, ⟨7, 7, 7⟩, ⟨2, 2, 1⟩, ⟨3, 5, 4⟩⟩,
⟨5, 4, ⟨4, 4, 3⟩, ⟨4, 4, 4⟩, ⟨2, 2, 1⟩, ⟨3, 3, 2⟩⟩,
⟨6, 7, ⟨4, 7, 5⟩, ⟨7, 7, 7⟩, ⟨2, 5, 1⟩, ⟨3, 2, 4⟩⟩,
⟨6, 8, ⟨7, 8, 5⟩, ⟨8, 8, 8⟩, ⟨5, 2, 1⟩, ⟨2, 6, 4⟩⟩,
⟨6, 7, ⟨7, 4, 5⟩, ⟨7, 7, 7⟩, ⟨5, 2, 1⟩, ⟨2, 3, 4⟩⟩,
⟨6, 8, ⟨7, 8, 5⟩, ⟨8, 8, 8⟩, ⟨5, 5, 1⟩, ⟨2, 3, 4⟩⟩,
⟨8, 10, ⟨8, 10, 8⟩, ⟨10, 10, 10⟩, ⟨4, 2, 1⟩, ⟨4, 8, 7⟩⟩,
⟨8, 10, ⟨10, 4, 5⟩, ⟨11, 10, 10⟩, ⟨4, 2, 1⟩, ⟨6, 3, 4⟩⟩,
⟨9, 18, ⟨18, 10, 8⟩, ⟨21, 18, 18⟩, ⟨4, 8, 1⟩, ⟨15, 2, 7⟩⟩,
⟨8, 12, ⟨12, 10, 8⟩, ⟨12, 12, 12⟩, ⟨9, 2, 1⟩, ⟨3, 8, 7⟩⟩,
⟨8, 8, ⟨8, 6, 3⟩, ⟨8, 8, 8⟩, ⟨6, 2, 1⟩, ⟨3, 5, 2⟩⟩,
⟨8, 12, ⟨12, 10, 8⟩, ⟨12, 12, 12⟩, ⟨3, 8, 1⟩, ⟨9, 2, 7⟩⟩,
⟨9, 18, ⟨18, 10, 8⟩, ⟨21, 18, 18⟩, ⟨15, 2, 1⟩, ⟨4, 8, 7⟩⟩,
⟨8, 10, ⟨10, 4, 5⟩, ⟨11, 10, 10⟩, ⟨7, 2, 1⟩, ⟨3, 3, 4⟩⟩,
⟨8, 10, ⟨8, 10, 8⟩, ⟨10, 10, 10⟩, ⟨4, 8, 1⟩, ⟨4, 2, 7⟩⟩,
⟨8, 12, ⟨10, 12, 10⟩, ⟨17, 12, 12⟩, ⟨7, 3, 2⟩, ⟨3, 10, 9⟩⟩,
⟨6, 6, ⟨6, 4, 6⟩, ⟨8, 6, 6⟩, ⟨4, 2, 2⟩, ⟨2, 3, 5⟩⟩,
⟨8, 12, ⟨6, 12, 10⟩, ⟨12, 12, 12⟩, ⟨3, 10, 2⟩, ⟨3, 3, 9⟩⟩,
⟨8, 12, ⟨7, 12, 10⟩, ⟨12, 12, 12⟩, ⟨5, 3, 2⟩, ⟨2, 10, 9⟩⟩,
⟨6, 6, ⟨5, 6, 4⟩, ⟨6, 6, 6⟩, ⟨3, 2, 2⟩, ⟨2, 5, 3⟩⟩,
⟨8, 12, ⟨7, 12, 10⟩, ⟨12, 12, 12⟩, ⟨2, 10, 2⟩, ⟨5, 3, 9⟩⟩,
⟨8, 12, ⟨6, 12, 10⟩, ⟨12, 12, 12⟩, ⟨3, 3, 2⟩, ⟨3, 10, 9⟩⟩,
⟨6, 6, ⟨6, 4, 6⟩, ⟨7, 6, 6⟩, ⟨3, 2, 2⟩, ⟨3, 3, 5⟩⟩,
⟨8, 12, ⟨10, 12, 10⟩, ⟨17, 12, 12⟩, ⟨3, 10, 2⟩, ⟨7, 3, 9⟩⟩,
⟨8, 9, ⟨5, 9, 6⟩, ⟨9, 9, 9⟩, ⟨3, 3, 2⟩, ⟨2, 7, 5⟩⟩,
⟨6, 6, ⟨5, 4, 6⟩, ⟨6, 6, 6⟩, ⟨3, 2, 2⟩, ⟨2, 3, 5⟩⟩,
⟨8, 9, ⟨5, 9, 6⟩, ⟨9, 9, 9⟩, ⟨3, 6, 2⟩, ⟨2, 4, 5⟩⟩,
⟨8, 8, ⟨4, 8, 6⟩, ⟨8, 8, 8⟩, ⟨2, 3, 2⟩, ⟨2, 6, 5⟩⟩,
⟨5, 4, ⟨4, 4, 4⟩, ⟨4, 4, 4⟩, ⟨2, 2, 2⟩, ⟨2, 3, 3⟩⟩,
⟨8, 8, ⟨4, 8, 6⟩, ⟨8, 8, 8⟩, ⟨2, 6, 2⟩, ⟨2, 3, 5⟩⟩,
⟨8, 9, ⟨5, 9, 6⟩, ⟨9, 9, 9⟩, ⟨2, 3, 2⟩, ⟨3, 7, 5⟩⟩,
⟨6, 6, ⟨5, 4, 6⟩, ⟨6, 6, 6⟩, ⟨2, 2, 2⟩, ⟨3, 3, 5⟩⟩,
⟨8, 9, ⟨5, 9, 6⟩, ⟨9, 9, 9⟩, ⟨2, 6, 2⟩, ⟨3, 4, 5⟩⟩,
⟨8, 12, ⟨6, 12, 10⟩, ⟨12, 12, 12⟩, ⟨3, 3, 2⟩, ⟨3, 10, 9⟩⟩,
⟨6, 6, ⟨6, 4, 6⟩, ⟨7, 6, 6⟩, ⟨3, 2, 2⟩, ⟨3, 3, 5⟩⟩,
⟨8, 12, ⟨10, 12, 10⟩, ⟨17, 12, 12⟩, ⟨7, 10, 2⟩, ⟨3, 3, 9⟩⟩,
⟨8, 12, ⟨7, 12, 10⟩, ⟨12, 12, 12⟩, ⟨2, 3, 2⟩, ⟨5, 10, 9⟩⟩,
⟨6, 6, ⟨5, 6, 4⟩, ⟨6, 6, 6⟩, ⟨2, 2, 2⟩, ⟨3, 5, 3⟩⟩,
⟨8, 12, ⟨7, 12, 10⟩, ⟨12, 12, 12⟩, ⟨5, 10, 2⟩, ⟨2, 3, 9⟩⟩,
⟨8, 12, ⟨10, 12, 10⟩, ⟨17, 12, 12⟩, ⟨3, 3, 2⟩, ⟨7, 10, 9⟩⟩,
⟨6, 6, ⟨6, 4, 6⟩, ⟨8, 6, 6⟩, ⟨2, 2, 2⟩, ⟨4, 3, 5⟩⟩,
⟨8, 12, ⟨6, 12, 10⟩, ⟨12, 12, 12⟩, ⟨3, 10, 2⟩, ⟨3, 3, 9⟩⟩,
⟨6, 8, ⟨8, 7, 8⟩, ⟨8, 8, 8⟩, ⟨2, 4, 1⟩, ⟨6, 2, 7⟩⟩,
⟨6, 8, ⟨8, 4, 5⟩, ⟨9, 8, 8⟩, ⟨3, 2, 1⟩, ⟨5, 2, 4⟩⟩,
⟨6, 13, ⟨13, 7, 8⟩, ⟨16, 13, 13⟩, ⟨3, 2, 1⟩, ⟨10, 4, 7⟩⟩,
⟨6, 8, ⟨6, 7, 8⟩, ⟨8, 8, 8⟩, ⟨4, 4, 1⟩, ⟨2, 2, 7⟩⟩,
⟨6, 6, ⟨5, 6, 3⟩, ⟨6, 6, 6⟩, ⟨3, 4, 1⟩, ⟨2, 3, 2⟩⟩,
⟨6, 8, ⟨6, 7, 8⟩, ⟨8, 8, 8⟩, ⟨2, 2, 1⟩, ⟨4, 4, 7⟩⟩,
⟨6, 13, ⟨13, 7, 8⟩, ⟨16, 13, 13⟩, ⟨10, 4, 1⟩, ⟨3, 2, 7⟩⟩,
⟨6, 8, ⟨8, 4, 5⟩, ⟨9, 8, 8⟩, ⟨5, 2, 1⟩, ⟨3, 2, 4⟩⟩,
⟨6, 8, ⟨8, 7, 8⟩, ⟨8, 8, 8⟩, ⟨6, 2, 1⟩, ⟨2, 4, 7⟩⟩,
⟨6, 7, ⟨7, 6, 5⟩, ⟨7, 7, 7⟩, ⟨2, 4, 1⟩, ⟨5, 2, 4⟩⟩,
⟨6, 7, ⟨7, 4, 5⟩, ⟨7, 7, 7⟩, ⟨2, 2, 1⟩, ⟨5, 2, 4⟩⟩,
⟨6, 7, ⟨7, 6, 5⟩, ⟨7, 7, 7⟩, ⟨2, 3, 1⟩, ⟨5, 3, 4⟩⟩,
⟨6, 5, ⟨4, 5, 5⟩, ⟨5, 5, 5⟩, ⟨2, 3, 1⟩, ⟨3, 2, 4⟩⟩,
⟨5, 4, ⟨4, 4, 3⟩, ⟨4, 4, 4⟩, ⟨2, 2, 1⟩, ⟨3, 2, 2⟩⟩,
⟨6, 5, ⟨4, 5, 5⟩, ⟨5, 5, 5⟩, ⟨2, 2, 1⟩, ⟨3, 3, 4⟩⟩,
⟨6, 7, ⟨7, 6, 5⟩, ⟨7, 7, 7⟩, ⟨5, 4, 1⟩, ⟨2, 2, 4⟩⟩,
⟨6, 7, ⟨7, 4, 5⟩, ⟨7, 7, 7⟩, ⟨5, 2, 1⟩, ⟨2, 2, 4⟩⟩,
⟨6, 7, ⟨7, 6, 5⟩, ⟨7, 7, 7⟩, ⟨5, 3, 1⟩, ⟨2, 3, 4⟩⟩,
⟨6, 13, ⟨13, 7, 8⟩, ⟨16, 13, 13⟩, ⟨3, 4, 1⟩, ⟨10, 2, 7⟩⟩,
⟨6, 8, ⟨8, 4, 5⟩, ⟨9, 8, 8⟩, ⟨3, 2, 1⟩, ⟨5, 2, 4⟩⟩,
⟨6, 8, ⟨8, 7, 8⟩, ⟨8, 8, 8⟩, ⟨2, 2, 1⟩, ⟨6, 4, 7⟩⟩,
⟨6, 8, ⟨6, 7, 8⟩, ⟨8, 8, 8⟩, ⟨2, 4, 1⟩, ⟨4, 2, 7⟩⟩,
⟨6, 6, ⟨5, 6, 3⟩, ⟨6, 6, 6⟩, ⟨2, 4, 1⟩, ⟨3, 3, 2⟩⟩,
⟨6, 8, ⟨6, 7, 8⟩, ⟨8, 8, 8⟩, ⟨4, 2, 1⟩, ⟨2, 4, 7⟩⟩,
⟨6, 8, ⟨8, 7, 8⟩, ⟨8, 8, 8⟩, ⟨6, 4, 1⟩, ⟨2, 2, 7⟩⟩,
⟨6, 8, ⟨8, 4, 5⟩, ⟨9, 8, 8⟩, ⟨5, 2, 1⟩, ⟨3, 2, 4⟩⟩,
⟨6, 13, ⟨13, 7, 8⟩, ⟨16, 13, 13⟩, ⟨10, 2, 1⟩, ⟨3, 4, 7⟩⟩,
⟨9, 12, ⟨9, 12, 10⟩, ⟨12, 12, 12⟩, ⟨4, 6, 6⟩, ⟨5, 6, 4⟩⟩,
⟨9, 11, ⟨11, 4, 6⟩, ⟨13, 11, 11⟩, ⟨5, 2, 4⟩, ⟨6, 2, 3⟩⟩,
⟨10, 23, ⟨23, 12, 10⟩, ⟨29, 23, 23⟩, ⟨11, 6, 6⟩, ⟨12, 6, 4⟩⟩,
⟨9, 14, ⟨14, 12, 10⟩, ⟨14, 14, 14⟩, ⟨7, 6, 6⟩, ⟨7, 6, 4⟩⟩,
⟨8, 8, ⟨8, 6, 4⟩, ⟨8, 8, 8⟩, ⟨4, 4, 2⟩, ⟨4, 3, 2⟩⟩,
⟨9, 14, ⟨14, 12, 10⟩, ⟨14, 14, 14⟩, ⟨7, 6, 6⟩, ⟨7, 6, 4⟩⟩,
⟨10, 23, ⟨23, 12, 10⟩, ⟨29, 23, 23⟩, ⟨12, 6, 6⟩, ⟨11, 6, 4⟩⟩,
⟨9, 11, ⟨11, 4, 6⟩, ⟨12, 11, 11⟩, ⟨6, 2, 4⟩, ⟨6, 2, 3⟩⟩,
⟨9, 12, ⟨9, 12, 10⟩, ⟨12, 12, 12⟩, ⟨5, 6, 6⟩, ⟨4, 6, 4⟩⟩,
⟨8, 9, ⟨8, 9, 6⟩, ⟨9, 9, 9⟩, ⟨4, 5, 4⟩, ⟨4, 5, 3⟩⟩,
⟨8, 8, ⟨8, 4, 6⟩, ⟨8, 8, 8⟩, ⟨4, 2, 4⟩, ⟨4, 2, 3⟩⟩,
⟨8, 9, ⟨8, 9, 6⟩, ⟨9, 9, 9⟩, ⟨4, 5, 4⟩, ⟨4, 4, 3⟩⟩,
⟨8, 8, ⟨4, 8, 6⟩, ⟨8, 8, 8⟩, ⟨2, 4, 4⟩, ⟨2, 4, 3⟩⟩,
⟨5, 4, ⟨4, 4, 4⟩, ⟨4, 4, 4⟩, ⟨2, 2, 2⟩, ⟨2, 2, 2⟩⟩,
⟨8, 8, ⟨4, 8, 6⟩, ⟨8, 8, 8⟩, ⟨2, 4, 4⟩, ⟨2, 4, 3⟩⟩,
⟨8, 9, ⟨8, 9, 6⟩, ⟨9, 9, 9⟩, ⟨4, 5, 4⟩, ⟨4, 5, 3⟩⟩,
⟨8, 8, ⟨8, 4, 6⟩, ⟨8, 8, 8⟩, ⟨4, 2, 4⟩, ⟨4, 2, 3⟩⟩,
⟨8, 9, ⟨8, 9, 6⟩, ⟨9, 9, 9⟩, ⟨4, 5, 4⟩, ⟨4, 4, 3⟩⟩,
⟨10, 23, ⟨23, 12, 10⟩, ⟨29, 23, 23⟩, ⟨11, 6, 6⟩, ⟨12, 6, 4⟩⟩,
⟨9, 11, ⟨11, 4, 6⟩, ⟨12, 11, 11⟩, ⟨6, 2, 4⟩, ⟨6, 2, 3⟩⟩,
⟨9, 12, ⟨9, 12, 10⟩, ⟨12, 12, 12⟩, ⟨4, 6, 6⟩, ⟨5, 6, 4⟩⟩,
⟨9, 14, ⟨14, 12, 10⟩, ⟨14, 14, 14⟩, ⟨7, 6, 6⟩, ⟨7, 6, 4⟩⟩,
⟨8, 8, ⟨8, 6, 4⟩, ⟨8, 8, 8⟩, ⟨4, 4, 2⟩, ⟨4, 3, 2⟩⟩,
⟨9, 14, ⟨14, 12, 10⟩, ⟨14, 14, 14⟩, ⟨7, 6, 6⟩, ⟨7, 6, 4⟩⟩,
⟨9, 12, ⟨9, 12, 10⟩, ⟨12, 12, 12⟩, ⟨5, 6, 6⟩, ⟨4, 6, 4⟩⟩,
⟨9, 11, ⟨11, 4, 6⟩, ⟨13, 11, 11⟩, ⟨6, 2, 4⟩, ⟨5, 2, 3⟩⟩,
⟨10, 23, ⟨23, 12, 10⟩, ⟨29, 23, 23⟩, ⟨12, 6, 6⟩, ⟨11, 6, 4⟩⟩,
⟨6, 7, ⟨6, 7, 6⟩, ⟨7, 7, 7⟩, ⟨3, 3, 4⟩, ⟨3, 4, 3⟩⟩,
⟨6, 8, ⟨6, 4, 8⟩, ⟨8, 8, 8⟩, ⟨3, 2, 5⟩, ⟨3, 3, 3⟩⟩,
⟨6, 14, ⟨6, 8, 14⟩, ⟨14, 14, 14⟩, ⟨3, 2, 9⟩, ⟨3, 6, 5⟩⟩,
⟨6, 14, ⟨6, 8, 14⟩, ⟨14, 14, 14⟩, ⟨4, 6, 9⟩, ⟨2, 2, 5⟩⟩,
⟨5, 8, ⟨6, 8, 4⟩, ⟨8, 8, 8⟩, ⟨2, 2, 2⟩, ⟨4, 7, 2⟩⟩,
⟨6, 14, ⟨6, 8, 14⟩, ⟨14, 14, 14⟩, ⟨2, 2, 9⟩, ⟨4, 6, 5⟩⟩,
⟨6, 14, ⟨6, 8, 14⟩, ⟨14, 14, 14⟩, ⟨3, 6, 9⟩, ⟨3, 2, 5⟩⟩,
⟨6, 8, ⟨6, 4, 8⟩, ⟨8, 8, 8⟩, ⟨2, 2, 5⟩, ⟨3, 3, 3⟩⟩,
⟨6, 7, ⟨6, 7, 6⟩, ⟨7, 8, 7⟩, ⟨2, 2, 4⟩, ⟨4, 5, 3⟩⟩,
⟨6, 14, ⟨6, 8, 14⟩, ⟨14, 14, 14⟩, ⟨4, 6, 9⟩, ⟨2, 2, 5⟩⟩,
⟨5, 8, ⟨4, 4, 8⟩, ⟨8, 8, 8⟩, ⟨2, 2, 5⟩, ⟨2, 3, 3⟩⟩,
⟨6, 14, ⟨6, 8, 14⟩, ⟨14, 14, 14⟩, ⟨4, 2, 9⟩, ⟨2, 6, 5⟩⟩,
⟨6, 6, ⟨3, 5, 6⟩, ⟨6, 6, 6⟩, ⟨1, 3, 4⟩, ⟨2, 2, 3⟩⟩,
⟨5, 4, ⟨3, 4, 4⟩, ⟨4, 4, 4⟩, ⟨1, 2, 2⟩, ⟨2, 3, 2⟩⟩,
⟨6, 6, ⟨3, 5, 6⟩, ⟨6, 6, 6⟩, ⟨1, 2, 4⟩, ⟨2, 3, 3⟩⟩,
⟨6, 14, ⟨6, 8, 14⟩, ⟨14, 14, 14⟩, ⟨2, 6, 9⟩, ⟨4, 2, 5⟩⟩,
⟨5, 8, ⟨4, 4, 8⟩, ⟨8, 8, 8⟩, ⟨2, 2, 5⟩, ⟨2, 3, 3⟩⟩,
⟨6, 14, ⟨6, 8, 14⟩, ⟨14, 14, 14⟩, ⟨2, 2, 9⟩, ⟨4, 6, 5⟩⟩,
⟨6, 14, ⟨6, 8, 14⟩, ⟨14, 14, 14⟩, ⟨3, 6, 9⟩, ⟨3, 2, 5⟩⟩,
⟨6, 8, ⟨6, 4, 8⟩, ⟨8, 8, 8⟩, ⟨3, 2, 5⟩, ⟨2, 3, 3⟩⟩,
⟨6, 7, ⟨6, 7, 6⟩, ⟨7, 8, 7⟩, ⟨4, 2, 4⟩, ⟨2, 5, 3⟩⟩,
⟨6, 14, ⟨6, 8, 14⟩, ⟨14, 14, 14⟩, ⟨2, 6, 9⟩, ⟨4, 2, 5⟩⟩,
⟨5, 8, ⟨6, 8, 4⟩, ⟨8, 8, 8⟩, ⟨4, 2, 2⟩, ⟨2, 7, 2⟩⟩,
⟨6, 14, ⟨6, 8, 14⟩, ⟨14, 14, 14⟩, ⟨4, 2, 9⟩, ⟨2, 6, 5⟩⟩,
⟨6, 7, ⟨6, 7, 6⟩, ⟨7, 7, 7⟩, ⟨3, 3, 4⟩, ⟨3, 4, 3⟩⟩,
⟨6, 8, ⟨6, 4, 8⟩, ⟨8, 8, 8⟩, ⟨3, 2, 5⟩, ⟨3, 3, 3⟩⟩,
⟨6, 14, ⟨6, 8, 14⟩, ⟨14, 14, 14⟩, ⟨3, 2, 9⟩, ⟨3, 6, 5⟩⟩,
⟨12, 14, ⟨14, 13, 4⟩, ⟨23, 15, 14⟩, ⟨6, 7, 2⟩, ⟨8, 6, 3⟩⟩,
⟨12, 14, ⟨12, 14, 6⟩, ⟨19, 19, 14⟩, ⟨6, 9, 2⟩, ⟨6, 6, 5⟩⟩,
⟨12, 14, ⟨13, 14, 4⟩, ⟨16, 22, 14⟩, ⟨7, 7, 2⟩, ⟨7, 6, 3⟩⟩,
⟨12, 14, ⟨14, 12, 6⟩, ⟨19, 19, 14⟩, ⟨6, 6, 2⟩, ⟨9, 6, 5⟩⟩,
⟨10, 9, ⟨9, 9, 4⟩, ⟨10, 10, 9⟩, ⟨4, 4, 2⟩, ⟨5, 4, 3⟩⟩,
⟨12, 14, ⟨14, 12, 6⟩, ⟨19, 19, 14⟩, ⟨9, 6, 2⟩, ⟨6, 6, 5⟩⟩,
⟨12, 14, ⟨13, 14, 4⟩, ⟨16, 23, 14⟩, ⟨6, 6, 2⟩, ⟨8, 7, 3⟩⟩,
⟨12, 14, ⟨12, 14, 6⟩, ⟨19, 19, 14⟩, ⟨6, 6, 2⟩, ⟨6, 9, 5⟩⟩,
⟨12, 14, ⟨14, 13, 4⟩, ⟨22, 16, 14⟩, ⟨7, 6, 2⟩, ⟨7, 7, 3⟩⟩,
⟨12, 13, ⟨13, 12, 3⟩, ⟨19, 14, 13⟩, ⟨6, 6, 1⟩, ⟨8, 5, 2⟩⟩,
⟨16, 13, ⟨12, 13, 5⟩, ⟨17, 17, 13⟩, ⟨6, 7, 1⟩, ⟨6, 5, 4⟩⟩,
⟨12, 13, ⟨12, 13, 3⟩, ⟨14, 19, 13⟩, ⟨6, 7, 1⟩, ⟨6, 6, 2⟩⟩,
⟨16, 13, ⟨13, 12, 5⟩, ⟨17, 17, 13⟩, ⟨5, 6, 1⟩, ⟨7, 6, 4⟩⟩,
⟨10, 9, ⟨9, 9, 3⟩, ⟨10, 10, 9⟩, ⟨4, 4, 1⟩, ⟨5, 4, 2⟩⟩,
⟨16, 13, ⟨13, 12, 5⟩, ⟨17, 17, 13⟩, ⟨7, 6, 1⟩, ⟨5, 6, 4⟩⟩,
⟨12, 13, ⟨12, 13, 3⟩, ⟨14, 19, 13⟩, ⟨5, 6, 1⟩, ⟨7, 7, 2⟩⟩,
⟨16, 13, ⟨12, 13, 5⟩, ⟨17, 17, 13⟩, ⟨6, 5, 1⟩, ⟨6, 7, 4⟩⟩,
⟨12, 13, ⟨13, 12, 3⟩, ⟨19, 14, 13⟩, ⟨7, 5, 1⟩, ⟨7, 6, 2⟩⟩,
⟨12, 13, ⟨13, 11, 3⟩, ⟨18, 14, 13⟩, ⟨5, 6, 1⟩, ⟨7, 5, 2⟩⟩,
⟨12, 12, ⟨11, 12, 4⟩, ⟨15, 15, 12⟩, ⟨6, 7, 1⟩, ⟨6, 5, 3⟩⟩,
⟨12, 12, ⟨12, 12, 3⟩, ⟨13, 16, 12⟩, ⟨6, 7, 1⟩, ⟨6, 6, 2⟩⟩,
⟨12, 12, ⟨12, 11, 4⟩, ⟨15, 15, 12⟩, ⟨5, 6, 1⟩, ⟨7, 6, 3⟩⟩,
⟨10, 9, ⟨9, 9, 3⟩, ⟨10, 10, 9⟩, ⟨4, 4, 1⟩, ⟨5, 4, 2⟩⟩,
⟨12, 12, ⟨12, 11, 4⟩, ⟨15, 15, 12⟩, ⟨7, 6, 1⟩, ⟨5, 6, 3⟩⟩,
⟨12, 12, ⟨12, 12, 3⟩, ⟨13, 17, 12⟩, ⟨5, 6, 1⟩, ⟨7, 7, 2⟩⟩,
⟨12, 12, ⟨11, 12, 4⟩, ⟨15, 15, 12⟩, ⟨6, 5, 1⟩, ⟨6, 7, 3⟩⟩,
⟨12, 13, ⟨13, 11, 3⟩, ⟨18, 14, 13⟩, ⟨6, 5, 1⟩, ⟨6, 6, 2⟩⟩,
⟨15, 13, ⟨13, 11, 3⟩, ⟨17, 14, 13⟩, ⟨5, 6, 1⟩, ⟨7, 5, 2⟩⟩,
⟨12, 12, ⟨11, 12, 4⟩, ⟨15, 15, 12⟩, ⟨5, 7, 1⟩, ⟨5, 5, 3⟩⟩,
⟨15, 12, ⟨12, 12, 3⟩, ⟨13, 16, 12⟩, ⟨6, 6, 1⟩, ⟨6, 5, 2⟩⟩,
⟨12, 12, ⟨12, 11, 4⟩, ⟨15, 15, 12⟩, ⟨5, 5, 1⟩, ⟨7, 5, 3⟩⟩,
⟨10, 9, ⟨9, 9, 3⟩, ⟨10, 10, 9⟩, ⟨4, 4, 1⟩, ⟨5, 4, 2⟩⟩,
⟨12, 12, ⟨12, 11, 4⟩, ⟨15, 15, 12⟩, ⟨7, 5, 1⟩, ⟨5, 5, 3⟩⟩,
⟨15, 12, ⟨12, 12, 3⟩, ⟨13, 16, 12⟩, ⟨5, 5, 1⟩, ⟨7, 6, 2⟩⟩,
⟨12, 12, ⟨11, 12, 4⟩, ⟨15, 15, 12⟩, ⟨5, 5, 1⟩, ⟨5, 7, 3⟩⟩,
⟨15, 13, ⟨13, 11, 3⟩, ⟨17, 14, 13⟩, ⟨6, 5, 1⟩, ⟨6, 6, 2⟩⟩,
⟨12, 12, ⟨12, 11, 3⟩, ⟨16, 13, 12⟩, ⟨5, 6, 1⟩, ⟨7, 5, 2⟩⟩,
⟨12, 12, ⟨11, 12, 4⟩, ⟨14, 14, 12⟩, ⟨5, 7, 1⟩, ⟨5, 5, 3⟩⟩,
⟨12, 12, ⟨11, 12, 3⟩, ⟨13, 15, 12⟩, ⟨6, 6, 1⟩, ⟨6, 5, 2⟩⟩,
⟨12, 12, ⟨12, 11, 4⟩, ⟨14, 14, 12⟩, ⟨5, 5, 1⟩, ⟨7, 5, 3⟩⟩,
⟨10, 9, ⟨9, 9, 3⟩, ⟨10, 10, 9⟩, ⟨4, 4, 1⟩, ⟨5, 4, 2⟩⟩,
⟨12, 12, ⟨12, 11, 4⟩, ⟨14, 14, 12⟩, ⟨7, 5, 1⟩, ⟨5, 5, 3⟩⟩,
⟨12, 12, ⟨11, 12, 3⟩, ⟨13, 16, 12⟩, ⟨5, 5, 1⟩, ⟨7, 6, 2⟩⟩,
⟨12, 12, ⟨11, 12, 4⟩, ⟨14, 14, 12⟩, ⟨5, 5, 1⟩, ⟨5, 7, 3⟩⟩,
⟨12, 12, ⟨12, 11, 3⟩, ⟨15, 13, 12⟩, ⟨6, 5, 1⟩, ⟨6, 6, 2⟩⟩,
⟨16, 12, ⟨12, 11, 5⟩, ⟨19, 13, 12⟩, ⟨5, 5, 2⟩, ⟨6, 5, 2⟩⟩,
⟨15, 11, ⟨11, 11, 7⟩, ⟨15, 15, 11⟩, ⟨5, 5, 4⟩, ⟨5, 6, 3⟩⟩,
⟨12, 11, ⟨11, 11, 4⟩, ⟨12, 18, 11⟩, ⟨5, 5, 2⟩, ⟨6, 6, 2⟩⟩,
⟨15, 11, ⟨11, 11, 7⟩, ⟨15, 15, 11⟩, ⟨6, 5, 4⟩, ⟨5, 5, 3⟩⟩,
⟨10, 9, ⟨9, 9, 4⟩, ⟨10, 10, 9⟩, ⟨4, 4, 2⟩, ⟨5, 4, 2⟩⟩,
⟨15, 11, ⟨11, 11, 7⟩, ⟨15, 15, 11⟩, ⟨5, 5, 4⟩, ⟨6, 5, 3⟩⟩,
⟨12, 11, ⟨11, 11, 4⟩, ⟨12, 18, 11⟩, ⟨5, 6, 2⟩, ⟨6, 5, 2⟩⟩,
⟨15, 11, ⟨11, 11, 7⟩, ⟨15, 15, 11⟩, ⟨5, 6, 4⟩, ⟨5, 5, 3⟩⟩,
⟨16, 12, ⟨12, 11, 5⟩, ⟨20, 13, 12⟩, ⟨5, 5, 2⟩, ⟨6, 5, 2⟩⟩,
⟨15, 12, ⟨12, 11, 4⟩, ⟨17, 13, 12⟩, ⟨5, 5, 2⟩, ⟨6, 5, 1⟩⟩,
⟨14, 11, ⟨11, 11, 5⟩, ⟨14, 14, 11⟩, ⟨5, 5, 3⟩, ⟨5, 6, 2⟩⟩,
⟨12, 11, ⟨11, 11, 3⟩, ⟨12, 16, 11⟩, ⟨5, 5, 2⟩, ⟨6, 6, 1⟩⟩,
⟨14, 11, ⟨11, 11, 5⟩, ⟨14, 14, 11⟩, ⟨6, 5, 3⟩, ⟨5, 5, 2⟩⟩,
⟨10, 9, ⟨9, 9, 3⟩, ⟨10, 10, 9⟩, ⟨4, 4, 2⟩, ⟨5, 4, 1⟩⟩,
⟨14, 11, ⟨11, 11, 5⟩, ⟨14, 14, 11⟩, ⟨5, 5, 3⟩, ⟨6, 5, 2⟩⟩,
⟨12, 11, ⟨11, 11, 3⟩, ⟨12, 16, 11⟩, ⟨5, 6, 2⟩, ⟨6, 5, 1⟩⟩,
⟨14, 11, ⟨11, 11, 5⟩, ⟨14, 14, 11⟩, ⟨5, 6, 3⟩, ⟨5, 5, 2⟩⟩,
⟨15, 12, ⟨12, 11, 4⟩, ⟨18, 13, 12⟩, ⟨5, 5, 2⟩, ⟨6, 5, 1⟩⟩,
⟨14, 12, ⟨12, 11, 3⟩, ⟨16, 13, 12⟩, ⟨5, 5, 2⟩, ⟨6, 5, 1⟩⟩,
⟨12, 11, ⟨10, 11, 4⟩, ⟨14, 14, 11⟩, ⟨5, 5, 3⟩, ⟨5, 6, 1⟩⟩,
⟨12, 11, ⟨11, 11, 3⟩, ⟨12, 16, 11⟩, ⟨5, 5, 2⟩, ⟨6, 6, 1⟩⟩,
⟨12, 11, ⟨11, 10, 4⟩, ⟨14, 14, 11⟩, ⟨6, 5, 3⟩, ⟨5, 5, 1⟩⟩,
⟨10, 9, ⟨9, 9, 3⟩, ⟨10, 10, 9⟩, ⟨4, 4, 2⟩, ⟨5, 4, 1⟩⟩,
⟨12, 11, ⟨11, 10, 4⟩, ⟨14, 14, 11⟩, ⟨5, 5, 3⟩, ⟨6, 5, 1⟩⟩,
⟨12, 11, ⟨11, 11, 3⟩, ⟨12, 15, 11⟩, ⟨5, 6, 2⟩, ⟨6, 5, 1⟩⟩,
⟨12, 11, ⟨10, 11, 4⟩, ⟨14, 14, 11⟩, ⟨5, 6, 3⟩, ⟨5, 5, 1⟩⟩,
⟨14, 12, ⟨12, 11, 3⟩, ⟨17, 13, 12⟩, ⟨5, 5, 2⟩, ⟨6, 5, 1⟩⟩,
⟨14, 12, ⟨12, 11, 3⟩, ⟨16, 13, 12⟩, ⟨5, 5, 2⟩, ⟨6, 5, 1⟩⟩,
⟨12, 11, ⟨10, 11, 4⟩, ⟨14, 14, 11⟩, ⟨5, 4, 3⟩, ⟨5, 6, 1⟩⟩,
⟨12, 11, ⟨11, 11, 3⟩, ⟨12, 15, 11⟩, ⟨4, 5, 2⟩, ⟨6, 6, 1⟩⟩,
⟨12, 11, ⟨11, 10, 4⟩, ⟨14, 14, 11⟩, ⟨6, 5, 3⟩, ⟨4, 5, 1⟩⟩,
⟨10, 9, ⟨9, 9, 3⟩, ⟨10, 10, 9⟩, ⟨4, 4, 2⟩, ⟨5, 4, 1⟩⟩,
⟨12, 11, ⟨11, 10, 4⟩, ⟨14, 14, 11⟩, ⟨4, 5, 3⟩, ⟨6, 5, 1⟩⟩,
⟨12, 11, ⟨11, 11, 3⟩, ⟨12, 15, 11⟩, ⟨5, 6, 2⟩, ⟨5, 5, 1⟩⟩,
⟨12, 11, ⟨10, 11, 4⟩, ⟨14, 14, 11⟩, ⟨5, 6, 3⟩, ⟨5, 4, 1⟩⟩,
⟨14, 12, ⟨12, 11, 3⟩, ⟨16, 13, 12⟩, ⟨5, 5, 2⟩, ⟨6, 5, 1⟩⟩,
⟨14, 12, ⟨12, 11, 3⟩, ⟨15, 13, 12⟩, ⟨5, 5, 2⟩, ⟨6, 5, 1⟩⟩,
⟨12, 11, ⟨10, 11, 4⟩, ⟨13, 13, 11⟩, ⟨5, 4, 3⟩, ⟨5, 6, 1⟩⟩,
⟨12, 11, ⟨11, 11, 3⟩, ⟨12, 15, 11⟩, ⟨4, 5, 2⟩, ⟨6, 6, 1⟩⟩,
⟨12, 11, ⟨11, 10, 4⟩, ⟨13, 13, 11⟩, ⟨6, 5, 3⟩, ⟨4, 5, 1⟩⟩,
⟨10, 9, ⟨9, 9, 3⟩, ⟨10, 10, 9⟩, ⟨4, 4, 2⟩, ⟨5, 4, 1⟩⟩,
⟨12, 11, ⟨11, 10, 4⟩, ⟨13, 13, 11⟩, ⟨4, 5, 3⟩, ⟨6, 5, 1⟩⟩,
⟨12, 11, ⟨11, 11, 3⟩, ⟨12, 14, 11⟩, ⟨5, 6, 2⟩, ⟨5, 5, 1⟩⟩,
⟨12, 11, ⟨10, 11, 4⟩, ⟨13, 13, 11⟩, ⟨5, 6, 3⟩, ⟨5, 4, 1⟩⟩,
⟨14, 12, ⟨12, 11, 3⟩, ⟨16, 13, 12⟩, ⟨5, 5, 2⟩, ⟨6, 5, 1⟩⟩]
end K13
namespace K13
open PySem PySem.Spec PyProof.Rows L2
/-- a def of one parameter q, that may be called by keyword -/
structure FnW (P : Program) (w : World) (K : PySem.W.Frag) (mg : Str → Option Value) (base : Heap) (CX : CXT) (k : Nat) (x q : Str) (sp : Sp) : Prop where
  ex : ∃ f fd, mg x = some (.ref f) ∧ FnOk P w K mg base CX k f fd [q] sp ∧ PySem.W.keepIn K (.ref f) = true ∧ Binds K fd [q] [] ∧ ∀ (s : Shared) (v : Value), BindsTo s fd ⟨[], [(q, v)]⟩ [(q, v)]
theorem FnW.fn {P : Program} {w : World} {K : PySem.W.Frag} {mg : Str → Option Value} {base : Heap} {CX : CXT} {k : Nat} {x q : Str} {sp : Sp} (c : FnW P w K mg base CX k x q sp) : Fn P w K mg base CX k x [q] sp := let ⟨f, fd, h1, h2, h3, h4, _⟩ := c.ex; ⟨f, fd, h1, h2, h3, h4⟩
section
variable {X : Cx} {CX : CXT} {k j : Nat} {sp : Sp} {E : XK} {x q : Str} {p pos kpos : Pos} {e : Expr} {te : TE}
theorem pe_fk (c : FnW X.prog X.w X.K X.mg X.base CX k x q sp) (hr : Room j X.A) (hk : k ≤ j) (hx : Passes CX X E) (hg : Gl X x) (ha : PE X e te)
    (hdb : (x == ("__debug__" : Str)) = false := by decide) (hall : (backToKw pos (keywordEach [⟨some q, e, kpos⟩] X.env)).all (·.1.isSome) = true := by rfl) (hks : (backToKw pos (keywordEach [⟨some q, e, kpos⟩] X.env)).filterMap (·.1) = [q] := by rfl)
    (hpl : ((backTo pos (starEach [] X.env)).any (·.1) || (backToKw pos (keywordEach [⟨some q, e, kpos⟩] X.env)).any (·.1.isNone)) = false := by rfl) :
    PE X (.Call (.Name x p) [] [⟨some q, e, kpos⟩] pos) (tCall sp [] E (tCons te tNil)) := by
  obtain ⟨f, fd, hm, F, hkp, hb, hw⟩ := c.ex
  refine ⟨fun pins s σ H Q I h => ?_⟩
  refine wpAny_Call_Name_kw (ld_glob I hg hm ?_ hdb)
  have h' : tCons te tNil σ H fun zs H1 => sp (zs ++ []) H1 Q E := h
  refine PySem.W.callWith_KW0 (h₀ := X.base) I.ok.mod.kin hkp hall (thn ((pk_cons ha pk_nil).run pos pins s σ H _ I h') fun ws s2 ⟨zs, H2, I2, rz, q2⟩ => ⟨I2.kIn, ?_⟩) hpl
  rw [hks]
  have q2 : sp (zs ++ []) H2 Q E := q2
  rw [List.append_nil] at q2
  have hl := F.len _ _ _ _ q2
  cases rz with
  | nil => cases hl
  | cons r1 r2 =>
    cases r2 with
    | cons _ _ => cases hl
    | nil =>
      refine wpAny_call (codeAny_mono (F.run X.A X.stack s2 H2 ⟨[], [(q, _)]⟩ [_] [_] Q E (hr.mono hk) I2.env0 (hw s2 _) (.cons r1 .nil) q2) fun r s' hq => ?_)
      match r, hq with
      | .error e, hq => exact hx pins σ H2 s2 e s' I2 hq
      | .ok (.ret u), hq => exact I2.after hq
end
section
variable {P : Program} {w : World} {K : PySem.W.Frag} {mg : Str → Option Value} {base : Heap} {C : Addr}
theorem Glo.okW (G : Glo K mg C) {x q : Str} {i k : Nat} {N : List Str} {sp : Sp} (hx : (x, i) ∈ tops1 ∨ (x, i) ∈ tops2 ∨ (x, i) ∈ tops3 ∨ (x, i) ∈ tops4) (S : FnScope N [q] (defScope (top i)))
    (hb : ∀ (kV doc pm : Value) (an : Option Addr) (cdv ct : Value) (us : List Value), us.length = [q].length → bindArgs (PySem.W.fnOf x x (defArgs (top i)) (defBody (top i)) (defScope (top i)) .none kV doc pm an cdv ct) ⟨us, []⟩ = pure ([q].zip us))
    (hb2 : ∀ (kV doc pm : Value) (an : Option Addr) (cdv ct : Value) (v : Value), bindArgs (PySem.W.fnOf x x (defArgs (top i)) (defBody (top i)) (defScope (top i)) .none kV doc pm an cdv ct) ⟨[], [(q, v)]⟩ = pure [(q, v)])
    (len : ∀ vs H Q E, sp vs H Q E → vs.length = [q].length)
    (hbody : ∀ (f : Addr) (cdv : Value) (A : Around) (outer : List Env) (s : Shared) (H : Hp) (vs : List V) (Q : VK) (E : XK), Room k (A.deeper (envOfC x (defScope (top i)) s.heap.objs.size f cdv)) → sp vs H Q E →
      ∃ t, PSs (cxOf (L2.CX P w) P w K mg base N x (defScope (top i)) f cdv A outer s H E) (defBody (top i)) t ∧ t { nx := fun _ H' => Q .non H', rt := Q } (start N vs) H) :
    FnW P w K mg base (L2.CX P w) (k + 1) x q sp := by
  obtain ⟨f, fd, hm, F⟩ := G.fn x i hx
  refine ⟨f, fd, hm, F.ok S len fun cdv A outer s H vs Q E hr h => hbody f cdv A outer s H vs Q E hr h, F.kp, F.bindsN hb, ?_⟩
  obtain ⟨oc, od, dV, kV, doc, pm, an, cdv, ct, osl, rfl, lk, hcd, hD, hK⟩ := F.ex
  rcases hD with ⟨_, rfl⟩ | ⟨e, _⟩
  · exact fun s v => .of_eq (hb2 kV doc pm an cdv ct v)
  · exact absurd rfl e
/-- the test that the keyword binds by computing -/
theorem kw_all_have_rows (kV doc pm : Value) (an : Option Addr) (cdv ct : Value) (v : Value) : bindArgs (PySem.W.fnOf "all_have_rows" "all_have_rows" (defArgs (top 53)) (defBody (top 53)) (defScope (top 53)) .none kV doc pm an cdv ct) ⟨[], [(("writing" : Str), v)]⟩ = pure [(("writing" : Str), v)] := rfl
end
end K13
namespace K13
open PySem PySem.Spec PyProof.Rows L2 Evl
section
variable {P : Program} {w : World} {K : PySem.W.Frag} {mg : Str → Option Value} {base : Heap} {C Ct : Addr}
theorem sc_law_first_right : FnScope ["_law_writing", "_law_way_here", "_law_rowless", "_law_least", "_law_most", "_law_told", "_law_size", "_law_point"] ["_law_writing", "_law_way_here", "_law_rowless"] (defScope (top 82)) := ⟨rfl, rfl, rfl, by decide +kernel, rfl, by decide +kernel, by decide +kernel⟩
def t_law_first_right (K : PySem.W.Frag) (C Ct : Addr) : TS :=
    (tSeq (tPar 5 6 (tCons (tCall (sp_first_without_row C Ct) [] E0 (tCons (tVar 0) tNil)) (tCons (tCB (rLenS K) (tCons (tOp (rIxL K) (tVar 1) (tC (.int 0))) tNil)) tNil)))
    (tSeq (tIfS (tOr (tNot (tB (tCB (rIsi K) (tCons (tVar 5) (tCons (tC (.ty "tuple")) tNil))))) (tOr (tTest (tOp rNe (tCB (rLenS K) (tCons (tVar 5) tNil)) (tVar 6))) (tTest (tOp rNotN (tCall sp_law_row [] E0 (tCons (tVar 1) (tCons (tVar 5) tNil))) (tC .non))))) (tRet (tC (.bl false))) tNext)
    (tSeq (tAsg (tCB (rMin K) (tCons (tLc (iList K (tVar 2)) (gName 7) tYes (tCall sp_law_greatest [] E0 (tCons (tVar 7) tNil)) [7]) tNil)) (gName 3))
    (tSeq (tIfS (tTest (tOp (rI0 fun i j => .bl (decide (j < i))) (tCall sp_law_greatest [] E0 (tCons (tVar 5) tNil)) (tVar 3))) (tRet (tC (.bl false))) tNext)
    (tSeq (tFor (iRng2 (tCons (tC (.int 1)) (tCons (tOp (rI0 fun i j => .int (i + j)) (tCB rMin2' (tCons (tCall sp_law_greatest [] E0 (tCons (tVar 5) tNil)) (tCons (tIf (tTest (tOp (rI0 fun i j => .bl (decide (i < j))) (tVar 6) (tC (.int 3)))) (tC (.int 6)) (tC (.int 3))) tNil))) (tC (.int 1))) tNil))) (gName 4) (tFor (iList K (tCall sp_law_shell [] E0 (tCons (tVar 6) (tCons (tVar 4) tNil)))) (gName 7) (tIfS (tAnd (tTest (tOp rEq (tCall sp_law_greatest [] E0 (tCons (tVar 7) tNil)) (tVar 4))) (tTest (tOp rIsN (tCall sp_law_row [] E0 (tCons (tVar 1) (tCons (tVar 7) tNil))) (tC .non)))) (tRet (tAndV (tOp (rEqD K) (tVar 7) (tVar 5)) (tOp (rEqD K) (tCall (sp_first_without_row C Ct) [] E0 (tCons (tVar 0) tNil)) (tVar 5)))) tNext)))
    (tRet (tAndV (tOp (rI0 fun i j => .bl (decide (j < i))) (tCall sp_law_greatest [] E0 (tCons (tVar 5) tNil)) (tIf (tTest (tOp (rI0 fun i j => .bl (decide (i < j))) (tVar 6) (tC (.int 3)))) (tC (.int 6)) (tC (.int 3)))) (tOp (rEqD K) (tCall (sp_first_without_row C Ct) [] E0 (tCons (tVar 0) tNil)) (tVar 5)))))))))
theorem d_law_first_right (G : Glo K mg C) (c_first_without_row : FnW P w K mg base (L2.CX P w) 8 "first_without_row" "writing" (sp_first_without_row C Ct)) (c_law_row : Fn P w K mg base (L2.CX P w) 5 "_law_row" ["_law_way_here", "_law_point"] sp_law_row) (c_law_greatest : Fn P w K mg base (L2.CX P w) 1 "_law_greatest" ["_law_point"] sp_law_greatest) (c_law_shell : Fn P w K mg base (L2.CX P w) 2 "_law_shell" ["_law_size", "_law_most"] sp_law_shell) {f : Addr} {cdv : Value} {A : Around} {outer : List Env} {s : Shared} {H : Hp} {E : XK} (hr : Room 8 (A.deeper (envOfC "_law_first_right" (defScope (top 82)) s.heap.objs.size f cdv))) :
    PSs (cxOf (L2.CX P w) P w K mg base ["_law_writing", "_law_way_here", "_law_rowless", "_law_least", "_law_most", "_law_told", "_law_size", "_law_point"] "_law_first_right" (defScope (top 82)) f cdv A outer s H E).nox (defBody (top 82)) (t_law_first_right K C Ct) :=
    (pss_cons (ps_par rfl sc_law_first_right.nd (i := 5) (j := 6) rfl rfl (by decide) rfl rfl (pa_cons (pe_f c_first_without_row.fn hr (by decide) passL (by rfl) (pa_cons (pv 0) pa_nil)) (pa_cons (pe_callB (cLenK K rfl) (by rfl) G.g_len boot_len (pa_cons (pe_ix (ixL K rfl) (pv 1) pe_int (fun _ _ => rfl)) pa_nil)) pa_nil)) (by rfl))
    (pss_cons (ps_if (PW.pt (pt_or (pt_not (pt_val (pe_callB (cIsiK K rfl) (by rfl) G.g_isinstance boot_isinstance (pa_cons (pv 5) (pa_cons (pe_ty (by rfl) G.g_tuple boot_tuple) pa_nil))))) (pt_or (pt_cmpR op_ne (pe_callB (cLenK K rfl) (by rfl) G.g_len boot_len (pa_cons (pv 5) pa_nil)) (pv 6) (nomark _)) (pt_or1 (pt_cmpR op_notN1 (pe_f c_law_row hr (by decide) passL (by rfl) (pa_cons (pv 1) (pa_cons (pv 5) pa_nil))) pe_non (nomark _)))))) (pss_one (ps_ret pe_bl)) pss_nil)
    (pss_cons (ps_set (i := 3) sc_law_first_right.nd rfl (by first | exact .inl rfl | exact .inr rfl) (pe_callB (cMinK K rfl rfl) (by rfl) G.g_min boot_min (pa_cons (pe_lc (own := [("_law_point", 7)]) rfl sc_law_first_right.nd (piL K rfl (pv 2)) (blkOk_by (N := ["_law_writing", "_law_way_here", "_law_rowless", "_law_least", "_law_most", "_law_told", "_law_size", "_law_point"]) (sc := defScope (top 82)) (by decide +kernel)) (fun _ _ _ _ _ => (pg_name (i := 7) sc_law_first_right.nd rfl (by first | exact .inl rfl | exact .inr rfl))) (fun _ _ _ _ _ => pts_nil) (fun _ _ _ _ _ => (pe_f c_law_greatest hr (by decide) passL (by rfl) (pa_cons (pv 7) pa_nil)))) pa_nil)))
    (pss_cons (ps_if (pt_cmpR op_gt (pe_f c_law_greatest hr (by decide) passL (by rfl) (pa_cons (pv 5) pa_nil)) (pv 3) (nomark _)) (pss_one (ps_ret pe_bl)) pss_nil)
    (pss_cons (ps_for PassesOwn.never rfl (pi_range2 (by rfl) G.g_range (pa_cons pe_int (pa_cons (pe_op op_add (pe_callB (call_min2' rfl) (by rfl) G.g_min boot_min (pa_cons (pe_f c_law_greatest hr (by decide) passL (by rfl) (pa_cons (pv 5) pa_nil)) (pa_cons (pe_ifExp (pt_cmpR op_lt (pv 6) pe_int (nomark _)) pe_int pe_int) pa_nil))) pe_int) pa_nil))) (pg_name (i := 4) sc_law_first_right.nd rfl (by first | exact .inl rfl | exact .inr rfl)) (pss_one (ps_for PassesOwn.never rfl (piL K rfl (pe_f c_law_shell hr (by decide) passL (by rfl) (pa_cons (pv 6) (pa_cons (pv 4) pa_nil)))) (pg_name (i := 7) sc_law_first_right.nd rfl (by first | exact .inl rfl | exact .inr rfl)) (pss_one (ps_if (PW.pt (pt_and (pt_cmpR op_eq (pe_f c_law_greatest hr (by decide) passL (by rfl) (pa_cons (pv 7) pa_nil)) (pv 4) (nomark _)) (pt_and1 (pt_cmpR op_isN1 (pe_f c_law_row hr (by decide) passL (by rfl) (pa_cons (pv 1) (pa_cons (pv 7) pa_nil))) pe_non (nomark _))))) (pss_one (ps_ret (pe_and (pe_cmpR (eqDK K rfl hr.units) (pv 7) (pv 5) (nomark _)) (pe_and1 (pe_cmpR (eqDK K rfl hr.units) (pe_fk c_first_without_row hr (by decide) passL (by rfl) (pv 0)) (pv 5) (nomark _)))))) pss_nil)))))
    (pss_one (ps_ret (pe_and (pe_cmpR op_gt (pe_f c_law_greatest hr (by decide) passL (by rfl) (pa_cons (pv 5) pa_nil)) (pe_ifExp (pt_cmpR op_lt (pv 6) pe_int (nomark _)) pe_int pe_int) (nomark _)) (pe_and1 (pe_cmpR (eqDK K rfl hr.units) (pe_fk c_first_without_row hr (by decide) passL (by rfl) (pv 0)) (pv 5) (nomark _)))))))))))
theorem sc_law_way_right : FnScope ["_law_way_here", "_law_writing", "_law_closed_here", "_law_rowless", "_law_told", "_law_point"] ["_law_way_here"] (defScope (top 84)) := ⟨rfl, rfl, rfl, by decide +kernel, rfl, by decide +kernel, by decide +kernel⟩
def t_law_way_right (K : PySem.W.Frag) (C Ct : Addr) : TS :=
    (tSeq (tAsg (tMake C (sp_Winit C) [] E0 (tCons (tOp (rIxL K) (tVar 0) (tC (.int 0))) (tCons (tCB (rListS K) (tCons (tOp (rIxL K) (tVar 0) (tC (.int 1))) tNil)) tNil))) (gName 1))
    (tSeq (tAsg (tCall sp_law_closed [] E0 (tCons (tVar 0) (tCons (tCall sp_law_units [] E0 (tCons (tCB (rLenS K) (tCons (tOp (rIxL K) (tVar 0) (tC (.int 0))) tNil)) tNil)) tNil))) (gName 2))
    (tSeq (tIfS (tTest (tOp rIsN (tVar 2) (tC .non))) (tRet (tAndV (tOp rEq (tCall (sp_law_caught C) [] E0 (tCons (tC (.int 0)) (tCons (tVar 1) tNil))) (tC (.int 601))) (tOp rEq (tCall (sp_law_caught C) [] E0 (tCons (tC (.int 1)) (tCons (tVar 1) tNil))) (tC (.int 601))))) tNext)
    (tSeq (tAsg (tLc (iList K (tVar 2)) (gName 5) (tTest (tOp rIsN (tCall sp_law_row [] E0 (tCons (tVar 0) (tCons (tVar 5) tNil))) (tC .non))) (tVar 5) [5]) (gName 3))
    (tSeq (tAsg (tCall (sp_all_have_rows C Ct) [] E0 (tCons (tVar 1) tNil)) (gName 4))
    (tSeq (tIfS (tOr (tNot (tB (tCB (rIsi K) (tCons (tVar 4) (tCons (tC (.ty "bool")) tNil))))) (tTest (tOp rNe (tVar 4) (tOp (rEqD K) (tVar 3) (tLst tNil))))) (tRet (tC (.bl false))) tNext)
    (tSeq (tIfS (tTest (tOp (rEqD K) (tVar 3) (tLst tNil))) (tRet (tAndV (tOp rIsN (tCall (sp_first_without_row C Ct) [] E0 (tCons (tVar 1) tNil)) (tC .non)) (tOp rIsB (tCall (sp_all_have_rows C Ct) [] E0 (tCons (tVar 1) tNil)) (tC (.bl true))))) tNext)
    (tRet (tCall (sp_law_first_right C) [] E0 (tCons (tVar 1) (tCons (tVar 0) (tCons (tVar 3) tNil))))))))))))
theorem d_law_way_right (G : Glo K mg C) (c_Writing : Mkr P w K mg base 9 "Writing" C ["self", "matrix", "digits"] (sp_Winit C)) (c_law_units : Fn P w K mg base (L2.CX P w) 1 "_law_units" ["_law_size"] sp_law_units) (c_law_closed : Fn P w K mg base (L2.CX P w) 4 "_law_closed" ["_law_way_here", "_law_points"] sp_law_closed) (c_law_caught : Fn P w K mg base (L2.CX P w) 9 "_law_caught" ["_law_door", "_law_writing"] (sp_law_caught C)) (c_law_row : Fn P w K mg base (L2.CX P w) 5 "_law_row" ["_law_way_here", "_law_point"] sp_law_row) (c_all_have_rows : FnW P w K mg base (L2.CX P w) 8 "all_have_rows" "writing" (sp_all_have_rows C Ct)) (c_first_without_row : FnW P w K mg base (L2.CX P w) 8 "first_without_row" "writing" (sp_first_without_row C Ct)) (c_law_first_right : Fn P w K mg base (L2.CX P w) 9 "_law_first_right" ["_law_writing", "_law_way_here", "_law_rowless"] (sp_law_first_right C)) {f : Addr} {cdv : Value} {A : Around} {outer : List Env} {s : Shared} {H : Hp} {E : XK} (hr : Room 10 (A.deeper (envOfC "_law_way_right" (defScope (top 84)) s.heap.objs.size f cdv))) :
    PSs (cxOf (L2.CX P w) P w K mg base ["_law_way_here", "_law_writing", "_law_closed_here", "_law_rowless", "_law_told", "_law_point"] "_law_way_right" (defScope (top 84)) f cdv A outer s H E).nox (defBody (top 84)) (t_law_way_right K C Ct) :=
    (pss_cons (ps_set (i := 1) sc_law_way_right.nd rfl (by first | exact .inl rfl | exact .inr rfl) (pe_mkW c_Writing hr (by decide) passL (by rfl) (pa_cons (pe_ix (ixL K rfl) (pv 0) pe_int (fun _ _ => rfl)) (pa_cons (pe_callTy (cListK K rfl) (by rfl) G.g_list boot_list (pa_cons (pe_ix (ixL K rfl) (pv 0) pe_int (fun _ _ => rfl)) pa_nil)) pa_nil))))
    (pss_cons (ps_set (i := 2) sc_law_way_right.nd rfl (by first | exact .inl rfl | exact .inr rfl) (pe_f c_law_closed hr (by decide) passL (by rfl) (pa_cons (pv 0) (pa_cons (pe_f c_law_units hr (by decide) passL (by rfl) (pa_cons (pe_callB (cLenK K rfl) (by rfl) G.g_len boot_len (pa_cons (pe_ix (ixL K rfl) (pv 0) pe_int (fun _ _ => rfl)) pa_nil)) pa_nil)) pa_nil))))
    (pss_cons (ps_if (pt_cmpR op_isN1 (pv 2) pe_non (nomark _)) (pss_one (ps_ret (pe_and (pe_cmpR op_eq (pe_f c_law_caught hr (by decide) passL (by rfl) (pa_cons pe_int (pa_cons (pv 1) pa_nil))) pe_int (nomark _)) (pe_and1 (pe_cmpR op_eq (pe_f c_law_caught hr (by decide) passL (by rfl) (pa_cons pe_int (pa_cons (pv 1) pa_nil))) pe_int (nomark _)))))) pss_nil)
    (pss_cons (ps_setLc (i := 3) (own := [("_law_point", 5)]) rfl sc_law_way_right.nd rfl rfl (sw_true rfl rfl rfl (by decide +kernel)) (piL K rfl (pv 2)) (blkOk_by (N := ["_law_way_here", "_law_writing", "_law_closed_here", "_law_rowless", "_law_told", "_law_point"]) (sc := defScope (top 84)) (by decide +kernel)) (fun _ _ _ _ _ => (pg_name (i := 5) sc_law_way_right.nd rfl (by first | exact .inl rfl | exact .inr rfl))) (fun _ _ _ _ _ => (pts_one (pt_cmpR op_isN1 (pe_f c_law_row hr (by decide) passL (by rfl) (pa_cons (pv 0) (pa_cons (pv 5) pa_nil))) pe_non (nomark _)))) (fun _ _ _ _ _ => (pv 5)))
    (pss_cons (ps_set (i := 4) sc_law_way_right.nd rfl (by first | exact .inl rfl | exact .inr rfl) (pe_f c_all_have_rows.fn hr (by decide) passL (by rfl) (pa_cons (pv 1) pa_nil)))
    (pss_cons (ps_if (PW.pt (pt_or (pt_not (pt_val (pe_callB (cIsiK K rfl) (by rfl) G.g_isinstance boot_isinstance (pa_cons (pv 4) (pa_cons (pe_ty (by rfl) G.g_bool boot_bool) pa_nil))))) (pt_or1 (pt_cmpR op_ne (pv 4) (pe_cmpR (eqDK K rfl hr.units) (pv 3) (pe_lst pa_nil) (nomark _)) (nomark _))))) (pss_one (ps_ret pe_bl)) pss_nil)
    (pss_cons (ps_if (pt_cmpR (eqDK K rfl hr.units) (pv 3) (pe_lst pa_nil) (nomark _)) (pss_one (ps_ret (pe_and (pe_cmpR op_isN1 (pe_f c_first_without_row.fn hr (by decide) passL (by rfl) (pa_cons (pv 1) pa_nil)) pe_non (nomark _)) (pe_and1 (pe_cmpR op_isBl (pe_fk c_all_have_rows hr (by decide) passL (by rfl) (pv 1)) pe_bl (nomark _)))))) pss_nil)
    (pss_one (ps_ret (pe_f c_law_first_right hr (by decide) passL (by rfl) (pa_cons (pv 1) (pa_cons (pv 0) (pa_cons (pv 3) pa_nil)))))))))))))
theorem sc_law : FnScope ["_law_script", "_law_index", "_law_digits_here", "_law_low", "_law_generator_here", "_law_way_here", "_law_writing"] ["_law_script"] (defScope (top 85)) := ⟨rfl, rfl, rfl, by decide +kernel, rfl, by decide +kernel, by decide +kernel⟩
def t_law (K : PySem.W.Frag) (C Ct : Addr) : TS :=
    (tSeq (tFor (iRng1 (tCons (tC (.int 3)) tNil)) (gName 1) (tSeq (tAsg (tCall (sp_law_generator K) [] E0 (tCons (tVar 0) (tCons (tVar 1) tNil))) (gName 4))
    (tSeq (tIfS (tNot (tB (tCall sp_law_way_right [] E0 (tCons (tCall sp_law_any_way [] E0 (tCons (tVar 4) tNil)) tNil)))) (tRet (tC (.bl false))) tNext)
    (tSeq (tAsg (tCall sp_law_family [] E0 (tCons (tVar 4) tNil)) (gName 5))
    (tSeq (tAsg (tMake C (sp_Winit C) [] E0 (tCons (tOp (rIxL K) (tVar 5) (tC (.int 0))) (tCons (tCB (rListS K) (tCons (tOp (rIxL K) (tVar 5) (tC (.int 1))) tNil)) tNil))) (gName 6))
    (tIfS (tOr (tTest (tOp rNotB (tCall (sp_all_have_rows C Ct) [] E0 (tCons (tVar 6) tNil)) (tC (.bl true)))) (tTest (tOp rNotN (tCall (sp_first_without_row C Ct) [] E0 (tCons (tVar 6) tNil)) (tC .non)))) (tRet (tC (.bl false))) tNext))))))
    (tSeq (tAsg (tLst (tCons (tTup (tCons (tC (.int 0)) (tCons (tC (.int 0)) tNil))) (tCons (tTup (tCons (tC (.int 0)) (tCons (tC (.int 1)) tNil))) (tCons (tTup (tCons (tC (.int 0)) (tCons (tC (.int 2)) tNil))) tNil)))) (gName 2))
    (tSeq (tFor (iList K (tLst (tCons (tC (.int 21)) (tCons (tUn (rU fun i => .int (-i)) (tC (.int 2))) (tCons (tUn (rU fun i => .int (-i)) (tC (.int 1))) tNil))))) (gName 3) (tAsg (tOp rCat (tVar 2) (tLst (tCons (tTup (tCons (tVar 3) (tCons (tC (.int 0)) tNil))) (tCons (tTup (tCons (tVar 3) (tCons (tC (.int 1)) tNil))) (tCons (tTup (tCons (tVar 3) (tCons (tC (.int 2)) tNil))) tNil))))) (gName 2)))
    (tRet (tOp (rEqD K) (tCall (sp_first_without_row C Ct) [] E0 (tCons (tMake C (sp_Winit C) [] E0 (tCons (tTup (tCons (tTup (tCons (tC (.int 4)) (tCons (tC (.int 0)) tNil))) (tCons (tTup (tCons (tC (.int 0)) (tCons (tUn (rU fun i => .int (-i)) (tC (.int 3))) tNil))) tNil))) (tCons (tVar 2) tNil))) tNil)) (tTup (tCons (tUn (rU fun i => .int (-i)) (tC (.int 7))) (tCons (tUn (rU fun i => .int (-i)) (tC (.int 7))) tNil))))))))
theorem d_law (G : Glo K mg C) (c_law_generator : Fn P w K mg base (L2.CX P w) 2 "_law_generator" ["_law_script", "_law_index"] (sp_law_generator K)) (c_law_any_way : Fn P w K mg base (L2.CX P w) 7 "_law_any_way" ["_law_generator_here"] sp_law_any_way) (c_law_way_right : Fn P w K mg base (L2.CX P w) 11 "_law_way_right" ["_law_way_here"] sp_law_way_right) (c_law_family : Fn P w K mg base (L2.CX P w) 6 "_law_family" ["_law_generator_here"] sp_law_family) (c_Writing : Mkr P w K mg base 9 "Writing" C ["self", "matrix", "digits"] (sp_Winit C)) (c_all_have_rows : FnW P w K mg base (L2.CX P w) 8 "all_have_rows" "writing" (sp_all_have_rows C Ct)) (c_first_without_row : FnW P w K mg base (L2.CX P w) 8 "first_without_row" "writing" (sp_first_without_row C Ct)) {f : Addr} {cdv : Value} {A : Around} {outer : List Env} {s : Shared} {H : Hp} {E : XK} (hr : Room 11 (A.deeper (envOfC "law" (defScope (top 85)) s.heap.objs.size f cdv))) :
    PSs (cxOf (L2.CX P w) P w K mg base ["_law_script", "_law_index", "_law_digits_here", "_law_low", "_law_generator_here", "_law_way_here", "_law_writing"] "law" (defScope (top 85)) f cdv A outer s H E).nox (defBody (top 85)) (t_law K C Ct) :=
    (pss_cons (ps_for PassesOwn.never rfl (pi_range1 (by rfl) G.g_range (pa_cons pe_int pa_nil)) (pg_name (i := 1) sc_law.nd rfl (by first | exact .inl rfl | exact .inr rfl)) (pss_cons (ps_set (i := 4) sc_law.nd rfl (by first | exact .inl rfl | exact .inr rfl) (pe_f c_law_generator hr (by decide) passL (by rfl) (pa_cons (pv 0) (pa_cons (pv 1) pa_nil))))
    (pss_cons (ps_if (pt_not (pt_val (pe_f c_law_way_right hr (by decide) passL (by rfl) (pa_cons (pe_f c_law_any_way hr (by decide) passL (by rfl) (pa_cons (pv 4) pa_nil)) pa_nil)))) (pss_one (ps_ret pe_bl)) pss_nil)
    (pss_cons (ps_set (i := 5) sc_law.nd rfl (by first | exact .inl rfl | exact .inr rfl) (pe_f c_law_family hr (by decide) passL (by rfl) (pa_cons (pv 4) pa_nil)))
    (pss_cons (ps_set (i := 6) sc_law.nd rfl (by first | exact .inl rfl | exact .inr rfl) (pe_mkW c_Writing hr (by decide) passL (by rfl) (pa_cons (pe_ix (ixL K rfl) (pv 5) pe_int (fun _ _ => rfl)) (pa_cons (pe_callTy (cListK K rfl) (by rfl) G.g_list boot_list (pa_cons (pe_ix (ixL K rfl) (pv 5) pe_int (fun _ _ => rfl)) pa_nil)) pa_nil))))
    (pss_one (ps_if (PW.pt (pt_or (pt_cmpR op_notBl (pe_f c_all_have_rows.fn hr (by decide) passL (by rfl) (pa_cons (pv 6) pa_nil)) pe_bl (nomark _)) (pt_or1 (pt_cmpR op_notN1 (pe_fk c_first_without_row hr (by decide) passL (by rfl) (pv 6)) pe_non (nomark _))))) (pss_one (ps_ret pe_bl)) pss_nil)))))))
    (pss_cons (ps_set (i := 2) sc_law.nd rfl (by first | exact .inl rfl | exact .inr rfl) (pe_lst (pa_cons (pe_tup (pa_cons pe_int (pa_cons pe_int pa_nil))) (pa_cons (pe_tup (pa_cons pe_int (pa_cons pe_int pa_nil))) (pa_cons (pe_tup (pa_cons pe_int (pa_cons pe_int pa_nil))) pa_nil)))))
    (pss_cons (ps_for PassesOwn.never rfl (piL K rfl (pe_lst (pa_cons pe_int (pa_cons (pe_un un_neg pe_int) (pa_cons (pe_un un_neg pe_int) pa_nil))))) (pg_name (i := 3) sc_law.nd rfl (by first | exact .inl rfl | exact .inr rfl)) (pss_one (ps_set (i := 2) sc_law.nd rfl (by first | exact .inl rfl | exact .inr rfl) (pe_op op_cat (pv 2) (pe_lst (pa_cons (pe_tup (pa_cons (pv 3) (pa_cons pe_int pa_nil))) (pa_cons (pe_tup (pa_cons (pv 3) (pa_cons pe_int pa_nil))) (pa_cons (pe_tup (pa_cons (pv 3) (pa_cons pe_int pa_nil))) pa_nil))))))))
    (pss_one (ps_ret (pe_cmpR (eqDK K rfl hr.units) (pe_f c_first_without_row.fn hr (by decide) passL (by rfl) (pa_cons (pe_mkW c_Writing hr (by decide) passL (by rfl) (pa_cons (pe_tup (pa_cons (pe_tup (pa_cons pe_int (pa_cons pe_int pa_nil))) (pa_cons (pe_tup (pa_cons pe_int (pa_cons (pe_un un_neg pe_int) pa_nil))) pa_nil))) (pa_cons (pv 2) pa_nil))) pa_nil)) (pe_tup (pa_cons (pe_un un_neg pe_int) (pa_cons (pe_un un_neg pe_int) pa_nil))) (nomark _)))))))
end
end K13
namespace K13
open PySem PySem.Spec PyProof.Rows L2 Evl
section
variable {K : PySem.W.Frag} {σ : L2.St} {H : Hp} {C Ct : Addr} {te te1 te2 : TE}
theorem evp_mkW {w : Way} (ha : EvP te1 σ H fun v H' => MxV H' v w.m) (hb : ∀ H1, Ex H H1 → EvP te2 σ H1 fun v H' => PLV H' v w.ds) (ok : w.Ok) : EvP (tMake C (sp_Winit C) [] E0 (tCons te1 (tCons te2 tNil))) σ H fun v H' => Wr C H' v w := fun H0 e Q q =>
  ha H0 e _ fun x H1 e1 hx => hb H1 (e.trans e1) H1 (Ex.refl H1) _ fun y H2 e2 hy => fun a dx ha0 hdx hne => by
    have en : Ex H2 (upd (upd H2 dx (.own a)) a (.ins C dx [])) := (Ex.new hdx).trans (Ex.new (by rw [upd_ne hne.symm]; exact ha0))
    refine ⟨a, dx, x, y, w, rfl, upd_same, (hx.ex e2).ex en, hy.ex en, fun z => ?_, ok, fun H' hk hw => ⟨rfl, q _ H' (fun c o hc => ?_) hw⟩⟩
    · obtain ⟨c, as, ec, hc, -⟩ := hy
      rw [z] at ec
      cases ec
      rw [ha0] at hc
      cases hc
    · have h2 := e2 _ _ (e1 _ _ hc)
      exact hk c o (fun z => by rw [z, ha0] at h2; cases h2) (en _ _ h2)
/-- list(xs) of a list of points -/
theorem evp_copyPL {ps : List Pt} {v : V} (h : Ev te σ H v) (hp : PLV H v ps) : EvP (tCB (rListS K) (tCons te tNil)) σ H fun v H' => PLV H' v ps := fun H1 e Q q => by
  obtain ⟨a, as, rfl, ha, has⟩ := hp
  refine el_list h (sq_of ha) H1 e Q fun p H2 _ e2 h2 => q _ H2 e2 ⟨p, as, rfl, h2, has.ex (e.trans e2)⟩
/-- the writing of a way -/
theorem evp_wrW {w : Way} {i : Nat} {v : V} (hσ : σ[i]? = some (some v)) (hw : LW H v w) (ok : w.Ok) : EvP (tMake C (sp_Winit C) [] E0 (tCons (tOp (rIxL K) (tVar i) (tC (.int 0))) (tCons (tCB (rListS K) (tCons (tOp (rIxL K) (tVar i) (tC (.int 1))) tNil)) tNil))) σ H fun v H' => Wr C H' v w := by
  obtain ⟨a, x0, x1, x2, d, rfl, h1, h2, h3, h4, h5⟩ := hw
  refine evp_mkW (EvP.of (ev_ixK (i := 0) (ev_var hσ) ev_c h1 rfl) fun H' e => h2.ex e) (fun H1 e => evp_copyPL (ev_ixK (i := 1) (ev_var hσ) ev_c (e _ _ h1) rfl) (h3.ex e)) ok
end
end K13
namespace K13
open PySem PySem.Spec PyProof.Rows L2 Evl
theorem big_perm {w : Way} {P P' : List Pt} (hp : ∀ x, x ∈ P' ↔ x ∈ P) (h : w.Big P') : w.Big P := by
  obtain ⟨F, h1, h2, h3⟩ := h
  exact ⟨F, h1, h2, fun S hc hs => h3 S hc fun p hp' => hs p ((hp p).mp hp')⟩
theorem big_not {w : Way} {P F : List Pt} (h : w.Big P) (l : w.Least P F) (hF : F.length ≤ 600) : False := by
  obtain ⟨G, h1, h2, h3⟩ := h
  have := nodup_le h1 (h3 F l.closed l.sub)
  omega
theorem least_mem {w : Way} {P F F' : List Pt} (h : w.Least P F) (h' : w.Least P F') (p : Pt) : p ∈ F ↔ p ∈ F' := ⟨h.least F' h'.closed h'.sub p, h'.least F h.closed h.sub p⟩
section
variable {K : PySem.W.Frag} {σ : L2.St} {H : Hp} {C Ct : Addr} {te ta : TE}
theorem evp_isN {P : V → Hp → Prop} {b : Bool} (h : EvP te σ H P) (hb : ∀ v H', P v H' → decide (v = .non) = b) : Ev (tOp rIsN te (tC .non)) σ H (.bl b) := fun H1 e Q q => h H1 e _ fun v H2 e2 hv => ⟨rfl, by rw [hb v H2 hv]; exact q H2 e2⟩
theorem evp_notN {P : V → Hp → Prop} {b : Bool} (h : EvP te σ H P) (hb : ∀ v H', P v H' → (!decide (v = .non)) = b) : Ev (tOp rNotN te (tC .non)) σ H (.bl b) := fun H1 e Q q => h H1 e _ fun v H2 e2 hv => ⟨rfl, by rw [hb v H2 hv]; exact q H2 e2⟩
/-- `row(way, p) is None` -/
theorem ev_rowN {i j : Nat} {v u : V} {w : Way} {p : Pt} [Decidable (w.Row p)] (hi : σ[i]? = some (some v)) (hj : σ[j]? = some (some u)) (hw : LW H v w) (ok : w.Ok) (hp : PtV H u p) (hl : p.length = w.n) (per : w.Per p) : Ev (tOp rIsN (tCall sp_law_row [] E0 (tCons (tVar i) (tCons (tVar j) tNil))) (tC .non)) σ H (.bl (!decide (w.Row p))) :=
  evp_isN (P := fun v _ => (v = .non ∧ ¬ w.Row p) ∨ ((∃ a, v = .ref a) ∧ w.Row p)) (evp_callA (ea_cons (ev_var hi) (ea_cons (ev_var hj) ea_nil)) (spp_use fun H1 e => ⟨v, u, w, p, rfl, hw.ex e, ok, hp.ex e, hl, per, rfl⟩)) fun v H' h => by
    rcases h with ⟨rfl, h⟩ | ⟨⟨a, rfl⟩, h⟩
    · rw [decide_eq_false h]; rfl
    · rw [decide_eq_true h]; rfl
/-- all_have_rows, first_without_row where the closed list is small -/
theorem spp_allrows {w : Way} {B : Nat} {F : List Pt} {v : V} [Decidable (∀ p ∈ F, w.Row p)] (hw : Wr C H v w) (fine : w.Fine B) (hF : w.Least (unitsL w.n) F) (hl : F.length ≤ 600) : SpP (sp_all_have_rows C Ct) [v] H (isV (.bl (decide (∀ p ∈ F, w.Row p)))) := fun H1 e Q q E =>
  ⟨v, w, B, rfl, hw.ex e, fine, fun H' F' b e' hF' hl' hb => q _ H' e' (by
    show V.bl b = .bl _
    rw [Bool.eq_iff_iff.mpr (hb.trans ⟨fun h => decide_eq_true fun p hp => h p ((least_mem hF hF' p).mp hp), fun h p hp => of_decide_eq_true h p ((least_mem hF hF' p).mpr hp)⟩)]), fun cls d H' e' hb => (big_not hb hF hl).elim⟩
theorem spp_first_none {w : Way} {B : Nat} {F : List Pt} {v : V} (hw : Wr C H v w) (fine : w.Fine B) (hF : w.Least (unitsL w.n) F) (hl : F.length ≤ 600) (hr : ∀ p ∈ F, w.Row p) : SpP (sp_first_without_row C Ct) [v] H (isV .non) := fun H1 e Q q E =>
  ⟨v, w, B, rfl, hw.ex e, fine, fun H' F' e' _ _ _ => q _ H' e' rfl, fun v' H' F' p e' hF' _ ⟨x, hx, hn⟩ => (hn (hr x ((least_mem hF hF' x).mpr hx))).elim, fun cls d H' e' hb => (big_not hb hF hl).elim⟩
theorem spp_first {w : Way} {B : Nat} {F : List Pt} {v : V} (hw : Wr C H v w) (fine : w.Fine B) (hF : w.Least (unitsL w.n) F) (hl : F.length ≤ 600) (hr : ∃ p ∈ F, ¬ w.Row p) : SpP (sp_first_without_row C Ct) [v] H (fun v H' => ∃ p, w.First p ∧ PtV H' v p) := fun H1 e Q q E =>
  ⟨v, w, B, rfl, hw.ex e, fine, fun H' F' e' hF' _ hall => (hr.elim fun x hx => hx.2 (hall x ((least_mem hF hF' x).mp hx.1))).elim, fun v' H' F' p e' hF' _ _ hp hv => q _ H' e' ⟨p, hp, hv⟩, fun cls d H' e' hb => (big_not hb hF hl).elim⟩
open Classical in
theorem p_law_way_right (vs : List V) (H : Hp) (Q : VK) (E : XK) (h : sp_law_way_right vs H Q E) : t_law_way_right K C Ct (En Q) (start ["_law_way_here", "_law_writing", "_law_closed_here", "_law_rowless", "_law_told", "_law_point"] vs) H := by
  obtain ⟨R, ⟨v, w, B, rfl, hw, fine, near, rfl⟩, k⟩ := h
  have ok := fine.ok
  have n3 := ok.n3
  refine q_asgP (evp_wrW (K := K) (C := C) (i := 0) rfl hw ok) fun x H1 e1 hx => ?_
  have hw1 := hw.ex e1
  have hlen : ∀ {H' : Hp}, Ex H1 H' → Ev (tCB (rLenS K) (tCons (tOp (rIxL K) (tVar 0) (tC (.int 0))) tNil)) [some v, some x, none, none, none, none] H' (.int (w.n : Int)) := fun {H'} e => by
    obtain ⟨a, x0, x1, x2, d, rfl, h1, ⟨a0, as0, rfl, h2, h2'⟩, -⟩ := hw1.ex e
    exact ev_is (ev_lenT (ev_ixK (i := 0) (ev_var rfl) ev_c h1 rfl) h2) (by rw [List.length_map, h2'.len, ok.mok.1.1])
  have hcl : EvP (tCall sp_law_closed [] E0 (tCons (tVar 0) (tCons (tCall sp_law_units [] E0 (tCons (tCB (rLenS K) (tCons (tOp (rIxL K) (tVar 0) (tC (.int 0))) tNil)) tNil)) tNil))) [some v, some x, none, none, none, none] H1 fun u H' => (∃ F, w.Least (unitsL w.n) F ∧ F.length ≤ 600 ∧ PLV H' u F) ∨ (u = .non ∧ w.Big (unitsL w.n)) :=
    evp_call2 (Pa := isV v) (evp_of_ev (ev_var rfl)) fun y H2 e2 ey => ⟨fun u H' => ∃ ps : List Pt, ps.Perm (unitsL w.n) ∧ PLV H' u ps, evp_callA (ea_cons (hlen e2) ea_nil) (spp_use fun H3 e3 => ⟨w.n, rfl, n3.1, n3.2, rfl⟩), fun z H3 e3 ⟨ps, hps, hz⟩ => fun H4 e4 Q q E => ⟨_, ⟨y, z, w, ps, rfl, by rw [show y = v from ey]; exact hw1.ex (e2.trans (e3.trans e4)), ok, hz.ex e4, fun p hp => unitsL_mem n3.2 (hps.mem_iff.mp hp), by rw [hps.length_eq]; exact unitsL_len n3.2, hps.nodup_iff.mpr (unitsL_nd n3.2), n3.1, rfl⟩, fun u H' e' hu => q u H' e' (by
      rcases hu with ⟨F, h1, h2, h3⟩ | ⟨h1, h2⟩
      · exact .inl ⟨F, least_perm (fun _ => hps.mem_iff) h1, h2, h3⟩
      · exact .inr ⟨h1, big_perm (fun _ => hps.mem_iff) h2⟩)⟩⟩
  refine q_asgP hcl fun u H2 e2 hu => ?_
  have e12 := e1.trans e2
  have hx2 := hx.ex e2
  have hw2 := hw.ex e12
  rcases hu with ⟨F, hF, hFl, hFu⟩ | ⟨rfl, hbig⟩
  · have hl : ∀ p ∈ F, p.length = w.n := fun p hp => (fine.near F hF p hp).1
    have hper : ∀ p ∈ F, w.Per p := fun p hp => hF.per ok hl hFl hp
    obtain ⟨fa, fas, rfl, hfa, hfas⟩ := hFu
    refine q_when (b := false) (et_test (evp_isN (P := isV (.ref fa)) (evp_of_ev (ev_var rfl)) fun v H' h => by rw [show v = .ref fa from h]; rfl)) (fun h => by cases h) (fun _ H3 e3 => ?_)
    have e13 := e12.trans e3
    have hx3 := hx2.ex e3
    have hw3 := hw2.ex e3
    have hrl : EvP (tLc (iList K (tVar 2)) (gName 5) (tTest (tOp rIsN (tCall sp_law_row [] E0 (tCons (tVar 0) (tCons (tVar 5) tNil))) (tC .non))) (tVar 5) [5]) [some v, some x, some (.ref fa), none, none, none] H3 fun u H' => ∃ l, u = .ref l ∧ LA H' l (((List.range F.length).filter fun i => !decide (w.Row (F.getD i []))).map fun i => F.getD i []) := by
      have hi := evi_list (K := K) (σ := [some v, some x, some (.ref fa), none, none, none]) (H := H3) (tl := tVar 2) (ev_var rfl) (sq_of (e3 _ _ hfa))
      rw [List.length_map, hfas.len] at hi
      refine (evp_lc hi (fun i => !decide (w.Row (F.getD i []))) (fun i u H' => PtV H' u (F.getD i [])) (by rw [sizeLine_eq]; omega) (fun i v H H' e h => h.tex e) fun i y H4 hin e4 hy => ?_).imp fun u H' e ⟨D, ys, eu, h0, hD, hp⟩ => ?_
      · rw [List.getElem?_map] at hy
        cases ea : fas[i]? with
        | none => rw [ea] at hy; cases hy
        | some b =>
          rw [ea] at hy
          obtain rfl : V.ref b = y := Option.some.inj hy
          obtain ⟨p, hp, hb⟩ := hfas.get ea
          have hpF := List.mem_of_getElem? hp
          rw [getD_of hp]
          have hb4 : PtV H4 (.ref b) p := ⟨b, rfl, e4 _ _ (e3 _ _ hb)⟩
          exact ⟨_, fun Q q => q, rfl, et_test (ev_rowN rfl rfl (hw3.ex e4) ok hb4 (hl p hpF) (hper p hpF)), fun _ => evp_varPt rfl hb4⟩
      · obtain ⟨as, rfl, has⟩ := pts_of (paired_map_l (G := fun r u => PtV H' u r) hp)
        exact ⟨D, eu, as, hD, has⟩
    have hmem : ∀ p, p ∈ (((List.range F.length).filter fun i => !decide (w.Row (F.getD i []))).map fun i => F.getD i []) ↔ p ∈ F ∧ ¬ w.Row p := fun p => by
      rw [List.mem_map]
      constructor
      · rintro ⟨i, hi, rfl⟩
        rw [List.mem_filter, List.mem_range] at hi
        exact ⟨getD_mem hi.1 [], fun h => by rw [decide_eq_true h] at hi; exact absurd hi.2 (by decide)⟩
      · rintro ⟨hp, hn⟩
        obtain ⟨i, hi, rfl⟩ := List.mem_iff_getElem.mp hp
        have hg : F.getD i [] = F[i] := getD_of (List.getElem?_eq_getElem hi)
        exact ⟨i, by rw [List.mem_filter, List.mem_range]; exact ⟨hi, by rw [hg, decide_eq_false hn]; rfl⟩, hg⟩
    have hrsl : (((List.range F.length).filter fun i => !decide (w.Row (F.getD i []))).map fun i => F.getD i []).length ≤ 600 := by
      rw [List.length_map]
      exact Nat.le_trans (List.length_filter_le _ _) (by rw [List.length_range]; exact hFl)
    refine q_asgP hrl fun u H4 e4 ⟨l, eu, hrs⟩ => ?_
    subst eu
    generalize (((List.range F.length).filter fun i => !decide (w.Row (F.getD i []))).map fun i => F.getD i []) = rs at hmem hrsl hrs
    have hempty : (∀ p ∈ F, w.Row p) ↔ rs = [] := by
      constructor
      · intro h
        cases rs with
        | nil => rfl
        | cons p t =>
          have := (hmem p).mp (List.mem_cons_self ..)
          exact absurd (h p this.1) this.2
      · rintro rfl p hp
        exact Classical.byContradiction fun h => by
          have := (hmem p).mpr ⟨hp, h⟩
          cases this
    refine q_asgP (P := isV (.bl (decide (∀ p ∈ F, w.Row p)))) (evp_callA (ea_cons (ev_var rfl) ea_nil) (spp_allrows (hx3.ex e4) fine hF hFl)) fun u H5 e5 eu => ?_
    obtain rfl : u = .bl (decide (∀ p ∈ F, w.Row p)) := eu
    rw [show decide (∀ p ∈ F, w.Row p) = decide (rs = []) from by rw [decide_eq_decide]; exact hempty]
    have hrs5 := hrs.ex e5
    have hx5 := (hx3.ex e4).ex e5
    have hw5 := (hw3.ex e4).ex e5
    have e15 := (e13.trans e4).trans e5
    refine q_when (b := false) (et_or (a := false) (b := false) (et_not (a := true) (et_B (ev_isi (T := "bool") (b := true) (ev_var rfl) (fun H6 e6 => .base (.bl _)) (by decide +kernel)))) fun _ => et_is (et_test (ev_op (ev_var rfl) (ev_eqLA (ev_var rfl) hrs5) (rv_ne rfl))) (by simp)) (fun h => by cases h) (fun _ H6 e6 => ?_)
    refine q_when (et_test (ev_eqLA (ev_var rfl) (hrs5.ex e6))) (fun hb H7 e7 => ?_) (fun hb H7 e7 => ?_)
    · have hall := hempty.mpr (of_decide_eq_true hb)
      have e57 := e6.trans e7
      refine s_ret (v := .bl true) (ev_andV (a := true) (b := true) (evp_isN (P := isV .non) (evp_callA (ea_cons (ev_var rfl) ea_nil) (spp_first_none (hx5.ex e57) fine hF hFl hall)) fun v H' h => by rw [show v = .non from h]; rfl) fun _ => ?_) fun H8 e8 => k _ H8 ((e15.trans e57).trans e8) rfl
      refine ev_op (x := .bl true) (ev_is (ev_callV (z := .bl (decide (∀ p ∈ F, w.Row p))) (ea_cons (ev_var rfl) ea_nil) (spp_allrows (hx5.ex e57) fine hF hFl)) (by rw [decide_eq_true hall])) ev_c fun H1 e Q q => ⟨true, true, rfl, rfl, q H1 (Ex.refl H1)⟩
    · have hne : rs ≠ [] := of_decide_eq_false hb
      have e57 := e6.trans e7
      exact ret_ev (v := .bl true) (ev_callV (ea_cons (ev_var rfl) (ea_cons (ev_var rfl) (ea_cons (ev_var rfl) ea_nil))) (spp_use fun H8 e8 => ⟨x, v, .ref l, w, B, F, rs, rfl, hx5.ex (e57.trans e8), hw5.ex (e57.trans e8), (hrs5.ex (e57.trans e8)).pl, fine, near, hF, hFl, hmem, hne, hrsl, rfl⟩)) rfl fun v' H8 e8 hv => k _ H8 ((e15.trans e57).trans e8) hv
  · refine q_when (b := true) (et_test (evp_isN (P := isV .non) (evp_of_ev (ev_var rfl)) fun v H' h => by rw [show v = .non from h]; rfl)) (fun _ H3 e3 => ?_) fun h => by cases h
    have hc : ∀ (i : Int), (i = 0 ∨ i = 1) → ∀ H4, Ex H2 H4 → Ev (tOp rEq (tCall (sp_law_caught C) [] E0 (tCons (tC (.int i)) (tCons (tVar 1) tNil))) (tC (.int 601))) [some v, some x, some .non, none, none, none] H4 (.bl true) := fun i hi H4 e4 =>
      ev_op (ev_callV (z := .int 601) (ea_cons ev_c (ea_cons (ev_var rfl) ea_nil)) (spp_use fun H5 e5 => ⟨i, x, w, B, rfl, hi, hx2.ex (e4.trans e5), fine, hbig, rfl⟩)) ev_c (rv_eq rfl)
    exact s_ret (v := .bl true) (ev_andV (a := true) (b := true) (hc 0 (.inl rfl) H3 e3) fun _ => hc 1 (.inr rfl) H3 e3) fun H4 e4 => k _ H4 ((e12.trans e3).trans e4) rfl
end
end K13
namespace K13
open PySem PySem.Spec PyProof.Rows L2 Evl
/-! a call of what an expression gives: one of several defs -/
def tCallX (S : Addr → Option Sp) (E : L2.St → XK) (tf : TE) (t : TA) : TE := fun σ H Q => tf σ H fun y H1 => ∃ f sp, y = .ref f ∧ S f = some sp ∧ t σ H1 fun vs H2 => sp vs H2 Q (E σ)
section
variable {X : Cx} {CX : CXT} {k j : Nat} {pos : Pos} {fe e : Expr} {es : List Expr} {t : TA} {tf : TE} {E : L2.St → XK}
theorem pe_callX {S : Addr → Option Sp} (A : ∀ f sp, S f = some sp → ∃ (fd : FuncData) (ps : List Str), FnOk X.prog X.w X.K X.mg X.base CX k f fd ps sp ∧ PySem.W.keepIn X.K (.ref f) = true ∧ Binds X.K fd ps []) (hr : Room j X.A) (hk : k ≤ j) (hx : ∀ σ, PassesAt CX X σ (E σ)) (hf : PE X fe tf) (ha : PA X (e :: es) t)
    (ht : eval (.Call fe (e :: es) [] pos) X.env = (do callWith pos (← eval fe X.env) [] (backTo pos (starEach (e :: es) X.env)) (backToKw pos (keywordEach [] X.env))) := by rfl)
    (he : starEach (e :: es) X.env = (false, eval e X.env) :: starEach es X.env := by rfl) (hpl : (backTo pos (starEach es X.env)).any (·.1) = false := by rfl) : PE X (.Call fe (e :: es) [] pos) (tCallX S E tf t) := by
  refine ⟨fun pins s σ H Q I h => ?_⟩
  refine Call_ (thn (hf.run pins s σ H _ I h) fun u s1 ⟨y, H1, I1, ry, f, sp, ey, hS, q⟩ => ?_) ht
  subst ey
  obtain rfl : u = Value.ref f := ry
  obtain ⟨fd, ps, F, hkp, hb⟩ := A f sp hS
  refine PySem.W.callWith_K (h₀ := X.base) I1.ok.mod.kin hkp (thn (ha.run pos pins s1 σ H1 _ I1 q) fun us s2 ⟨vs, H2, I2, r, q2⟩ => ⟨I2.kIn, ?_⟩) he hpl
  exact run_fnS F (hr.mono hk) hb (hx σ) I2 r q2
end
section
variable {P : Program} {w : World} {K : PySem.W.Frag} {mg : Str → Option Value} {base : Heap} {C Ct : Addr}
theorem sc_law_caught : FnScope ["_law_door", "_law_writing", "_law_caught_here", "error"] ["_law_door", "_law_writing"] (defScope (top 83)) := ⟨rfl, rfl, rfl, by decide +kernel, rfl, by decide +kernel, by decide +kernel⟩
def S2 (f1 f2 : Addr) (s1 s2 : Sp) : Addr → Option Sp := fun f => if f = f1 then some s1 else if f = f2 then some s2 else none
def t_cs (Ct : Addr) : Addr → Value → Option Addr → TS := fun a cls d => tAsg (tXf a cls d Ct "value" (tVar 3)) (gName 2)
def t_law_caught (K : PySem.W.Frag) (C Ct f1 f2 : Addr) : TS :=
  tSeq (tAsg (tC .non) (gName 2)) (tSeq (fun D σ H => tDrop (tCallX (S2 f1 f2 (sp_all_have_rows C Ct) (sp_first_without_row C Ct)) (WE (wAs K (.ref Ct) 3 (t_cs Ct) (fun _ _ _ _ => False) D)) (tOp (rIxL K) (tLst (tCons (tC (.ref f1)) (tCons (tC (.ref f2)) tNil))) (tVar 0)) (tCons (tVar 1) tNil)) D σ H) (tRet (tVar 2)))
theorem d_law_caught {f1 f2 : Addr} {fd1 fd2 : FuncData} (h1 : mg "all_have_rows" = some (.ref f1)) (F1 : FnOk P w K mg base (L2.CX P w) 8 f1 fd1 ["writing"] (sp_all_have_rows C Ct)) (k1 : PySem.W.keepIn K (.ref f1) = true) (b1 : Binds K fd1 ["writing"] [])
    (h2 : mg "first_without_row" = some (.ref f2)) (F2 : FnOk P w K mg base (L2.CX P w) 8 f2 fd2 ["writing"] (sp_first_without_row C Ct)) (k2 : PySem.W.keepIn K (.ref f2) = true) (b2 : Binds K fd2 ["writing"] []) (hT : mg "TooMany" = some (.ref Ct)) (xf : XfC K Ct) (nov : PySem.W.findIn K (.ref Ct) "value" = some none)
    {f : Addr} {cdv : Value} {A : Around} {outer : List Env} {s : Shared} {H : Hp} {E : XK} (hr : Room 8 (A.deeper (envOfC "_law_caught" (defScope (top 83)) s.heap.objs.size f cdv))) :
    PSs (cxOf (L2.CX P w) P w K mg base ["_law_door", "_law_writing", "_law_caught_here", "error"] "_law_caught" (defScope (top 83)) f cdv A outer s H E).nox (defBody (top 83)) (t_law_caught K C Ct f1 f2) :=
    (pss_cons (ps_set (i := 2) sc_law_caught.nd rfl (by first | exact .inl rfl | exact .inr rfl) pe_non)
    (pss_cons (ps_try_as (i := 3) (tb := fun W => tDrop (tCallX (S2 f1 f2 (sp_all_have_rows C Ct) (sp_first_without_row C Ct)) (WE W) (tOp (rIxL K) (tLst (tCons (tC (.ref f1)) (tCons (tC (.ref f2)) tNil))) (tVar 0)) (tCons (tVar 1) tNil))) (ts := t_cs Ct) (Wout := fun _ _ _ _ => False) rfl rfl sc_law_caught.nd rfl rfl ⟨rfl, by decide, Or.inl hT⟩ takes0
      (fun W pn xe tk _ => pss_one (ps_expr (by exact (pe_callX (fun f sp hS => by
          unfold S2 at hS
          split at hS
          · rename_i e; subst e; cases hS; exact ⟨fd1, _, F1, k1, b1⟩
          · split at hS
            · rename_i e; subst e; cases hS; exact ⟨fd2, _, F2, k2, b2⟩
            · cases hS) hr (by decide) (fun σ => passAt tk σ) (pe_ix (ixL K rfl) (pe_lst (pa_cons (pe_glob (by rfl) h1 (by rfl)) (pa_cons (pe_glob (by rfl) h2 (by rfl)) pa_nil))) (pv 0) (fun _ _ => rfl)) (by exact (pa_cons (pv 1) pa_nil))))))
      (fun a oe cls d pn hz hf => pss_one (ps_set (i := 2) sc_law_caught.nd rfl (by first | exact .inl rfl | exact .inr rfl) (by exact (pe_xf xf nov hz hf (pv 3))))))
    (pss_one (ps_ret (pv 2)))))
theorem p_law_caught {f1 f2 : Addr} (te : PySem.W.exmOne K (.ref Ct) (.ref Ct) = some true) (vs : List V) (H : Hp) (Q : VK) (E : XK) (h : sp_law_caught C vs H Q E) : t_law_caught K C Ct f1 f2 (En Q) (start ["_law_door", "_law_writing", "_law_caught_here", "error"] vs) H := by
  obtain ⟨R, ⟨i, x, w, B, rfl, hi, hx, fine, big, rfl⟩, k⟩ := h
  refine q_asgP (P := isV .non) (evp_of_ev ev_c) fun u H1 e1 eu => ?_
  obtain rfl : u = .non := eu
  show tDrop _ _ [some (.int i), some x, some .non, none] H1
  have hl : EvP (tLst (tCons (tC (.ref f1)) (tCons (tC (.ref f2)) tNil))) [some (.int i), some x, some .non, none] H1 fun v H' => ∃ t, v = .ref t ∧ H1 t = none ∧ H' t = some (.lst [.ref f1, .ref f2]) := evp_lst (ea_cons ev_c (ea_cons ev_c ea_nil)) (by show 2 ≤ 100000; decide)
  unfold tDrop tCallX tOp
  refine hl H1 (Ex.refl H1) _ fun v H2 e2 ⟨t, ev, ht0, ht⟩ => ?_
  subst ev
  have hsp : ∀ (sp : Sp), (sp = sp_all_have_rows C Ct ∨ sp = sp_first_without_row C Ct) → ∀ H3, Ex H2 H3 → ∀ (Q' : VK) (E' : XK), (∀ cls d H', Ex H3 H' → TM Ct cls d H' → E' cls d H') → sp [x] H3 Q' E' := fun sp hsp H3 e3 Q' E' kE => by
    have hx3 := hx.ex ((e1.trans e2).trans e3)
    rcases hsp with rfl | rfl
    · exact ⟨x, w, B, rfl, hx3, fine, fun H' F b _ hF hl _ => (big_not big hF hl).elim, fun cls d H' e' _ tm => kE cls d H' e' tm⟩
    · exact ⟨x, w, B, rfl, hx3, fine, fun H' F _ hF hl _ => (big_not big hF hl).elim, fun v' H' F p _ hF hl _ _ _ => (big_not big hF hl).elim, fun cls d H' e' _ tm => kE cls d H' e' tm⟩
  have fin : ∀ (f : Addr) (sp : Sp), S2 f1 f2 (sp_all_have_rows C Ct) (sp_first_without_row C Ct) f = some sp → (sp = sp_all_have_rows C Ct ∨ sp = sp_first_without_row C Ct) := fun f sp h => by
    unfold S2 at h
    split at h
    · cases h; exact .inl rfl
    · split at h
      · cases h; exact .inr rfl
      · cases h
  have s1 : ∃ sp, S2 f1 f2 (sp_all_have_rows C Ct) (sp_first_without_row C Ct) f1 = some sp := ⟨_, if_pos rfl⟩
  have s2 : ∃ sp, S2 f1 f2 (sp_all_have_rows C Ct) (sp_first_without_row C Ct) f2 = some sp := by
    by_cases c : f2 = f1
    · exact ⟨_, if_pos c⟩
    · exact ⟨_, (if_neg c).trans (if_pos rfl)⟩
  have main : ∀ (f : Addr), (∃ sp, S2 f1 f2 (sp_all_have_rows C Ct) (sp_first_without_row C Ct) f = some sp) → ∀ H3, Ex H2 H3 → ∀ Q' : VK, ∃ f' sp, V.ref f = V.ref f' ∧ S2 f1 f2 (sp_all_have_rows C Ct) (sp_first_without_row C Ct) f' = some sp ∧ tCons (tVar 1) tNil [some (.int i), some x, some .non, none] H3 fun vs H2 => sp vs H2 Q' (WE (wAs K (.ref Ct) 3 (t_cs Ct) (fun _ _ _ _ => False) { (En Q) with nx := tRet (tVar 2) (En Q) }) [some (.int i), some x, some .non, none]) := fun f ⟨sp, hS⟩ H3 e3 Q' => by
    refine ⟨f, sp, rfl, hS, x, rfl, ?_⟩
    refine hsp sp (fin f sp hS) H3 e3 _ _ fun cls d H' e' ⟨ec, b, ed, hb⟩ => ?_
    subst ec ed
    refine ⟨true, te, fun _ a ha => ?_, fun h => nomatch h⟩
    refine ⟨.ref a, rfl, rfl, rfl, b, _, .int 601, rfl, hb, rfl, ?_⟩
    exact ⟨.int 601, rfl, k _ H' (((e1.trans e2).trans e3).trans e') rfl⟩
  rcases hi with rfl | rfl
  · exact ⟨.int 0, rfl, t, _, 0, .ref f1, rfl, rfl, sq_of ht, rfl, main f1 s1 H2 (Ex.refl H2) _⟩
  · exact ⟨.int 1, rfl, t, _, 1, .ref f2, rfl, rfl, sq_of ht, rfl, main f2 s2 H2 (Ex.refl H2) _⟩
end
end K13
namespace K13
open PySem PySem.Spec PyProof.Rows L2 Evl
theorem cube_iff {b : Nat} : ∀ {n : Nat} {p : Pt}, p ∈ cubeL n b ↔ p.length = n ∧ ∀ x ∈ p, -(b : Int) ≤ x ∧ x ≤ b
  | 0, p => by
    show p ∈ [[]] ↔ _
    rw [List.mem_singleton]
    constructor
    · rintro rfl
      exact ⟨rfl, fun x h => nomatch h⟩
    · rintro ⟨h, -⟩
      exact List.eq_nil_of_length_eq_zero h
  | n + 1, p => by
    show p ∈ (cubeL n b).flatMap _ ↔ _
    rw [List.mem_flatMap]
    constructor
    · rintro ⟨q, hq, hp⟩
      obtain ⟨j, hj, rfl⟩ := List.mem_map.mp hp
      rw [List.mem_range] at hj
      obtain ⟨h1, h2⟩ := cube_iff.mp hq
      refine ⟨by rw [List.length_append, h1]; rfl, fun x hx => ?_⟩
      rcases List.mem_append.mp hx with h | h
      · exact h2 x h
      · rw [List.mem_singleton.mp h]
        omega
    · rintro ⟨h1, h2⟩
      have hne : p ≠ [] := fun h => by rw [h] at h1; cases h1
      have hx := h2 (p.getLast hne) (List.getLast_mem hne)
      refine ⟨p.dropLast, cube_iff.mpr ⟨by rw [List.length_dropLast, h1]; rfl, fun x h => h2 x (List.dropLast_subset p h)⟩, List.mem_map.mpr ⟨(p.getLast hne + b).toNat, List.mem_range.mpr (by omega), ?_⟩⟩
      rw [show (((p.getLast hne + b).toNat : Nat) : Int) - b = p.getLast hne by omega]
      exact List.dropLast_concat_getLast hne
theorem split_unique {α : Type} {P : α → Prop} : ∀ {l1 r1 l2 r2 : List α} {a b : α}, l1 ++ a :: r1 = l2 ++ b :: r2 → (∀ x ∈ l1, P x) → (∀ x ∈ l2, P x) → ¬ P a → ¬ P b → a = b
  | [], _, [], _, _, _, h, _, _, _, _ => (List.cons.inj h).1
  | [], _, c :: l2, _, a, _, h, _, h2, ha, _ => by
    have := (List.cons.inj h).1
    exact absurd (h2 c (List.mem_cons_self ..)) (this ▸ ha)
  | c :: l1, _, [], _, _, b, h, h1, _, _, hb => by
    have := (List.cons.inj h).1
    exact absurd (h1 c (List.mem_cons_self ..)) (this ▸ hb)
  | _ :: l1, _, _ :: l2, _, _, _, h, h1, h2, ha, hb => split_unique (l1 := l1) (l2 := l2) (List.cons.inj h).2 (fun x q => h1 x (List.mem_cons_of_mem _ q)) (fun x q => h2 x (List.mem_cons_of_mem _ q)) ha hb
theorem cube_zero {n : Nat} {p : Pt} (h : p ∈ cubeL n 0) : p = zeroP n := by
  obtain ⟨h1, h2⟩ := cube_iff.mp h
  exact List.eq_replicate_iff.mpr ⟨h1, fun x hx => by have := h2 x hx; omega⟩
theorem Way.First.pos {w : Way} (ok : w.Ok) {p : Pt} {b : Nat} (h1 : ¬ w.Row p) (h2 : p ∈ cubeL w.n b) : 0 < b := by
  rcases Nat.eq_zero_or_pos b with rfl | h
  · rw [cube_zero h2] at h1
    exact absurd ok.zero_row h1
  · exact h
theorem first_unique {w : Way} (ok : w.Ok) {p q : Pt} (hp : w.First p) (hq : w.First q) : p = q := by
  obtain ⟨b, h1, ⟨l, r, h2, h3⟩, h4⟩ := hp
  obtain ⟨c, g1, ⟨l', r', g2, g3⟩, g4⟩ := hq
  have hpm : p ∈ cubeL w.n b := by rw [h2]; simp
  have hqm : q ∈ cubeL w.n c := by rw [g2]; simp
  have hb := Way.First.pos ok h1 hpm
  have hc := Way.First.pos ok g1 hqm
  rcases Nat.lt_trichotomy b c with h | h | h
  · exact absurd (g4 b hb h p hpm) h1
  · subst h
    exact split_unique (h2 ▸ g2) h3 g3 h1 g1
  · exact absurd (h4 c hc h q hqm) g1
end K13
namespace K13
open PySem PySem.Spec PyProof.Rows L2 Evl
theorem absI_bd (x : Int) : -absI x ≤ x ∧ x ≤ absI x ∧ 0 ≤ absI x := by
  unfold absI
  split <;> omega
def gr (p : Pt) : Int := maxL (p.map absI)
theorem maxL_ge : ∀ {ns : List Int} {x : Int}, x ∈ ns → x ≤ maxL ns := fun {ns x} h => by
  have : ∀ (ns : List Int), ns ≠ [] → ∃ m, m ∈ ns ∧ ∀ y ∈ ns, y ≤ m := fun ns => by
    induction ns with
    | nil => intro h; exact absurd rfl h
    | cons a t ih =>
      intro _
      by_cases ht : t = []
      · exact ⟨a, by simp, fun y hy => by rw [ht, List.mem_singleton] at hy; omega⟩
      · obtain ⟨m, hm, hy⟩ := ih ht
        by_cases ha : a ≤ m
        · exact ⟨m, List.mem_cons_of_mem _ hm, fun y q => by rcases List.mem_cons.mp q with rfl | q; exact ha; exact hy y q⟩
        · exact ⟨a, List.mem_cons_self .., fun y q => by rcases List.mem_cons.mp q with rfl | q; exact Int.le_refl _; have := hy y q; omega⟩
  obtain ⟨m, hm, hy⟩ := this ns (fun z => by rw [z] at h; cases h)
  rw [← max_eq hm hy]
  exact hy x h
theorem maxL_mem {ns : List Int} (h : ns ≠ []) : maxL ns ∈ ns := by
  have : ∀ (ns : List Int), ns ≠ [] → ∃ m, m ∈ ns ∧ ∀ y ∈ ns, y ≤ m := fun ns => by
    induction ns with
    | nil => intro h; exact absurd rfl h
    | cons a t ih =>
      intro _
      by_cases ht : t = []
      · exact ⟨a, by simp, fun y hy => by rw [ht, List.mem_singleton] at hy; omega⟩
      · obtain ⟨m, hm, hy⟩ := ih ht
        by_cases ha : a ≤ m
        · exact ⟨m, List.mem_cons_of_mem _ hm, fun y q => by rcases List.mem_cons.mp q with rfl | q; exact ha; exact hy y q⟩
        · exact ⟨a, List.mem_cons_self .., fun y q => by rcases List.mem_cons.mp q with rfl | q; exact Int.le_refl _; have := hy y q; omega⟩
  obtain ⟨m, hm, hy⟩ := this ns h
  rw [← max_eq hm hy]
  exact hm
theorem gr_cube {n : Nat} {p : Pt} (h0 : 0 < n) (hl : p.length = n) (b : Nat) : p ∈ cubeL n b ↔ gr p ≤ b := by
  rw [cube_iff]
  constructor
  · rintro ⟨_, h⟩
    have hne : p.map absI ≠ [] := fun z => by
      have := congrArg List.length z
      rw [List.length_map, hl] at this
      simp at this
      omega
    obtain ⟨x, hx, e⟩ := List.mem_map.mp (maxL_mem hne)
    unfold gr
    rw [← e]
    have := h x hx
    unfold absI
    split <;> omega
  · intro h
    refine ⟨hl, fun x hx => ?_⟩
    have := maxL_ge (List.mem_map.mpr ⟨x, hx, rfl⟩ : absI x ∈ p.map absI)
    unfold gr at h
    have := absI_bd x
    omega
theorem gr_nonneg {n : Nat} {p : Pt} (h0 : 0 < n) (hl : p.length = n) : 0 ≤ gr p := by
  match p, hl with
  | [], h => simp at h; omega
  | x :: t, _ =>
    have := maxL_ge (List.mem_map.mpr ⟨x, List.mem_cons_self .., rfl⟩ : absI x ∈ (x :: t).map absI)
    unfold gr
    have := absI_bd x
    omega
/-- what First says, with its shell -/
theorem First.out {w : Way} (ok : w.Ok) {p : Pt} (h : w.First p) : ∃ b : Nat, 0 < b ∧ p.length = w.n ∧ gr p = b ∧ ¬ w.Row p ∧ (∃ l r, cubeL w.n b = l ++ p :: r ∧ ∀ q ∈ l, w.Row q) ∧ (∀ c, 0 < c → c < b → ∀ q ∈ cubeL w.n c, w.Row q) := by
  obtain ⟨b, h1, h2, h4⟩ := h
  have hpm : p ∈ cubeL w.n b := by
    obtain ⟨l, r, e, -⟩ := h2
    rw [e]
    simp
  have hl := cubeL_mem hpm
  have n0 : 0 < w.n := ok.n3.1
  have hb := Way.First.pos ok h1 hpm
  refine ⟨b, hb, hl, ?_, h1, h2, h4⟩
  have hle := (gr_cube n0 hl b).mp hpm
  have h0 := gr_nonneg n0 hl
  apply Classical.byContradiction
  intro hne
  have hc : p ∈ cubeL w.n (gr p).toNat := (gr_cube n0 hl _).mpr (by omega)
  have hcp := Way.First.pos ok h1 hc
  exact h1 (h4 _ hcp (by omega) p hc)
end K13
namespace K13
open PySem PySem.Spec PyProof.Rows L2 Evl
section
variable {K : PySem.W.Frag} {σ : L2.St} {H : Hp} {C Ct : Addr} {te ta : TE}
theorem ev_gr {i : Nat} {u : V} {p : Pt} {n : Nat} (hi : σ[i]? = some (some u)) (hp : PtV H u p) (hl : p.length = n) (h0 : 0 < n) (h3 : n ≤ 3) : Ev (tCall sp_law_greatest [] E0 (tCons (tVar i) tNil)) σ H (.int (gr p)) :=
  ev_callV (ea_cons (ev_var hi) ea_nil) (spp_use fun H1 e => ⟨u, p, rfl, hp.ex e, by omega, by omega, rfl⟩)
theorem evp_minL {ns : List Int} (h : EvL te σ H (ns.map V.int)) (h0 : 0 < ns.length) : EvP (tCB (rMin K) (tCons te tNil)) σ H fun v _ => ∃ m ∈ ns, v = .int m := fun H1 e Q q => h H1 e _ fun p H2 _ e2 hp => ⟨p, ns, rfl, sq_of hp, h0, fun m hm hy => q _ H2 e2 ⟨m, hm, rfl⟩⟩
open Classical in
theorem p_law_first_right (vs : List V) (H : Hp) (Q : VK) (E : XK) (h : sp_law_first_right C vs H Q E) : t_law_first_right K C Ct (En Q) (start ["_law_writing", "_law_way_here", "_law_rowless", "_law_least", "_law_most", "_law_told", "_law_size", "_law_point"] vs) H := by
  obtain ⟨R, ⟨x, a, br, w, B, F, rs, rfl, hx, hw, hrs, fine, near, hF, hFl, hmem, hne, hrsl, rfl⟩, k⟩ := h
  have ok := fine.ok
  have n3 := ok.n3
  have hex : ∃ q ∈ F, ¬ w.Row q := by
    cases rs with
    | nil => exact absurd rfl hne
    | cons p t => exact ⟨p, (hmem p).mp (List.mem_cons_self ..)⟩
  have hlen : ∀ {σ' : L2.St} {H' : Hp}, σ'[1]? = some (some a) → Ex H H' → Ev (tCB (rLenS K) (tCons (tOp (rIxL K) (tVar 1) (tC (.int 0))) tNil)) σ' H' (.int (w.n : Int)) := fun {σ' H'} hσ e => by
    obtain ⟨a, x0, x1, x2, d, rfl, h1, ⟨a0, as0, rfl, h2, h2'⟩, -⟩ := hw.ex e
    exact ev_is (ev_lenT (ev_ixK (i := 0) (ev_var hσ) ev_c h1 rfl) h2) (by rw [List.length_map, h2'.len, ok.mok.1.1])
  refine q_par (Pa := fun v H' => ∃ p, w.First p ∧ PtV H' v p) (Pb := isV (.int w.n)) (evp_callA (ea_cons (ev_var rfl) ea_nil) (spp_first hx fine hF hFl hex)) (fun _ H1 e1 _ => evp_of_ev (hlen rfl e1)) fun t s H1 H2 e1 ⟨p, hp, ht⟩ e2 es => ?_
  obtain rfl : s = .int w.n := es
  obtain ⟨b, hb0, hpl, hgb, hpr, ⟨l, r, hlr, hlrow⟩, hmin⟩ := First.out ok hp
  have hpb : p ∈ cubeL w.n b := by rw [hlr]; simp
  -- no rowless point lies in a lesser cube
  have hleast : ∀ q : Pt, q.length = w.n → ¬ w.Row q → (b : Int) ≤ gr q := fun q hql hq => by
    apply Classical.byContradiction
    intro hlt
    have h0 := gr_nonneg n3.1 hql
    have hc : q ∈ cubeL w.n (gr q).toNat := (gr_cube n3.1 hql _).mpr (by omega)
    exact hq (hmin _ (Way.First.pos ok hq hc) (by omega) q hc)
  have hbB : b ≤ B := by
    obtain ⟨q, hq, hqr⟩ := hex
    obtain ⟨hql, b', _, hb', hqb⟩ := fine.near F hF q hq
    have := hleast q hql hqr
    have := (gr_cube n3.1 hql b').mp hqb
    omega
  have e12 := e1.trans e2
  have ht2 := ht.ex e2
  have hx2 := hx.ex e12
  have hw2 := hw.ex e12
  have hrs2 := hrs.ex e12
  have again : ∀ {σ' : L2.St} {H' : Hp}, σ'[0]? = some (some x) → σ'[5]? = some (some t) → Ex H2 H' → Ev (tOp (rEqD K) (tCall (sp_first_without_row C Ct) [] E0 (tCons (tVar 0) tNil)) (tVar 5)) σ' H' (.bl true) := fun h0 h5 e => fun H3 e3 Q q =>
    evp_callA (ea_cons (ev_var h0) ea_nil) (spp_first (hx2.ex (e.trans e3)) fine hF hFl hex) H3 (Ex.refl H3) _ fun v H4 e4 ⟨p', hp', hv⟩ => by
      have : p' = p := first_unique ok hp' hp
      subst this
      have := ev_eqP (K := K) (ta := tC v) (tb := tVar 5) (σ := _) (H := H4) (p := p') (q := p') (EvP.of ev_c fun H5 e5 => hv.ex e5) (fun H5 e5 => evp_varPt h5 ((ht2.ex (e.trans (e3.trans e4))).ex e5)) H4 (Ex.refl H4) Q fun H5 e5 => by
        rw [decide_eq_true rfl]
        exact q H5 (e4.trans e5)
      exact this
  refine q_when (b := false) (et_or (a := false) (b := false) (et_not (a := true) (et_B (ev_isi (T := "tuple") (b := true) (ev_var rfl) (fun H6 e6 => by
    obtain ⟨ta, rfl, hta⟩ := ht2.ex e6
    exact .base (.tup hta)) (by decide +kernel)))) fun _ => et_or (a := false) (b := false) (et_is (et_test (ev_op (ev_is (by
      obtain ⟨ta, rfl, hta⟩ := ht2
      exact ev_lenT (ev_var rfl) hta) (by rw [List.length_map, hpl])) (ev_var rfl) (rv_ne rfl))) (by simp)) fun _ => et_test ?_) (fun h => by cases h) (fun _ H3 e3 => ?_)
  · refine evp_notN (P := fun v _ => (v = .non ∧ ¬ w.Row p) ∨ ((∃ a, v = .ref a) ∧ w.Row p)) (evp_callA (ea_cons (ev_var rfl) (ea_cons (ev_var rfl) ea_nil)) (spp_use fun H1 e => ⟨a, t, w, p, rfl, hw2.ex e, ok, ht2.ex e, hpl, near b (.inl hbB) p hpb, rfl⟩)) fun v H' h => by
      rcases h with ⟨rfl, h⟩ | ⟨_, h⟩
      · rfl
      · exact absurd h hpr
  have hmn : EvP (tCB (rMin K) (tCons (tLc (iList K (tVar 2)) (gName 7) tYes (tCall sp_law_greatest [] E0 (tCons (tVar 7) tNil)) [7]) tNil)) [some x, some a, some br, none, none, some t, some (.int (w.n : Int)), none] H3 fun v _ => ∃ m ∈ rs.map gr, v = .int m := by
    obtain ⟨ra, ras, rfl, hra, hras⟩ := hrs2.ex e3
    have hi := evi_list (K := K) (σ := [some x, some a, some (.ref ra), none, none, some t, some (.int (w.n : Int)), none]) (H := H3) (tl := tVar 2) (ev_var rfl) (sq_of hra)
    rw [List.length_map, hras.len] at hi
    refine evp_minL ?_ (by rw [List.length_map]; exact List.length_pos_iff.mpr hne)
    rw [map_range rs [], List.map_map]
    refine evp_lcV hi _ (by rw [sizeLine_eq]; omega) fun i y H4 hin e4 hy => ?_
    rw [List.getElem?_map] at hy
    cases ea : ras[i]? with
    | none => rw [ea] at hy; cases hy
    | some c =>
      rw [ea] at hy
      obtain rfl : V.ref c = y := Option.some.inj hy
      obtain ⟨q, hq, hc⟩ := hras.get ea
      rw [Function.comp, getD_of hq]
      have hql := (fine.near F hF q ((hmem q).mp (List.mem_of_getElem? hq)).1).1
      exact ⟨_, fun Q q => q, rfl, ev_gr rfl ⟨c, rfl, e4 _ _ hc⟩ hql n3.1 n3.2⟩
  refine q_asgP hmn fun v H4 e4 ⟨m, hm, ev⟩ => ?_
  subst ev
  have hbm : (b : Int) ≤ m := by
    obtain ⟨q, hq, rfl⟩ := List.mem_map.mp hm
    have := (hmem q).mp hq
    exact hleast q (fine.near F hF q this.1).1 this.2
  have e24 := e3.trans e4
  refine q_when (b := false) (et_is (et_test (ev_op (ev_gr rfl (ht2.ex e24) hpl n3.1 n3.2) (ev_var rfl) rv_I0)) (by rw [hgb]; simp; omega)) (fun h => by cases h) (fun _ H5 e5 => ?_)
  have e25 := e24.trans e5
  -- the shells
  have hlim : ∀ {σ' : L2.St} {H' : Hp}, σ'[6]? = some (some (.int (w.n : Int))) → Ev (tIf (tTest (tOp (rI0 fun i j => .bl (decide (i < j))) (tVar 6) (tC (.int 3)))) (tC (.int 6)) (tC (.int 3))) σ' H' (.int ((if w.n < 3 then 6 else 3 : Nat) : Int)) := fun h6 => by
    refine ev_if (b := decide ((w.n : Int) < 3)) (et_test (ev_op (ev_var h6) ev_c rv_I0)) (fun hb => ?_) fun hb => ?_
    · have := of_decide_eq_true hb
      rw [if_pos (by omega)]
      exact ev_c
    · have := of_decide_eq_false hb
      rw [if_neg (by omega)]
      exact ev_c
  generalize hL : (if w.n < 3 then 6 else 3 : Nat) = L at hlim
  have hL6 : L ≤ 6 := by rw [← hL]; split <;> omega
  have hLn : ∀ c, c ≤ L → (2 * c + 1) ^ w.n ≤ 90000 := fun c hc => by
    refine Nat.le_trans (Nat.pow_le_pow_left (show 2 * c + 1 ≤ 13 by omega) w.n) (Nat.le_trans (Nat.pow_le_pow_right (by decide) n3.2) (by decide))
  have hmin2 : Ev (tOp (rI0 fun i j => .int (i + j)) (tCB rMin2' (tCons (tCall sp_law_greatest [] E0 (tCons (tVar 5) tNil)) (tCons (tIf (tTest (tOp (rI0 fun i j => .bl (decide (i < j))) (tVar 6) (tC (.int 3)))) (tC (.int 6)) (tC (.int 3))) tNil))) (tC (.int 1))) [some x, some a, some br, some (.int m), none, some t, some (.int (w.n : Int)), none] H5 (.int (((min b L + 1 : Nat)) : Int)) :=
    ev_is (ev_op (ev_min2' (ev_gr rfl (ht2.ex e25) hpl n3.1 n3.2) (hlim rfl)) ev_c rv_I0) (by
      rw [hgb]
      show V.int _ = V.int _
      congr 1
      split <;> omega)
  have hi := evf_rng2 (mu := []) (σ := [some x, some a, some br, some (.int m), none, some t, some (.int (w.n : Int)), none]) (H := H5) (ta := tC (.int 1)) (lo := 1) (n := ((min b L + 1 : Nat) : Int)) ev_c hmin2 (by omega) (by decide)
  have exk : ∀ {H' H'' : Hp}, Kp [] H' H'' → Ex H' H'' := fun k a o h => k.1 a o (fun z => nomatch z) h
  refine q_forF hi (fun i σ' H' => i < b ∧ ∃ c4 c7, σ' = [some x, some a, some br, some (.int m), c4, some t, some (.int (w.n : Int)), c7]) (fun i σ' H' H'' e q => q) ⟨hb0, _, _, rfl⟩ (fun B' i y σ' H6 hin eB kp ⟨hib, c4, c7, es⟩ hy => ?_) fun σ' H6 kp ⟨hib, c4, c7, es⟩ => ?_
  · subst es hy
    have hiL : i + 1 ≤ L ∧ i + 1 ≤ b := by omega
    have e26 : Ex H2 H6 := (e25.trans eB).trans (exk kp)
    rw [show (1 : Int) + (i : Int) = ((i + 1 : Nat) : Int) by omega]
    generalize i + 1 = c at hiL
    show tFor _ _ _ _ [some x, some a, some br, some (.int m), some (.int (c : Int)), some t, some (.int (w.n : Int)), c7] H6
    have hsh : EvP (tCall sp_law_shell [] E0 (tCons (tVar 6) (tCons (tVar 4) tNil))) [some x, some a, some br, some (.int m), some (.int (c : Int)), some t, some (.int (w.n : Int)), c7] H6 fun u H' => ∃ l, u = .ref l ∧ H6 l = none ∧ LA H' l (cubeL w.n c) := fun H0 e0 Q q =>
      evp_callA (P := fun u H' => ∃ l, u = .ref l ∧ H6 l = none ∧ LA H' l (cubeL w.n c)) (ea_cons (ev_var rfl) (ea_cons (ev_var rfl) ea_nil)) (fun H3 e3 Q q E => ⟨_, ⟨w.n, c, rfl, n3.2, hLn c hiL.1, by omega, rfl⟩, fun u H' e' ⟨l, eu, hl0, hh⟩ => q u H' e' ⟨l, eu, fresh_back e3 hl0, hh⟩⟩) H0 e0 Q q
    have hi2 := evf_listPts (K := K) (mu := []) (fun b hb => nomatch hb) hsh
    refine s_forF hi2 (fun j σ' H' => (∀ q ∈ (cubeL w.n c).take j, w.Row q) ∧ ∃ c7, σ' = [some x, some a, some br, some (.int m), some (.int (c : Int)), some t, some (.int (w.n : Int)), c7]) (fun i σ' H' H'' e q => q) ⟨(fun q h => by rw [List.take_zero] at h; cases h), _, rfl⟩ (fun B2 j y σ' H7 hj eB2 kp2 ⟨htk, c7, es⟩ ⟨q, hq, hyq⟩ => ?_) fun σ' H7 kp2 ⟨htk, c7, es⟩ => ?_
    · subst es
      have e27 : Ex H2 H7 := (e26.trans eB2).trans (exk kp2)
      have hqm := List.mem_of_getElem? hq
      have hql := cubeL_mem hqm
      have hper : w.Per q := near c (.inr (by rw [hL]; exact hiL.1)) q hqm
      show tIfS _ _ _ _ [some x, some a, some br, some (.int m), some (.int (c : Int)), some t, some (.int (w.n : Int)), some y] H7
      refine s_when (b := decide (V.int (gr q) = V.int (c : Int)) && !decide (w.Row q)) (et_and (et_test (ev_op (ev_gr rfl hyq hql n3.1 n3.2) (ev_var rfl) (rv_eq rfl))) fun _ => et_test (ev_rowN rfl rfl (hw2.ex e27) ok hyq hql hper)) (fun hb H8 e8 => ?_) fun hb H8 e8 => ?_
      · rw [Bool.and_eq_true] at hb
        have hqr : ¬ w.Row q := fun z => by
          have := hb.2
          rw [decide_eq_true z] at this
          cases this
        have hcb : c = b := by
          have := hleast q hql hqr
          have := (gr_cube n3.1 hql c).mp hqm
          omega
        have hqp : q = p := by
          have h1 := take_drop_at hq
          rw [hcb] at h1 htk
          exact split_unique (P := w.Row) (h1.symm.trans hlr) htk hlrow hqr hpr
        subst hqp
        refine s_ret (v := .bl true) (ev_andV (a := true) (b := true) (ev_is (ev_eqP (p := q) (q := q) (evp_varPt rfl (hyq.ex e8)) fun H9 e9 => evp_varPt rfl (ht2.ex (e27.trans (e8.trans e9)))) (by rw [decide_eq_true rfl])) fun _ => again rfl rfl (e27.trans e8)) fun H9 e9 => k _ H9 (e12.trans ((e27.trans e8).trans e9)) rfl
      · refine ⟨⟨fun z hz => ?_, _, rfl⟩, kp2.trans (Kp.ex e8)⟩
        rw [List.take_succ, hq] at hz
        rcases List.mem_append.mp hz with h | h
        · exact htk z h
        · obtain rfl : z = q := by simpa using h
          apply Classical.byContradiction
          intro hzr
          have hcb : gr z = c := by
            have := hleast z hql hzr
            have := (gr_cube n3.1 hql c).mp hqm
            omega
          rw [hcb, decide_eq_true rfl, decide_eq_false hzr] at hb
          cases hb
    · subst es
      rw [List.take_length] at htk
      refine ⟨⟨?_, _, _, rfl⟩, kp.trans kp2⟩
      have : c ≠ b := fun z => by
        subst z
        exact hpr (htk p hpb)
      omega
  · subst es
    have hbL : L < b := by omega
    refine s_ret (v := .bl true) (ev_andV (a := true) (b := true) (ev_is (ev_op (ev_gr rfl (ht2.ex (e25.trans (exk kp))) hpl n3.1 n3.2) (hlim rfl) rv_I0) (by rw [hgb, decide_eq_true (by omega)])) fun _ => again rfl rfl (e25.trans (exk kp))) fun H9 e9 => k _ H9 (e12.trans ((e25.trans (exk kp)).trans e9)) rfl
end
end K13
namespace K13
/-! ## What the check tells: keys -/
theorem fdot_eq : ∀ r p : Pt, fdot r p = dotI r p
  | [], p => by unfold fdot dotI; rfl
  | _ :: _, [] => by unfold fdot dotI; rfl
  | a :: r, b :: p => by
    have := fdot_eq r p
    show Int.add (Int.mul a b) (fdot r p) = _
    rw [this]
    rfl
theorem kmod_eq {x : Int} {k : Nat} (h : 0 < k) : (kmod x k : Int) = x % k := by
  unfold kmod
  split
  · rfl
  · rename_i n
    show ((k - (n % k + 1) : Nat) : Int) = Int.emod (.negSucc n) k
    have := Nat.mod_lt n h
    show _ = Int.subNatNat (Int.natAbs k) (Nat.succ (n % Int.natAbs k))
    rw [Int.subNatNat_eq_coe, Int.natAbs_natCast]
    omega
theorem fmod_iff {x y D : Int} : x.fmod D = y.fmod D ↔ D ∣ x - y := by
  constructor
  · intro h
    have h1 := Int.fmod_add_mul_fdiv x D
    have h2 := Int.fmod_add_mul_fdiv y D
    exact ⟨x.fdiv D - y.fdiv D, by rw [Int.mul_sub]; omega⟩
  · rintro ⟨c, h⟩
    have : x = y + D * c := by omega
    rw [this, Int.add_mul_fmod_self_left]
theorem kmod_iff {x y D : Int} (hD : D ≠ 0) : kmod x D.natAbs = kmod y D.natAbs ↔ D ∣ x - y := by
  have hk : 0 < D.natAbs := by omega
  have h1 := kmod_eq (x := x) hk
  have h2 := kmod_eq (x := y) hk
  rw [← Int.natAbs_dvd, Int.dvd_iff_emod_eq_zero, ← Int.emod_eq_emod_iff_emod_sub_eq_zero]
  omega
theorem key_iff {A : Mx} {D : Int} (hD : D ≠ 0) {p q : Pt} : restsP (movM A p) D = restsP (movM A q) D ↔ ∀ r ∈ A, D ∣ dotI r p - dotI r q := by
  unfold restsP movM
  rw [List.map_map, List.map_map, List.map_inj_left]
  exact ⟨fun h r hr => fmod_iff.mp (h r hr), fun h r hr => fmod_iff.mpr (h r hr)⟩
theorem keyN_iff {A : Mx} {D : Int} (hD : D ≠ 0) {p q : Pt} : keyN A D.natAbs p = keyN A D.natAbs q ↔ ∀ r ∈ A, D ∣ dotI r p - dotI r q := by
  unfold keyN
  rw [List.map_inj_left]
  exact ⟨fun h r hr => by have := (kmod_iff hD).mp (h r hr); rwa [fdot_eq, fdot_eq] at this, fun h r hr => (kmod_iff hD).mpr (by rw [fdot_eq, fdot_eq]; exact h r hr)⟩
theorem eqN_iff : ∀ {a b : List Nat}, eqN a b = true ↔ a = b
  | [], [] => by unfold eqN; simp
  | [], _ :: _ => by unfold eqN; simp
  | _ :: _, [] => by unfold eqN; simp
  | a :: l, b :: r => by
    unfold eqN
    rw [Bool.and_eq_true, eqN_iff, Nat.beq_eq, List.cons.injEq]
theorem memN_iff {q : List Nat} : ∀ {ks : List (List Nat)}, memN q ks = true ↔ q ∈ ks
  | [] => by unfold memN; simp
  | a :: l => by
    unfold memN
    rw [Bool.or_eq_true, eqN_iff, memN_iff, List.mem_cons]
theorem fold_full {m : Mx} {k : Nat} : ∀ {ps F : List Pt}, ¬ F.length < k → ps.foldl (leastS m k) F = F
  | [], _, _ => rfl
  | p :: ps, F, h => by
    rw [List.foldl_cons]
    have : leastS m k F p = F := by
      unfold leastS
      rw [if_neg fun z => h z.1]
    rw [this]
    exact fold_full h
theorem leastF_out {m : Mx} {k : Nat} (hD : detM m ≠ 0) (hk : (detM m).natAbs = k) : ∀ (c : Nat) (ps F : List Pt) (ks : List (List Nat)), ks = F.map (keyN (adjM m) k) → F.length + c = k →
    (leastF (adjM m) k c ps F ks).2 = (leastF (adjM m) k c ps F ks).1.map (keyN (adjM m) k) ∧ ps.foldl (leastS m k) F.reverse = (leastF (adjM m) k c ps F ks).1.reverse
  | 0, ps, F, ks, h1, h2 => by
    cases ps with
    | nil => unfold leastF; exact ⟨h1, rfl⟩
    | cons p ps =>
      unfold leastF
      exact ⟨h1, fold_full (by rw [List.length_reverse]; omega)⟩
  | c + 1, [], F, ks, h1, h2 => by unfold leastF; exact ⟨h1, rfl⟩
  | c + 1, p :: ps, F, ks, h1, h2 => by
    have hmem : memN (keyN (adjM m) k p) ks = true ↔ keyM m p ∈ (F.reverse).map (keyM m) := by
      rw [memN_iff, h1, List.map_reverse, List.mem_reverse, List.mem_map, List.mem_map]
      constructor
      · rintro ⟨f, hf, e⟩
        exact ⟨f, hf, (key_iff hD).mpr ((keyN_iff hD).mp (hk ▸ e))⟩
      · rintro ⟨f, hf, e⟩
        exact ⟨f, hf, hk ▸ (keyN_iff hD).mpr ((key_iff hD).mp e)⟩
    unfold leastF
    rw [List.foldl_cons]
    cases hc : memN (keyN (adjM m) k p) ks with
    | true =>
      have : leastS m k F.reverse p = F.reverse := by
        unfold leastS
        rw [if_neg fun z => z.2 (hmem.mp hc)]
      rw [this]
      exact leastF_out hD hk (c + 1) ps F ks h1 h2
    | false =>
      have : leastS m k F.reverse p = (p :: F).reverse := by
        unfold leastS
        rw [if_pos ⟨by rw [List.length_reverse]; omega, fun z => by have := hmem.mpr z; rw [hc] at this; cases this⟩, List.reverse_cons]
      rw [this]
      exact leastF_out hD hk c ps (p :: F) _ (by rw [List.map_cons, h1]) (by rw [List.length_cons]; omega)
theorem len_two {α : Type} : ∀ {l : List α}, l.length = 2 → ∃ a b, l = [a, b]
  | [a, b], _ => ⟨a, b, rfl⟩
theorem len_three {α : Type} : ∀ {l : List α}, l.length = 3 → ∃ a b c, l = [a, b, c]
  | [a, b, c], _ => ⟨a, b, c, rfl⟩
/-! all keys are met -/
theorem getD_nil_dot (p : Pt) : dotI [] p = 0 := by unfold dotI; simp
theorem nxtN_eq {k j : Nat} {p q : Pt} (hk : 0 < k) : ∀ {A : Mx}, (∀ r ∈ A, dotI r q = dotI r p + r.getD j 0) → nxtN k j A (keyN A k p) = keyN A k q
  | [], _ => rfl
  | r :: A, h => by
    have ih := nxtN_eq hk (A := A) fun r hr => h r (List.mem_cons_of_mem _ hr)
    show kmod (Int.add (Int.ofNat (kmod (fdot r p) k)) (r.getD j 0)) k :: nxtN k j A (keyN A k p) = kmod (fdot r q) k :: keyN A k q
    rw [ih]
    congr 1
    have h1 := h r (List.mem_cons_self ..)
    rw [fdot_eq, fdot_eq, h1]
    have e1 := kmod_eq (x := Int.add (Int.ofNat (kmod (dotI r p) k)) (r.getD j 0)) hk
    have e2 := kmod_eq (x := dotI r p + r.getD j 0) hk
    have e3 := kmod_eq (x := dotI r p) hk
    have e4 : Int.add (Int.ofNat (kmod (dotI r p) k)) (r.getD j 0) = (dotI r p % k) + r.getD j 0 := by rw [← e3]; rfl
    rw [e4, Int.emod_add_emod, ← e2] at e1
    rw [e4]
    omega
section
variable {n : Nat} {A : Mx} {D : Int} {ks : List (List Nat)}
theorem key_step (hD : D ≠ 0) (hc : ∀ j, j < n → clsK A D.natAbs ks j = true) {p q : Pt} {j : Nat} (hj : j < n) (h : ∀ r ∈ A, dotI r q = dotI r p + r.getD j 0) (hp : keyN A D.natAbs p ∈ ks) : keyN A D.natAbs q ∈ ks := by
  have h1 := hc j hj
  unfold clsK at h1
  have h2 := memN_iff.mp (List.all_eq_true.mp h1 _ hp)
  rwa [nxtN_eq (by omega) h] at h2
theorem key_all (hD : D ≠ 0) (hn : n ≤ 3) (hA : ∀ r ∈ A, r.length = n) (hc : ∀ j, j < n → clsK A D.natAbs ks j = true) (h0 : keyN A D.natAbs (zeroP n) ∈ ks) (p : Pt) (hp : p.length = n) : keyN A D.natAbs p ∈ ks := by
  have low : ∀ q : Pt, q.length = n → (∀ x ∈ q, 0 ≤ x) → keyN A D.natAbs q ∈ ks := by
    match n, hn, hA, hc, h0 with
    | 0, _, hA, hc, h0 => intro q hq _; rw [List.length_eq_zero_iff.mp hq]; exact h0
    | 1, _, hA, hc, h0 =>
      have k1 : ∀ x : Nat, keyN A D.natAbs [(x : Int)] ∈ ks := fun x => by
        induction x with
        | zero => exact h0
        | succ x ih =>
          refine key_step hD hc (j := 0) (by decide) (fun r hr => ?_) ih
          obtain ⟨a, rfl⟩ := List.length_eq_one_iff.mp (hA r hr)
          show a * ((x + 1 : Nat) : Int) + 0 = (a * (x : Int) + 0) + a
          grind
      intro q hq h
      obtain ⟨a, rfl⟩ := List.length_eq_one_iff.mp hq
      have := k1 a.toNat
      rwa [Int.toNat_of_nonneg (h a (by simp))] at this
    | 2, _, hA, hc, h0 =>
      have hr2 : ∀ r ∈ A, ∃ a b, r = [a, b] := fun r hr => len_two (hA r hr)
      have k1 : ∀ x : Nat, keyN A D.natAbs [(x : Int), 0] ∈ ks := fun x => by
        induction x with
        | zero => exact h0
        | succ x ih =>
          refine key_step hD hc (j := 0) (by decide) (fun r hr => ?_) ih
          obtain ⟨a, b, rfl⟩ := hr2 r hr
          show a * ((x + 1 : Nat) : Int) + (b * 0 + 0) = (a * (x : Int) + (b * 0 + 0)) + a
          grind
      have k2 : ∀ x y : Nat, keyN A D.natAbs [(x : Int), (y : Int)] ∈ ks := fun x y => by
        induction y with
        | zero => exact k1 x
        | succ y ih =>
          refine key_step hD hc (j := 1) (by decide) (fun r hr => ?_) ih
          obtain ⟨a, b, rfl⟩ := hr2 r hr
          show a * (x : Int) + (b * ((y + 1 : Nat) : Int) + 0) = (a * (x : Int) + (b * (y : Int) + 0)) + b
          grind
      intro q hq h
      obtain ⟨a, b, rfl⟩ := len_two hq
      have := k2 a.toNat b.toNat
      rwa [Int.toNat_of_nonneg (h a (by simp)), Int.toNat_of_nonneg (h b (by simp))] at this
    | 3, _, hA, hc, h0 =>
      have hr2 : ∀ r ∈ A, ∃ a b c, r = [a, b, c] := fun r hr => len_three (hA r hr)
      have k1 : ∀ x : Nat, keyN A D.natAbs [(x : Int), 0, 0] ∈ ks := fun x => by
        induction x with
        | zero => exact h0
        | succ x ih =>
          refine key_step hD hc (j := 0) (by decide) (fun r hr => ?_) ih
          obtain ⟨a, b, c, rfl⟩ := hr2 r hr
          show a * ((x + 1 : Nat) : Int) + (b * 0 + (c * 0 + 0)) = (a * (x : Int) + (b * 0 + (c * 0 + 0))) + a
          grind
      have k2 : ∀ x y : Nat, keyN A D.natAbs [(x : Int), (y : Int), 0] ∈ ks := fun x y => by
        induction y with
        | zero => exact k1 x
        | succ y ih =>
          refine key_step hD hc (j := 1) (by decide) (fun r hr => ?_) ih
          obtain ⟨a, b, c, rfl⟩ := hr2 r hr
          show a * (x : Int) + (b * ((y + 1 : Nat) : Int) + (c * 0 + 0)) = (a * (x : Int) + (b * (y : Int) + (c * 0 + 0))) + b
          grind
      have k3 : ∀ x y z : Nat, keyN A D.natAbs [(x : Int), (y : Int), (z : Int)] ∈ ks := fun x y z => by
        induction z with
        | zero => exact k2 x y
        | succ z ih =>
          refine key_step hD hc (j := 2) (by decide) (fun r hr => ?_) ih
          obtain ⟨a, b, c, rfl⟩ := hr2 r hr
          show a * (x : Int) + (b * (y : Int) + (c * ((z + 1 : Nat) : Int) + 0)) = (a * (x : Int) + (b * (y : Int) + (c * (z : Int) + 0))) + c
          grind
      intro q hq h
      obtain ⟨a, b, c, rfl⟩ := len_three hq
      have := k3 a.toNat b.toNat c.toNat
      rwa [Int.toNat_of_nonneg (h a (by simp)), Int.toNat_of_nonneg (h b (by simp)), Int.toNat_of_nonneg (h c (by simp))] at this
    | n + 4, hn, _, _, _ => omega
  have h1 := low (p.map fun x => x % D) (by rw [List.length_map]; exact hp) (by
    intro x hx
    obtain ⟨y, hy, rfl⟩ := List.mem_map.mp hx
    exact Int.emod_nonneg _ hD)
  have h2 : keyN A D.natAbs (p.map fun x => x % D) = keyN A D.natAbs p := by
    refine (keyN_iff hD).mpr fun r _ => ?_
    have : ∀ r p : Pt, D ∣ dotI r (p.map fun x => x % D) - dotI r p := fun r => by
      induction r with
      | nil => intro p; rw [getD_nil_dot, getD_nil_dot]; exact ⟨0, by omega⟩
      | cons a r ih =>
        intro p
        cases p with
        | nil => exact ⟨0, by show (0 : Int) - 0 = _; omega⟩
        | cons x p =>
          obtain ⟨c, hc⟩ := ih p
          have e := Int.emod_add_mul_ediv x D
          refine ⟨-(a * (x / D)) + c, ?_⟩
          show (a * (x % D) + dotI r (p.map fun x => x % D)) - (a * x + dotI r p) = _
          generalize dotI r (p.map fun x => x % D) = u at *
          generalize dotI r p = v at *
          generalize x % D = w at *
          generalize x / D = z at *
          subst e
          grind
    exact this r p
  rw [← h2]
  exact h1
end
end K13
namespace K13
/-! ## From a certificate to what the rows need -/
theorem getD_out {α : Type} {l : List α} {i : Nat} {d : α} (h : l.length ≤ i) : l.getD i d = d := by rw [List.getD_eq_getElem?_getD, List.getElem?_eq_none h]; rfl
theorem getD_map0 {f : Int → Int} (h0 : f 0 = 0) : ∀ (r : Pt) (i : Nat), (r.map f).getD i 0 = f (r.getD i 0)
  | [], i => by simp [h0]
  | a :: r, 0 => rfl
  | a :: r, i + 1 => by
    have := getD_map0 h0 r i
    simpa using this
theorem getD_dot : ∀ (r p : Pt), r.length ≤ 3 → dotI r p = (v3 r).dot (v3 p)
  | [], p, _ => by rw [getD_nil_dot]; unfold v3 V3.dot; simp
  | [a], [], _ => by unfold v3 V3.dot dotI; simp
  | [a], [x], _ => by unfold v3 V3.dot dotI; simp
  | [a], [x, y], _ => by unfold v3 V3.dot dotI; simp
  | [a], x :: y :: z :: p, _ => by unfold v3 V3.dot dotI; simp
  | [a, b], [], _ => by unfold v3 V3.dot dotI; simp
  | [a, b], [x], _ => by unfold v3 V3.dot dotI; simp
  | [a, b], [x, y], _ => by unfold v3 V3.dot dotI; simp
  | [a, b], x :: y :: z :: p, _ => by unfold v3 V3.dot dotI; simp
  | [a, b, c], [], _ => by unfold v3 V3.dot dotI; simp
  | [a, b, c], [x], _ => by unfold v3 V3.dot dotI; simp
  | [a, b, c], [x, y], _ => by unfold v3 V3.dot dotI; simp
  | [a, b, c], x :: y :: z :: p, _ => by unfold v3 V3.dot dotI; simp
  | _ :: _ :: _ :: _ :: _, _, h => by simp at h
theorem getD_add : ∀ (p q : Pt), p.length = q.length → ∀ i, (addP p q).getD i 0 = p.getD i 0 + q.getD i 0
  | [], [], _, i => by unfold addP; simp
  | a :: p, b :: q, h, 0 => by unfold addP; simp
  | a :: p, b :: q, h, i + 1 => by
    have := getD_add p q (by simpa using h) i
    unfold addP at *
    simpa using this
theorem v3_dot_add (r : V3) {p q : Pt} (h : p.length = q.length) : r.dot (v3 (addP p q)) = r.dot (v3 p) + r.dot (v3 q) := by
  unfold v3 V3.dot
  simp only [getD_add p q h]
  grind
theorem v3_ext {p q : Pt} (h : p.length = q.length) (h3 : p.length ≤ 3) (e : v3 p = v3 q) : p = q := by
  have hq : q.length ≤ 3 := h ▸ h3
  unfold v3 at e
  injection e with e1 e2 e3
  match p, q, h, h3, e1, e2, e3 with
  | [], [], _, _, _, _, _ => rfl
  | [a], [b], _, _, e1, _, _ => simp at e1; rw [e1]
  | [a, a'], [b, b'], _, _, e1, e2, _ => simp at e1 e2; rw [e1, e2]
  | [a, a', a''], [b, b', b''], _, _, e1, e2, e3 => simp at e1 e2 e3; rw [e1, e2, e3]
  | _ :: _ :: _ :: _ :: _, _, _, h, _, _, _ => simp at h
theorem v3_pad {p : Pt} {n : Nat} (h : p.length = n) : (v3 p).Pad n := by
  unfold v3
  refine ⟨fun c => ?_, fun c => ?_⟩
  · exact getD_out (by omega)
  · exact getD_out (by omega)
theorem getD_in {p : Pt} {b : Nat} (h : ∀ x ∈ p, -(b : Int) ≤ x ∧ x ≤ b) (i : Nat) : -(b : Int) ≤ p.getD i 0 ∧ p.getD i 0 ≤ b := by
  by_cases c : i < p.length
  · exact h _ (getD_mem c 0)
  · rw [getD_out (by omega)]; omega
theorem v3_in {p : Pt} {b : Nat} (h : ∀ x ∈ p, -(b : Int) ≤ x ∧ x ≤ b) : (v3 p).In ⟨b, b, b⟩ := ⟨getD_in h 0, getD_in h 1, getD_in h 2⟩
theorem in_v3 {p : Pt} {b : Nat} (h3 : p.length ≤ 3) (h : (v3 p).In ⟨b, b, b⟩) : ∀ x ∈ p, -(b : Int) ≤ x ∧ x ≤ b := by
  obtain ⟨h1, h2, h4⟩ := h
  unfold v3 at h1 h2 h4
  match p, h3, h1, h2, h4 with
  | [], _, _, _, _ => simp
  | [a], _, h1, _, _ => simpa using h1
  | [a, b], _, h1, h2, _ => simp at h1 h2 ⊢; exact ⟨h1, h2⟩
  | [a, b, c], _, h1, h2, h3 => simp at h1 h2 h3 ⊢; exact ⟨h1, h2, h3⟩
  | _ :: _ :: _ :: _ :: _, h, _, _, _ => simp at h
theorem Bt.mono {p : V3} {a b c d : N3} (h : p.Bt a b) (h1 : a.x ≤ c.x) (h2 : a.y ≤ c.y) (h3 : a.z ≤ c.z) (h4 : b.x ≤ d.x) (h5 : b.y ≤ d.y) (h6 : b.z ≤ d.z) : p.Bt c d := by
  obtain ⟨⟨a1, a2⟩, ⟨a3, a4⟩, a5, a6⟩ := h
  refine ⟨⟨?_, ?_⟩, ⟨?_, ?_⟩, ?_, ?_⟩ <;> omega
/-- all points of the box -/
def rngB (a b : Nat) : List Int := (List.range (a + b + 1)).map fun (i : Nat) => (i : Int) - b
def boxB (n : Nat) (mx mn : N3) : List Pt := (rngB mx.x mn.x).flatMap fun x => (rngB mx.y mn.y).flatMap fun y => (rngB mx.z mn.z).map fun z => [x, y, z].take n
theorem rngB_len {a b : Nat} : (rngB a b).length = a + b + 1 := by unfold rngB; rw [List.length_map, List.length_range]
theorem rngB_mem {a b : Nat} {x : Int} (h1 : -(b : Int) ≤ x) (h2 : x ≤ a) : x ∈ rngB a b := by
  unfold rngB
  exact List.mem_map.mpr ⟨(x + b).toNat, List.mem_range.mpr (by omega), by omega⟩
theorem flatMap_len {α β : Type} {f : α → List β} {c : Nat} : ∀ {l : List α}, (∀ x ∈ l, (f x).length = c) → (l.flatMap f).length = l.length * c
  | [], _ => by simp
  | a :: l, h => by
    rw [List.flatMap_cons, List.length_append, h a (List.mem_cons_self ..), flatMap_len fun x hx => h x (List.mem_cons_of_mem _ hx), List.length_cons, Nat.succ_mul, Nat.add_comm]
theorem boxB_len {n : Nat} {mx mn : N3} : (boxB n mx mn).length = (mx.x + mn.x + 1) * ((mx.y + mn.y + 1) * (mx.z + mn.z + 1)) := by
  unfold boxB
  rw [flatMap_len (c := (mx.y + mn.y + 1) * (mx.z + mn.z + 1)), rngB_len]
  intro x hx
  rw [flatMap_len (c := mx.z + mn.z + 1), rngB_len]
  intro y hy
  rw [List.length_map, rngB_len]
theorem boxB_mem {n : Nat} {mx mn : N3} {p : Pt} (hn : n ≤ 3) (hp : p.length = n) (h : (v3 p).Bt mx mn) : p ∈ boxB n mx mn := by
  obtain ⟨⟨a1, a2⟩, ⟨a3, a4⟩, a5, a6⟩ := h
  unfold boxB
  refine List.mem_flatMap.mpr ⟨_, rngB_mem a1 a2, List.mem_flatMap.mpr ⟨_, rngB_mem a3 a4, List.mem_map.mpr ⟨_, rngB_mem a5 a6, ?_⟩⟩⟩
  unfold v3
  subst hp
  match p, hn with
  | [], _ => rfl
  | [a], _ => rfl
  | [a, b], _ => rfl
  | [a, b, c], _ => rfl
  | _ :: _ :: _ :: _ :: _, h => simp at h
/-! the step -/
def sgA3 (A : Mx) (D : Int) : M3 := m3 (smulM (sg D) A)
theorem sg_mul (D : Int) : sg D * D = D.natAbs := by
  unfold sg
  split
  · rename_i k; exact Int.one_mul _
  · rename_i k; rw [Int.neg_mul, Int.one_mul]; rw [Int.natAbs_negSucc, Int.neg_negSucc]
theorem v3_smul (s : Int) (r : Pt) (p : V3) : (v3 (r.map fun x => Int.mul s x)).dot p = s * (v3 r).dot p := by
  have := getD_map0 (f := fun x => Int.mul s x) (Int.mul_zero s) r
  unfold v3 V3.dot
  rw [this 0, this 1, this 2]
  show s * _ * _ + (s * _ * _ + s * _ * _) = _
  grind
theorem smul_row (s : Int) (A : Mx) (i : Nat) : (smulM s A).getD i [] = (A.getD i []).map fun x => Int.mul s x := by
  unfold smulM
  rw [List.getD_eq_getElem?_getD, List.getD_eq_getElem?_getD, List.getElem?_map]
  cases A[i]? <;> simp
section
variable {w : Way}
theorem Way.Ok.num_key (o : w.Ok) {p : Pt} (hp : p.length = w.n) : w.key (w.dig p) = w.key p := by
  have h1 := List.idxOf_lt_length_iff.mpr (o.all p hp)
  have h2 := List.getElem_idxOf h1
  rw [List.getElem_map] at h2
  rw [List.length_map] at h1
  unfold Way.dig Way.num
  rw [List.getD_eq_getElem?_getD, List.getElem?_eq_getElem h1]
  exact h2
theorem Way.Ok.rest_get (o : w.Ok) {p : Pt} (hp : p.length = w.n) (j : Nat) : w.D * (w.rest p).getD j 0 = dotI (w.A.getD j []) p - dotI (w.A.getD j []) (w.dig p) := by
  have hk := (key_iff o.dne.1).mp (o.num_key hp)
  have e : (w.rest p) = w.A.map fun r => (dotI r p - dotI r (w.dig p)).fdiv w.D := by
    unfold Way.rest divP movM
    rw [List.zipWith_map, List.zipWith_self]
  rw [e, List.getD_eq_getElem?_getD, List.getD_eq_getElem?_getD, List.getElem?_map]
  by_cases c : j < w.A.length
  · rw [List.getElem?_eq_getElem c]
    show w.D * (dotI (w.A[j]) p - dotI (w.A[j]) (w.dig p)).fdiv w.D = dotI (w.A[j]) p - dotI (w.A[j]) (w.dig p)
    obtain ⟨z, hz⟩ := hk _ (List.getElem_mem c)
    have : dotI (w.A[j]) p - dotI (w.A[j]) (w.dig p) = w.D * (-z) := by rw [Int.mul_neg, ← hz]; omega
    rw [this, Int.mul_fdiv_cancel_left _ o.dne.1]
  · rw [List.getElem?_eq_none (by omega)]
    show w.D * 0 = dotI [] p - dotI [] (w.dig p)
    rw [getD_nil_dot, getD_nil_dot]
    omega
theorem row_len (o : w.Ok) (i : Nat) : (w.A.getD i []).length ≤ 3 := by
  have hs := o.asq
  by_cases c : i < w.A.length
  · rw [hs.2 _ (getD_mem c [])]; exact o.n3.2
  · rw [getD_out (by omega)]; decide
/-- D times the rest, in space -/
theorem Way.Ok.step (o : w.Ok) {p : Pt} (hp : p.length = w.n) :
    w.D.natAbs * (v3 (w.rest p)).x = (sgA3 w.A w.D).a.dot (v3 p) - (sgA3 w.A w.D).a.dot (v3 (w.dig p)) ∧
    w.D.natAbs * (v3 (w.rest p)).y = (sgA3 w.A w.D).b.dot (v3 p) - (sgA3 w.A w.D).b.dot (v3 (w.dig p)) ∧
    w.D.natAbs * (v3 (w.rest p)).z = (sgA3 w.A w.D).c.dot (v3 p) - (sgA3 w.A w.D).c.dot (v3 (w.dig p)) := by
  have key : ∀ j, w.D.natAbs * (w.rest p).getD j 0 = (v3 ((smulM (sg w.D) w.A).getD j [])).dot (v3 p) - (v3 ((smulM (sg w.D) w.A).getD j [])).dot (v3 (w.dig p)) := fun j => by
    have h := o.rest_get hp j
    rw [smul_row, v3_smul, v3_smul, ← getD_dot _ _ (row_len o j), ← getD_dot _ _ (row_len o j), ← Int.mul_sub, ← h, ← Int.mul_assoc, sg_mul]
  exact ⟨key 0, key 1, key 2⟩
/-- all that the certificate needs to know -/
structure Sys (w : Way) (mx mn : N3) (be : Nat) (q : Crt) : Prop where
  ok : w.Ok
  dec : ∀ d ∈ w.ds, ∃ f : V3, f.Bt mx mn ∧ ∃ b : V3, b.In ⟨be, be, be⟩ ∧ (sgA3 w.A w.D).a.dot (v3 d) = (sgA3 w.A w.D).a.dot f + w.D.natAbs * b.x ∧ (sgA3 w.A w.D).b.dot (v3 d) = (sgA3 w.A w.D).b.dot f + w.D.natAbs * b.y ∧ (sgA3 w.A w.D).c.dot (v3 d) = (sgA3 w.A w.D).c.dot f + w.D.natAbs * b.z
  chk : chkC w.n (sgA3 w.A w.D) w.D.natAbs mx mn be q = true
  zok : zokC w.n q = true
variable {mx mn : N3} {be : Nat} {q : Crt}
theorem Sys.stepO (s : Sys w mx mn be q) {p : Pt} (hp : p.length = w.n) : StepO (sgA3 w.A w.D) w.D.natAbs mx mn be (v3 p) (v3 (w.rest p)) := by
  obtain ⟨e1, e2, e3⟩ := s.ok.step hp
  obtain ⟨f, hf, b, hb, d1, d2, d3⟩ := s.dec _ (s.ok.digm hp)
  exact ⟨f, hf, b, hb, by omega, by omega, by omega⟩
theorem Sys.stepC (s : Sys w mx mn be q) {p r : Pt} (hp : p.length = w.n) (hr : r ∈ w.carries p) : r.length = w.n ∧ StepC (sgA3 w.A w.D) w.D.natAbs mx mn be (v3 p) (v3 r) := by
  obtain ⟨d', hd', rfl⟩ := List.mem_map.mp hr
  have hl : p.length = d'.length := by rw [hp, s.ok.len _ hd']
  have hpd : (addP p d').length = w.n := by unfold addP; rw [List.length_zipWith, ← hl, Nat.min_self, hp]
  obtain ⟨e1, e2, e3⟩ := s.ok.step hpd
  obtain ⟨f, hf, b, hb, d1, d2, d3⟩ := s.dec _ (s.ok.digm hpd)
  obtain ⟨f', hf', b', hb', d1', d2', d3'⟩ := s.dec _ hd'
  rw [v3_dot_add _ hl] at e1 e2 e3
  exact ⟨s.ok.restlen, f, hf, b, hb, f', hf', b', hb', by omega, by omega, by omega⟩
theorem Sys.zk (s : Sys w mx mn be q) : (q.B.x ≤ q.R ∧ q.B.y ≤ q.R ∧ q.B.z ≤ q.R) ∧ q.K + cntC q < 20000 ∧ cntZ q ≤ 16000000 ∧ (2 * q.R + 1) ^ w.n ≤ 16000000 ∧ (if w.n < 3 then 6 else 3) ≤ q.R := by
  have h := s.zok
  unfold zokC at h
  simp only [Bool.and_eq_true, Nat.ble_eq] at h
  obtain ⟨h1, h2, h3, h4, h5, h6, h7⟩ := h
  exact ⟨⟨h1, h2, h3⟩, Nat.lt_of_succ_le (by simpa [Nat.blt] using h4), h5, h6, h7⟩
theorem Sys.dpos (s : Sys w mx mn be q) : 0 < w.D.natAbs := by have := s.ok.dne.1; omega
theorem Sys.orbs (s : Sys w mx mn be q) {p : Pt} (hp : p.length = w.n) (h : (v3 p).In ⟨q.R, q.R, q.R⟩) : (∀ t, (v3 (w.orb p t)).In q.Z) ∧ ∀ t, q.K ≤ t → (v3 (w.orb p t)).Bt q.Cp q.Cm :=
  crt_orb s.dpos s.chk (noisy_orb fun t => s.stepO (s.ok.orblen hp t)) (fun t => v3_pad (s.ok.orblen hp t)) h
theorem Sys.per (s : Sys w mx mn be q) {p : Pt} (hp : p.length = w.n) (h : (v3 p).In ⟨q.R, q.R, q.R⟩) : w.Per p := by
  have hb := (s.orbs hp h).2
  obtain ⟨i, j, hij, hj, e⟩ := pigeon (F := boxB w.n q.Cp q.Cm) (f := fun k => w.orb p (q.K + k)) fun k => boxB_mem s.ok.n3.2 (s.ok.orblen hp _) (hb _ (by omega))
  rw [boxB_len] at hj
  have := s.zk.2.1
  unfold cntC at this
  exact ⟨q.K + i, q.K + j, by omega, by omega, e⟩
theorem Sys.zero (s : Sys w mx mn be q) {p : Pt} (hp : p.length = w.n) (h1 : w.rest p = p) (h2 : w.num p = 0) : p = zeroP w.n := by
  have hd : w.dig p = zeroP w.n := by
    unfold Way.dig
    rw [h2]
    have := s.ok.zer
    cases e : w.ds with
    | nil => rw [e] at this; cases this
    | cons a l => rw [e] at this; injection this
  obtain ⟨e1, e2, e3⟩ := s.ok.step hp
  have hz : v3 (zeroP w.n) = ⟨0, 0, 0⟩ := by
    have : ∀ i, (zeroP w.n).getD i 0 = 0 := fun i => by
      unfold zeroP
      by_cases c : i < w.n
      · rw [List.getD_eq_getElem?_getD, List.getElem?_replicate, if_pos c]; rfl
      · exact getD_out (by rw [List.length_replicate]; omega)
    unfold v3
    rw [this, this, this]
  have h0 : ∀ r : V3, r.dot ⟨0, 0, 0⟩ = 0 := fun r => by unfold V3.dot; simp
  rw [h1, hd, hz, h0] at e1 e2 e3
  have hv := crt_fix s.dpos s.chk (noisy_fix (x := v3 p) (by omega) (by omega) (by omega)) (v3_pad hp)
  exact v3_ext (by rw [hp]; unfold zeroP; rw [List.length_replicate]) (by rw [hp]; exact s.ok.n3.2) (by rw [hv, hz])
/-! carries -/
inductive Way.Rch (w : Way) : Pt → Prop
  | unit {p : Pt} : p ∈ unitsL w.n → Rch w p
  | step {p q : Pt} : Rch w p → q ∈ w.carries p → Rch w q
theorem unitsL_in {n : Nat} {p : Pt} (h : n ≤ 3) (hp : p ∈ unitsL n) : (v3 p).In ⟨1, 1, 1⟩ := by
  have : ∀ n ≤ 3, ∀ p ∈ unitsL n, ∀ x ∈ p, -((1 : Nat) : Int) ≤ x ∧ x ≤ (1 : Nat) := by decide
  exact v3_in (this n h p hp)
theorem Way.Rch.seq (o : w.Ok) {p : Pt} (h : w.Rch p) : ∃ (s : Nat → Pt) (t : Nat), s 0 ∈ unitsL w.n ∧ (∀ i, i < t → s (i + 1) ∈ w.carries (s i)) ∧ s t = p := by
  induction h with
  | unit h => exact ⟨fun _ => _, 0, h, fun i hi => absurd hi (Nat.not_lt_zero _), rfl⟩
  | @step p q _ hq ih =>
    obtain ⟨s, t, h0, h1, h2⟩ := ih
    refine ⟨fun i => if i ≤ t then s i else q, t + 1, by show (if 0 ≤ t then s 0 else q) ∈ _; rw [if_pos (by omega)]; exact h0, fun i hi => ?_, by show (if t + 1 ≤ t then s (t + 1) else q) = q; rw [if_neg (by omega)]⟩
    show (if i + 1 ≤ t then s (i + 1) else q) ∈ w.carries (if i ≤ t then s i else q)
    rw [if_pos (show i ≤ t by omega)]
    by_cases c : i + 1 ≤ t
    · rw [if_pos c]; exact h1 i (by omega)
    · rw [if_neg c, show i = t by omega, h2]; exact hq
theorem Sys.rch_in (s : Sys w mx mn be q) {p : Pt} (h : w.Rch p) : p.length = w.n ∧ (v3 p).In q.B := by
  obtain ⟨f, t, h0, h1, h2⟩ := h.seq s.ok
  have hlen : ∀ i, i ≤ t → (f i).length = w.n := fun i => by
    induction i with
    | zero => exact fun _ => unitsL_mem s.ok.n3.2 h0
    | succ i ih => exact fun hi => (s.stepC (ih (by omega)) (h1 i (by omega))).1
  have hg : ∀ i, (w.orb (f t) i).length = w.n := s.ok.orblen (hlen t (Nat.le_refl t))
  have := crt_carry (p := fun i => if i ≤ t then v3 (f i) else v3 (w.orb (f t) (i - t))) s.dpos s.chk (noisy_carry fun i => by
      show StepC _ _ _ _ _ (if i ≤ t then v3 (f i) else v3 (w.orb (f t) (i - t))) (if i + 1 ≤ t then v3 (f (i + 1)) else v3 (w.orb (f t) (i + 1 - t)))
      by_cases c : i + 1 ≤ t
      · rw [if_pos c, if_pos (by omega)]
        exact (s.stepC (hlen i (by omega)) (h1 i (by omega))).2
      · rw [if_neg c]
        have e : (if i ≤ t then v3 (f i) else v3 (w.orb (f t) (i - t))) = v3 (w.orb (f t) (i - t)) := by
          by_cases c2 : i ≤ t
          · rw [if_pos c2, show i = t by omega, Nat.sub_self]; rfl
          · rw [if_neg c2]
        rw [e, show i + 1 - t = (i - t) + 1 by omega]
        exact (s.stepC (hg _) (s.ok.rest_carries (hg _))).2) (fun i => by
      show (if i ≤ t then v3 (f i) else v3 (w.orb (f t) (i - t))).Pad _
      by_cases c : i ≤ t
      · rw [if_pos c]; exact v3_pad (hlen i c)
      · rw [if_neg c]; exact v3_pad (hg _)) (by
      show (if 0 ≤ t then v3 (f 0) else _).In _
      rw [if_pos (by omega)]
      exact unitsL_in s.ok.n3.2 h0) t
  have e : (if t ≤ t then v3 (f t) else v3 (w.orb (f t) (t - t))) = v3 p := by rw [if_pos (Nat.le_refl t), h2]
  exact ⟨by rw [← h2]; exact hlen t (Nat.le_refl t), by rw [← e]; exact this⟩
theorem Sys.fine (s : Sys w mx mn be q) : w.Fine q.R := by
  classical
  obtain ⟨⟨z1, z2, z3⟩, z4, z5, z6, z7⟩ := s.zk
  have hR : 0 < q.R := by split at z7 <;> omega
  have incube : ∀ p, w.Rch p → p ∈ cubeL w.n q.R := fun p h => by
    obtain ⟨hl, hb⟩ := s.rch_in h
    refine cube_iff.mpr ⟨hl, in_v3 (by rw [hl]; exact s.ok.n3.2) (Bt.mono hb z1 z2 z3 z1 z2 z3)⟩
  refine ⟨s.ok, fun p hp h1 h2 => s.zero hp h1 h2, fun F hF p hp => ?_, z6, ?_⟩
  · have := hF.least ((cubeL w.n q.R).filter fun p => decide (w.Rch p)) (fun p hp r hr => by
      obtain ⟨h1, h2⟩ := List.mem_filter.mp hp
      have h3 : w.Rch r := .step (of_decide_eq_true h2) hr
      exact List.mem_filter.mpr ⟨incube _ h3, decide_eq_true h3⟩) (fun p hp => List.mem_filter.mpr ⟨incube _ (.unit hp), decide_eq_true (.unit hp)⟩) p hp
    obtain ⟨h1, h2⟩ := List.mem_filter.mp this
    exact ⟨(cube_iff.mp h1).1, q.R, hR, Nat.le_refl _, h1⟩
  · have hin : ∀ p b, b ≤ q.R → p ∈ cubeL w.n b → p.length = w.n ∧ (v3 p).In ⟨q.R, q.R, q.R⟩ := fun p b hb hp => by
      obtain ⟨h1, h2⟩ := cube_iff.mp hp
      exact ⟨h1, v3_in fun x hx => by have := h2 x hx; omega⟩
    refine ⟨(boxB w.n q.Z q.Z).filter fun p => decide (∃ p0 t, p0.length = w.n ∧ (v3 p0).In ⟨q.R, q.R, q.R⟩ ∧ w.orb p0 t = p), ?_, fun b hb p hp => ?_, fun p hp => ?_, ?_⟩
    · refine Nat.le_trans (List.length_filter_le _ _) ?_
      rw [boxB_len]
      unfold cntZ at z5
      rw [← Nat.two_mul, ← Nat.two_mul, ← Nat.two_mul]
      exact z5
    · obtain ⟨h1, h2⟩ := hin p b hb hp
      exact List.mem_filter.mpr ⟨boxB_mem s.ok.n3.2 h1 ((s.orbs h1 h2).1 0), decide_eq_true ⟨p, 0, h1, h2, rfl⟩⟩
    · obtain ⟨h1, h2⟩ := List.mem_filter.mp hp
      obtain ⟨p0, t, h3, h4, rfl⟩ := of_decide_eq_true h2
      exact ⟨s.ok.orblen h3 t, List.mem_filter.mpr ⟨boxB_mem s.ok.n3.2 s.ok.restlen ((s.orbs h3 h4).1 (t + 1)), decide_eq_true ⟨p0, t + 1, h3, h4, rfl⟩⟩⟩
    · have h1 : (zeroP w.n) ∈ cubeL w.n 0 := cube_iff.mpr ⟨by unfold zeroP; rw [List.length_replicate], fun x hx => by
        unfold zeroP at hx
        rw [List.eq_of_mem_replicate hx]; decide⟩
      obtain ⟨h1, h2⟩ := hin _ 0 (by omega) h1
      exact List.mem_filter.mpr ⟨boxB_mem s.ok.n3.2 h1 ((s.orbs h1 h2).1 0), decide_eq_true ⟨_, 0, h1, h2, rfl⟩⟩
theorem Sys.nearR (s : Sys w mx mn be q) : w.Near q.R := fun b hb p hp => by
  have z7 := s.zk.2.2.2.2
  obtain ⟨h1, h2⟩ := cube_iff.mp hp
  exact s.per h1 (v3_in fun x hx => by
    have := h2 x hx
    have : b ≤ q.R := by rcases hb with h | h <;> omega
    omega)
end
end K13
namespace K13
open PySem
/-! ## What a checked matrix tells of its ways -/
theorem inR_iff {lo hi x : Int} : inR lo hi x = true ↔ lo ≤ x ∧ x ≤ hi := by
  unfold inR
  rw [Bool.and_eq_true, decide_eq_true_eq, decide_eq_true_eq]
theorem ring3 (a1 a2 a3 d1 d2 d3 e1 e2 e3 f1 f2 f3 x y z : Int) : a1 * (d1 * x + (d2 * y + (d3 * z + 0))) + (a2 * (e1 * x + (e2 * y + (e3 * z + 0))) + (a3 * (f1 * x + (f2 * y + (f3 * z + 0))) + 0)) =
    (a1 * d1 + (a2 * e1 + (a3 * f1 + 0))) * x + ((a1 * d2 + (a2 * e2 + (a3 * f2 + 0))) * y + (a1 * d3 + (a2 * e3 + (a3 * f3 + 0))) * z) := by grind
theorem inv_mul {n : Nat} {A m : Mx} {D : Int} (n1 : 1 ≤ n) (n3 : n ≤ 3) (hA : Sq n A) (hm : Sq n m) (h : mulM A m = idM n D) (b : Pt) (hb : b.length = n) (i : Nat) : dotI (A.getD i []) (movM m b) = D * b.getD i 0 := by
  match n, n1, n3 with
  | 1, _, _ =>
    obtain ⟨r, rfl⟩ := List.length_eq_one_iff.mp hA.1
    obtain ⟨e, rfl⟩ := List.length_eq_one_iff.mp (hA.2 r (by simp))
    obtain ⟨r', rfl⟩ := List.length_eq_one_iff.mp hm.1
    obtain ⟨a, rfl⟩ := List.length_eq_one_iff.mp (hm.2 r' (by simp))
    obtain ⟨x, rfl⟩ := List.length_eq_one_iff.mp hb
    have h' : [[e * a + 0]] = [[D]] := h
    injection h' with h1
    injection h1 with h1
    match i with
    | 0 =>
      show e * (a * x + 0) + 0 = D * x
      rw [← h1]; grind
    | i + 1 => show (0 : Int) = D * 0; omega
  | 2, _, _ =>
    obtain ⟨r, s, rfl⟩ := len_two hA.1
    obtain ⟨e, f, rfl⟩ := len_two (hA.2 r (by simp))
    obtain ⟨g, k, rfl⟩ := len_two (hA.2 s (by simp))
    obtain ⟨r', s', rfl⟩ := len_two hm.1
    obtain ⟨a, b', rfl⟩ := len_two (hm.2 r' (by simp))
    obtain ⟨c, d, rfl⟩ := len_two (hm.2 s' (by simp))
    obtain ⟨x, y, rfl⟩ := len_two hb
    have h' : [[e * a + (f * c + 0), e * b' + (f * d + 0)], [g * a + (k * c + 0), g * b' + (k * d + 0)]] = [[D, 0], [0, D]] := h
    simp only [List.cons.injEq, and_true] at h'
    obtain ⟨⟨h1, h2⟩, h3, h4⟩ := h'
    match i with
    | 0 =>
      show e * (a * x + (b' * y + 0)) + (f * (c * x + (d * y + 0)) + 0) = D * x
      rw [← h1]; grind
    | 1 =>
      show g * (a * x + (b' * y + 0)) + (k * (c * x + (d * y + 0)) + 0) = D * y
      rw [← h4]; grind
    | i + 2 => show (0 : Int) = D * 0; omega
  | 3, _, _ =>
    obtain ⟨r, s, t, rfl⟩ := len_three hA.1
    obtain ⟨a1, a2, a3, rfl⟩ := len_three (hA.2 r (by simp))
    obtain ⟨b1, b2, b3, rfl⟩ := len_three (hA.2 s (by simp))
    obtain ⟨c1, c2, c3, rfl⟩ := len_three (hA.2 t (by simp))
    obtain ⟨r', s', t', rfl⟩ := len_three hm.1
    obtain ⟨d1, d2, d3, rfl⟩ := len_three (hm.2 r' (by simp))
    obtain ⟨e1, e2, e3, rfl⟩ := len_three (hm.2 s' (by simp))
    obtain ⟨f1, f2, f3, rfl⟩ := len_three (hm.2 t' (by simp))
    obtain ⟨x, y, z, rfl⟩ := len_three hb
    have h' : [[a1 * d1 + (a2 * e1 + (a3 * f1 + 0)), a1 * d2 + (a2 * e2 + (a3 * f2 + 0)), a1 * d3 + (a2 * e3 + (a3 * f3 + 0))], [b1 * d1 + (b2 * e1 + (b3 * f1 + 0)), b1 * d2 + (b2 * e2 + (b3 * f2 + 0)), b1 * d3 + (b2 * e3 + (b3 * f3 + 0))], [c1 * d1 + (c2 * e1 + (c3 * f1 + 0)), c1 * d2 + (c2 * e2 + (c3 * f2 + 0)), c1 * d3 + (c2 * e3 + (c3 * f3 + 0))]] = [[D, 0, 0], [0, D, 0], [0, 0, D]] := h
    simp only [List.cons.injEq, and_true] at h'
    obtain ⟨⟨h1, h2, h3⟩, ⟨h4, h5, h6⟩, h7, h8, h9⟩ := h'
    match i with
    | 0 =>
      show a1 * (d1 * x + (d2 * y + (d3 * z + 0))) + (a2 * (e1 * x + (e2 * y + (e3 * z + 0))) + (a3 * (f1 * x + (f2 * y + (f3 * z + 0))) + 0)) = D * x
      rw [ring3, h1, h2, h3]; omega
    | 1 =>
      show b1 * (d1 * x + (d2 * y + (d3 * z + 0))) + (b2 * (e1 * x + (e2 * y + (e3 * z + 0))) + (b3 * (f1 * x + (f2 * y + (f3 * z + 0))) + 0)) = D * y
      rw [ring3, h4, h5, h6]; omega
    | 2 =>
      show c1 * (d1 * x + (d2 * y + (d3 * z + 0))) + (c2 * (e1 * x + (e2 * y + (e3 * z + 0))) + (c3 * (f1 * x + (f2 * y + (f3 * z + 0))) + 0)) = D * z
      rw [ring3, h7, h8, h9]; omega
    | i + 3 => show (0 : Int) = D * 0; omega
  | 0, h, _ => omega
  | n + 4, _, h => omega
theorem dotI_add : ∀ (r p q : Pt), p.length = q.length → dotI r (addP p q) = dotI r p + dotI r q
  | [], p, q, _ => by rw [getD_nil_dot, getD_nil_dot, getD_nil_dot]; rfl
  | a :: r, [], [], _ => rfl
  | a :: r, x :: p, y :: q, h => by
    have ih := dotI_add r p q (by simpa using h)
    show a * (x + y) + dotI r (addP p q) = (a * x + dotI r p) + (a * y + dotI r q)
    rw [ih]
    grind
theorem leastS_nd {m : Mx} {k : Nat} {F : List Pt} {p : Pt} (h : (F.map (keyM m)).Nodup) : ((leastS m k F p).map (keyM m)).Nodup := by
  unfold leastS
  split
  · rename_i c
    rw [List.map_append, List.nodup_append]
    refine ⟨h, by simp, fun a ha b hb e => ?_⟩
    rw [List.map_singleton, List.mem_singleton] at hb
    subst hb
    exact c.2 (e ▸ ha)
  · exact h
theorem fold_nd {m : Mx} {k : Nat} : ∀ (ps F : List Pt), (F.map (keyM m)).Nodup → ((ps.foldl (leastS m k) F).map (keyM m)).Nodup
  | [], _, h => h
  | _ :: ps, _, h => fold_nd ps _ (leastS_nd h)
theorem foldM_ge {l : List Nat} : ∀ {a : Nat}, a ≤ l.foldl (fun a b => bif Nat.ble a b then b else a) a ∧ ∀ x ∈ l, x ≤ l.foldl (fun a b => bif Nat.ble a b then b else a) a := by
  induction l with
  | nil => exact fun {a} => ⟨Nat.le_refl a, fun x hx => by cases hx⟩
  | cons y l ih =>
    intro a
    rw [List.foldl_cons]
    obtain ⟨h1, h2⟩ := @ih (bif Nat.ble a y then y else a)
    have h3 : a ≤ (bif Nat.ble a y then y else a) ∧ y ≤ (bif Nat.ble a y then y else a) := by
      cases c : Nat.ble a y with
      | true => exact ⟨Nat.le_of_ble_eq_true c, Nat.le_refl y⟩
      | false =>
        have : ¬ a ≤ y := fun z => by rw [Nat.ble_eq_true_of_le z] at c; cases c
        exact ⟨Nat.le_refl a, by show y ≤ a; omega⟩
    refine ⟨Nat.le_trans h3.1 h1, fun x hx => ?_⟩
    rcases List.mem_cons.mp hx with rfl | hx
    · exact Nat.le_trans h3.2 h1
    · exact h2 x hx
theorem mx_bt {F : List Pt} {f : Pt} (hf : f ∈ F) : (v3 f).Bt (mxV F) (mnV F) := by
  have key : ∀ i, -(mnP F i : Int) ≤ f.getD i 0 ∧ f.getD i 0 ≤ mxP F i := fun i => by
    have h1 := (foldM_ge (l := F.map fun p => pz (p.getD i 0)) (a := 0)).2 _ (List.mem_map_of_mem hf)
    have h2 := (foldM_ge (l := F.map fun p => nz (p.getD i 0)) (a := 0)).2 _ (List.mem_map_of_mem hf)
    have e1 := pz_eq (f.getD i 0)
    have e2 := nz_eq (f.getD i 0)
    have h1' : pz (f.getD i 0) ≤ mxP F i := h1
    have h2' : nz (f.getD i 0) ≤ mnP F i := h2
    omega
  exact ⟨key 0, key 1, key 2⟩
structure Chk (m : Mx) (q : Crt) : Prop where
  mok : Mok m.length m
  asm : ∀ r ∈ adjM m, Sm r
  asq : Sq m.length (adjM m)
  inv : mulM (adjM m) m = idM m.length (detM m)
  zok : zokC m.length q = true
  cnt : (leastD m.length m).length = (detM m).natAbs
  hd : (leastD m.length m).head? = some (zeroP m.length)
  all : ∀ p : Pt, p.length = m.length → keyM m p ∈ (leastD m.length m).map (keyM m)
  bx : ∃ mx mn : N3, (∀ f ∈ leastD m.length m, (v3 f).Bt mx mn) ∧ chkC m.length (sgA3 (adjM m) (detM m)) (detM m).natAbs mx mn 1 q = true
theorem chk_out {m : Mx} {q : Crt} (h : chkA m q = true) : Chk m q := by
  unfold chkA at h
  split at h
  rename_i F ks eF
  unfold chkM at h
  simp only [Bool.and_eq_true] at h
  obtain ⟨h1, h2, h3, h4, h5, ⟨h6, h7⟩, h8⟩ := h
  unfold mokB at h1
  simp only [Bool.and_eq_true, decide_eq_true_eq, List.all_eq_true, inR_iff] at h1
  obtain ⟨m1, m2, m3', m4, m5, m6, m7, m8⟩ := h1
  have hlo := leastF_out (k := (detM m).natAbs) m5 rfl (detM m).natAbs (boxL m.length (detM m).natAbs) [] [] rfl (Nat.zero_add _)
  rw [eF] at hlo
  obtain ⟨l1, l2⟩ := hlo
  have l2' : leastD m.length m = F.reverse := l2
  have l1' : ks = F.map (keyN (adjM m) (detM m).natAbs) := l1
  unfold keyB at h2
  simp only [Bool.and_eq_true, decide_eq_true_eq, List.all_eq_true, List.mem_range, Nat.beq_eq] at h2
  obtain ⟨k1, k2, k3⟩ := h2
  have hsq : Sq m.length (adjM m) := ⟨of_decide_eq_true h6, fun r hr => of_decide_eq_true (List.all_eq_true.mp h7 r hr)⟩
  refine ⟨⟨⟨rfl, fun r hr => (m1 r hr).1⟩, m2, m3', fun r hr x hx => (m1 r hr).2 x hx, m4.1, m4.2, m5, m6, m7, by omega, by omega⟩, fun r hr x hx => ?_, hsq, of_decide_eq_true h3, h4, by rw [l2', List.length_reverse, k1], by rw [l2', List.head?_reverse, k2], fun p hp => ?_, mxV F, mnV F, fun f hf => mx_bt (List.mem_reverse.mp (l2' ▸ hf)), h8⟩
  · have := inR_iff.mp (List.all_eq_true.mp (List.all_eq_true.mp h5 r hr) x hx)
    omega
  · have h0 : keyN (adjM m) (detM m).natAbs (zeroP m.length) ∈ ks := by
      rw [l1']
      exact List.mem_map_of_mem (List.mem_of_getLast? k2)
    have := key_all m5 m3' hsq.2 k3 h0 p hp
    rw [l1'] at this
    obtain ⟨f, hf, e⟩ := List.mem_map.mp this
    rw [l2']
    exact List.mem_map.mpr ⟨f, List.mem_reverse.mpr hf, (key_iff m5).mpr ((keyN_iff m5).mp e)⟩
theorem paired_perm {m : Mx} {n : Nat} {l es : List Pt} (h : Paired (Shift n m) l es) (hk : ∀ f e, f ∈ l → Shift n m f e → keyM m e = keyM m f) : es.map (keyM m) = l.map (keyM m) := by
  induction h with
  | nil => rfl
  | @cons a b as bs h1 h2 ih =>
    rw [List.map_cons, List.map_cons, hk a b (List.mem_cons_self ..) h1, ih fun f e hf => hk f e (List.mem_cons_of_mem _ hf)]
theorem paired_mem {α β : Type} {R : α → β → Prop} {as : List α} {bs : List β} (h : Paired R as bs) : ∀ b ∈ bs, ∃ a ∈ as, R a b := by
  induction h with
  | nil => intro b hb; cases hb
  | @cons a b as bs h1 h2 ih =>
    intro c hc
    rcases List.mem_cons.mp hc with rfl | hc
    · exact ⟨a, List.mem_cons_self .., h1⟩
    · obtain ⟨x, hx, h⟩ := ih c hc
      exact ⟨x, List.mem_cons_of_mem _ hx, h⟩
theorem paired_len {α β : Type} {R : α → β → Prop} {as : List α} {bs : List β} (h : Paired R as bs) : as.length = bs.length := by
  induction h with
  | nil => rfl
  | cons _ _ ih => rw [List.length_cons, List.length_cons, ih]
theorem Chk.sys {w : Way} {q : Crt} (c : Chk w.m q) (hn : w.m.length = w.n) (hds : DigsOf w.n w.m w.ds) : ∃ mx mn, Sys w mx mn 1 q := by
  obtain ⟨mok, asm, asq, inv, zok, cnt, hd, all, mx, mn, hbx, hchk⟩ := c
  rw [hn] at mok asq inv zok cnt hd all hbx hchk
  obtain ⟨sq, n1, n3, hent, hd1, hd2, hdn, -⟩ := id mok
  have hlen : ∀ f ∈ leastD w.n w.m, f.length = w.n := fun f hf => leastD_mem hf
  -- shifts
  have hsh : ∀ f e, f ∈ leastD w.n w.m → Shift w.n w.m f e → e.length = w.n ∧ ∃ b : Pt, b.length = w.n ∧ (∀ x ∈ b, -((1 : Nat) : Int) ≤ x ∧ x ≤ (1 : Nat)) ∧ ∀ i, dotI (w.A.getD i []) e = dotI (w.A.getD i []) f + w.D * b.getD i 0 := fun f e hf h => by
    rcases h with rfl | ⟨b, hb, hb1, rfl⟩
    · refine ⟨hlen _ hf, zeroP w.n, by unfold zeroP; rw [List.length_replicate], fun x hx => ?_, fun i => ?_⟩
      · unfold zeroP at hx
        rw [List.eq_of_mem_replicate hx]; decide
      · have : (zeroP w.n).getD i 0 = 0 := by
          by_cases c : i < (zeroP w.n).length
          · have := getD_mem c (0 : Int)
            unfold zeroP at this ⊢
            exact List.eq_of_mem_replicate this
          · exact getD_out (by omega)
        rw [this]; omega
    · have hmv : (movM w.m b).length = w.n := by unfold movM; rw [List.length_map, sq.1]
      have hl : f.length = (movM w.m b).length := by rw [hmv, hlen f hf]
      refine ⟨by unfold addP; rw [List.length_zipWith, ← hl, Nat.min_self, hlen f hf], b, hb, fun x hx => ?_, fun i => ?_⟩
      · obtain ⟨r, hr, rfl⟩ := hb1 x hx
        omega
      · rw [dotI_add _ _ _ hl]
        congr 1
        exact inv_mul n1 n3 asq sq inv b hb i
  have hkey : ∀ f e, f ∈ leastD w.n w.m → Shift w.n w.m f e → keyM w.m e = keyM w.m f := fun f e hf h => by
    obtain ⟨_, b, _, _, h1⟩ := hsh f e hf h
    refine (key_iff hdn).mpr fun r hr => ?_
    obtain ⟨i, hi, rfl⟩ := List.getElem_of_mem hr
    have := h1 i
    rw [List.getD_eq_getElem?_getD, show w.A = adjM w.m from rfl, List.getElem?_eq_getElem hi] at this
    exact ⟨b.getD i 0, by
      have h2 : dotI ((adjM w.m)[i]) e = dotI ((adjM w.m)[i]) f + detM w.m * b.getD i 0 := this
      omega⟩
  have hmem : ∀ d ∈ w.ds, ∃ f ∈ leastD w.n w.m, Shift w.n w.m f d := fun d hd => by
    rcases hds with e | ⟨es, os, e, hp, hpair⟩
    · rw [e] at hd; exact ⟨d, hd, .inl rfl⟩
    · rw [e] at hd
      rcases List.mem_append.mp hd with h | h
      · exact ⟨d, List.mem_of_mem_take h, .inl rfl⟩
      · obtain ⟨f, hf, h⟩ := paired_mem hpair d (hp.mem_iff.mp h)
        exact ⟨f, List.mem_of_mem_drop (i := 1) hf, h⟩
  have hperm : (w.ds.map w.key).Perm ((leastD w.n w.m).map (keyM w.m)) := by
    show (w.ds.map (keyM w.m)).Perm _
    rcases hds with e | ⟨es, os, e, hp, hpair⟩
    · rw [e]
    · rw [e, List.map_append]
      have h1 := paired_perm hpair fun f e hf => hkey f e (List.mem_of_mem_drop (i := 1) hf)
      have h2 : (os.map (keyM w.m)).Perm (((leastD w.n w.m).drop 1).map (keyM w.m)) := by rw [← h1]; exact hp.map _
      refine (List.Perm.append_left _ h2).trans ?_
      rw [← List.map_append, List.take_append_drop]
  have hzer : w.ds.head? = some (zeroP w.n) := by
    rcases hds with e | ⟨es, os, e, hp, hpair⟩
    · rw [e]; exact hd
    · rw [e]
      cases hL : leastD w.n w.m with
      | nil => rw [hL] at hd; cases hd
      | cons a l => rw [hL] at hd; exact hd
  have ok : w.Ok := by
    refine ⟨mok, asm, ?_, fun d hd => ?_, ?_, hzer, fun p hp => hperm.mem_iff.mpr (all p hp)⟩
    · have := hperm.length_eq
      rw [List.length_map, List.length_map, cnt] at this
      exact this
    · obtain ⟨f, hf, h⟩ := hmem d hd
      exact (hsh f d hf h).1
    · exact hperm.nodup_iff.mpr (fold_nd _ _ (by simp))
  refine ⟨mx, mn, ok, fun d hd => ?_, hchk, zok⟩
  obtain ⟨f, hf, h⟩ := hmem d hd
  obtain ⟨_, b, hb, hb1, h1⟩ := hsh f d hf h
  have key : ∀ i, (v3 ((smulM (sg w.D) w.A).getD i [])).dot (v3 d) = (v3 ((smulM (sg w.D) w.A).getD i [])).dot (v3 f) + w.D.natAbs * b.getD i 0 := fun i => by
    rw [smul_row, v3_smul, v3_smul, ← getD_dot _ _ (row_len ok i), ← getD_dot _ _ (row_len ok i), h1, Int.mul_add, ← Int.mul_assoc, sg_mul]
  exact ⟨v3 f, hbx f hf, v3 b, v3_in hb1, key 0, key 1, key 2⟩
end K13
namespace K13
open PySem
/-! ## All matrices are checked -/
theorem ddp_mem : ∀ {l : List Mx} {m : Mx}, m ∈ l → m ∈ ddp l
  | a :: l, m, h => by
    unfold ddp
    rcases List.mem_cons.mp h with rfl | h
    · split
      · rename_i c
        cases l with
        | nil => cases c
        | cons b l =>
          injection c with c
          exact ddp_mem (c ▸ List.mem_cons_self ..)
      · exact List.mem_cons_self ..
    · split
      · exact ddp_mem h
      · exact List.mem_cons_of_mem _ (ddp_mem h)
def tblC : List (Mx × Crt) := (ddp allM).zip certs
theorem chk_0 : ((tblC.drop 0).take 33).all (fun p => chkA p.1 p.2) = true := by decide +kernel
theorem chk_1 : ((tblC.drop 33).take 33).all (fun p => chkA p.1 p.2) = true := by decide +kernel
theorem chk_2 : ((tblC.drop 66).take 33).all (fun p => chkA p.1 p.2) = true := by decide +kernel
theorem chk_3 : ((tblC.drop 99).take 33).all (fun p => chkA p.1 p.2) = true := by decide +kernel
theorem chk_4 : ((tblC.drop 132).take 33).all (fun p => chkA p.1 p.2) = true := by decide +kernel
theorem chk_5 : ((tblC.drop 165).take 33).all (fun p => chkA p.1 p.2) = true := by decide +kernel
theorem chk_6 : ((tblC.drop 198).take 33).all (fun p => chkA p.1 p.2) = true := by decide +kernel
theorem chk_7 : ((tblC.drop 231).take 33).all (fun p => chkA p.1 p.2) = true := by decide +kernel
theorem chk_8 : ((tblC.drop 264).take 33).all (fun p => chkA p.1 p.2) = true := by decide +kernel
theorem chk_9 : ((tblC.drop 297).take 33).all (fun p => chkA p.1 p.2) = true := by decide +kernel
theorem chk_10 : ((tblC.drop 330).take 33).all (fun p => chkA p.1 p.2) = true := by decide +kernel
theorem chk_11 : ((tblC.drop 363).take 33).all (fun p => chkA p.1 p.2) = true := by decide +kernel
theorem chk_12 : ((tblC.drop 396).take 33).all (fun p => chkA p.1 p.2) = true := by decide +kernel
theorem chk_13 : ((tblC.drop 429).take 33).all (fun p => chkA p.1 p.2) = true := by decide +kernel
theorem chk_14 : ((tblC.drop 462).take 33).all (fun p => chkA p.1 p.2) = true := by decide +kernel
theorem chk_15 : ((tblC.drop 495).take 33).all (fun p => chkA p.1 p.2) = true := by decide +kernel
theorem chk_len : (ddp allM).length = certs.length := by decide +kernel
theorem tbl_len : tblC.length ≤ 528 := by
  unfold tblC
  rw [List.length_zip]
  exact Nat.le_trans (Nat.min_le_right ..) (by decide +kernel)
theorem all_td {α : Type} {p : α → Bool} {l : List α} {i k : Nat} (h1 : ((l.drop i).take k).all p = true) (h2 : (l.drop (i + k)).all p = true) : (l.drop i).all p = true := by
  rw [← List.take_append_drop k (l.drop i), List.all_append, List.drop_drop, h1, h2]
  rfl
theorem chk_all : ((ddp allM).zip certs).all (fun p => chkA p.1 p.2) = true := by
  show (tblC.drop 0).all _ = true
  refine all_td chk_0 ?_
  refine all_td chk_1 ?_
  refine all_td chk_2 ?_
  refine all_td chk_3 ?_
  refine all_td chk_4 ?_
  refine all_td chk_5 ?_
  refine all_td chk_6 ?_
  refine all_td chk_7 ?_
  refine all_td chk_8 ?_
  refine all_td chk_9 ?_
  refine all_td chk_10 ?_
  refine all_td chk_11 ?_
  refine all_td chk_12 ?_
  refine all_td chk_13 ?_
  refine all_td chk_14 ?_
  refine all_td chk_15 ?_
  rw [List.drop_eq_nil_of_le tbl_len]
  rfl
theorem zip_mem {α β : Type} : ∀ {l : List α} {r : List β}, l.length = r.length → ∀ a ∈ l, ∃ b, (a, b) ∈ l.zip r
  | a :: l, b :: r, h, x, hx => by
    rcases List.mem_cons.mp hx with rfl | hx
    · exact ⟨b, List.mem_cons_self ..⟩
    · obtain ⟨y, hy⟩ := zip_mem (l := l) (r := r) (by simpa using h) x hx
      exact ⟨y, List.mem_cons_of_mem _ hy⟩
theorem chk_mem {m : Mx} (h : m ∈ allM) : ∃ q, Chk m q := by
  obtain ⟨q, hq⟩ := zip_mem chk_len m (ddp_mem h)
  exact ⟨q, chk_out (List.all_eq_true.mp chk_all _ hq)⟩
theorem drawn_sys {w : Way} (h : Drawn w) : ∃ mx mn q, Sys w mx mn 1 q := by
  obtain ⟨h1, h2, h3⟩ := h
  obtain ⟨q, hq⟩ := chk_mem h1
  obtain ⟨mx, mn, s⟩ := hq.sys h2 h3
  exact ⟨mx, mn, q, s⟩
theorem drawn_fine {w : Way} (h : Drawn w) : ∃ B, w.Fine B ∧ w.Near B := by
  obtain ⟨mx, mn, q, s⟩ := drawn_sys h
  exact ⟨q.R, s.fine, s.nearR⟩
theorem least_eq {m : Mx} {n : Nat} (hD : detM m ≠ 0) : leastD n m = (leastF (adjM m) (detM m).natAbs (detM m).natAbs (boxL n (detM m).natAbs) [] []).1.reverse :=
  (leastF_out hD rfl _ _ [] [] rfl (Nat.zero_add _)).2
def famB (c b : Nat) : Bool := decide ((famW c b).m ∈ plane0) && (decide (detM (famW c b).m ≠ 0) && decide ((leastF (adjM (famW c b).m) (detM (famW c b).m).natAbs (detM (famW c b).m).natAbs (boxL 2 (detM (famW c b).m).natAbs) [] []).1.reverse = (famW c b).ds))
def linB (c : Nat) : Bool := decide ((linW c).m ∈ lineM) && (decide (detM (linW c).m ≠ 0) && decide ((leastF (adjM (linW c).m) (detM (linW c).m).natAbs (detM (linW c).m).natAbs (boxL 1 (detM (linW c).m).natAbs) [] []).1.reverse = (linW c).ds))
theorem fam_all : ((List.range 8).all fun c => (List.range (c + 4)).all fun b => famB c b) = true := by decide +kernel
theorem lin_all : ((List.range 9).all fun c => linB c) = true := by decide +kernel
theorem facts : Facts := by
  refine ⟨fun m hm => ?_, fun w hw => ?_, fun c b hc hb => ?_, fun c hc => ?_⟩
  · obtain ⟨q, hq⟩ := chk_mem hm
    exact ⟨hq.mok, hq.asm⟩
  · obtain ⟨mx, mn, q, s⟩ := drawn_sys hw
    exact s.ok
  · have := List.all_eq_true.mp (List.all_eq_true.mp fam_all c (List.mem_range.mpr hc)) b (List.mem_range.mpr hb)
    unfold famB at this
    rw [Bool.and_eq_true, Bool.and_eq_true] at this
    obtain ⟨h1, h2, h3⟩ := this
    refine ⟨?_, rfl, .inl ?_⟩
    · unfold allM planeM
      exact List.mem_append_right _ (List.mem_append_left _ (List.mem_append_left _ (of_decide_eq_true h1)))
    · show _ = leastD 2 (famW c b).m
      rw [least_eq (of_decide_eq_true h2)]
      exact (of_decide_eq_true h3).symm
  · have := List.all_eq_true.mp lin_all c (List.mem_range.mpr hc)
    unfold linB at this
    rw [Bool.and_eq_true, Bool.and_eq_true] at this
    obtain ⟨h1, h2, h3⟩ := this
    refine ⟨?_, rfl, .inl ?_⟩
    · unfold allM
      exact List.mem_append_left _ (of_decide_eq_true h1)
    · show _ = leastD 1 (linW c).m
      rw [least_eq (of_decide_eq_true h2)]
      exact (of_decide_eq_true h3).symm
end K13
namespace K13
open PySem
/-! ## The family; the last way -/
def famS : List (List (List Pt)) := [
  [[[1, 0], [-1, 0], [0, 1], [0, -1], [0, 0], [1, -1], [-1, 1]],
  [[1, 0], [-1, 0], [0, 1], [0, -1], [0, 0]],
  [[1, 0], [-1, 0], [0, 1], [0, -1], [0, 0], [-1, -1], [1, 1]],
  [[1, 0], [-1, 0], [0, 1], [0, -1], [0, 0], [-2, -1], [2, 1], [1, 1], [-1, -1]]],
  [[[1, 0], [-1, 0], [0, 1], [0, -1], [0, 0], [1, -1], [-1, 1]],
  [[1, 0], [-1, 0], [0, 1], [0, -1], [0, 0]],
  [[1, 0], [-1, 0], [0, 1], [0, -1], [0, 0], [-1, -1], [1, 1]],
  [[1, 0], [-1, 0], [0, 1], [0, -1], [0, 0], [-2, -1], [2, 1], [1, 1], [-1, -1]],
  [[1, 0], [-1, 0], [0, 1], [0, -1], [0, 0], [-3, -1], [3, 1], [2, 1], [-2, -1]]],
  [[[1, 0], [-1, 0], [0, 1], [0, -1], [0, 0], [1, -1], [-1, 1]],
  [[1, 0], [-1, 0], [0, 1], [0, -1], [0, 0]],
  [[1, 0], [-1, 0], [0, 1], [0, -1], [0, 0], [-1, -1], [1, 1]],
  [[1, 0], [-1, 0], [0, 1], [0, -1], [0, 0], [-2, -1], [2, 1], [1, 1], [-1, -1]],
  [[1, 0], [-1, 0], [0, 1], [0, -1], [0, 0], [-3, -1], [3, 1], [2, 1], [-2, -1]],
  [[1, 0], [-1, 0], [0, 1], [0, -1], [0, 0], [-4, -1], [4, 1], [3, 1], [-3, -1]]],
  [[[1, 0], [-1, 0], [0, 1], [0, -1], [0, 0], [1, -1], [-1, 1]],
  [[1, 0], [-1, 0], [0, 1], [0, -1], [0, 0]],
  [[1, 0], [-1, 0], [0, 1], [0, -1], [0, 0], [-1, -1], [1, 1]],
  [[1, 0], [-1, 0], [0, 1], [0, -1], [0, 0], [-2, -1], [2, 1], [1, 1], [-1, -1]],
  [[1, 0], [-1, 0], [0, 1], [0, -1], [0, 0], [-3, -1], [3, 1], [2, 1], [-2, -1]],
  [[1, 0], [-1, 0], [0, 1], [0, -1], [0, 0], [-4, -1], [4, 1], [3, 1], [-3, -1]],
  [[1, 0], [-1, 0], [0, 1], [0, -1], [0, 0], [-5, -1], [5, 1], [4, 1], [-4, -1]]],
  [[[1, 0], [-1, 0], [0, 1], [0, -1], [0, 0], [1, -1], [-1, 1]],
  [[1, 0], [-1, 0], [0, 1], [0, -1], [0, 0]],
  [[1, 0], [-1, 0], [0, 1], [0, -1], [0, 0], [-1, -1], [1, 1]],
  [[1, 0], [-1, 0], [0, 1], [0, -1], [0, 0], [-2, -1], [2, 1], [1, 1], [-1, -1]],
  [[1, 0], [-1, 0], [0, 1], [0, -1], [0, 0], [-3, -1], [3, 1], [2, 1], [-2, -1]],
  [[1, 0], [-1, 0], [0, 1], [0, -1], [0, 0], [-4, -1], [4, 1], [3, 1], [-3, -1]],
  [[1, 0], [-1, 0], [0, 1], [0, -1], [0, 0], [-5, -1], [5, 1], [4, 1], [-4, -1]],
  [[1, 0], [-1, 0], [0, 1], [0, -1], [0, 0], [-6, -1], [6, 1], [5, 1], [-5, -1]]],
  [[[1, 0], [-1, 0], [0, 1], [0, -1], [0, 0], [1, -1], [-1, 1]],
  [[1, 0], [-1, 0], [0, 1], [0, -1], [0, 0]],
  [[1, 0], [-1, 0], [0, 1], [0, -1], [0, 0], [-1, -1], [1, 1]],
  [[1, 0], [-1, 0], [0, 1], [0, -1], [0, 0], [-2, -1], [2, 1], [1, 1], [-1, -1]],
  [[1, 0], [-1, 0], [0, 1], [0, -1], [0, 0], [-3, -1], [3, 1], [2, 1], [-2, -1]],
  [[1, 0], [-1, 0], [0, 1], [0, -1], [0, 0], [-4, -1], [4, 1], [3, 1], [-3, -1]],
  [[1, 0], [-1, 0], [0, 1], [0, -1], [0, 0], [-5, -1], [5, 1], [4, 1], [-4, -1]],
  [[1, 0], [-1, 0], [0, 1], [0, -1], [0, 0], [-6, -1], [6, 1], [5, 1], [-5, -1]],
  [[1, 0], [-1, 0], [0, 1], [0, -1], [0, 0], [-7, -1], [7, 1], [6, 1], [-6, -1]]],
  [[[1, 0], [-1, 0], [0, 1], [0, -1], [0, 0], [1, -1], [-1, 1]],
  [[1, 0], [-1, 0], [0, 1], [0, -1], [0, 0]],
  [[1, 0], [-1, 0], [0, 1], [0, -1], [0, 0], [-1, -1], [1, 1]],
  [[1, 0], [-1, 0], [0, 1], [0, -1], [0, 0], [-2, -1], [2, 1], [1, 1], [-1, -1]],
  [[1, 0], [-1, 0], [0, 1], [0, -1], [0, 0], [-3, -1], [3, 1], [2, 1], [-2, -1]],
  [[1, 0], [-1, 0], [0, 1], [0, -1], [0, 0], [-4, -1], [4, 1], [3, 1], [-3, -1]],
  [[1, 0], [-1, 0], [0, 1], [0, -1], [0, 0], [-5, -1], [5, 1], [4, 1], [-4, -1]],
  [[1, 0], [-1, 0], [0, 1], [0, -1], [0, 0], [-6, -1], [6, 1], [5, 1], [-5, -1]],
  [[1, 0], [-1, 0], [0, 1], [0, -1], [0, 0], [-7, -1], [7, 1], [6, 1], [-6, -1]],
  [[1, 0], [-1, 0], [0, 1], [0, -1], [0, 0], [-8, -1], [8, 1], [7, 1], [-7, -1]]],
  [[[1, 0], [-1, 0], [0, 1], [0, -1], [0, 0], [1, -1], [-1, 1]],
  [[1, 0], [-1, 0], [0, 1], [0, -1], [0, 0]],
  [[1, 0], [-1, 0], [0, 1], [0, -1], [0, 0], [-1, -1], [1, 1]],
  [[1, 0], [-1, 0], [0, 1], [0, -1], [0, 0], [-2, -1], [2, 1], [1, 1], [-1, -1]],
  [[1, 0], [-1, 0], [0, 1], [0, -1], [0, 0], [-3, -1], [3, 1], [2, 1], [-2, -1]],
  [[1, 0], [-1, 0], [0, 1], [0, -1], [0, 0], [-4, -1], [4, 1], [3, 1], [-3, -1]],
  [[1, 0], [-1, 0], [0, 1], [0, -1], [0, 0], [-5, -1], [5, 1], [4, 1], [-4, -1]],
  [[1, 0], [-1, 0], [0, 1], [0, -1], [0, 0], [-6, -1], [6, 1], [5, 1], [-5, -1]],
  [[1, 0], [-1, 0], [0, 1], [0, -1], [0, 0], [-7, -1], [7, 1], [6, 1], [-6, -1]],
  [[1, 0], [-1, 0], [0, 1], [0, -1], [0, 0], [-8, -1], [8, 1], [7, 1], [-7, -1]],
  [[1, 0], [-1, 0], [0, 1], [0, -1], [0, 0], [-9, -1], [9, 1], [8, 1], [-8, -1]]]]

def rowB (w : Way) : Nat → Pt → Bool
  | 0, _ => false
  | k + 1, p => bif decide (w.rest p = p) then Nat.beq (w.num p) 0 else rowB w k (w.rest p)
theorem rowB_row {w : Way} : ∀ {k : Nat} {p : Pt}, rowB w k p = true → w.Row p
  | 0, _, h => by cases h
  | k + 1, p, h => by
    unfold rowB at h
    cases c : decide (w.rest p = p) with
    | true =>
      rw [c] at h
      exact ⟨0, of_decide_eq_true c, Nat.eq_of_beq_eq_true h⟩
    | false =>
      rw [c] at h
      exact Way.row_rest.mp (rowB_row h)
def clsB (w : Way) (S : List Pt) : Bool := (unitsL w.n).all (fun p => decide (p ∈ S)) && (S.all fun p => (w.carries p).all fun q => decide (q ∈ S))
theorem clsB_sub {w : Way} {S F : List Pt} (h : clsB w S = true) (hF : w.Least (unitsL w.n) F) : ∀ p ∈ F, p ∈ S := by
  unfold clsB at h
  rw [Bool.and_eq_true] at h
  exact hF.least S (fun p hp q hq => of_decide_eq_true (List.all_eq_true.mp (List.all_eq_true.mp h.2 p hp) q hq)) fun p hp => of_decide_eq_true (List.all_eq_true.mp h.1 p hp)
theorem clsB_big {w : Way} {S : List Pt} (h : clsB w S = true) (hl : S.length ≤ 600) : ¬ w.Big (unitsL w.n) := by
  rintro ⟨F, nd, hF, hall⟩
  unfold clsB at h
  rw [Bool.and_eq_true] at h
  have := hall S (fun p hp q hq => of_decide_eq_true (List.all_eq_true.mp (List.all_eq_true.mp h.2 p hp) q hq)) fun p hp => of_decide_eq_true (List.all_eq_true.mp h.1 p hp)
  have := nodup_le nd this
  omega
def famK (c b : Nat) : Bool := clsB (famW c b) ((famS.getD c []).getD b []) && (((famS.getD c []).getD b []).all (rowB (famW c b) 8) && Nat.ble ((famS.getD c []).getD b []).length 600)
theorem famK_all : ((List.range 8).all fun c => (List.range (c + 4)).all fun b => famK c b) = true := by decide +kernel
theorem fam_rows {c b : Nat} (hc : c < 8) (hb : b < c + 4) : (¬ (famW c b).Big (unitsL 2)) ∧ ∀ F, (famW c b).Least (unitsL 2) F → ∀ p ∈ F, (famW c b).Row p := by
  have := List.all_eq_true.mp (List.all_eq_true.mp famK_all c (List.mem_range.mpr hc)) b (List.mem_range.mpr hb)
  unfold famK at this
  rw [Bool.and_eq_true, Bool.and_eq_true] at this
  obtain ⟨h1, h2, h3⟩ := this
  exact ⟨clsB_big h1 (Nat.le_of_ble_eq_true h3), fun F hF p hp => rowB_row (List.all_eq_true.mp h2 p (clsB_sub h1 hF p hp))⟩
/-! a way with given digits -/
def chkL (w : Way) (q : Crt) : Bool :=
  mokB w.m w.D && (decide (w.m.length = w.n) && (decide (w.A.length = w.n) && (w.A.all (fun r => decide (r.length = w.n)) && ((w.A.all fun r => r.all fun x => inR (-1000) 1000 x) && (Nat.beq w.ds.length w.D.natAbs && (w.ds.all (fun d => decide (d.length = w.n)) && (decide (w.ds.head? = some (zeroP w.n)) && (decide ((w.ds.map (keyN w.A w.D.natAbs)).Nodup) &&
    (((List.range w.n).all fun j => clsK w.A w.D.natAbs (w.ds.map (keyN w.A w.D.natAbs)) j) && (chkC w.n (sgA3 w.A w.D) w.D.natAbs (mxV w.ds) (mnV w.ds) 0 q && zokC w.n q))))))))))
theorem chkL_sys {w : Way} {q : Crt} (h : chkL w q = true) : Sys w (mxV w.ds) (mnV w.ds) 0 q := by
  unfold chkL at h
  simp only [Bool.and_eq_true] at h
  obtain ⟨h1, h2, h3, h4, h5, h6, h7, h8, h9, h10, h11, h12⟩ := h
  unfold mokB at h1
  simp only [Bool.and_eq_true, decide_eq_true_eq, List.all_eq_true, inR_iff] at h1
  obtain ⟨m1, m2, m3', m4, m5, m6, m7, m8⟩ := h1
  have hn := of_decide_eq_true h2
  rw [hn] at m1 m2 m3'
  have hlen : ∀ d ∈ w.ds, d.length = w.n := fun d hd => of_decide_eq_true (List.all_eq_true.mp h7 d hd)
  have asq : ∀ r ∈ w.A, r.length = w.n := fun r hr => of_decide_eq_true (List.all_eq_true.mp h4 r hr)
  have ok : w.Ok := by
    refine ⟨⟨⟨hn, fun r hr => (m1 r hr).1⟩, m2, m3', fun r hr x hx => (m1 r hr).2 x hx, m4.1, m4.2, m5, m6, m7, by omega, by omega⟩, fun r hr x hx => ?_, Nat.eq_of_beq_eq_true h6, hlen, ?_, of_decide_eq_true h8, fun p hp => ?_⟩
    · have := inR_iff.mp (List.all_eq_true.mp (List.all_eq_true.mp h5 r hr) x hx)
      omega
    · have := of_decide_eq_true h9
      unfold List.Nodup at this ⊢
      rw [List.pairwise_map] at this ⊢
      exact this.imp fun {a b} z e => z ((keyN_iff m5).mpr ((key_iff m5).mp e))
    · have h0 : keyN w.A w.D.natAbs (zeroP w.n) ∈ w.ds.map (keyN w.A w.D.natAbs) := List.mem_map_of_mem (List.mem_of_head? (of_decide_eq_true h8))
      have := key_all m5 m3' asq (fun j hj => List.all_eq_true.mp h10 j (List.mem_range.mpr hj)) h0 p hp
      obtain ⟨f, hf, e⟩ := List.mem_map.mp this
      exact List.mem_map.mpr ⟨f, hf, (key_iff m5).mpr ((keyN_iff m5).mp e)⟩
  refine ⟨ok, fun d hd => ⟨v3 d, mx_bt hd, ⟨0, 0, 0⟩, ⟨⟨?_, ?_⟩, ⟨?_, ?_⟩, ?_, ?_⟩, ?_, ?_, ?_⟩, h11, h12⟩ <;> simp
def lastW : Way := ⟨2, [[4, 0], [0, -3]], [[0, 0], [0, 1], [0, 2], [21, 0], [21, 1], [21, 2], [-2, 0], [-2, 1], [-2, 2], [-1, 0], [-1, 1], [-1, 2]]⟩
def lastQ : Crt := ⟨7, 7, ⟨7, 1, 0⟩, ⟨7, 7, 0⟩, ⟨0, 0, 0⟩, ⟨7, 0, 0⟩⟩
theorem last_sys : Sys lastW (mxV lastW.ds) (mnV lastW.ds) 0 lastQ := chkL_sys (by decide +kernel)
def lastS : List Pt := [[1, 0], [-1, 0], [0, 1], [0, -1], [-5, 0], [6, 0], [0, 0], [5, 0], [-6, 0], [4, 0], [-7, 0], [2, 0], [7, 0], [-4, 0], [-2, 0]]
theorem last_cls : clsB lastW lastS = true := by decide +kernel
theorem last_big : ¬ lastW.Big (unitsL 2) := clsB_big last_cls (by decide)
theorem stay_row {w : Way} {p : Pt} (h : w.rest p = p) (hn : w.num p ≠ 0) : ¬ w.Row p := by
  have : ∀ i, w.orb p i = p := fun i => by
    induction i with
    | zero => rfl
    | succ i ih => show w.rest (w.orb p i) = p; rw [ih, h]
  rintro ⟨i, _, h2⟩
  rw [this] at h2
  exact hn h2
theorem last_stay : ¬ lastW.Row [-7, 0] := stay_row (by decide +kernel) (by decide +kernel)
theorem last_77 : ¬ lastW.Row [-7, -7] := fun h => by
  have h2 := (Way.row_orb 4).mpr h
  have e : lastW.orb [-7, -7] 4 = [-7, 0] := by decide +kernel
  rw [e] at h2
  exact last_stay h2
theorem last_in {F : List Pt} (hF : lastW.Least (unitsL 2) F) : [-7, 0] ∈ F := by
  have h1 : [1, 0] ∈ F := hF.sub _ (by decide)
  have h2 : [-5, 0] ∈ F := hF.closed _ h1 _ (by decide +kernel)
  exact hF.closed _ h2 _ (by decide +kernel)
theorem last_near : (cubeL 2 6).all (rowB lastW 12) = true := by decide +kernel
theorem last_first : lastW.First [-7, -7] := by
  refine ⟨7, last_77, ⟨[], (cubeL 2 7).tail, by decide +kernel, fun q hq => by cases hq⟩, fun c h0 hc q hq => ?_⟩
  refine rowB_row (List.all_eq_true.mp last_near q ?_)
  obtain ⟨h1, h2⟩ := cube_iff.mp hq
  exact cube_iff.mpr ⟨h1, fun x hx => by have := h2 x hx; omega⟩
end K13
namespace K13
open PySem PySem.Spec PyProof.Rows L2 Evl
def sp_law (K : PySem.W.Frag) : Sp := fun vs H Q _ => ∃ (a : Addr) (ns : List Int), vs = [.ref a] ∧ SqL K H a (ns.map V.int) ∧ ns.length ≤ 1000 ∧ ∀ H', Q (.bl true) H'
section
variable {K : PySem.W.Frag} {σ : L2.St} {H : Hp} {C Ct : Addr} {te ta : TE}
theorem fam_fine {c b : Nat} (hc : c < 8) (hb : b < c + 4) : ∃ B, (famW c b).Fine B := by
  obtain ⟨B, h, _⟩ := drawn_fine (facts.fam c b hc hb)
  exact ⟨B, h⟩
theorem spp_famA {c b : Nat} {v : V} (hc : c < 8) (hb : b < c + 4) (hw : Wr C H v (famW c b)) : SpP (sp_all_have_rows C Ct) [v] H (isV (.bl true)) := fun H1 e Q q E => by
  obtain ⟨B, fine⟩ := fam_fine hc hb
  obtain ⟨nb, rows⟩ := fam_rows hc hb
  exact ⟨v, famW c b, B, rfl, hw.ex e, fine, fun H' F t e' hF _ ht => q _ H' e' (by rw [ht.mpr (rows F hF)]; rfl), fun cls d H' e' hbig => (nb hbig).elim⟩
theorem spp_famF {c b : Nat} {v : V} (hc : c < 8) (hb : b < c + 4) (hw : Wr C H v (famW c b)) : SpP (sp_first_without_row C Ct) [v] H (isV .non) := fun H1 e Q q E => by
  obtain ⟨B, fine⟩ := fam_fine hc hb
  obtain ⟨nb, rows⟩ := fam_rows hc hb
  exact ⟨v, famW c b, B, rfl, hw.ex e, fine, fun H' F e' _ _ _ => q _ H' e' rfl, fun v' H' F p e' hF _ ⟨x, hx, hn⟩ => (hn (rows F hF x hx)).elim, fun cls d H' e' hbig => (nb hbig).elim⟩
theorem spp_last {v : V} (hw : Wr C H v lastW) : SpP (sp_first_without_row C Ct) [v] H (fun u H' => PtV H' u [-7, -7]) := fun H1 e Q q E =>
  ⟨v, lastW, 7, rfl, hw.ex e, last_sys.fine, fun H' F e' hF _ hall => (last_stay (hall _ (last_in hF))).elim, fun v' H' F p e' hF _ _ hp hv => q v' H' e' (by
    rw [first_unique last_sys.ok hp last_first] at hv
    exact hv), fun cls d H' e' hbig => (last_big hbig).elim⟩
theorem sql_ex {a : Addr} {xs : List V} {H' : Hp} (h : SqL K H a xs) (e : Ex H H') : SqL K H' a xs := h.elim (fun h => .inl (h.elim (fun h => .inl (e _ _ h)) fun ⟨o, h⟩ => .inr ⟨o, e _ _ h⟩)) .inr
def lows : List Int := [21, -2, -1]
def digs0 (k : Nat) : List Pt := [[0, 0], [0, 1], [0, 2]] ++ (lows.take k).flatMap fun x => [[x, 0], [x, 1], [x, 2]]
theorem p_law (vs : List V) (H : Hp) (Q : VK) (E : XK) (h : sp_law K vs H Q E) : t_law K C Ct (En Q) (start ["_law_script", "_law_index", "_law_digits_here", "_law_low", "_law_generator_here", "_law_way_here", "_law_writing"] vs) H := by
  obtain ⟨a, ns, rfl, hS, hns, k⟩ := h
  refine q_forF (evf_rng1 (mu := []) (n := 3) ev_c (by decide)) (fun i σ' H' => ∃ z1 z4 z5 z6, σ' = [some (.ref a), z1, none, none, z4, z5, z6]) (fun i σ' H' H'' e h => h) ⟨_, _, _, _, rfl⟩
    (fun B i x σ' H1 hin eB kp ⟨z1, z4, z5, z6, es⟩ hx => ?_) fun σ' H1 kp ⟨z1, z4, z5, z6, es⟩ => ?_
  · subst es hx
    have e01 : Ex H H1 := eB.trans fun c o hc => kp.1 c o (by simp) hc
    have hi3 : i < 3 := hin
    refine q_asgP (σ := [some (.ref a), some (.int (i : Int)), none, none, z4, z5, z6]) (P := fun u H' => ∃ g, u = .ref g ∧ H1 g = none ∧ RG (1000 * i) H' g) (evp_callA (P := fun u H' => ∃ g, u = .ref g ∧ H1 g = none ∧ RG (1000 * i) H' g) (ea_cons (ev_var rfl) (ea_cons (ev_var rfl) ea_nil)) fun H3 e3 Q q E => ⟨_, ⟨a, ns, i, rfl, sql_ex hS (e01.trans e3), hns, by omega, rfl⟩, fun u H' e' ⟨g, eu, hg0, hg⟩ => q u H' e' ⟨g, eu, fresh_back e3 hg0, hg⟩⟩) fun u H2 e2 ⟨g, eu, hg0, hg⟩ => ?_
    subst eu
    have mem0 : ∀ c ∈ [g], H1 c = none := fun c hc => by rw [List.mem_singleton.mp hc]; exact hg0
    show tCall sp_law_way_right [] E0 (tCons (tCall sp_law_any_way [] E0 (tCons (tVar 4) tNil)) tNil) [some (.ref a), some (.int (i : Int)), none, none, some (.ref g), z5, z6] H2 _
    refine spR_in (k := 300) (σ := [some (.ref a), some (.int (i : Int)), none, none, some (.ref g), z5, z6]) (R := fun v H' => ∃ w, LW H' v w ∧ Drawn w) (ea_cons (ev_var rfl) ea_nil) (fun H3 e3 => ⟨rfl, rfl⟩) hg (by omega) fun v H3 k3 g3 ⟨w, hv, hd⟩ => ?_
    obtain ⟨B', fine, near⟩ := drawn_fine hd
    refine ⟨_, ⟨v, w, B', rfl, hv, fine, near, rfl⟩, fun v4 H4 e4 ev4 => ?_⟩
    obtain rfl : v4 = .bl true := ev4
    refine ⟨true, rfl, ?_⟩
    have g4 := g3.ex e4
    show tSeq (tAsg (tCall sp_law_family [] E0 (tCons (tVar 4) tNil)) (gName 5)) _ _ [some (.ref a), some (.int (i : Int)), none, none, some (.ref g), z5, z6] H4
    refine spR_in (k := 5) (σ := [some (.ref a), some (.int (i : Int)), none, none, some (.ref g), z5, z6]) (R := fun v H' => ∃ c b, c < 8 ∧ b < c + 4 ∧ LW H' v (famW c b)) (ea_cons (ev_var rfl) ea_nil) (fun H3 e3 => ⟨rfl, rfl⟩) g4 (by omega) fun y H5 k5 g5 ⟨c, b, hc, hb, hy⟩ => ?_
    have ok := facts.ok _ (facts.fam c b hc hb)
    have e15 : Ex H1 H5 := kp_ex e2 ((k3.trans (Kp.ex e4)).trans k5) mem0
    refine q_asgP (σ := [some (.ref a), some (.int (i : Int)), none, none, some (.ref g), some y, z6]) (evp_wrW (K := K) (C := C) (i := 5) rfl hy ok) fun x H6 e6 hx => ?_
    show tIfS _ _ _ _ [some (.ref a), some (.int (i : Int)), none, none, some (.ref g), some y, some x] H6
    have kpe : ∀ {H7 : Hp}, Ex H6 H7 → Kp [] B H7 := fun {H7} e7 => kp.trans (Kp.ex ((e15.trans e6).trans e7))
    refine s_when (b := false) (et_or (a := false) (b := false) (et_test (ev_op (x := .bl true) (y := .bl true) (ev_callV (ea_cons (ev_var rfl) ea_nil) (spp_famA hc hb hx)) ev_c fun H1 e Q q => ⟨true, true, rfl, rfl, q H1 (Ex.refl H1)⟩)) fun _ => et_test (evp_notN (P := isV .non) (evp_callA (ea_cons (ev_var rfl) ea_nil) (spp_famF hc hb hx)) fun v H' h => by rw [show v = .non from h]; rfl)) (fun h => by cases h) fun _ H7 e7 => ?_
    exact ⟨⟨_, _, _, _, rfl⟩, kpe e7⟩
  · subst es
    refine q_asgP (P := fun u H' => ∃ l, u = .ref l ∧ LA H' l (digs0 0)) ((evp_lstPts (ps := [[0, 0], [0, 1], [0, 2]]) (epa_cons (evp_pt (p := [0, 0]) (ea_cons ev_c (ea_cons ev_c ea_nil)) (by show 2 ≤ 100000; decide)) fun H3 e3 => epa_cons (evp_pt (p := [0, 1]) (ea_cons ev_c (ea_cons ev_c ea_nil)) (by show 2 ≤ 100000; decide)) fun H4 e4 => epa_cons (evp_pt (p := [0, 2]) (ea_cons ev_c (ea_cons ev_c ea_nil)) (by show 2 ≤ 100000; decide)) fun H5 e5 => epa_nil) (by show 3 ≤ 100000; decide)).imp fun v H' _ ⟨l, h1, _, h2⟩ => ⟨l, h1, h2⟩) fun u H2 e2 ⟨l, eu, hl⟩ => ?_
    subst eu
    show tSeq _ _ _ [some (.ref a), z1, some (.ref l), none, z4, z5, z6] H2
    refine q_forF (evf_listP (K := K) (mu := []) (n := 3) (Px := fun xs _ => xs = lows.map V.int) (fun b hb => by cases hb) (fun ys H H' _ h => h) ((evp_lst (vs := lows.map V.int) (ea_cons ev_c (ea_cons (ev_un ev_c ru_neg) (ea_cons (ev_un ev_c ru_neg) ea_nil))) (by decide)).imp fun v H' _ ⟨t, h1, h2, h3⟩ => ⟨t, _, h1, h2, h3, rfl, rfl⟩)) (fun i σ' H' => ∃ l z3, σ' = [some (.ref a), z1, some (.ref l), z3, z4, z5, z6] ∧ LA H' l (digs0 i)) (fun i σ' H' H'' e ⟨l, z3, h1, h2⟩ => ⟨l, z3, h1, h2.ex e⟩) ⟨l, none, rfl, hl⟩
      (fun B i x σ' H3 hin eB kp ⟨l, z3, es, hl⟩ ⟨xs, hxs, _, ex⟩ => ?_) fun σ' H3 kp ⟨l, z3, es, hl⟩ => ?_
    · subst es ex
      have hi3 : i < lows.length := hin
      obtain rfl : x = .int lows[i] := by
        rw [List.getElem?_map, List.getElem?_eq_getElem hi3] at hxs
        exact (Option.some.inj hxs).symm
      have hstep : digs0 (i + 1) = digs0 i ++ [[lows[i], 0], [lows[i], 1], [lows[i], 2]] := by
        unfold digs0
        rw [List.take_succ, List.getElem?_eq_getElem hi3, List.flatMap_append, List.append_assoc]
        rfl
      have hlen : (digs0 i).length ≤ 12 := by
        have : ∀ j, j < 3 → (digs0 j).length ≤ 12 := by decide
        exact this i hi3
      show tAsg _ _ _ [some (.ref a), z1, some (.ref l), some (.int lows[i]), z4, z5, z6] H3
      have hpts : ∀ H4, Ex H3 H4 → EvP (tLst (tCons (tTup (tCons (tVar 3) (tCons (tC (.int 0)) tNil))) (tCons (tTup (tCons (tVar 3) (tCons (tC (.int 1)) tNil))) (tCons (tTup (tCons (tVar 3) (tCons (tC (.int 2)) tNil))) tNil)))) [some (.ref a), z1, some (.ref l), some (.int lows[i]), z4, z5, z6] H4 fun v H' => ∃ l, v = .ref l ∧ LA H' l [[lows[i], 0], [lows[i], 1], [lows[i], 2]] := fun H4 e4 =>
        (evp_lstPts (ps := [[lows[i], 0], [lows[i], 1], [lows[i], 2]]) (epa_cons (evp_pt (p := [lows[i], 0]) (ea_cons (ev_var rfl) (ea_cons ev_c ea_nil)) (by show 2 ≤ 100000; decide)) fun H3 e3 => epa_cons (evp_pt (p := [lows[i], 1]) (ea_cons (ev_var rfl) (ea_cons ev_c ea_nil)) (by show 2 ≤ 100000; decide)) fun H4 e4 => epa_cons (evp_pt (p := [lows[i], 2]) (ea_cons (ev_var rfl) (ea_cons ev_c ea_nil)) (by show 2 ≤ 100000; decide)) fun H5 e5 => epa_nil) (by show 3 ≤ 100000; decide)).imp fun v H' _ ⟨l, h1, _, h2⟩ => ⟨l, h1, h2⟩
      refine s_asgP (evp_catLA (ps := digs0 i) (by show _ + 3 ≤ _; omega) (EvP.of (ev_var rfl) fun H9 e9 => ⟨l, rfl, hl.ex e9⟩) hpts) fun v H4 e4 ⟨l4, ev, _, hl4⟩ => ?_
      subst ev
      exact ⟨⟨l4, _, rfl, by rw [hstep]; exact hl4⟩, kp.trans (Kp.ex e4)⟩
    · subst es
      have hp : LA H3 l lastW.ds := hl
      have hm : EvP (tTup (tCons (tTup (tCons (tC (.int 4)) (tCons (tC (.int 0)) tNil))) (tCons (tTup (tCons (tC (.int 0)) (tCons (tUn (rU fun i => .int (-i)) (tC (.int 3))) tNil))) tNil))) [some (.ref a), z1, some (.ref l), z3, z4, z5, z6] H3 fun v H' => MxV H' v lastW.m :=
        evp_tupPts (epa_cons (evp_pt (p := [4, 0]) (ea_cons ev_c (ea_cons ev_c ea_nil)) (by show 2 ≤ 100000; decide)) fun H3 e3 => epa_cons (evp_pt (p := [0, -3]) (ea_cons ev_c (ea_cons (ev_un ev_c ru_neg) ea_nil)) (by show 2 ≤ 100000; decide)) fun H4 e4 => epa_nil) (by show 2 ≤ 100000; decide)
      refine ret_ev (v := .bl true) (ev_is (ev_eqP (p := [-7, -7]) (q := [-7, -7]) (evp_call1 (evp_mkW hm (fun H4 e4 => EvP.of (ev_var rfl) fun H5 e5 => (hp.ex (e4.trans e5)).pl) last_sys.ok) fun x H4 e4 hx => spp_last hx) fun H4 e4 => evp_pt (p := [-7, -7]) (ea_cons (ev_un ev_c ru_neg) (ea_cons (ev_un ev_c ru_neg) ea_nil)) (by show 2 ≤ 100000; decide)) (by decide)) rfl fun v' H' e hv => ?_
      rw [show v' = .bl true from hv]
      exact k H'
end
end K13
namespace K13
open PySem PySem.Spec PyProof.Rows L2 Evl
section
variable {P : Program} {w : World} {K : PySem.W.Frag} {mg : Str → Option Value} {base : Heap} {C Ct : Addr}
theorem f_is_whole (G : Glo K mg C) : Fn P w K mg base (L2.CX P w) 1 "is_whole" ["value"] sp_is_whole := G.ok (i := 8) (k := 0) (by decide) sc_is_whole (fun _ _ _ _ _ _ us hl => match us, hl with | [_], _ => rfl) (by intro vs H Q E h; obtain ⟨R, h, -⟩ := h; (repeat (obtain ⟨_, h⟩ := h)); subst_vars; rfl) (fun f cdv A outer s H vs Q E hr h => ⟨t_is_whole K, PSs.nox (d_is_whole G  hr), p_is_whole  vs H Q E h⟩)
theorem f_is_between (G : Glo K mg C) : Fn P w K mg base (L2.CX P w) 2 "is_between" ["value", "low", "high"] sp_is_between := G.ok (i := 9) (k := 1) (by decide) sc_is_between (fun _ _ _ _ _ _ us hl => match us, hl with | [_, _, _], _ => rfl) (by intro vs H Q E h; obtain ⟨R, h, -⟩ := h; (repeat (obtain ⟨_, h⟩ := h)); subst_vars; rfl) (fun f cdv A outer s H vs Q E hr h => ⟨t_is_between K, PSs.nox (d_is_between G (f_is_whole G) hr), p_is_between  vs H Q E h⟩)
theorem f_is_point_for (G : Glo K mg C) : Fn P w K mg base (L2.CX P w) 2 "is_point_for" ["size", "value"] sp_is_point_for := G.ok (i := 10) (k := 1) (by decide) sc_is_point_for (fun _ _ _ _ _ _ us hl => match us, hl with | [_, _], _ => rfl) (by intro vs H Q E h; obtain ⟨R, h, -⟩ := h; (repeat (obtain ⟨_, h⟩ := h)); subst_vars; rfl) (fun f cdv A outer s H vs Q E hr h => ⟨t_is_point_for K, PSs.nox (d_is_point_for G (f_is_whole G) hr), p_is_point_for  vs H Q E h⟩)
theorem f_are_points (G : Glo K mg C) : Fn P w K mg base (L2.CX P w) 3 "are_points" ["size", "value"] sp_are_points := G.ok (i := 11) (k := 2) (by decide) sc_are_points (fun _ _ _ _ _ _ us hl => match us, hl with | [_, _], _ => rfl) (by intro vs H Q E h; obtain ⟨R, h, -⟩ := h; (repeat (obtain ⟨_, h⟩ := h)); subst_vars; rfl) (fun f cdv A outer s H vs Q E hr h => ⟨t_are_points K, PSs.nox (d_are_points G (f_is_point_for G) hr), p_are_points  vs H Q E h⟩)
theorem f_zero_point (G : Glo K mg C) : Fn P w K mg base (L2.CX P w) 1 "zero_point" ["size"] sp_zero_point := G.ok (i := 12) (k := 0) (by decide) sc_zero_point (fun _ _ _ _ _ _ us hl => match us, hl with | [_], _ => rfl) (by intro vs H Q E h; obtain ⟨R, h, -⟩ := h; (repeat (obtain ⟨_, h⟩ := h)); subst_vars; rfl) (fun f cdv A outer s H vs Q E hr h => ⟨t_zero_point K, PSs.nox (d_zero_point G  hr), p_zero_point  vs H Q E h⟩)
theorem f_unit_points (G : Glo K mg C) : Fn P w K mg base (L2.CX P w) 1 "unit_points" ["size"] sp_unit_points := G.ok (i := 13) (k := 0) (by decide) sc_unit_points (fun _ _ _ _ _ _ us hl => match us, hl with | [_], _ => rfl) (by intro vs H Q E h; obtain ⟨R, h, -⟩ := h; (repeat (obtain ⟨_, h⟩ := h)); subst_vars; rfl) (fun f cdv A outer s H vs Q E hr h => ⟨t_unit_points K, PSs.nox (d_unit_points G  hr), p_unit_points  vs H Q E h⟩)
theorem f_added (G : Glo K mg C) : Fn P w K mg base (L2.CX P w) 1 "added" ["one", "other"] sp_added := G.ok (i := 14) (k := 0) (by decide) sc_added (fun _ _ _ _ _ _ us hl => match us, hl with | [_, _], _ => rfl) (by intro vs H Q E h; obtain ⟨R, h, -⟩ := h; (repeat (obtain ⟨_, h⟩ := h)); subst_vars; rfl) (fun f cdv A outer s H vs Q E hr h => ⟨t_added K, PSs.nox (d_added G  hr), p_added  vs H Q E h⟩)
theorem f_is_matrix_for (G : Glo K mg C) : Fn P w K mg base (L2.CX P w) 3 "is_matrix_for" ["size", "value"] sp_is_matrix_for := G.ok (i := 16) (k := 2) (by decide) sc_is_matrix_for (fun _ _ _ _ _ _ us hl => match us, hl with | [_, _], _ => rfl) (by intro vs H Q E h; obtain ⟨R, h, -⟩ := h; (repeat (obtain ⟨_, h⟩ := h)); subst_vars; rfl) (fun f cdv A outer s H vs Q E hr h => ⟨t_is_matrix_for K, PSs.nox (d_is_matrix_for G (f_is_point_for G) hr), p_is_matrix_for  vs H Q E h⟩)
theorem f_is_any_matrix (G : Glo K mg C) : Fn P w K mg base (L2.CX P w) 4 "is_any_matrix" ["value"] sp_is_any_matrix := G.ok (i := 17) (k := 3) (by decide) sc_is_any_matrix (fun _ _ _ _ _ _ us hl => match us, hl with | [_], _ => rfl) (by intro vs H Q E h; obtain ⟨R, h, -⟩ := h; (repeat (obtain ⟨_, h⟩ := h)); subst_vars; rfl) (fun f cdv A outer s H vs Q E hr h => ⟨t_is_any_matrix K, PSs.nox (d_is_any_matrix G (f_is_matrix_for G) hr), p_is_any_matrix  vs H Q E h⟩)
theorem f_check_matrix (G : Glo K mg C) : Fn P w K mg base (L2.CX P w) 5 "check_matrix" ["matrix"] sp_check_matrix := G.ok (i := 18) (k := 4) (by decide) sc_check_matrix (fun _ _ _ _ _ _ us hl => match us, hl with | [_], _ => rfl) (by intro vs H Q E h; obtain ⟨R, h, -⟩ := h; (repeat (obtain ⟨_, h⟩ := h)); subst_vars; rfl) (fun f cdv A outer s H vs Q E hr h => ⟨t_check_matrix K, PSs.nox (d_check_matrix G (f_is_any_matrix G) hr), p_check_matrix  vs H Q E h⟩)
theorem f_dot (G : Glo K mg C) : Fn P w K mg base (L2.CX P w) 1 "dot" ["row", "point"] sp_dot := G.ok (i := 19) (k := 0) (by decide) sc_dot (fun _ _ _ _ _ _ us hl => match us, hl with | [_, _], _ => rfl) (by intro vs H Q E h; obtain ⟨R, h, -⟩ := h; (repeat (obtain ⟨_, h⟩ := h)); subst_vars; rfl) (fun f cdv A outer s H vs Q E hr h => ⟨t_dot K, PSs.nox (d_dot G  hr), p_dot  vs H Q E h⟩)
theorem f_moved_by (G : Glo K mg C) : Fn P w K mg base (L2.CX P w) 2 "moved_by" ["matrix", "point"] sp_moved_by := G.ok (i := 20) (k := 1) (by decide) sc_moved_by (fun _ _ _ _ _ _ us hl => match us, hl with | [_, _], _ => rfl) (by intro vs H Q E h; obtain ⟨R, h, -⟩ := h; (repeat (obtain ⟨_, h⟩ := h)); subst_vars; rfl) (fun f cdv A outer s H vs Q E hr h => ⟨t_moved_by K, PSs.nox (d_moved_by G (f_dot G) hr), p_moved_by  vs H Q E h⟩)
theorem f_turned_over (G : Glo K mg C) : Fn P w K mg base (L2.CX P w) 1 "turned_over" ["matrix"] sp_turned_over := G.ok (i := 21) (k := 0) (by decide) sc_turned_over (fun _ _ _ _ _ _ us hl => match us, hl with | [_], _ => rfl) (by intro vs H Q E h; obtain ⟨R, h, -⟩ := h; (repeat (obtain ⟨_, h⟩ := h)); subst_vars; rfl) (fun f cdv A outer s H vs Q E hr h => ⟨t_turned_over K, PSs.nox (d_turned_over G  hr), p_turned_over  vs H Q E h⟩)
theorem f_product_of (G : Glo K mg C) : Fn P w K mg base (L2.CX P w) 2 "product_of" ["one", "other"] sp_product_of := G.ok (i := 22) (k := 1) (by decide) sc_product_of (fun _ _ _ _ _ _ us hl => match us, hl with | [_, _], _ => rfl) (by intro vs H Q E h; obtain ⟨R, h, -⟩ := h; (repeat (obtain ⟨_, h⟩ := h)); subst_vars; rfl) (fun f cdv A outer s H vs Q E hr h => ⟨t_product_of K, PSs.nox (d_product_of G (f_turned_over G) (f_dot G) hr), p_product_of  vs H Q E h⟩)
theorem f_without (G : Glo K mg C) : Fn P w K mg base (L2.CX P w) 1 "without" ["matrix", "row", "column"] sp_without := G.ok (i := 23) (k := 0) (by decide) sc_without (fun _ _ _ _ _ _ us hl => match us, hl with | [_, _, _], _ => rfl) (by intro vs H Q E h; obtain ⟨R, h, -⟩ := h; (repeat (obtain ⟨_, h⟩ := h)); subst_vars; rfl) (fun f cdv A outer s H vs Q E hr h => ⟨t_without K, PSs.nox (d_without G  hr), p_without  vs H Q E h⟩)
theorem f_detF (G : Glo K mg C) : ∀ n : Nat, Fn P w K mg base (L2.CX P w) (n + 1) "determinant_of" ["matrix"] (sp_detF n)
  | 0 => G.ok (i := 24) (k := 0) (by decide) sc_determinant_of (fun _ _ _ _ _ _ us hl => match us, hl with | [_], _ => rfl) (fun vs H Q E h => h.elim) (fun f cdv A outer s H vs Q E hr h => h.elim)
  | n + 1 => G.ok (i := 24) (k := n + 1) (by decide) sc_determinant_of (fun _ _ _ _ _ _ us hl => match us, hl with | [_], _ => rfl) (by intro vs H Q E h; obtain ⟨R, h, -⟩ := h; (repeat (obtain ⟨_, h⟩ := h)); subst_vars; rfl) (fun f cdv A outer s H vs Q E hr h => ⟨t_determinant_of K n, PSs.nox (d_determinant_of G (f_detF G n) (f_without G) hr), p_determinant_of n vs H Q E h⟩)
theorem f_adjugate_of (G : Glo K mg C) : Fn P w K mg base (L2.CX P w) 6 "adjugate_of" ["matrix"] sp_adjugate_of := G.ok (i := 25) (k := 5) (by decide) sc_adjugate_of (fun _ _ _ _ _ _ us hl => match us, hl with | [_], _ => rfl) (by intro vs H Q E h; obtain ⟨R, h, -⟩ := h; (repeat (obtain ⟨_, h⟩ := h)); subst_vars; rfl) (fun f cdv A outer s H vs Q E hr h => ⟨t_adjugate_of K, PSs.nox (d_adjugate_of G (f_without G) (f_detF G 4) hr), p_adjugate_of  vs H Q E h⟩)
theorem f_greatest_sum (G : Glo K mg C) : Fn P w K mg base (L2.CX P w) 1 "greatest_sum" ["matrix"] sp_greatest_sum := G.ok (i := 27) (k := 0) (by decide) sc_greatest_sum (fun _ _ _ _ _ _ us hl => match us, hl with | [_], _ => rfl) (by intro vs H Q E h; obtain ⟨R, h, -⟩ := h; (repeat (obtain ⟨_, h⟩ := h)); subst_vars; rfl) (fun f cdv A outer s H vs Q E hr h => ⟨t_greatest_sum K, PSs.nox (d_greatest_sum G  hr), p_greatest_sum  vs H Q E h⟩)
theorem f_trace_of (G : Glo K mg C) : Fn P w K mg base (L2.CX P w) 1 "trace_of" ["matrix"] sp_trace_of := G.ok (i := 28) (k := 0) (by decide) sc_trace_of (fun _ _ _ _ _ _ us hl => match us, hl with | [_], _ => rfl) (by intro vs H Q E h; obtain ⟨R, h, -⟩ := h; (repeat (obtain ⟨_, h⟩ := h)); subst_vars; rfl) (fun f cdv A outer s H vs Q E hr h => ⟨t_trace_of K, PSs.nox (d_trace_of G  hr), p_trace_of  vs H Q E h⟩)
theorem f_minor_sum (G : Glo K mg C) : Fn P w K mg base (L2.CX P w) 1 "minor_sum" ["matrix"] sp_minor_sum := G.ok (i := 29) (k := 0) (by decide) sc_minor_sum (fun _ _ _ _ _ _ us hl => match us, hl with | [_], _ => rfl) (by intro vs H Q E h; obtain ⟨R, h, -⟩ := h; (repeat (obtain ⟨_, h⟩ := h)); subst_vars; rfl) (fun f cdv A outer s H vs Q E hr h => ⟨t_minor_sum K, PSs.nox (d_minor_sum G  hr), p_minor_sum  vs H Q E h⟩)
theorem f_broken_in_space (G : Glo K mg C) : Fn P w K mg base (L2.CX P w) 1 "broken_in_space" ["whole", "trace", "minors"] sp_broken_in_space := G.ok (i := 30) (k := 0) (by decide) sc_broken_in_space (fun _ _ _ _ _ _ us hl => match us, hl with | [_, _, _], _ => rfl) (by intro vs H Q E h; obtain ⟨R, h, -⟩ := h; (repeat (obtain ⟨_, h⟩ := h)); subst_vars; rfl) (fun f cdv A outer s H vs Q E hr h => ⟨t_broken_in_space K, PSs.nox (d_broken_in_space G  hr), p_broken_in_space  vs H Q E h⟩)
theorem f_broken_by (G : Glo K mg C) : Fn P w K mg base (L2.CX P w) 6 "broken_by" ["matrix"] sp_broken_by := G.ok (i := 31) (k := 5) (by decide) sc_broken_by (fun _ _ _ _ _ _ us hl => match us, hl with | [_], _ => rfl) (by intro vs H Q E h; obtain ⟨R, h, -⟩ := h; (repeat (obtain ⟨_, h⟩ := h)); subst_vars; rfl) (fun f cdv A outer s H vs Q E hr h => ⟨t_broken_by K, PSs.nox (d_broken_by G (f_trace_of G) (f_detF G 4) (f_minor_sum G) (f_broken_in_space G) hr), p_broken_by  vs H Q E h⟩)
theorem f_stretching_of (G : Glo K mg C) : Fn P w K mg base (L2.CX P w) 7 "stretching_of" ["matrix"] sp_stretching_of := G.ok (i := 32) (k := 6) (by decide) sc_stretching_of (fun _ _ _ _ _ _ us hl => match us, hl with | [_], _ => rfl) (by intro vs H Q E h; obtain ⟨R, h, -⟩ := h; (repeat (obtain ⟨_, h⟩ := h)); subst_vars; rfl) (fun f cdv A outer s H vs Q E hr h => ⟨t_stretching_of K, PSs.nox (d_stretching_of G (f_broken_by G) (f_detF G 4) (f_adjugate_of G) (f_greatest_sum G) (f_product_of G) hr), p_stretching_of  vs H Q E h⟩)
theorem f_check_writing_matrix (G : Glo K mg C) : Fn P w K mg base (L2.CX P w) 8 "check_writing_matrix" ["matrix"] sp_check_writing_matrix := G.ok (i := 36) (k := 7) (by decide) sc_check_writing_matrix (fun _ _ _ _ _ _ us hl => match us, hl with | [_], _ => rfl) (by intro vs H Q E h; obtain ⟨R, h, -⟩ := h; (repeat (obtain ⟨_, h⟩ := h)); subst_vars; rfl) (fun f cdv A outer s H vs Q E hr h => ⟨t_check_writing_matrix K, PSs.nox (d_check_writing_matrix G (f_check_matrix G) (f_is_between G) (f_stretching_of G) (f_detF G 4) hr), p_check_writing_matrix  vs H Q E h⟩)
theorem f_numbers_of_keys (G : Glo K mg C) : Fn P w K mg base (L2.CX P w) 1 "numbers_of_keys" ["keys"] sp_numbers_of_keys := G.ok (i := 37) (k := 0) (by decide) sc_numbers_of_keys (fun _ _ _ _ _ _ us hl => match us, hl with | [_], _ => rfl) (by intro vs H Q E h; obtain ⟨R, h, -⟩ := h; (repeat (obtain ⟨_, h⟩ := h)); subst_vars; rfl) (fun f cdv A outer s H vs Q E hr h => ⟨t_numbers_of_keys K, PSs.nox (d_numbers_of_keys G  hr), p_numbers_of_keys  vs H Q E h⟩)
theorem f_rests_by (G : Glo K mg C) : Fn P w K mg base (L2.CX P w) 1 "rests_by" ["point", "whole"] sp_rests_by := G.ok (i := 38) (k := 0) (by decide) sc_rests_by (fun _ _ _ _ _ _ us hl => match us, hl with | [_, _], _ => rfl) (by intro vs H Q E h; obtain ⟨R, h, -⟩ := h; (repeat (obtain ⟨_, h⟩ := h)); subst_vars; rfl) (fun f cdv A outer s H vs Q E hr h => ⟨t_rests_by K, PSs.nox (d_rests_by G  hr), p_rests_by  vs H Q E h⟩)
end
end K13
namespace K13
open PySem PySem.Spec PyProof.Rows L2 Evl
section
variable {P : Program} {w : World} {K : PySem.W.Frag} {mg : Str → Option Value} {base : Heap} {C Ct : Addr}
theorem m_digits (G : Glo K mg C) : Mth P w K mg base 1 C "digits" ["self"] (sp_Wdigits C) := G.okM (m := "digits") (q := "Writing.digits") (i := 2) (k := 0) (by decide) sc_Wdigits (fun _ _ _ _ _ _ us hl => match us, hl with | [_], _ => rfl) (by intro vs H Q E h; obtain ⟨R, h, -⟩ := h; (repeat (obtain ⟨_, h⟩ := h)); subst_vars; rfl) (fun f cdv A outer s H vs Q E hr h => ⟨t_Wdigits K, PSs.nox (d_Wdigits G  hr), p_Wdigits G vs H Q E h⟩)
theorem m_size (G : Glo K mg C) : Mth P w K mg base 1 C "size" ["self"] (sp_Wsize C) := G.okM (m := "size") (q := "Writing.size") (i := 3) (k := 0) (by decide) sc_Wsize (fun _ _ _ _ _ _ us hl => match us, hl with | [_], _ => rfl) (by intro vs H Q E h; obtain ⟨R, h, -⟩ := h; (repeat (obtain ⟨_, h⟩ := h)); subst_vars; rfl) (fun f cdv A outer s H vs Q E hr h => ⟨t_Wsize K, PSs.nox (d_Wsize G  hr), p_Wsize G vs H Q E h⟩)
theorem m_parted (G : Glo K mg C) : Mth P w K mg base 3 C "_parted" ["self", "point"] (sp_Wparted C) := G.okM (m := "_parted") (q := "Writing._parted") (i := 6) (k := 2) (by decide) sc_Wparted (fun _ _ _ _ _ _ us hl => match us, hl with | [_, _], _ => rfl) (by intro vs H Q E h; obtain ⟨R, h, -⟩ := h; (repeat (obtain ⟨_, h⟩ := h)); subst_vars; rfl) (fun f cdv A outer s H vs Q E hr h => ⟨t_Wparted K, PSs.nox (d_Wparted G (f_moved_by G) (f_rests_by G) hr), p_Wparted G vs H Q E h⟩)
theorem mk_Writing (G : Glo K mg C) : Mkr P w K mg base 9 "Writing" C ["self", "matrix", "digits"] (sp_Winit C) := G.okI (k := 8) sc_Winit (fun _ _ _ _ _ _ us hl => match us, hl with | [_, _, _], _ => rfl) (by intro vs H Q E h; (repeat (obtain ⟨_, h⟩ := h)); subst_vars; rfl) (fun f cdv A outer s H vs Q E hr h => ⟨t_Winit K, PSs.nox (d_Winit G (f_check_writing_matrix G) (f_adjugate_of G) (f_detF G 4) (f_are_points G) (f_moved_by G) (f_rests_by G) (f_numbers_of_keys G) (f_zero_point G) hr), p_Winit G vs H Q E h⟩)
theorem f_check_writing (G : Glo K mg C) : Fn P w K mg base (L2.CX P w) 1 "check_writing" ["writing"] (sp_check_writing C) := G.ok (i := 40) (k := 0) (by decide) sc_check_writing (fun _ _ _ _ _ _ us hl => match us, hl with | [_], _ => rfl) (by intro vs H Q E h; obtain ⟨R, h, -⟩ := h; (repeat (obtain ⟨_, h⟩ := h)); subst_vars; rfl) (fun f cdv A outer s H vs Q E hr h => ⟨t_check_writing K C, PSs.nox (d_check_writing G  hr), p_check_writing  vs H Q E h⟩)
theorem f_digit_and_rest (G : Glo K mg C) : Fn P w K mg base (L2.CX P w) 4 "digit_and_rest" ["writing", "point"] (sp_digit_and_rest C) := G.ok (i := 41) (k := 3) (by decide) sc_digit_and_rest (fun _ _ _ _ _ _ us hl => match us, hl with | [_, _], _ => rfl) (by intro vs H Q E h; obtain ⟨R, h, -⟩ := h; (repeat (obtain ⟨_, h⟩ := h)); subst_vars; rfl) (fun f cdv A outer s H vs Q E hr h => ⟨t_digit_and_rest K C, PSs.nox (d_digit_and_rest G (m_parted G) hr), p_digit_and_rest  vs H Q E h⟩)
theorem f_walked (G : Glo K mg C) : Fn P w K mg base (L2.CX P w) 5 "walked" ["writing", "point"] (sp_walked C) := G.ok (i := 43) (k := 4) (by decide) sc_walked (fun _ _ _ _ _ _ us hl => match us, hl with | [_, _], _ => rfl) (by intro vs H Q E h; obtain ⟨R, h, -⟩ := h; (repeat (obtain ⟨_, h⟩ := h)); subst_vars; rfl) (fun f cdv A outer s H vs Q E hr h => ⟨t_walked K C, PSs.nox (d_walked G (f_digit_and_rest G) hr), p_walked  vs H Q E h⟩)
theorem f_row_or_none (G : Glo K mg C) : Fn P w K mg base (L2.CX P w) 6 "row_or_none" ["writing", "point"] (sp_row_or_none C) := G.ok (i := 44) (k := 5) (by decide) sc_row_or_none (fun _ _ _ _ _ _ us hl => match us, hl with | [_, _], _ => rfl) (by intro vs H Q E h; obtain ⟨R, h, -⟩ := h; (repeat (obtain ⟨_, h⟩ := h)); subst_vars; rfl) (fun f cdv A outer s H vs Q E hr h => ⟨t_row_or_none K C, PSs.nox (d_row_or_none G (f_walked G) hr), p_row_or_none  vs H Q E h⟩)
theorem f_carries_of (G : Glo K mg C) : Fn P w K mg base (L2.CX P w) 5 "carries_of" ["writing", "point"] (sp_carries_of C) := G.ok (i := 47) (k := 4) (by decide) sc_carries_of (fun _ _ _ _ _ _ us hl => match us, hl with | [_, _], _ => rfl) (by intro vs H Q E h; obtain ⟨R, h, -⟩ := h; (repeat (obtain ⟨_, h⟩ := h)); subst_vars; rfl) (fun f cdv A outer s H vs Q E hr h => ⟨t_carries_of K C, PSs.nox (d_carries_of G (m_digits G) (f_added G) (f_digit_and_rest G) hr), p_carries_of  vs H Q E h⟩)
theorem f_first_rowless (G : Glo K mg C) : Fn P w K mg base (L2.CX P w) 7 "first_rowless" ["writing", "points"] (sp_first_rowless C) := G.ok (i := 50) (k := 6) (by decide) sc_first_rowless (fun _ _ _ _ _ _ us hl => match us, hl with | [_, _], _ => rfl) (by intro vs H Q E h; obtain ⟨R, h, -⟩ := h; (repeat (obtain ⟨_, h⟩ := h)); subst_vars; rfl) (fun f cdv A outer s H vs Q E hr h => ⟨t_first_rowless K C, PSs.nox (d_first_rowless G (f_row_or_none G) hr), p_first_rowless  vs H Q E h⟩)
theorem f_closed_of (G : Glo K mg C) (T : Tm P w K mg base 1 Ct) : Fn P w K mg base (L2.CX P w) 6 "closed_of" ["writing", "points"] (sp_closed_of C Ct) := G.ok (i := 48) (k := 5) (by decide) sc_closed_of (fun _ _ _ _ _ _ us hl => match us, hl with | [_, _], _ => rfl) (by intro vs H Q E h; (repeat (obtain ⟨_, h⟩ := h)); subst_vars; rfl) (fun f cdv A outer s H vs Q E hr h => ⟨t_closed_of K C Ct E, (d_closed_of G (f_carries_of G) T hr), p_closed_of  vs H Q E h⟩)
theorem f_closed_unit_points (G : Glo K mg C) (T : Tm P w K mg base 1 Ct) : Fn P w K mg base (L2.CX P w) 7 "closed_unit_points" ["writing"] (sp_closed_unit_points C Ct) := G.ok (i := 49) (k := 6) (by decide) sc_closed_unit_points (fun _ _ _ _ _ _ us hl => match us, hl with | [_], _ => rfl) (by intro vs H Q E h; (repeat (obtain ⟨_, h⟩ := h)); subst_vars; rfl) (fun f cdv A outer s H vs Q E hr h => ⟨t_closed_unit_points K C Ct E, (d_closed_unit_points G (m_size G) (f_unit_points G) (f_closed_of G T) hr), p_closed_unit_points  vs H Q E h⟩)
theorem f_points_of_cube (G : Glo K mg C) : Fn P w K mg base (L2.CX P w) 1 "points_of_cube" ["size", "bound"] sp_points_of_cube := G.ok (i := 52) (k := 0) (by decide) sc_points_of_cube (fun _ _ _ _ _ _ us hl => match us, hl with | [_, _], _ => rfl) (by intro vs H Q E h; obtain ⟨R, h, -⟩ := h; (repeat (obtain ⟨_, h⟩ := h)); subst_vars; rfl) (fun f cdv A outer s H vs Q E hr h => ⟨t_points_of_cube K, PSs.nox (d_points_of_cube G  hr), p_points_of_cube  vs H Q E h⟩)
theorem w_all_have_rows (G : Glo K mg C) (T : Tm P w K mg base 1 Ct) : FnW P w K mg base (L2.CX P w) 8 "all_have_rows" "writing" (sp_all_have_rows C Ct) := G.okW (i := 53) (k := 7) (by decide) sc_all_have_rows (fun _ _ _ _ _ _ us hl => match us, hl with | [_], _ => rfl) (fun _ _ _ _ _ _ _ => rfl) (by intro vs H Q E h; (repeat (obtain ⟨_, h⟩ := h)); subst_vars; rfl) (fun f cdv A outer s H vs Q E hr h => ⟨t_all_have_rows K C Ct E, (d_all_have_rows G (f_check_writing G) (f_closed_unit_points G T) (f_first_rowless G) hr), p_all_have_rows  vs H Q E h⟩)
theorem f_ends_at_zero (G : Glo K mg C) : Fn P w K mg base (L2.CX P w) 5 "ends_at_zero" ["writing", "point", "known"] (sp_ends_at_zero C) := G.ok (i := 54) (k := 4) (by decide) sc_ends_at_zero (fun _ _ _ _ _ _ us hl => match us, hl with | [_, _, _], _ => rfl) (by intro vs H Q E h; (repeat (obtain ⟨_, h⟩ := h)); subst_vars; rfl) (fun f cdv A outer s H vs Q E hr h => ⟨t_ends_at_zero K C, PSs.nox (d_ends_at_zero G (f_digit_and_rest G) hr), p_ends_at_zero  vs H Q E h⟩)
theorem w_first_without_row (G : Glo K mg C) (T : Tm P w K mg base 1 Ct) : FnW P w K mg base (L2.CX P w) 8 "first_without_row" "writing" (sp_first_without_row C Ct) := G.okW (i := 55) (k := 7) (by decide) sc_first_without_row (fun _ _ _ _ _ _ us hl => match us, hl with | [_], _ => rfl) (fun _ _ _ _ _ _ _ => rfl) (by intro vs H Q E h; (repeat (obtain ⟨_, h⟩ := h)); subst_vars; rfl) (fun f cdv A outer s H vs Q E hr h => ⟨t_first_without_row K C Ct E, (d_first_without_row G (f_check_writing G) (f_closed_unit_points G T) (f_first_rowless G) (m_size G) (f_zero_point G) (f_points_of_cube G) (f_ends_at_zero G) hr), p_first_without_row  vs H Q E h⟩)
theorem f_ldF (G : Glo K mg C) : ∀ n : Nat, Fn P w K mg base (L2.CX P w) (n + 1) "_law_det" ["_law_matrix_here"] (sp_ldF n)
  | 0 => G.ok (i := 61) (k := 0) (by decide) sc_law_det (fun _ _ _ _ _ _ us hl => match us, hl with | [_], _ => rfl) (fun vs H Q E h => h.elim) (fun f cdv A outer s H vs Q E hr h => h.elim)
  | n + 1 => G.ok (i := 61) (k := n + 1) (by decide) sc_law_det (fun _ _ _ _ _ _ us hl => match us, hl with | [_], _ => rfl) (by intro vs H Q E h; obtain ⟨R, h, -⟩ := h; (repeat (obtain ⟨_, h⟩ := h)); subst_vars; rfl) (fun f cdv A outer s H vs Q E hr h => ⟨t_law_det K n, PSs.nox (d_law_det G (f_ldF G n) hr), p_law_det n vs H Q E h⟩)
theorem f_law_adjugate (G : Glo K mg C) : Fn P w K mg base (L2.CX P w) 4 "_law_adjugate" ["_law_matrix_here"] sp_law_adjugate := G.ok (i := 62) (k := 3) (by decide) sc_law_adjugate (fun _ _ _ _ _ _ us hl => match us, hl with | [_], _ => rfl) (by intro vs H Q E h; obtain ⟨R, h, -⟩ := h; (repeat (obtain ⟨_, h⟩ := h)); subst_vars; rfl) (fun f cdv A outer s H vs Q E hr h => ⟨t_law_adjugate K, PSs.nox (d_law_adjugate G (f_ldF G 2) hr), p_law_adjugate  vs H Q E h⟩)
theorem f_law_moved (G : Glo K mg C) : Fn P w K mg base (L2.CX P w) 1 "_law_moved" ["_law_matrix_here", "_law_point"] sp_law_moved := G.ok (i := 63) (k := 0) (by decide) sc_law_moved (fun _ _ _ _ _ _ us hl => match us, hl with | [_, _], _ => rfl) (by intro vs H Q E h; obtain ⟨R, h, -⟩ := h; (repeat (obtain ⟨_, h⟩ := h)); subst_vars; rfl) (fun f cdv A outer s H vs Q E hr h => ⟨t_law_moved K, PSs.nox (d_law_moved G  hr), p_law_moved  vs H Q E h⟩)
theorem f_law_sum (G : Glo K mg C) : Fn P w K mg base (L2.CX P w) 1 "_law_sum" ["_law_one", "_law_other"] sp_law_sum := G.ok (i := 64) (k := 0) (by decide) sc_law_sum (fun _ _ _ _ _ _ us hl => match us, hl with | [_, _], _ => rfl) (by intro vs H Q E h; obtain ⟨R, h, -⟩ := h; (repeat (obtain ⟨_, h⟩ := h)); subst_vars; rfl) (fun f cdv A outer s H vs Q E hr h => ⟨t_law_sum K, PSs.nox (d_law_sum G  hr), p_law_sum  vs H Q E h⟩)
theorem f_law_less (G : Glo K mg C) : Fn P w K mg base (L2.CX P w) 1 "_law_less" ["_law_one", "_law_other"] sp_law_less := G.ok (i := 65) (k := 0) (by decide) sc_law_less (fun _ _ _ _ _ _ us hl => match us, hl with | [_, _], _ => rfl) (by intro vs H Q E h; obtain ⟨R, h, -⟩ := h; (repeat (obtain ⟨_, h⟩ := h)); subst_vars; rfl) (fun f cdv A outer s H vs Q E hr h => ⟨t_law_less K, PSs.nox (d_law_less G  hr), p_law_less  vs H Q E h⟩)
theorem f_law_key (G : Glo K mg C) : Fn P w K mg base (L2.CX P w) 2 "_law_key" ["_law_way_here", "_law_point"] sp_law_key := G.ok (i := 66) (k := 1) (by decide) sc_law_key (fun _ _ _ _ _ _ us hl => match us, hl with | [_, _], _ => rfl) (by intro vs H Q E h; obtain ⟨R, h, -⟩ := h; (repeat (obtain ⟨_, h⟩ := h)); subst_vars; rfl) (fun f cdv A outer s H vs Q E hr h => ⟨t_law_key K, PSs.nox (d_law_key G (f_law_moved G) hr), p_law_key  vs H Q E h⟩)
theorem f_law_step (G : Glo K mg C) : Fn P w K mg base (L2.CX P w) 3 "_law_step" ["_law_way_here", "_law_point"] sp_law_step := G.ok (i := 67) (k := 2) (by decide) sc_law_step (fun _ _ _ _ _ _ us hl => match us, hl with | [_, _], _ => rfl) (by intro vs H Q E h; obtain ⟨R, h, -⟩ := h; (repeat (obtain ⟨_, h⟩ := h)); subst_vars; rfl) (fun f cdv A outer s H vs Q E hr h => ⟨t_law_step K, PSs.nox (d_law_step G (f_law_key G) (f_law_less G) (f_law_moved G) hr), p_law_step  vs H Q E h⟩)
theorem f_law_boxes (G : Glo K mg C) : Fn P w K mg base (L2.CX P w) 1 "_law_boxes" ["_law_size", "_law_most"] sp_law_boxes := G.ok (i := 70) (k := 0) (by decide) sc_law_boxes (fun _ _ _ _ _ _ us hl => match us, hl with | [_, _], _ => rfl) (by intro vs H Q E h; obtain ⟨R, h, -⟩ := h; (repeat (obtain ⟨_, h⟩ := h)); subst_vars; rfl) (fun f cdv A outer s H vs Q E hr h => ⟨t_law_boxes K, PSs.nox (d_law_boxes G  hr), p_law_boxes  vs H Q E h⟩)
theorem f_law_way_of (G : Glo K mg C) : Fn P w K mg base (L2.CX P w) 5 "_law_way_of" ["_law_matrix_here", "_law_digits_here"] sp_law_way_of := G.ok (i := 72) (k := 4) (by decide) sc_law_way_of (fun _ _ _ _ _ _ us hl => match us, hl with | [_, _], _ => rfl) (by intro vs H Q E h; obtain ⟨R, h, -⟩ := h; (repeat (obtain ⟨_, h⟩ := h)); subst_vars; rfl) (fun f cdv A outer s H vs Q E hr h => ⟨t_law_way_of K, PSs.nox (d_law_way_of G (f_ldF G 2) (f_law_adjugate G) (f_law_key G) hr), p_law_way_of  vs H Q E h⟩)
theorem f_law_walk (G : Glo K mg C) : Fn P w K mg base (L2.CX P w) 4 "_law_walk" ["_law_way_here", "_law_point"] sp_law_walk := G.ok (i := 74) (k := 3) (by decide) sc_law_walk (fun _ _ _ _ _ _ us hl => match us, hl with | [_, _], _ => rfl) (by intro vs H Q E h; obtain ⟨R, h, -⟩ := h; (repeat (obtain ⟨_, h⟩ := h)); subst_vars; rfl) (fun f cdv A outer s H vs Q E hr h => ⟨t_law_walk K, PSs.nox (d_law_walk G (f_law_step G) hr), p_law_walk  vs H Q E h⟩)
end
end K13
namespace K13
open PySem PySem.Spec PyProof.Rows L2 Evl
section
variable {P : Program} {w : World} {K : PySem.W.Frag} {mg : Str → Option Value} {base : Heap} {C Ct : Addr}
theorem f_law_row (G : Glo K mg C) : Fn P w K mg base (L2.CX P w) 5 "_law_row" ["_law_way_here", "_law_point"] sp_law_row := G.ok (i := 75) (k := 4) (by decide) sc_law_row (fun _ _ _ _ _ _ us hl => match us, hl with | [_, _], _ => rfl) (by intro vs H Q E h; obtain ⟨R, h, -⟩ := h; (repeat (obtain ⟨_, h⟩ := h)); subst_vars; rfl) (fun f cdv A outer s H vs Q E hr h => ⟨t_law_row K, PSs.nox (d_law_row G (f_law_walk G) hr), p_law_row  vs H Q E h⟩)
theorem f_law_units (G : Glo K mg C) : Fn P w K mg base (L2.CX P w) 1 "_law_units" ["_law_size"] sp_law_units := G.ok (i := 76) (k := 0) (by decide) sc_law_units (fun _ _ _ _ _ _ us hl => match us, hl with | [_], _ => rfl) (by intro vs H Q E h; obtain ⟨R, h, -⟩ := h; (repeat (obtain ⟨_, h⟩ := h)); subst_vars; rfl) (fun f cdv A outer s H vs Q E hr h => ⟨t_law_units K, PSs.nox (d_law_units G  hr), p_law_units  vs H Q E h⟩)
theorem f_law_closed (G : Glo K mg C) : Fn P w K mg base (L2.CX P w) 4 "_law_closed" ["_law_way_here", "_law_points"] sp_law_closed := G.ok (i := 77) (k := 3) (by decide) sc_law_closed (fun _ _ _ _ _ _ us hl => match us, hl with | [_, _], _ => rfl) (by intro vs H Q E h; obtain ⟨R, h, -⟩ := h; (repeat (obtain ⟨_, h⟩ := h)); subst_vars; rfl) (fun f cdv A outer s H vs Q E hr h => ⟨t_law_closed K, PSs.nox (d_law_closed G (f_law_sum G) (f_law_step G) hr), p_law_closed  vs H Q E h⟩)
theorem f_law_greatest (G : Glo K mg C) : Fn P w K mg base (L2.CX P w) 1 "_law_greatest" ["_law_point"] sp_law_greatest := G.ok (i := 80) (k := 0) (by decide) sc_law_greatest (fun _ _ _ _ _ _ us hl => match us, hl with | [_], _ => rfl) (by intro vs H Q E h; obtain ⟨R, h, -⟩ := h; (repeat (obtain ⟨_, h⟩ := h)); subst_vars; rfl) (fun f cdv A outer s H vs Q E hr h => ⟨t_law_greatest K, PSs.nox (d_law_greatest G  hr), p_law_greatest  vs H Q E h⟩)
theorem f_law_shell (G : Glo K mg C) : Fn P w K mg base (L2.CX P w) 2 "_law_shell" ["_law_size", "_law_most"] sp_law_shell := G.ok (i := 81) (k := 1) (by decide) sc_law_shell (fun _ _ _ _ _ _ us hl => match us, hl with | [_, _], _ => rfl) (by intro vs H Q E h; obtain ⟨R, h, -⟩ := h; (repeat (obtain ⟨_, h⟩ := h)); subst_vars; rfl) (fun f cdv A outer s H vs Q E hr h => ⟨t_law_shell K, PSs.nox (d_law_shell G (f_law_boxes G) hr), p_law_shell  vs H Q E h⟩)
theorem f_law_cell (G : Glo K mg C) : Fn P w K mg base (L2.CX P w) 1 "_law_cell" ["_law_script", "_law_index"] (sp_law_cell K) := G.ok (i := 57) (k := 0) (by decide) sc_law_cell (fun _ _ _ _ _ _ us hl => match us, hl with | [_, _], _ => rfl) (by intro vs H Q E h; obtain ⟨R, h, -⟩ := h; (repeat (obtain ⟨_, h⟩ := h)); subst_vars; rfl) (fun f cdv A outer s H vs Q E hr h => ⟨t_law_cell K, PSs.nox (d_law_cell G  hr), p_law_cell  vs H Q E h⟩)
theorem f_law_hash (G : Glo K mg C) : Fn P w K mg base (L2.CX P w) 1 "_law_hash" ["_law_seed", "_law_index"] sp_law_hash := G.ok (i := 58) (k := 0) (by decide) sc_law_hash (fun _ _ _ _ _ _ us hl => match us, hl with | [_, _], _ => rfl) (by intro vs H Q E h; obtain ⟨R, h, -⟩ := h; (repeat (obtain ⟨_, h⟩ := h)); subst_vars; rfl) (fun f cdv A outer s H vs Q E hr h => ⟨t_law_hash K, PSs.nox (d_law_hash G  hr), p_law_hash  vs H Q E h⟩)
theorem f_law_generator (G : Glo K mg C) : Fn P w K mg base (L2.CX P w) 2 "_law_generator" ["_law_script", "_law_index"] (sp_law_generator K) := G.ok (i := 59) (k := 1) (by decide) sc_law_generator (fun _ _ _ _ _ _ us hl => match us, hl with | [_, _], _ => rfl) (by intro vs H Q E h; obtain ⟨R, h, -⟩ := h; (repeat (obtain ⟨_, h⟩ := h)); subst_vars; rfl) (fun f cdv A outer s H vs Q E hr h => ⟨t_law_generator K, PSs.nox (d_law_generator G (f_law_cell G) hr), p_law_generator  vs H Q E h⟩)
theorem f_law_random (G : Glo K mg C) : Fn P w K mg base (L2.CX P w) 2 "_law_random" ["_law_generator_here", "_law_limit"] sp_law_random := G.ok (i := 60) (k := 1) (by decide) sc_law_random (fun _ _ _ _ _ _ us hl => match us, hl with | [_, _], _ => rfl) (by intro vs H Q E h; (repeat (obtain ⟨_, h⟩ := h)); subst_vars; rfl) (fun f cdv A outer s H vs Q E hr h => ⟨t_law_random K, PSs.nox (d_law_random G (f_law_hash G) hr), p_law_random  vs H Q E h⟩)
theorem f_law_plane (G : Glo K mg C) : Fn P w K mg base (L2.CX P w) 3 "_law_plane" ["_law_generator_here"] sp_law_plane := G.ok (i := 68) (k := 2) (by decide) sc_law_plane (fun _ _ _ _ _ _ us hl => match us, hl with | [_], _ => rfl) (by intro vs H Q E h; obtain ⟨g, b, R, h, -⟩ := h; (repeat (obtain ⟨_, h⟩ := h)); subst_vars; rfl) (fun f cdv A outer s H vs Q E hr h => ⟨t_law_plane K, PSs.nox (d_law_plane G (f_law_random G) hr), p_law_plane  vs H Q E h⟩)
theorem f_law_matrix (G : Glo K mg C) : Fn P w K mg base (L2.CX P w) 4 "_law_matrix" ["_law_generator_here"] sp_law_matrix := G.ok (i := 69) (k := 3) (by decide) sc_law_matrix (fun _ _ _ _ _ _ us hl => match us, hl with | [_], _ => rfl) (by intro vs H Q E h; obtain ⟨g, b, R, h, -⟩ := h; (repeat (obtain ⟨_, h⟩ := h)); subst_vars; rfl) (fun f cdv A outer s H vs Q E hr h => ⟨t_law_matrix K, PSs.nox (d_law_matrix G (f_law_random G) (f_law_plane G) hr), p_law_matrix  vs H Q E h⟩)
theorem f_law_digits (G : Glo K mg C) : Fn P w K mg base (L2.CX P w) 3 "_law_digits" ["_law_generator_here", "_law_matrix_here", "_law_way_here"] sp_law_digits := G.ok (i := 71) (k := 2) (by decide) sc_law_digits (fun _ _ _ _ _ _ us hl => match us, hl with | [_, _, _], _ => rfl) (by intro vs H Q E h; obtain ⟨g, b, R, h, -⟩ := h; (repeat (obtain ⟨_, h⟩ := h)); subst_vars; rfl) (fun f cdv A outer s H vs Q E hr h => ⟨t_law_digits K, PSs.nox (d_law_digits G (f_law_boxes G) (f_law_key G) (f_law_random G) (f_law_moved G) (f_law_sum G) hr), p_law_digits  vs H Q E h⟩)
theorem f_law_way (G : Glo K mg C) : Fn P w K mg base (L2.CX P w) 6 "_law_way" ["_law_generator_here"] sp_law_way := G.ok (i := 73) (k := 5) (by decide) sc_law_way (fun _ _ _ _ _ _ us hl => match us, hl with | [_], _ => rfl) (by intro vs H Q E h; obtain ⟨g, b, R, h, -⟩ := h; (repeat (obtain ⟨_, h⟩ := h)); subst_vars; rfl) (fun f cdv A outer s H vs Q E hr h => ⟨t_law_way K, PSs.nox (d_law_way G (f_law_matrix G) (f_ldF G 2) (f_law_adjugate G) (f_law_digits G) (f_law_way_of G) hr), p_law_way facts vs H Q E h⟩)
theorem f_law_family (G : Glo K mg C) : Fn P w K mg base (L2.CX P w) 6 "_law_family" ["_law_generator_here"] sp_law_family := G.ok (i := 78) (k := 5) (by decide) sc_law_family (fun _ _ _ _ _ _ us hl => match us, hl with | [_], _ => rfl) (by intro vs H Q E h; obtain ⟨g, b, R, h, -⟩ := h; (repeat (obtain ⟨_, h⟩ := h)); subst_vars; rfl) (fun f cdv A outer s H vs Q E hr h => ⟨t_law_family K, PSs.nox (d_law_family G (f_law_random G) (f_law_way_of G) hr), p_law_family facts vs H Q E h⟩)
theorem f_law_any_way (G : Glo K mg C) : Fn P w K mg base (L2.CX P w) 7 "_law_any_way" ["_law_generator_here"] sp_law_any_way := G.ok (i := 79) (k := 6) (by decide) sc_law_any_way (fun _ _ _ _ _ _ us hl => match us, hl with | [_], _ => rfl) (by intro vs H Q E h; obtain ⟨g, b, R, h, -⟩ := h; (repeat (obtain ⟨_, h⟩ := h)); subst_vars; rfl) (fun f cdv A outer s H vs Q E hr h => ⟨t_law_any_way K, PSs.nox (d_law_any_way G (f_law_random G) (f_law_family G) (f_law_way_of G) (f_law_way G) hr), p_law_any_way facts vs H Q E h⟩)
theorem f_law_first_right (G : Glo K mg C) (T : Tm P w K mg base 1 Ct) : Fn P w K mg base (L2.CX P w) 9 "_law_first_right" ["_law_writing", "_law_way_here", "_law_rowless"] (sp_law_first_right C) := G.ok (i := 82) (k := 8) (by decide) sc_law_first_right (fun _ _ _ _ _ _ us hl => match us, hl with | [_, _, _], _ => rfl) (by intro vs H Q E h; obtain ⟨R, h, -⟩ := h; (repeat (obtain ⟨_, h⟩ := h)); subst_vars; rfl) (fun f cdv A outer s H vs Q E hr h => ⟨t_law_first_right K C Ct, PSs.nox (d_law_first_right G (w_first_without_row G T) (f_law_row G) (f_law_greatest G) (f_law_shell G) hr), p_law_first_right  vs H Q E h⟩)
/-- what is asked of TooMany where it is caught -/
structure TmX (K : PySem.W.Frag) (Ct : Addr) : Prop where
  xf : XfC K Ct
  nov : PySem.W.findIn K (.ref Ct) "value" = some none
  te : PySem.W.exmOne K (.ref Ct) (.ref Ct) = some true
theorem f_law_caught (G : Glo K mg C) (T : Tm P w K mg base 1 Ct) (XF : TmX K Ct) : Fn P w K mg base (L2.CX P w) 9 "_law_caught" ["_law_door", "_law_writing"] (sp_law_caught C) := by
  obtain ⟨f1, fd1, h1, F1, k1, b1⟩ := (w_all_have_rows (P := P) (w := w) (base := base) G T).fn.ex
  obtain ⟨f2, fd2, h2, F2, k2, b2⟩ := (w_first_without_row (P := P) (w := w) (base := base) G T).fn.ex
  obtain ⟨_, _, _, _, _, _, _, hT⟩ := T.ex
  exact G.ok (i := 83) (k := 8) (by decide) sc_law_caught (fun _ _ _ _ _ _ us hl => match us, hl with | [_, _], _ => rfl) (by intro vs H Q E h; obtain ⟨R, h, -⟩ := h; (repeat (obtain ⟨_, h⟩ := h)); subst_vars; rfl) (fun f cdv A outer s H vs Q E hr h => ⟨t_law_caught K C Ct f1 f2, PSs.nox (d_law_caught h1 F1 k1 b1 h2 F2 k2 b2 hT XF.xf XF.nov hr), p_law_caught XF.te vs H Q E h⟩)
theorem f_law_way_right (G : Glo K mg C) (T : Tm P w K mg base 1 Ct) (XF : TmX K Ct) : Fn P w K mg base (L2.CX P w) 11 "_law_way_right" ["_law_way_here"] sp_law_way_right := G.ok (i := 84) (k := 10) (by decide) sc_law_way_right (fun _ _ _ _ _ _ us hl => match us, hl with | [_], _ => rfl) (by intro vs H Q E h; obtain ⟨R, h, -⟩ := h; (repeat (obtain ⟨_, h⟩ := h)); subst_vars; rfl) (fun f cdv A outer s H vs Q E hr h => ⟨t_law_way_right K C Ct, PSs.nox (d_law_way_right G (mk_Writing G) (f_law_units G) (f_law_closed G) (f_law_caught G T XF) (f_law_row G) (w_all_have_rows G T) (w_first_without_row G T) (f_law_first_right G T) hr), p_law_way_right  vs H Q E h⟩)
theorem f_law (G : Glo K mg C) (T : Tm P w K mg base 1 Ct) (XF : TmX K Ct) : Fn P w K mg base (L2.CX P w) 12 "law" ["_law_script"] (sp_law K) := G.ok (i := 85) (k := 11) (by decide) sc_law (fun _ _ _ _ _ _ us hl => match us, hl with | [_], _ => rfl) (by intro vs H Q E h; (repeat (obtain ⟨_, h⟩ := h)); subst_vars; rfl) (fun f cdv A outer s H vs Q E hr h => ⟨t_law K C Ct, PSs.nox (d_law G (f_law_generator G) (f_law_any_way G) (f_law_way_right G T XF) (f_law_family G) (mk_Writing G) (w_all_have_rows G T) (w_first_without_row G T) hr), p_law  vs H Q E h⟩)
end
end K13
namespace K13
open PySem PySem.Spec PyProof.Rows L2 Evl
/-! ## From the Hook's word to the walk -/
section
variable {K : PySem.W.Frag} {h : Heap} {mg : Str → Option Value}
theorem says_b (c : HSays K) : (hfa.all fun f => f.ok K) = true ∧ (hfn.all fun d => d.ok K) = true ∧ exB K = true ∧ tmB K PySem.Challenge.pw_planedigits_k13_whole_which_points_have.main.file = true := by
  have c1 : ((hfa.all fun f => f.ok K) && ((hfn.all fun d => d.ok K) && (exB K && tmB K PySem.Challenge.pw_planedigits_k13_whole_which_points_have.main.file))) = true := congrArg (fun z : HAl => z.1.1) c
  obtain ⟨h1, c1⟩ := He.ba c1
  obtain ⟨h2, c1⟩ := He.ba c1
  obtain ⟨h3, h4⟩ := He.ba c1
  exact ⟨h1, h2, h3, h4⟩
theorem says_fa (c : HSays K) {f : He.Fa} (hf : f ∈ hfa) : f.ok K = true := List.all_eq_true.mp (says_b c).1 f hf
theorem says_fn (c : HSays K) {d : He.DefD} (hd : d ∈ hfn) : ∃ fd, FunD K d.name d.qual d.params d.body d.scope (d.dvs K) (d.kws K) (He.fAd K d.at_) fd := by
  have e : hfn.map (fun d => He.fnW K d.at_) = hfn.map He.DefD.val := congrArg (fun z : HAl => z.1.2) c
  exact He.DefD.funD (List.map_inj_left.mp e d hd) (List.all_eq_true.mp (says_b c).2.1 d hd)
theorem fa_glo {p : Str × Nat} (hp : p ∈ tAll) : He.Fa.glo p.1 ∈ hfa := List.mem_append_left _ (List.mem_map_of_mem hp)
theorem fa_free {x : Str} (hx : x ∈ frees) : He.Fa.free x ∈ hfa := List.mem_append_right _ (List.mem_append_left _ (List.mem_map_of_mem hx))
theorem fa_noat {x : Str} (hx : x ∈ wFields) : He.Fa.noat "Writing" x ∈ hfa := List.mem_append_right _ (List.mem_append_right _ (List.mem_append_left _ (List.mem_map_of_mem hx)))
theorem fa_meth {p : Str × Nat × Str} (hp : p ∈ wMeths) : He.Fa.meth "Writing" p.1 ∈ hfa := List.mem_append_right _ (List.mem_append_right _ (List.mem_append_right _ (List.mem_append_left _ (List.mem_map_of_mem hp))))
theorem fa_last {f : He.Fa} (hf : f ∈ [He.Fa.glo "Writing", .glo "TooMany", .int "MOST_SIZE" 3, .int "MOST_NUMBER" 12, .int "MOST_DIGITS" 12, .int "MOST_CARRIES" 600, .cls "Writing", .mkr "Writing", .exm "TooMany" "TooMany" true]) : f ∈ hfa := List.mem_append_right _ (List.mem_append_right _ (List.mem_append_right _ (List.mem_append_right _ hf)))
theorem glo_of (X : K.In h) (G : h.Ns mainGlobals mg) (c : HSays K) : Glo K mg (He.ga K "Writing") := by
  have cl := He.cls_ok (says_fa c (f := .cls "Writing") (fa_last (by simp)))
  have ex := (says_b c).2.2.1
  unfold exB at ex
  obtain ⟨x1, ex⟩ := He.ba ex
  obtain ⟨x2, ex⟩ := He.ba ex
  obtain ⟨x3, ex⟩ := He.ba ex
  obtain ⟨x4, ex⟩ := He.ba ex
  obtain ⟨x5, ex⟩ := He.ba ex
  refine ⟨He.glo_ok X G (says_fa c (fa_last (by simp))), ⟨cl, He.eqO_ok x1, He.eqO_ok x2, of_decide_eq_true x3, of_decide_eq_true x4, of_decide_eq_true x5⟩, fun f hf => He.noat_ok (says_fa c (fa_noat hf)), ?_, fun m i q hm => ?_, fun x i hx => ?_, fun x hx => He.free_ok X G (says_fa c (fa_free hx)), ?_, ?_, ?_, ?_⟩
  · obtain ⟨fd, F⟩ := says_fn c (d := mkM ("__init__", 0, "Writing.__init__")) (List.mem_append_right _ (List.mem_map_of_mem (List.mem_cons_self ..)))
    exact ⟨_, fd, He.mkr_ok (says_fa c (f := .mkr "Writing") (fa_last (by simp))), F⟩
  · obtain ⟨fd, F⟩ := says_fn c (d := mkM (m, i, q)) (List.mem_append_right _ (List.mem_map_of_mem (List.mem_cons_of_mem _ hm)))
    exact ⟨_, fd, He.meth_ok (says_fa c (fa_meth hm)), F⟩
  · have hp : (x, i) ∈ tAll := by
      unfold tAll
      rw [List.mem_append, List.mem_append, List.mem_append]
      exact hx
    obtain ⟨fd, F⟩ := says_fn c (d := mkD (x, i)) (List.mem_append_left _ (List.mem_map_of_mem hp))
    exact ⟨_, fd, He.glo_ok X G (says_fa c (fa_glo hp)), F⟩
  · exact He.int_ok X G (says_fa c (fa_last (by simp)))
  · exact He.int_ok X G (says_fa c (fa_last (by simp)))
  · exact He.int_ok X G (says_fa c (fa_last (by simp)))
  · exact He.int_ok X G (says_fa c (fa_last (by simp)))
theorem bind_tm (T : Addr) (cl : List (Str × Addr)) (kV doc pm : Value) (an : Option Addr) (cdv ct a b d0 : Value) : ∃ k, bindArgs (PySem.W.fnX "__init__" "TooMany.__init__" (defArgs sTm) (defBody sTm) (defScope sTm) cl (.ref T) kV doc pm an cdv ct) ⟨[a, b], []⟩ = seqItems? (.ref T) >>= k ∧ k (some #[d0]) = pure ((["self", "value"] : List Str).zip [a, b]) := ⟨_, rfl, rfl⟩
theorem tm_of (X : K.In h) (G : h.Ns mainGlobals mg) (c : HSays K) (w : World) (base : Heap) : Tm PySem.Challenge.pw_planedigits_k13_whole_which_points_have w K mg base 1 (tmC K) ∧ TmX K (tmC K) := by
  have ex := (says_b c).2.2.1
  have tb := (says_b c).2.2.2
  unfold exB at ex
  obtain ⟨_, ex⟩ := He.ba ex
  obtain ⟨_, ex⟩ := He.ba ex
  obtain ⟨_, ex⟩ := He.ba ex
  obtain ⟨_, ex⟩ := He.ba ex
  obtain ⟨_, ex⟩ := He.ba ex
  obtain ⟨x1, ex⟩ := He.ba ex
  obtain ⟨x2, ex⟩ := He.ba ex
  obtain ⟨x3, ex⟩ := He.ba ex
  obtain ⟨x4, ex⟩ := He.ba ex
  obtain ⟨x5, ex⟩ := He.ba ex
  obtain ⟨x6, ex⟩ := He.ba ex
  obtain ⟨x7, ex⟩ := He.ba ex
  obtain ⟨x8, ex⟩ := He.ba ex
  obtain ⟨x9, ex⟩ := He.ba ex
  obtain ⟨x10, ex⟩ := He.ba ex
  obtain ⟨x11, ex⟩ := He.ba ex
  obtain ⟨x12, x13⟩ := He.ba ex
  have oex : OexC K (tmC K) := ⟨oexB_ok x1, He.eqO_ok x2, of_decide_eq_true x3, of_decide_eq_true x4, x5⟩
  have te := He.exm_ok (says_fa c (f := .exm "TooMany" "TooMany" true) (fa_last (by simp)))
  have nov := He.eqO_ok x8
  have hmg := He.glo_ok X G (says_fa c (f := .glo "TooMany") (fa_last (by simp)))
  refine ⟨?_, ⟨xfB_ok x13, nov, te⟩⟩
  have ew : tmW K = tmVal := congrArg (fun z : HAl => z.2) c
  unfold tmW at ew
  unfold tmB at tb
  cases q : K.lookup (tmF K) with
  | none => rw [q] at tb; cases tb
  | some o =>
    obtain ⟨oc, od, dt, osl⟩ := o
    rw [q] at tb ew
    cases dt with
    | func fd =>
      obtain ⟨n1, n2, n3, n4, n5, n6, n7, n8, n9, n10, n11, n12, n13, n14, n15⟩ := fd
      have e2 : (some (n1, n2, n3, n4, n5, n6, n7.map (·.1), n15) : TmO) = some (("__init__" : Str), ("TooMany.__init__" : Str), defArgs sTm, FuncBody.stmts (defBody sTm), defScope sTm, mainGlobals, [("__class__" : Str)], builtinsNs) := ew
      simp only [Option.some.injEq, Prod.mk.injEq] at e2
      obtain ⟨h1, h2, h3, h4, h5, h6, h7, h8⟩ := e2
      subst h1 h2 h3 h4 h5 h6 h8
      cases n7 with
      | nil => cases h7
      | cons p t =>
        cases t with
        | cons p2 t2 => exact absurd (congrArg List.length h7) (by simp)
        | nil =>
          obtain ⟨y, cc⟩ := p
          cases n13 with
          | ref cd =>
            cases n8 with
            | ref T =>
             have tb2 : (PySem.W.codeIn K (.ref cd) "TooMany.__init__" && (cellB K cc (tmC K) && (fileB K cd PySem.Challenge.pw_planedigits_k13_whole_which_points_have.main.file && dflB1 K T))) = true := tb
             have hy : [y] = [("__class__" : Str)] := h7
             injection hy with hy
             subst hy
             obtain ⟨t1, tb2⟩ := He.ba tb2
             obtain ⟨t2, tb3⟩ := He.ba tb2
             obtain ⟨t3, t4⟩ := He.ba tb3
             have hcell : ∃ o : Obj, K.lookup cc = some o ∧ o.data = .cell (some (.ref (tmC K))) := by
               unfold cellB at t2
               split at t2
               · rename_i D _ hl
                 exact ⟨_, hl, by rw [show D = tmC K from of_decide_eq_true t2]⟩
               · cases t2
             have hfile : ∃ (o : Obj) (vs : Array Value) (file : Str) (tf : Tok), K.lookup cd = some o ∧ o.data = .fields vs ∧ vs[2]? = some (.str file tf) ∧ ((PySem.Challenge.pw_planedigits_k13_whole_which_points_have.main.file : Str) == file) = true := by
               unfold fileB at t3
               split at t3
               · rename_i vs _ hl
                 split at t3
                 · rename_i a b file tf r hv
                   refine ⟨_, vs, file, tf, hl, rfl, ?_, t3⟩
                   rw [← Array.getElem?_toList, hv]
                   rfl
                 · cases t3
               · cases t3
             have tk : TmK PySem.Challenge.pw_planedigits_k13_whole_which_points_have K mg (tmC K) cc (tmF K) cd _ := ⟨⟨oc, od, .ref T, n9, n10, n11, n12, n14, osl, rfl, q⟩, t1, hfile, hcell, oex, nov, He.eqO_ok x9, He.eqO_ok x10, of_decide_eq_true x11, of_decide_eq_true x12, He.free_ok X G (says_fa c (fa_free (by decide))), by kernel_rfl⟩
             refine ⟨_, _, oex, He.eqO_ok x6, of_decide_eq_true x7, ok_tmi tk, ?_, hmg⟩
             unfold dflB1 at t4
             split at t4
             · rename_i its nT _ hT
               split at t4
               · rename_i d0 hd0
                 refine fun s us X hl => BindsTo.of_looks fun M => ?_
                 match us, hl with
                 | [a, b], _ =>
                   obtain ⟨k, e1, e2⟩ := bind_tm T [("__class__", cc)] n9 n10 n11 n12 (.ref cd) n14 a b d0
                   show PySem.W.Looks M s.heap (bindArgs _ ⟨[a, b], []⟩) _
                   rw [e1]
                   have eits : its = #[d0] := by
                     obtain ⟨l⟩ := its
                     exact congrArg Array.mk hd0
                   exact looks_items X hT rfl (.of_pure (by rw [eits]; exact e2))
               · cases t4
             · cases t4
            | _ => cases tb
          | _ => cases tb
    | _ => cases tb
end
/-- an end without exceptions -/
theorem FnOk.cx0 {P : Program} {w : World} {K : PySem.W.Frag} {mg : Str → Option Value} {base : Heap} {k : Nat} {f : Addr} {fd : FuncData} {ps : List Str} {sp : Sp} (F : FnOk P w K mg base (L2.CX P w) k f fd ps sp) (h : ∀ vs H Q E, sp vs H Q E → sp vs H Q fun _ _ _ => False) : FnOk P w K mg base CX0 k f fd ps sp :=
  ⟨F.len, fun A outer s H args us vs Q E hr e0 hb r hs => codeAny_mono (F.run A outer s H args us vs Q (fun _ _ _ => False) hr e0 hb r (h _ _ _ _ hs)) fun r s' hq => by
    cases r with
    | error e =>
      obtain ⟨_, _, _, _, _, _, _, _, _, _, _, _, z⟩ := hq
      exact z.elim
    | ok fl => cases fl <;> exact hq⟩
end K13
namespace K13
open PySem PySem.Spec PyProof.Rows L2 Evl
section
variable {P : Program} {w : World} {K : PySem.W.Frag} {mg : Str → Option Value} {base : Heap} {C Ct : Addr}
theorem ok_law (G : Glo K mg C) (T : Tm P w K mg base 1 Ct) (XF : TmX K Ct) {f : Addr} {fd : FuncData} (F : FunD K "law" "law" (defArgs (top 85)) (defBody (top 85)) (defScope (top 85)) [] [] f fd) : FnOk P w K mg base CX0 12 f fd ["_law_script"] (sp_law K) :=
  FnOk.cx0 (F.ok sc_law (by intro vs H Q E h; (repeat (obtain ⟨_, h⟩ := h)); subst_vars; rfl) (fun cdv A outer s H vs Q E hr h => ⟨t_law K C Ct, PSs.nox (d_law G (f_law_generator G) (f_law_any_way G) (f_law_way_right G T XF) (f_law_family G) (mk_Writing G) (w_all_have_rows G T) (w_first_without_row G T) hr), p_law  vs H Q E h⟩)) fun vs H Q E h => h
theorem facts_law {h : Heap} {fa : Addr} (X : K.In h) (G : h.Ns mainGlobals mg) (hfa : mg ("law" : Str) = some (.ref fa)) (c : HSays K) (w : World) :
    ∃ fd : FuncData, (∀ (s : Shared) (v : Value), BindsTo s fd ⟨[v], []⟩ [("_law_script", v)]) ∧ ∀ base : Heap, K.In base → base.Ns mainGlobals mg → FnOk PySem.Challenge.pw_planedigits_k13_whole_which_points_have w K mg base CX0 12 fa fd ["_law_script"] (sp_law K) := by
  have g := glo_of X G c
  obtain ⟨f, fd, hm, F⟩ := g.fn "law" 85 (by decide)
  have e := hfa.symm.trans hm
  cases e
  have b := FunD.bindsA (ps := ["_law_script"]) F fun _ _ _ _ _ _ us hl => match us, hl with | [_], _ => rfl
  exact ⟨fd, fun s v => b s [v] rfl, fun base _ _ => ok_law g (tm_of X G c w base).1 (tm_of X G c w base).2 F⟩
end
end K13
open PySem PySem.W PySem.Calls PyProof.Rows
theorem PySem.Challenge.cw_planedigits_k13_whole_which_points_have_holds : PySem.Challenge.rw_planedigits_k13_whole_which_points_have.Holds := by
  w_on; o_law
  refine HandSHeadRun.head_any (r := OpenLaw.row PySem.Challenge.rw_planedigits_k13_whole_which_points_have) (q := view (OpenLaw.row PySem.Challenge.rw_planedigits_k13_whole_which_points_have).prog [85]) (H := K13.hk) (ob := K13.ob) (M := 6000) (loose := K13.loose) (d := HandSHeadRun.topDef (OpenLaw.row PySem.Challenge.rw_planedigits_k13_whole_which_points_have).prog 85) (kwd := []) K13.ob_eq
    (by kernel_rfl) (fun s => by kernel_rfl) K13.run (by kernel_rfl) (by kernel_rfl) (by kernel_rfl) (by rfl) (by first | assumption | decide +kernel) (by decide +kernel) ⟨rfl, rfl, rfl, rfl, rfl, by decide +kernel⟩ ?hw ?hc
  case hw => w_witness2
  case hc =>
    refine L2.walk_ofE (l := PySem.Challenge.rw_planedigits_k13_whole_which_points_have) (n := 63) (k := 12) (x := "_law_script") (CX := L2.CX0) rfl (by decide) (by kernel_rfl) ⟨rfl, by decide, by decide⟩ ?F (fun _ _ _ _ z => z)
    intro w mg fa h Y G hmg0
    obtain ⟨K, KX, c⟩ := Y
    have hmg : mg ("law" : PySem.Str) = some (.ref fa) := by
      have e : (HandSHeadRun.topDef (OpenLaw.row PySem.Challenge.rw_planedigits_k13_whole_which_points_have).prog 85).name = ("law" : PySem.Str) := by kernel_rfl
      rw [← e]
      exact hmg0
    obtain ⟨fd, hb, hF⟩ := K13.facts_law KX G hmg c w
    exact ⟨K, fd, K13.sp_law K, KX, hb, fun H a ns hl _ hS => ⟨a, ns, rfl, hS, Nat.le_trans hl (by decide), fun _ => rfl⟩, hF⟩
