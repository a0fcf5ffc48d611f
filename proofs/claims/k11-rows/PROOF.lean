import PyProof.Rows.All
import Wide.All
import OpenK.AllK
import Wide.FinOn
import PyProof.EqAt
import PyProof.EqKinds
import PyProof.TupleCall
import PyProof.ZipIter
import PyProof.Rows.CallKwBuiltin
import HandS.ForMost
import HandS.Zip
import HandS.Evl
import HandS.Walk
import HandS.WideBits
import HandS.Wide
import HandS.ForExc
import HandS.ExcSuper
import HandS.ExcValue
import HandS.ExcField
import HandS.IsInst
import KE.KExcIs
import HandS.RaiseMore
import KE.KExcSuper
import KE.KSuper
import HandS.Defaults
import PySem.Challenge.RW_wholemills_k11_rows_led
import HandS.Steps
import PyProof.Draws
import PyProof.EnumMake
import HandS.DictComp
import HandS.WordsDict
import KE.KDictList
import HandS.Sort
import HandS.Conv
import HandS.Codes
import HandS.ExcOwn
import HandS.WordsExc
import HandS.CallSlots
import HandS.Iter
import HandS.Rev
import KE.KDictCopyH
import KE.KDictWalk
import KE.KDictZip
import KE.KItemsList
import HandS.ListItems
import HandS.Style
import KE.DataEq
import HandS.ExcIs
set_option Elab.async false
set_option linter.all false
set_option maxRecDepth 100000
set_option maxHeartbeats 4000000
/-! zip(a, b, strict=True) of two lists of one length. -/
namespace PySem
namespace ZS
open Sem (wp)
abbrev kwS : List (Str × Value) := [(Str.ofString "strict", .bool true)]
theorem typeCall_zip (a b : Value) : checkTypeCall "zip" ⟨[a, b], kwS⟩ = pure () := by kernel_rfl
theorem newCall_zip (a b : Value) : checkBuiltinCall "zip.__new__" ⟨[.type "zip", a, b], kwS⟩ = pure () := by kernel_rfl
theorem args_init (a b c : Value) : argsOk "object.__init__" ⟨[a, b, c], kwS⟩ := by
  unfold argsOk; rw [signature?_of (id := "object.__init__") (n := ['_', '_', 't', 'i', 'n', 'i', '_', '_']) (o := ['t', 'c', 'e', 'j', 'b', 'o']) (by kernel_rfl) F.owner_object]; kernel_rfl
abbrev IsZipS (h : Heap) (z TI TO : Addr) (f0 : Value) : Prop :=
  h.get? z = some { cls := .type "zip", dict := none, data := .fields #[f0, .bool false, .bool true, .ref TI, .ref TO], slots := #[] }
section
variable {prog : Program} {w : World} {A : Around} {E : Value → Shared → Prop} {s : Shared}
theorem nextOrEnd_item {it l : Addr} {i : Nat} {items} {x : Value} {Q : Option Value → Shared → Prop} (hit : s.heap.IsListIter it l i)
    (hl : s.heap.IsList l items) (hx : items[i]? = some x)
    (hQ : ∀ h', h'.IsListIter it l (i + 1) → Heap.SameBut it s.heap h' → Q (some x) { s with heap := h' }) :
    wpAny (model prog w) A (Builtin.SmallTypes.nextOrEnd (.ref it)) Q E s := by
  unfold Builtin.SmallTypes.nextOrEnd
  refine wpAny_bind (wpAny_attempt ?_)
  exact wpAny_nextOf_list_item hit hl hx fun h' a b => wpAny_pure (hQ h' a b)
theorem nextOrEnd_end {it l : Addr} {i : Nat} {items} {Q : Option Value → Shared → Prop} (hh : A.handled = none)
    (hit : s.heap.IsListIter it l i) (hl : s.heap.IsList l items) (hx : items[i]? = none)
    (hQ : ∀ h', Heap.ExtBut it s.heap h' → Q none { s with heap := h' }) :
    wpAny (model prog w) A (Builtin.SmallTypes.nextOrEnd (.ref it)) Q E s := by
  unfold Builtin.SmallTypes.nextOrEnd
  refine wpAny_bind (wpAny_attempt ?_)
  refine wpAny_nextOf_list_end hh hit hl hx fun h' e hk he => ?_
  obtain ⟨o, ho, hc⟩ := he
  refine wpAny_bind (wpAny_isInstance (T := "StopIteration") (b := true) ⟨o, ho, hc⟩ isSubtype_stop ?_)
  exact wpAny_pure (hQ _ hk)

theorem if_n {α : Type} {c : Prop} {_ : Decidable c} {t e : Sem α} {Q : α → Shared → Prop} (hc : ¬ c) (h : wpAny (model prog w) A e Q E s) : wpAny (model prog w) A (if c then t else e) Q E s := by
  rw [if_neg hc]
  exact h
theorem stop_it {α : Type} {Q : α → Shared → Prop} (hh : A.handled = none)
    (hE : ∀ h' e, (∀ c o, s.heap.get? c = some o → h'.get? c = some o) → (∃ o, h'.get? e = some o ∧ o.cls = .type "StopIteration") → E (.ref e) { s with heap := h' }) :
    wpAny (model prog w) A (Builtin.SmallTypes.stopIteration : Sem α) Q E s := by
  show wpAny _ _ (newExc (.type "StopIteration") [] >>= _) _ _ _
  refine wpAny_bind ?_
  simp only [newExc, newTuple]
  refine wpAny_bind (wpAny_newObj_type ?_ (by size_fits))
  refine wpAny_bind (m := firstArgMember _ _) (wpAny_of_eq (a := Value.none) (by first | rfl | (simp only [firstArgMember]; rfl)) ?_)
  refine wpAny_newObj_type ?_ (by size_fits)
  simp only [raiseNew]
  refine wpAny_bind (wpAny_handled ?_)
  rw [hh]
  refine wpAny_bind (wpAny_pure (wpAny_throw ?_))
  exact hE _ _ (fun c o x => Heap.get?_push_of_some _ (Heap.get?_push_of_some _ x)) ⟨_, Heap.get?_push_size _ rfl, rfl⟩
theorem next_item {z TI TO i1 i2 l1 l2 : Addr} {k1 k2 : Nat} {xs ys : Array Value} {x y a b : Value} {Q : Value → Shared → Prop} (D : ZipApart z TI TO i1 i2 l1 l2)
    (hz : IsZipS s.heap z TI TO .none) (hTI : IsPair s.heap TI (.ref i1) (.ref i2)) (hTO : IsPair s.heap TO a b)
    (h1 : s.heap.IsListIter i1 l1 k1) (h2 : s.heap.IsListIter i2 l2 k2) (hl1 : s.heap.IsList l1 xs) (hl2 : s.heap.IsList l2 ys) (hx : xs[k1]? = some x) (hy : ys[k2]? = some y)
    (hQ : ∀ h', IsZipS h' z TI TO (rawInt s.heap.objs.size) → IsPair h' TO x y → h'.IsListIter i1 l1 (k1 + 1) → h'.IsListIter i2 l2 (k2 + 1) → IsPair h' s.heap.objs.size x y → h'.objs.size = s.heap.objs.size + 1 →
      (∀ c o, c ≠ z → c ≠ TO → c ≠ i1 → c ≠ i2 → s.heap.get? c = some o → h'.get? c = some o) → Q (.ref s.heap.objs.size) { s with heap := h' }) :
    wpAny (model prog w) A (Builtin.«zip.__next__» ⟨[.ref z], []⟩) (fun fin s' => ∃ v, fin = .done (.ret v) ∧ Q v s') E s := by
  show wpAny _ _ (field (.ref z) 2 >>= _) _ _ _
  refine wpAny_bind (wpAny_field hz rfl (x := .bool true) rfl ?_)
  show wpAny _ _ (field (.ref z) 3 >>= _) _ _ _
  refine wpAny_bind (wpAny_field hz rfl (x := .ref TI) rfl ?_)
  refine wpAny_bind (wpAny_seqItems hTI rfl ?_)
  show wpAny _ _ (Builtin.SmallTypes.ownedTupleIsFree (.ref z) >>= _) _ _ _
  refine wpAny_bind ?_
  unfold Builtin.SmallTypes.ownedTupleIsFree
  refine wpAny_bind (wpAny_field hz rfl (x := .none) rfl (wpAny_pure ?_))
  simp only [if_true]
  refine wpAny_bind (wpAny_rule ?_)
  refine wpAny_bind (wpAny_field hz rfl (x := .ref TO) rfl ?_)
  refine wpAny_bind (wpAny_setField_rec hz (by simp) fun h₁ hz₁ hs₁ => ?_)
  replace hz₁ : IsZipS h₁ z TI TO .ellipsis := hz₁
  refine wpAny_bind ?_
  simp only [List.zipIdx_cons, List.zipIdx_nil, List.forIn_cons, List.forIn_nil]
  refine wpAny_bind (wpAny_bind (wpAny_onRaise ?_))
  show wpAny _ _ (Builtin.SmallTypes.nextOrEnd (.ref i1)) _ _ _
  refine nextOrEnd_item (h1.extBut hs₁.extBut D.i1z) (hl1.extBut hs₁.extBut D.l1z) hx fun h₂ h1₂ hs₂ => ?_
  have hTO₂ : IsPair h₂ TO a b := hs₂.extBut _ _ D.TOi1 (hs₁.extBut _ _ D.TOz hTO)
  refine wpAny_bind (wpAny_seqItems hTO₂ rfl ?_)
  refine wpAny_bind (wpAny_updateSeq_pair hTO₂ fun h₃ hTO₃ hs₃ => ?_)
  replace hTO₃ : IsPair h₃ TO x b := hTO₃
  refine wpAny_bind (wpAny_letGo (wpAny_pure ?_))
  refine wpAny_bind (wpAny_bind (wpAny_onRaise ?_))
  show wpAny _ _ (Builtin.SmallTypes.nextOrEnd (.ref i2)) _ _ _
  refine nextOrEnd_item (((h2.extBut hs₁.extBut D.i2z).extBut hs₂.extBut D.i12.symm).extBut hs₃.extBut D.TOi2.symm)
    (((hl2.extBut hs₁.extBut D.l2z).extBut hs₂.extBut D.l2i1).extBut hs₃.extBut D.l2TO) hy fun h₄ h2₄ hs₄ => ?_
  have hTO₄ : IsPair h₄ TO x b := hs₄.extBut _ _ D.TOi2 hTO₃
  refine wpAny_bind (wpAny_seqItems hTO₄ rfl ?_)
  refine wpAny_bind (wpAny_updateSeq_pair hTO₄ fun h₅ hTO₅ hs₅ => ?_)
  replace hTO₅ : IsPair h₅ TO x y := hTO₅
  refine wpAny_bind (wpAny_letGo (wpAny_pure (wpAny_pure ?_)))
  refine wpAny_bind (wpAny_seqItems hTO₅ rfl ?_)
  refine wpAny_bind (wpAny_newTuple ?_)
  have hsz : h₅.objs.size = s.heap.objs.size := by rw [hs₅.1, hs₄.1, hs₃.1, hs₂.1, hs₁.1]
  have hz₅ : IsZipS h₅ z TI TO .ellipsis := hs₅.extBut _ _ D.TOz.symm (hs₄.extBut _ _ D.i2z.symm (hs₃.extBut _ _ D.TOz.symm (hs₂.extBut _ _ D.i1z.symm hz₁)))
  have hk₅ : ∀ c o, c ≠ z → c ≠ TO → c ≠ i1 → c ≠ i2 → s.heap.get? c = some o → h₅.get? c = some o := fun c o c1 c2 c3 c4 e =>
    hs₅.extBut _ _ c2 (hs₄.extBut _ _ c4 (hs₃.extBut _ _ c2 (hs₂.extBut _ _ c3 (hs₁.extBut _ _ c1 e))))
  have h1₅ : h₅.IsListIter i1 l1 (k1 + 1) := ((h1₂.extBut hs₃.extBut D.TOi1.symm).extBut hs₄.extBut D.i12).extBut hs₅.extBut D.TOi1.symm
  have h2₅ : h₅.IsListIter i2 l2 (k2 + 1) := h2₄.extBut hs₅.extBut D.TOi2.symm
  have hzlt : z < h₅.objs.size := Heap.lt_size hz₅
  have hTOlt : TO < h₅.objs.size := Heap.lt_size hTO₅
  have hi1lt : i1 < h₅.objs.size := by obtain ⟨_, e, _⟩ := h1₅; exact Heap.lt_size e
  have hi2lt : i2 < h₅.objs.size := by obtain ⟨_, e, _⟩ := h2₅; exact Heap.lt_size e
  show wpAny _ _ (Builtin.SmallTypes.ownedTupleHandOut (.ref z) (.ref h₅.objs.size) >>= _) _ _ _
  refine wpAny_bind ?_
  unfold Builtin.SmallTypes.ownedTupleHandOut
  have hz₆ : IsZipS (h₅.push { cls := .type "tuple", data := .seq #[x, y] }) z TI TO .ellipsis := Heap.get?_push_of_some _ hz₅
  refine wpAny_bind (wpAny_setField_rec hz₆ (by simp) fun h₇ hz₇ hs₇ => ?_)
  replace hz₇ : IsZipS h₇ z TI TO (rawInt h₅.objs.size) := hz₇
  refine wpAny_setField_rec hz₇ (by simp) fun h₈ hz₈ hs₈ => ?_
  replace hz₈ : IsZipS h₈ z TI TO (rawInt h₅.objs.size) := hz₈
  have up : ∀ c o, c ≠ z → h₅.get? c = some o → h₈.get? c = some o := fun c o c1 e => hs₈.extBut _ _ c1 (hs₇.extBut _ _ c1 (Heap.get?_push_of_some _ e))
  have hT₈ : IsPair h₈ h₅.objs.size x y := hs₈.extBut _ _ (Nat.ne_of_gt hzlt) (hs₇.extBut _ _ (Nat.ne_of_gt hzlt) (Heap.get?_push_size _ rfl))
  have hz8 : h₈.objs.size = h₅.objs.size + 1 := by rw [hs₈.1, hs₇.1, Heap.size_push]
  rw [hsz] at hz₈ hT₈ hz8
  refine wpAny_pure ⟨_, rfl, ?_⟩
  show Q (.ref h₅.objs.size) _
  rw [hsz]
  exact hQ h₈ hz₈ (up _ _ D.TOz hTO₅) (h1₅.at fun o e => up _ o D.i1z e) (h2₅.at fun o e => up _ o D.i2z e) hT₈ hz8 fun c o c1 c2 c3 c4 e => up c o c1 (hk₅ c o c1 c2 c3 c4 e)

theorem next_end {z TI TO i1 i2 l1 l2 : Addr} {k1 k2 : Nat} {xs ys : Array Value} {a b : Value} {Q : Fin → Shared → Prop} (hh : A.handled = none) (D : ZipApart z TI TO i1 i2 l1 l2)
    (hz : IsZipS s.heap z TI TO .none) (hTI : IsPair s.heap TI (.ref i1) (.ref i2)) (hTO : IsPair s.heap TO a b)
    (h1 : s.heap.IsListIter i1 l1 k1) (h2 : s.heap.IsListIter i2 l2 k2) (hl1 : s.heap.IsList l1 xs) (hl2 : s.heap.IsList l2 ys) (hx : xs[k1]? = none) (hy : ys[k2]? = none)
    (hE : ∀ h' e, (∀ c o, c ≠ z → c ≠ TO → c ≠ i1 → c ≠ i2 → s.heap.get? c = some o → h'.get? c = some o) → (∃ o, h'.get? e = some o ∧ o.cls = .type "StopIteration") → E (.ref e) { s with heap := h' }) :
    wpAny (model prog w) A (Builtin.«zip.__next__» ⟨[.ref z], []⟩) Q E s := by
  show wpAny _ _ (field (.ref z) 2 >>= _) _ _ _
  refine wpAny_bind (wpAny_field hz rfl (x := .bool true) rfl ?_)
  show wpAny _ _ (field (.ref z) 3 >>= _) _ _ _
  refine wpAny_bind (wpAny_field hz rfl (x := .ref TI) rfl ?_)
  refine wpAny_bind (wpAny_seqItems hTI rfl ?_)
  show wpAny _ _ (Builtin.SmallTypes.ownedTupleIsFree (.ref z) >>= _) _ _ _
  refine wpAny_bind ?_
  unfold Builtin.SmallTypes.ownedTupleIsFree
  refine wpAny_bind (wpAny_field hz rfl (x := .none) rfl (wpAny_pure ?_))
  simp only [if_true]
  refine wpAny_bind (wpAny_rule ?_)
  refine wpAny_bind (wpAny_field hz rfl (x := .ref TO) rfl ?_)
  refine wpAny_bind (wpAny_setField_rec hz (by simp) fun h₁ hz₁ hs₁ => ?_)
  replace hz₁ : IsZipS h₁ z TI TO .ellipsis := hz₁
  refine wpAny_bind ?_
  simp only [List.zipIdx_cons, List.zipIdx_nil, List.forIn_cons, List.forIn_nil]
  refine wpAny_bind (wpAny_bind (wpAny_onRaise ?_))
  show wpAny _ _ (Builtin.SmallTypes.nextOrEnd (.ref i1)) _ _ _
  refine nextOrEnd_end hh (h1.extBut hs₁.extBut D.i1z) (hl1.extBut hs₁.extBut D.l1z) hx fun h₂ hs₂ => ?_
  have hz₂ : IsZipS h₂ z TI TO .ellipsis := hs₂ _ _ D.i1z.symm hz₁
  refine wpAny_bind (wpAny_setField_rec hz₂ (by simp) fun h₃ hz₃ hs₃ => ?_)
  have k₃ : ∀ c o, c ≠ z → c ≠ i1 → s.heap.get? c = some o → h₃.get? c = some o := fun c o c1 c3 x => hs₃.extBut _ _ c1 (hs₂ _ _ c3 (hs₁.extBut _ _ c1 x))
  have hi2z : h₃.IsListIter i2 l2 k2 := h2.at fun o q => k₃ _ o D.i2z D.i12.symm q
  have hl2z : h₃.IsList l2 ys := hl2.at fun o q => k₃ _ o D.l2z D.l2i1 q
  refine wpAny_bind ?_
  refine wpAny_bind ?_
  simp only [List.drop_succ_cons, List.drop_zero, List.zipIdx_cons, List.zipIdx_nil]
  simp only [List.forIn_cons, List.forIn_nil]
  refine wpAny_bind (wpAny_bind ?_)
  refine nextOrEnd_end hh hi2z hl2z hy fun h₄ hs₄ => ?_
  refine wpAny_pure ?_
  refine wpAny_pure ?_
  refine wpAny_bind (wpAny_rule ?_)
  refine stop_it hh fun h₅ e k₅ he => ?_
  exact hE h₅ e (fun c o c1 _ c3 c4 x => k₅ _ _ (hs₄ _ _ c4 (k₃ _ _ c1 c3 x))) he
theorem pyNext_item {z TI TO i1 i2 l1 l2 : Addr} {k1 k2 : Nat} {xs ys : Array Value} {x y a b : Value} {Q : Option Value → Shared → Prop} (D : ZipApart z TI TO i1 i2 l1 l2)
    (hz : IsZipS s.heap z TI TO .none) (hTI : IsPair s.heap TI (.ref i1) (.ref i2)) (hTO : IsPair s.heap TO a b)
    (h1 : s.heap.IsListIter i1 l1 k1) (h2 : s.heap.IsListIter i2 l2 k2) (hl1 : s.heap.IsList l1 xs) (hl2 : s.heap.IsList l2 ys) (hx : xs[k1]? = some x) (hy : ys[k2]? = some y)
    (hQ : ∀ h', IsZipS h' z TI TO (rawInt s.heap.objs.size) → IsPair h' TO x y → h'.IsListIter i1 l1 (k1 + 1) → h'.IsListIter i2 l2 (k2 + 1) → IsPair h' s.heap.objs.size x y → h'.objs.size = s.heap.objs.size + 1 →
      (∀ c o, c ≠ z → c ≠ TO → c ≠ i1 → c ≠ i2 → s.heap.get? c = some o → h'.get? c = some o) → Q (some (.ref s.heap.objs.size)) { s with heap := h' }) :
    wpAny (model prog w) A (pyNext (.ref z)) Q E s := by
  have hT : s.TypeIs (.ref z) "zip" := ⟨_, hz, rfl⟩
  unfold pyNext
  exact wpAny_bind (wpAny_attempt (wpAny_callSpecial?_slot (name := Str.ofString "__next__") hT F.slot_zip_next
    (wpAny_call_entry F.slot_zip_next hT F.entry_zip_next
      (next_item D hz hTI hTO h1 h2 hl1 hl2 hx hy fun h' a1 a2 a3 a4 a5 a6 a7 => wpAny_pure (hQ h' a1 a2 a3 a4 a5 a6 a7)) (F.args_zip_next_1 _))))
theorem pyNext_end {z TI TO i1 i2 l1 l2 : Addr} {k1 k2 : Nat} {xs ys : Array Value} {a b : Value} {Q : Option Value → Shared → Prop} (hh : A.handled = none) (D : ZipApart z TI TO i1 i2 l1 l2)
    (hz : IsZipS s.heap z TI TO .none) (hTI : IsPair s.heap TI (.ref i1) (.ref i2)) (hTO : IsPair s.heap TO a b)
    (h1 : s.heap.IsListIter i1 l1 k1) (h2 : s.heap.IsListIter i2 l2 k2) (hl1 : s.heap.IsList l1 xs) (hl2 : s.heap.IsList l2 ys) (hx : xs[k1]? = none) (hy : ys[k2]? = none)
    (hQ : ∀ h', (∀ c o, c ≠ z → c ≠ TO → c ≠ i1 → c ≠ i2 → s.heap.get? c = some o → h'.get? c = some o) → Q none { s with heap := h' }) : wpAny (model prog w) A (pyNext (.ref z)) Q E s := by
  have hT : s.TypeIs (.ref z) "zip" := ⟨_, hz, rfl⟩
  unfold pyNext
  refine wpAny_bind (wpAny_attempt (wpAny_callSpecial?_slot (name := Str.ofString "__next__") hT F.slot_zip_next
    (wpAny_call_entry F.slot_zip_next hT F.entry_zip_next (next_end hh D hz hTI hTO h1 h2 hl1 hl2 hx hy fun h' e hk he => ?_) (F.args_zip_next_1 _))))
  obtain ⟨o, ho, hc⟩ := he
  refine wpAny_bind (wpAny_isInstance (T := "StopIteration") (b := true) ⟨o, ho, hc⟩ isSubtype_stop ?_)
  exact wpAny_pure (hQ _ hk)
theorem letGo_zip {elts : List Expr} {x1} {pos : Pos} {z TI TO T : Addr} {Q : Unit → Shared → Prop} (hz : IsZipS s.heap z TI TO (rawInt T))
    (hQ : ∀ h', IsZipS h' z TI TO .none → Heap.SameBut z s.heap h' → Q () { s with heap := h' }) :
    wpAny (model prog w) A (letOwnedTupleGo (.Tuple elts x1 pos) (.ref z) (.ref T)) Q E s := by
  unfold letOwnedTupleGo
  refine wpAny_bind (wpAny_load hz ?_)
  show wpAny _ _ (if (["enumerate", "zip", "dict_itemiterator", "dict_reverseitemiterator", "odict_iterator", "itertools.zip_longest", "itertools.pairwise"].contains "zip" &&
      (#[rawInt T, .bool false, .bool true, .ref TI, .ref TO] : Array Value)[0]? == some (rawInt T)) = true then _ else _) Q E s
  rw [if_pos (by simp)]
  refine wpAny_bind (wpAny_rule ?_)
  show wpAny _ _ (setField (.ref z) 0 .none) Q E s
  exact wpAny_setField_rec hz (by simp) fun h' hz' hs' => hQ h' hz' hs'
theorem pyIter_zip {z TI TO : Addr} {f0 : Value} {Q : Value → Shared → Prop} (hz : IsZipS s.heap z TI TO f0) (h : Q (.ref z) s) : wpAny (model prog w) A (pyIter (.ref z)) Q E s := by
  have hT : s.TypeIs (.ref z) "zip" := ⟨_, hz, rfl⟩
  refine wpAny_pyIter_slot hT F.slot_zip_iter (wpAny_call_entry F.slot_zip_iter hT F.entry_zip_iter ?_ (F.args_zip_iter_1 _))
  show wpAny _ _ (ret (.ref z)) _ _ s
  exact wpAny_pure ⟨_, rfl, "zip", _, hT, F.slot_zip_next.lookup, h⟩
end
abbrev zH5 (h : Heap) (l1 l2 : Addr) : Heap := (zipH4 h l1 l2).push { cls := .type "zip", data := .fields #[.none, .bool false, .bool true, .ref (zipH2 h l1 l2).objs.size, .ref (zipH3 h l1 l2).objs.size] }
theorem meets_new (l1 l2 : Addr) (xs ys : Array Value) :
    Meets (Builtin.«zip.__new__» ⟨[.type "zip", .ref l1, .ref l2], kwS⟩) (fun _ R s => s.heap.IsList l1 xs ∧ s.heap.IsList l2 ys ∧
      R (.ok (.ret (.ref (zipH4 s.heap l1 l2).objs.size))) { s with heap := zH5 s.heap l1 l2 }) :=
  .of_wp fun prog w A R s h => by
    obtain ⟨hp, g, d, tk, os⟩ := s; obtain ⟨hl1, hl2, h⟩ := h
    have hsub := sub_zip
    have hL1 : Heap.IsList (Shared.heap ⟨hp, g, d, tk, os⟩) l1 xs := hl1
    have hL2 : Heap.IsList (Shared.heap ⟨hp.push { cls := .type "list_iterator", data := .fields #[.ref l1, .int 0 0] }, g, d, tk, os⟩) l2 ys := Heap.IsList.push hl2 _
    wp_walk using wpAny_pyIter_list hL1, wpAny_pyIter_list hL2
    exact ⟨_, rfl, h⟩
theorem object_init_meets {T newId : String} {self : Value} {rest : List Value} {kw : List (Str × Value)} (hl : typeLookup (.type T) "__init__" = pure (some (.builtin "object.__init__")))
    (hm : Bind.madeBy (.type T) = pure (some newId)) (hne : (some newId != some "object.__new__") = true) :
    Meets (Builtin.«object.__init__» ⟨self :: rest, kw⟩) (fun _ R s => s.TypeIs self T ∧ R (.ok (.ret .none)) s) := by
  refine Meets.of_wp fun prog w A R s hs => ?_
  obtain ⟨hT, hq⟩ := hs
  cases rest with
  | nil =>
    cases kw with
    | nil => exact wpAny_pure ⟨_, rfl, hq⟩
    | cons k ks =>
      repeat (any_goals (first | assumption | wp_step))
      exact ⟨_, rfl, hq⟩
  | cons a rest =>
    repeat (any_goals (first | assumption | wp_step))
    exact ⟨_, rfl, hq⟩
section
variable {prog : Program} {w : World} {A : Around} {E : Value → Shared → Prop} {s : Shared}
theorem callType_meets {T newId initId : String} {Bn Bi : Builtin} {args : List Value} {kw : List (Str × Value)} {S : Spec} {Q Q₁ : Value → Shared → Prop} (ft : TypeCalled T newId initId)
    (hct : checkTypeCall T ⟨args, kw⟩ = pure ()) (hcn : checkBuiltinCall newId ⟨.type T :: args, kw⟩ = pure ())
    (entryN : entryFor table newId = some Bn) (entryI : entryFor table initId = some Bi) (g : Meets (Bn ⟨.type T :: args, kw⟩) S)
    (h : S A.in1 (wants Q₁ E) s)
    (hnext : ∀ obj s₁, Q₁ obj s₁ → s₁.TypeIs obj T ∧ argsOk initId ⟨obj :: args, kw⟩ ∧ ∃ Si, Meets (Bi ⟨obj :: args, kw⟩) Si ∧ Si A.in1 (wants (fun r s₂ => r = .none ∧ Q obj s₂) E) s₁) :
    wpAny (model prog w) A (call (.type T) args kw) Q E s := by
  obtain ⟨c, tl, hmro⟩ := ft.mro
  have hmade := ft.made
  have hsub := ft.sub
  refine wpAny_call (codeAny_of_tree ?_)
  show wpAny _ _ (callAny (.type T) _) _ _ _
  refine wpAny_pure ⟨Code.quiet_builtin _ (by decide +kernel), codeAny_builtin F.entry_type_call ?_⟩
  rw [Around.under_plain (weight_type_call_type T args kw) (units_type_call_type T args kw)]
  have h1 := ft.notType
  have h2 := ft.canCreate
  repeat (any_goals (first | assumption | wp_step))
  refine codeAny_mono (codeAny_call_builtin ft.plain entryN (wpAny_of_eq hcn (g prog w A.in1 _ s h))) fun r s₁ hr => ?_
  cases r with
  | error e => exact hr
  | ok fl =>
    cases fl with
    | ret obj =>
      obtain ⟨hT, hok, Si, gi, hsi⟩ := hnext _ _ hr
      have hli := ft.init.lookup
      have hbi := ft.init.bind obj
      repeat (any_goals (first | assumption | wp_step))
      refine codeAny_mono (codeAny_call_builtin ft.init.plain entryI (ft.init.check _ _ _ _ _ _ _ _ hT hok (gi prog w A.in1 _ s₁ hsi))) fun r₂ s₂ hr₂ => ?_
      cases r₂ with
      | error e => exact hr₂
      | ok fl₂ =>
        cases fl₂ with
        | ret r =>
          obtain ⟨rfl, hq⟩ := hr₂
          repeat (any_goals (first | assumption | wp_step))
        | _ => exact hr₂.elim
    | _ => exact hr.elim
theorem call_zipS {l1 l2 : Addr} {xs ys : Array Value} {Q : Value → Shared → Prop} (hl1 : s.heap.IsList l1 xs) (hl2 : s.heap.IsList l2 ys)
    (h : ∀ h', IsZipS h' (s.heap.objs.size + 4) (s.heap.objs.size + 2) (s.heap.objs.size + 3) .none → IsPair h' (s.heap.objs.size + 2) (.ref s.heap.objs.size) (.ref (s.heap.objs.size + 1)) →
      IsPair h' (s.heap.objs.size + 3) .none .none → h'.IsListIter s.heap.objs.size l1 0 → h'.IsListIter (s.heap.objs.size + 1) l2 0 → h'.objs.size = s.heap.objs.size + 5 →
      (∀ c o, s.heap.get? c = some o → h'.get? c = some o) → Q (.ref (s.heap.objs.size + 4)) { s with heap := h' }) :
    wpAny (model prog w) A (call (.type "zip") [.ref l1, .ref l2] kwS) Q E s := by
  refine callType_meets F.called_zip (typeCall_zip _ _) (newCall_zip _ _) F.entry_zip_new F.entry_object_init (meets_new l1 l2 xs ys) (Q₁ := fun obj s₁ => s₁.TypeIs obj "zip" ∧ Q obj s₁) ⟨hl1, hl2, ?_⟩ fun obj _ hq =>
    ⟨hq.1, args_init obj _ _, _, object_init_meets F.called_zip.init.lookup F.called_zip.made (by decide), hq.1, rfl, hq.2⟩
  have z1 : (zipH1 s.heap l1).objs.size = s.heap.objs.size + 1 := Heap.size_push ..
  have z2 : (zipH2 s.heap l1 l2).objs.size = s.heap.objs.size + 2 := by rw [Heap.size_push, z1]
  have z3 : (zipH3 s.heap l1 l2).objs.size = s.heap.objs.size + 3 := by rw [Heap.size_push, z2]
  have z4 : (zipH4 s.heap l1 l2).objs.size = s.heap.objs.size + 4 := by rw [Heap.size_push, z3]
  have z5 : (zH5 s.heap l1 l2).objs.size = s.heap.objs.size + 5 := by rw [Heap.size_push, z4]
  have g5 : (zH5 s.heap l1 l2).get? (zipH4 s.heap l1 l2).objs.size = some _ := Heap.get?_push_size _ rfl
  have g4 : (zH5 s.heap l1 l2).get? (zipH3 s.heap l1 l2).objs.size = some _ := Heap.get?_push_of_some _ (Heap.get?_push_size _ rfl)
  have g3 : (zH5 s.heap l1 l2).get? (zipH2 s.heap l1 l2).objs.size = some _ := Heap.get?_push_of_some _ (Heap.get?_push_of_some _ (Heap.get?_push_size _ rfl))
  have g2 : (zH5 s.heap l1 l2).get? (zipH1 s.heap l1).objs.size = some _ := Heap.get?_push_of_some _ (Heap.get?_push_of_some _ (Heap.get?_push_of_some _ (Heap.get?_push_size _ rfl)))
  have g1 : (zH5 s.heap l1 l2).get? s.heap.objs.size = some _ := Heap.get?_push_of_some _ (Heap.get?_push_of_some _ (Heap.get?_push_of_some _ (Heap.get?_push_of_some _ (Heap.get?_push_size _ rfl))))
  show _ ∧ _
  rw [z2, z3, z4] at g5
  rw [z1, z2] at g3
  rw [z3] at g4
  rw [z1] at g2
  rw [z4]
  exact ⟨⟨_, g5, rfl⟩, h _ g5 g3 g4 ⟨_, g1, rfl, rfl⟩ ⟨_, g2, rfl, rfl⟩ z5 fun c o x =>
    Heap.get?_push_of_some _ (Heap.get?_push_of_some _ (Heap.get?_push_of_some _ (Heap.get?_push_of_some _ (Heap.get?_push_of_some _ x))))⟩
end
end ZS
end PySem

set_option Elab.async false
set_option linter.all false
set_option maxRecDepth 100000
set_option maxHeartbeats 4000000
namespace PySem
namespace ZS
section
variable {M : Model} {A : Around} {E : Value → Shared → Prop} {s : Shared} {env : Env}
theorem callWith_kwT {pos : Pos} {T : String} {e : Expr} {rest : List Expr} {kws : List Keyword} {Q : Value → Shared → Prop}
    (h : wpAny M A (spliced (backTo pos (starEach (e :: rest) env))) (fun vs s₁ => wpAny M A (evalAll ((backToKw pos (keywordEach kws env)).map (·.2)))
      (fun kvs s₂ => wpAny M A (call (.type T) vs (((backToKw pos (keywordEach kws env)).filterMap (·.1)).zip kvs)) Q E s₂) E s₁) E s)
    (he : backTo pos (starEach (e :: rest) env) = (false, eval e env) :: backTo pos (starEach rest env) := by rfl)
    (hplain : (backTo pos (starEach (e :: rest) env)).any (·.1) = false := by rfl)
    (hall : (backToKw pos (keywordEach kws env)).all (·.1.isSome) = true := by rfl)
    (hkw : (backToKw pos (keywordEach kws env)).any (·.1.isNone) = false := by rfl) :
    wpAny M A (callWith pos (.type T) [] (backTo pos (starEach (e :: rest) env)) (backToKw pos (keywordEach kws env))) Q E s := by
  have h2 : wpAny M A (evalArgs (.type T) true (backTo pos (starEach (e :: rest) env)) (backToKw pos (keywordEach kws env))) (fun a s₁ => wpAny M A (call (.type T) ([] ++ a.pos) a.kw) Q E s₁) E s := by
    rw [he] at h ⊢
    exact PyProof.Rows.evalArgs_kwB hall h
  unfold callWith
  refine wpAny_bind (wpAny_holding (wpAny_mono h2 (fun a s₁ h₁ => wpAny_bind (wpAny_standAt ?_)) fun _ _ x => x))
  simp only [hplain, hkw, Bool.or_false]
  refine wpAny_bind (wpAny_pure ?_)
  exact wpAny_bind (wpAny_mono h₁ (fun r s₂ hr => wpAny_bind (wpAny_holding (wpAny_point (wpAny_pure hr)))) fun _ _ x => x)
end
end ZS
end PySem
namespace L2
open PySem PySem.Spec PyProof.Rows
/-- the lists at a and b, of one length, as they stand at each turn -/
def Itzs (K : PySem.W.Frag) (a b : Addr) : It :=
  ⟨fun i H => ∃ (xs ys : List V) (x y : V), SqL K H a xs ∧ SqL K H b ys ∧ xs[i]? = some x ∧ ys[i]? = some y,
    fun i H v H' => ∃ T x y, v = .ref T ∧ H T = none ∧ H' = upd H T (.tup [x, y]) ∧ (∀ xs, SqL K H a xs → xs[i]? = some x) ∧ ∀ ys, SqL K H b ys → ys[i]? = some y,
    fun i H => ∃ xs ys : List V, SqL K H a xs ∧ SqL K H b ys ∧ (xs.length ≤ i ∧ ys.length ≤ i)⟩
theorem turn_zipS {P : Program} {w : World} {K : PySem.W.Frag} {elts : List Expr} {kk : Nat} {tpos : Pos} {a b z TI TO i1 i2 : Addr} (D : ZipApart z TI TO i1 i2 a b) :
    Turn P w K (.Tuple elts kk tpos) (Itzs K a b) [z, TI, TO, i1, i2] z (fun i h => ZS.IsZipS h z TI TO .none ∧ IsPair h TI (.ref i1) (.ref i2) ∧ (∃ x y, IsPair h TO x y) ∧ h.IsListIter i1 a i ∧ h.IsListIter i2 b i) where
  mem := by simp
  obj := fun i h st c hc => by
    obtain ⟨hz, hTI, ⟨x, y, hTO⟩, ⟨o1, e1, _, d1⟩, ⟨o2, e2, _, d2⟩⟩ := st
    have e' : c = z ∨ c = TI ∨ c = TO ∨ c = i1 ∨ c = i2 := by simpa using hc
    rcases e' with q | q | q | q | q
    · rw [q]; exact ⟨_, hz, fun v q => nomatch q⟩
    · rw [q]; exact ⟨_, hTI, fun v q => nomatch q⟩
    · rw [q]; exact ⟨_, hTO, fun v q => nomatch q⟩
    · rw [q]; exact ⟨o1, e1, fun v q => by rw [d1] at q; cases q⟩
    · rw [q]; exact ⟨o2, e2, fun v q => by rw [d2] at q; cases q⟩
  keep := fun i h h' st k => by
    obtain ⟨hz, hTI, ⟨x, y, hTO⟩, h1, h2⟩ := st
    exact ⟨k z (by simp) _ hz, k TI (by simp) _ hTI, ⟨x, y, k TO (by simp) _ hTO⟩, h1.at fun o q => k i1 (by simp) o q, h2.at fun o q => k i2 (by simp) o q⟩
  item := by
    intro X hP hw hK hc i pins s σ H E I hf st hg
    subst hP hw hK
    obtain ⟨hz, hTI, ⟨x0, y0, hTO⟩, h1, h2⟩ := st
    obtain ⟨xs, ys, x, y, hqx, hqy, hx, hy⟩ := hg
    obtain ⟨its, rv, p, _⟩ := I.list hqx
    obtain ⟨its2, rv2, p2, _⟩ := I.list hqy
    obtain ⟨u, hu, ru⟩ := rv.get hx
    obtain ⟨u2, hu2, ru2⟩ := rv2.get hy
    have hzl : z < s.heap.objs.size := Heap.lt_size hz
    refine ZS.pyNext_item D hz hTI hTO h1 h2 p.isList p2.isList (x := u) (y := u2) (by simpa using hu) (by simpa using hu2) fun h' z' TO' h1' h2' hT hsz hk => ?_
    refine ⟨_, rfl, ZS.letGo_zip (s := { s with heap := h' }) z' fun h'' z'' sb => ?_⟩
    have hT2 : h''.get? s.heap.objs.size = some { cls := .type "tuple", data := .seq #[u, u2] } := (sb.2 _ (Nat.ne_of_gt hzl)).trans hT
    have new : ObjOk X.prog X.w (upd H s.heap.objs.size (.tup [x, y])) h'' s.heap.objs.size (.tup [x, y]) :=
      ⟨by show 2 ≤ sizeLine; decide, [u, u2], .cons ru (.cons ru2 .nil), ⟨_, hT2, rfl, _, rfl⟩⟩
    have I1 : Inv X pins σ (upd H s.heap.objs.size (.tup [x, y])) { s with heap := h'' } :=
      I.turnedNew (t' := s.toks) (ch := [z, TI, TO, i1, i2]) (fun c o hb q => (sb.2 c (fun q' => hb (by simp [q']))).trans (hk c o (fun q' => hb (by simp [q'])) (fun q' => hb (by simp [q'])) (fun q' => hb (by simp [q'])) (fun q' => hb (by simp [q'])) q)) hf (Nat.le_refl _) new
    refine ⟨.ref s.heap.objs.size, _, I1, rfl, ⟨_, x, y, rfl, I.hok.fresh (Nat.le_refl _), rfl, fun l hl => by rw [I.list_inj hl hqx]; exact hx, fun l hl => by rw [I.list_inj hl hqy]; exact hy⟩, ⟨z'', ?_, ⟨u, u2, ?_⟩, ?_, ?_⟩, fun c hcm => ?_⟩
    · exact (sb.2 _ D.TIz).trans (hk _ _ D.TIz D.TITO D.TIi1 D.TIi2 hTI)
    · exact (sb.2 _ D.TOz).trans TO'
    · exact h1'.at fun o q => (sb.2 _ D.i1z).trans q
    · exact h2'.at fun o q => (sb.2 _ D.i2z).trans q
    · have hlt : c < s.heap.objs.size := by
        have e' : c = z ∨ c = TI ∨ c = TO ∨ c = i1 ∨ c = i2 := by simpa using hcm
        rcases e' with q | q | q | q | q
        · rw [q]; exact hzl
        · rw [q]; exact Heap.lt_size hTI
        · rw [q]; exact Heap.lt_size hTO
        · rw [q]; obtain ⟨_, e1, _⟩ := h1; exact Heap.lt_size e1
        · rw [q]; obtain ⟨_, e2, _⟩ := h2; exact Heap.lt_size e2
      rw [upd_ne (Nat.ne_of_lt hlt)]
      exact (hf c hcm).1
  done := by
    intro X hP hw hK hc i pins s σ H E I hf st hg
    subst hP hw hK
    obtain ⟨hz, hTI, ⟨x0, y0, hTO⟩, h1, h2⟩ := st
    obtain ⟨xs, ys, hqx, hqy, hend, hend2⟩ := hg
    obtain ⟨its, rv, p, _⟩ := I.list hqx
    obtain ⟨its2, rv2, p2, _⟩ := I.list hqy
    have l1 := rv.length
    have l2 := rv2.length
    have e1 : its.toArray[i]? = none := by simp; omega
    have e2 : its2.toArray[i]? = none := by simp; omega
    exact ZS.pyNext_end (I.ok.hd hc) D hz hTI hTO h1 h2 p.isList p2.isList e1 e2 fun h' hk => ⟨rfl, I.turnedL (t' := s.toks) (ch := [z, TI, TO, i1, i2]) (fun c o hb q =>
      hk c o (fun q' => hb (by simp [q'])) (fun q' => hb (by simp [q'])) (fun q' => hb (by simp [q'])) (fun q' => hb (by simp [q'])) q) hf⟩
  self := fun A i s Q E st h => ZS.pyIter_zip st.1 h
def iZipS (K : PySem.W.Frag) (ta : TA) : TI := fun σ H R => ta σ H fun vs H1 => ∃ a b xs ys, vs = [.ref a, .ref b] ∧ SqL K H1 a xs ∧ SqL K H1 b ys ∧ R (Itzs K a b) H1
theorem pi_zipS {X : Cx} {e e2 : Expr} {ta : TA} {p pos tpos cp kp : Pos} {elts : List Expr} {kk ck : Nat} (hg : Gl X "zip") (hm : X.mg "zip" = none) (ha : PA X [e, e2] ta)
    (hs : backTo pos (starEach [e, e2] X.env) = (false, eval e X.env) :: backTo pos (starEach [e2] X.env) := by rfl) (hpl : (backTo pos (starEach [e, e2] X.env)).any (·.1) = false := by rfl) :
    PI X (.Tuple elts kk tpos) (.Call (.Name "zip" p) [e, e2] [⟨some "strict", .Constant (.bool true) ck cp, kp⟩] pos) (iZipS X.K ta) := by
  refine ⟨fun pins s σ H R I h => ?_⟩
  refine wpAny_Call_Name_kw (ld_blt I hg hm PyProof.Rows.boot_zip (ZS.callWith_kwT (thn (ha.run pos pins s σ H _ I h) fun us s1 ⟨vs, H1, I1, r1, q1⟩ => ?_) hs hpl))
  refine PyProof.Rows.kws_cons ?_
  refine wpAny_pure (PyProof.Rows.kws_nil ?_)
  obtain ⟨a, b, xs, ys, ex, hqx, hqy, q⟩ := q1
  subst ex
  cases r1 with
  | cons r rr =>
    cases rr with
    | cons r' rr =>
      cases rr
      cases r
      cases r'
      obtain ⟨its, rv, p1, _⟩ := I1.list hqx
      obtain ⟨its2, rv2, p2, _⟩ := I1.list hqy
      have la : a < s1.heap.objs.size := p1.lt
      have lb : b < s1.heap.objs.size := p2.lt
      refine ZS.call_zipS p1.isList p2.isList fun h' hz hTI hTO h1 h2 hsz hk => ZS.pyIter_zip hz ?_
      have I2 : Inv X pins σ H1 { s1 with heap := h' } := I1.kept (t' := s1.toks) hk
      refine ⟨s1.heap.objs.size + 4, [s1.heap.objs.size + 4, s1.heap.objs.size + 2, s1.heap.objs.size + 3, s1.heap.objs.size, s1.heap.objs.size + 1], _, _, H1, rfl, I2, turn_zipS (PySem.W.ktu_apart s1.heap.objs.size a b la lb), ⟨hz, hTI, ⟨_, _, hTO⟩, h1, h2⟩, fun c hcm => ?_, q⟩
      have e' : c = s1.heap.objs.size + 4 ∨ c = s1.heap.objs.size + 2 ∨ c = s1.heap.objs.size + 3 ∨ c = s1.heap.objs.size ∨ c = s1.heap.objs.size + 1 := by simpa using hcm
      have hle : s1.heap.objs.size ≤ c := by
        rcases e' with z | z | z | z | z
        · rw [z]; exact Nat.le_add_right _ _
        · rw [z]; exact Nat.le_add_right _ _
        · rw [z]; exact Nat.le_add_right _ _
        · rw [z]; exact Nat.le_refl _
        · rw [z]; exact Nat.le_add_right _ _
      exact I1.fpOk hle (I1.hok.fresh hle)
end L2

set_option Elab.async false
set_option linter.all false
set_option maxRecDepth 100000
set_option maxHeartbeats 4000000
/-! Readings on data: F the part of the heap that stays as it is, H the whole. -/
namespace Dv
open PySem L2 Evl
/-- from F, H to F', H': nothing that was there has changed; what F gained is new in H -/
structure Gr (F H F' H' : Hp) : Prop where
  fx : Ex F F'
  fh : Ex F' H'
  hx : Ex H H'
  fr : ∀ a, F a = none → F' a ≠ none → H a = none
theorem Gr.refl {F H : Hp} (e : Ex F H) : Gr F H F H := ⟨Ex.refl F, e, Ex.refl H, fun a h1 h2 => absurd h1 h2⟩
theorem ex_none {H H' : Hp} {a : Addr} (e : Ex H H') (h : H' a = none) : H a = none := fresh_back e h
theorem Gr.trans {F H F1 H1 F2 H2 : Hp} (a : Gr F H F1 H1) (b : Gr F1 H1 F2 H2) : Gr F H F2 H2 :=
  ⟨a.fx.trans b.fx, b.fh, a.hx.trans b.hx, fun x h1 h2 => by
    cases h : F1 x with
    | none => exact ex_none a.hx (b.fr x h h2)
    | some o => exact a.fr x h1 (by rw [h]; exact fun z => nomatch z)⟩
theorem Gr.new {F H : Hp} {p : Addr} {o : HO} (e : Ex F H) (h : H p = none) : Gr F H (upd F p o) (upd H p o) :=
  ⟨Ex.new (ex_none e h), fun a u ha => by
    by_cases q : a = p
    · subst q
      rw [upd_same] at ha ⊢
      exact ha
    · rw [upd_ne q] at ha ⊢
      exact e a u ha, Ex.new h, fun a h1 h2 => by
    by_cases q : a = p
    · rw [q]; exact h
    · rw [upd_ne q] at h2
      exact absurd h1 h2⟩
/-- an object of H alone -/
theorem Gr.only {F H : Hp} {p : Addr} {o : HO} (e : Ex F H) (h : H p = none) : Gr F H F (upd H p o) :=
  ⟨Ex.refl F, fun a u ha => by rw [upd_ne (ne_of_none (e a u ha) h)]; exact e a u ha, Ex.new h, fun a h1 h2 => absurd h1 h2⟩
/-- an object that is new since H and not of F' may change -/
theorem Gr.mut {F H F' H' : Hp} {p : Addr} {o : HO} (g : Gr F H F' H') (h : H p = none) (hf : F' p = none) : Gr F H F' (upd H' p o) :=
  ⟨g.fx, Ex.mut g.fh hf, Ex.mut g.hx h, g.fr⟩
/-- and may be taken into F' as it stands -/
theorem Gr.take {F H F' H' : Hp} {p : Addr} {o : HO} (g : Gr F H F' H') (h : H p = none) (hf : F' p = none) (hp : H' p = some o) : Gr F H (upd F' p o) H' :=
  ⟨fun a u ha => by rw [upd_ne (ne_of_none (g.fx a u ha) hf)]; exact g.fx a u ha, fun a u ha => by
    by_cases q : a = p
    · rw [q] at ha ⊢
      rw [upd_same] at ha
      cases ha
      exact hp
    · rw [upd_ne q] at ha
      exact g.fh a u ha, g.hx, fun a h1 h2 => by
    by_cases q : a = p
    · rw [q]; exact h
    · rw [upd_ne q] at h2
      exact g.fr a h1 h2⟩
def uni (F1 F' : Hp) : Hp := fun a => match F1 a with | some o => some o | none => F' a
theorem ex_uni1 (F1 F' : Hp) : Ex F1 (uni F1 F') := fun a o h => by unfold uni; rw [h]
theorem ex_uni2 {F1 F' H : Hp} (e1 : Ex F1 H) (e2 : Ex F' H) : Ex F' (uni F1 F') := fun a o h => by
  unfold uni
  cases q : F1 a with
  | none => exact h
  | some u =>
    have := e1 a u q
    rw [e2 a o h] at this
    exact congrArg some (Option.some.inj this).symm
theorem uni_ex {F1 F' H : Hp} (e1 : Ex F1 H) (e2 : Ex F' H) : Ex (uni F1 F') H := fun a o h => by
  unfold uni at h
  cases q : F1 a with
  | none => rw [q] at h; exact e2 a o h
  | some u => rw [q] at h; cases h; exact e1 a _ q
theorem Gr.weak {F F1 H F' H' : Hp} (e : Ex F F1) (e1 : Ex F1 H) (g : Gr F H F' H') : Gr F1 H (uni F1 F') H' :=
  ⟨ex_uni1 _ _, uni_ex (e1.trans g.hx) g.fh, g.hx, fun a h1 h2 => by
    unfold uni at h2
    rw [h1] at h2
    cases q : F a with
    | none => exact g.fr a q h2
    | some o => rw [e a o q] at h1; cases h1⟩
theorem Gr.keep {F H F' H' : Hp} {p : Addr} {o : HO} (g : Gr F H F' H') (h : H p = some o) (hf : F p = none) : H' p = some o ∧ F' p = none :=
  ⟨g.hx p o h, by
    cases q : F' p with
    | none => rfl
    | some u =>
      have := g.fr p hf (by rw [q]; exact fun z => nomatch z)
      rw [h] at this
      cases this⟩
section
variable {K : PySem.W.Frag} {σ : L2.St} {F F1 H H1 : Hp}
mutual
theorem dp_ex (e : Ex F F1) : ∀ {d : PyData} {v : V}, Dp K F v d → Dp K F1 v d
  | .none, _, h => by cases h; exact .non
  | .bool b, _, h => by cases h; exact .bl b
  | .int i, _, h => by cases h; exact .int i
  | .str x, _, h => by cases h; exact .str x
  | .list ds, _, h => by
    cases h with
    | lst hs ha => exact .lst (ex_l e hs) (dps_ex e ha)
  | .tuple ds, _, h => by
    cases h with
    | tup hs ha => exact .tup (ex_t e hs) (dps_ex e ha)
  | .dict _, _, h => by cases h
theorem dps_ex (e : Ex F F1) : ∀ {ds : List PyData} {vs : List V}, DpAll K F vs ds → DpAll K F1 vs ds
  | [], _, h => by cases h; exact .nil
  | d :: ds, _, h => by
    cases h with
    | cons h1 h2 => exact .cons (dp_ex e h1) (dps_ex e h2)
end
theorem dps_len : ∀ {ds : List PyData} {vs : List V}, DpAll K F vs ds → vs.length = ds.length
  | [], _, h => by cases h; rfl
  | d :: ds, _, h => by
    cases h with
    | cons h1 h2 => rw [List.length_cons, List.length_cons, dps_len h2]
theorem dps_at : ∀ {ds : List PyData} {vs : List V} {i : Nat} {d : PyData}, DpAll K F vs ds → ds[i]? = some d → ∃ v, vs[i]? = some v ∧ Dp K F v d
  | [], _, _, _, _, e => by cases e
  | d :: ds, _, i, _, h, e => by
    cases h with
    | cons h1 h2 =>
      cases i with
      | zero => cases e; exact ⟨_, rfl, h1⟩
      | succ i => exact dps_at (i := i) h2 e
theorem dps_app : ∀ {ds es : List PyData} {vs ws : List V}, DpAll K F vs ds → DpAll K F ws es → DpAll K F (vs ++ ws) (ds ++ es)
  | [], _, _, _, h, h' => by cases h; exact h'
  | d :: ds, _, _, _, h, h' => by
    cases h with
    | cons h1 h2 => exact .cons h1 (dps_app h2 h')

/-! ### what evaluates to what -/
variable (K) in
def EvD (te : TE) (σ : L2.St) (F : Hp) (d : PyData) : Prop := ∀ H, Ex F H → ∀ Q : VK, (∀ v F' H', Gr F H F' H' → Dp K F' v d → Q v H') → te σ H Q
variable (K) in
/-- a new list, not yet of F' -/
def EvL (te : TE) (σ : L2.St) (F : Hp) (ds : List PyData) : Prop := ∀ H, Ex F H → ∀ Q : VK, (∀ p vs F' H', Gr F H F' H' → H p = none → F' p = none → H' p = some (.lst vs) → DpAll K F' vs ds → Q (.ref p) H') → te σ H Q
def EtD (tt : TT) (σ : L2.St) (F : Hp) (b : Bool) : Prop := ∀ H, Ex F H → ∀ Q : Bool → Hp → Prop, (∀ F' H', Gr F H F' H' → Q b H') → tt σ H Q
variable (K) in
def EaD (ta : TA) (σ : L2.St) (F : Hp) (ds : List PyData) : Prop := ∀ H, Ex F H → ∀ Q : List V → Hp → Prop, (∀ vs F' H', Gr F H F' H' → DpAll K F' vs ds → Q vs H') → ta σ H Q
def EoD (to : TO) (σ : L2.St) (F : Hp) (o : Option Int) : Prop := ∀ H, Ex F H → ∀ Q : Option Int → Hp → Prop, (∀ F' H', Gr F H F' H' → Q o H') → to σ H Q
variable {te ta tb : TE} {d a b : PyData} {ds : List PyData}
theorem EvD.mono (e : Ex F F1) (h : EvD K te σ F d) : EvD K te σ F1 d := fun H eH Q q => h H (e.trans eH) Q fun v F' H' g hv => q v _ H' (g.weak e eH) (dp_ex (ex_uni2 (eH.trans g.hx) g.fh) hv)
theorem EtD.mono {tt : TT} {b : Bool} (e : Ex F F1) (h : EtD tt σ F b) : EtD tt σ F1 b := fun H eH Q q => h H (e.trans eH) Q fun F' H' g => q _ H' (g.weak e eH)
theorem EoD.mono {tt : TO} {b : Option Int} (e : Ex F F1) (h : EoD tt σ F b) : EoD tt σ F1 b := fun H eH Q q => h H (e.trans eH) Q fun F' H' g => q _ H' (g.weak e eH)
theorem EaD.mono {ta : TA} (e : Ex F F1) (h : EaD K ta σ F ds) : EaD K ta σ F1 ds := fun H eH Q q => h H (e.trans eH) Q fun v F' H' g hv => q v _ H' (g.weak e eH) (dps_ex (ex_uni2 (eH.trans g.hx) g.fh) hv)
theorem EvL.mono (e : Ex F F1) (h : EvL K te σ F ds) : EvL K te σ F1 ds := fun H eH Q q => h H (e.trans eH) Q fun p vs F' H' g h1 h2 h3 h4 => q p vs _ H' (g.weak e eH) h1 (by
  unfold uni
  rw [ex_none eH h1]
  exact h2) h3 (dps_ex (ex_uni2 (eH.trans g.hx) g.fh) h4)
theorem EvL.ev (h : EvL K te σ F ds) : EvD K te σ F (.list ds) := fun H eH Q q => h H eH Q fun p vs F' H' g h1 h2 h3 h4 =>
  q _ _ _ (g.take h1 h2 h3) (.lst (sq_of upd_same) (dps_ex (Ex.new h2) h4))
theorem ev_var {i : Nat} {v : V} (h : σ[i]? = some (some v)) (hv : Dp K F v d) : EvD K (tVar i) σ F d := fun H eH Q q => ⟨v, h, q v F H (Gr.refl eH) hv⟩
theorem ev_c {v : V} (hv : Dp K F v d) : EvD K (tC v) σ F d := fun H eH Q q => q v F H (Gr.refl eH) hv
theorem ev_op {r : R2} (ha : EvD K ta σ F a) (hb : EvD K tb σ F b)
    (hr : ∀ v u F1 H1, Ex F F1 → Ex F1 H1 → Dp K F1 v a → Dp K F1 u b → ∀ Q : VK, (∀ x F' H', Gr F1 H1 F' H' → Dp K F' x d → Q x H') → r v u H1 Q) : EvD K (tOp r ta tb) σ F d := fun H eH Q q =>
  ha H eH _ fun v F1 H1 g1 hv => (hb.mono g1.fx) H1 g1.fh _ fun u F2 H2 g2 hu => hr v u F2 H2 (g1.fx.trans g2.fx) g2.fh (dp_ex g2.fx hv) hu Q fun x F' H' g3 hx => q x F' H' (g1.trans (g2.trans g3)) hx
theorem ev_un {r : V → Hp → VK → Prop} (ha : EvD K ta σ F a)
    (hr : ∀ v F1 H1, Ex F F1 → Ex F1 H1 → Dp K F1 v a → ∀ Q : VK, (∀ x F' H', Gr F1 H1 F' H' → Dp K F' x d → Q x H') → r v H1 Q) : EvD K (tUn r ta) σ F d := fun H eH Q q =>
  ha H eH _ fun v F1 H1 g1 hv => hr v F1 H1 g1.fx g1.fh hv Q fun x F' H' g3 hx => q x F' H' (g1.trans g3) hx
theorem ea_nil : EaD K tNil σ F [] := fun H eH Q q => q [] F H (Gr.refl eH) .nil
theorem ea_cons {tr : TA} (ha : EvD K ta σ F a) (hr : EaD K tr σ F ds) : EaD K (tCons ta tr) σ F (a :: ds) := fun H eH Q q =>
  ha H eH _ fun v F1 H1 g1 hv => (hr.mono g1.fx) H1 g1.fh _ fun vs F2 H2 g2 hvs => q _ F2 H2 (g1.trans g2) (.cons (dp_ex g2.fx hv) hvs)
theorem ev_tup {ta : TA} (h : EaD K ta σ F ds) (hl : ds.length ≤ 100000) : EvD K (tTup ta) σ F (.tuple ds) := fun H eH Q q =>
  h H eH _ fun vs F1 H1 g1 hv => ⟨by rw [dps_len hv]; exact sz_of hl, fun p hp => q _ _ _ (g1.trans (Gr.new g1.fh hp)) (.tup (st_of upd_same) (dps_ex (Ex.new (ex_none g1.fh hp)) hv))⟩
theorem el_lst {ta : TA} (h : EaD K ta σ F ds) (hl : ds.length ≤ 100000) : EvL K (tLst ta) σ F ds := fun H eH Q q =>
  h H eH _ fun vs F1 H1 g1 hv => ⟨by rw [dps_len hv]; exact sz_of hl, fun p hp => q p vs F1 _ (g1.trans (Gr.only g1.fh hp)) (ex_none g1.hx hp) (ex_none g1.fh hp) upd_same hv⟩
theorem eo_none : EoD tNoPart σ F none := fun H eH Q q => q F H (Gr.refl eH)
theorem eo_some {i : Int} (h : EvD K te σ F (.int i)) : EoD (tPart te) σ F (some i) := fun H eH Q q => h H eH _ fun v F1 H1 g1 hv => by
  cases hv
  exact ⟨i, rfl, q F1 H1 g1⟩
end
end Dv

set_option Elab.async false
set_option linter.all false
set_option maxRecDepth 100000
set_option maxHeartbeats 4000000
namespace Dv
open PySem L2 Evl
section
variable {K : PySem.W.Frag} {σ : L2.St} {F F1 H H1 : Hp} {te ta tb : TE} {d a b : PyData} {ds es : List PyData} {i j : Int} {tt tu : TT} {p q : Bool}
/-! ### numbers -/
theorem ev_int (i : Int) : EvD K (tC (.int i)) σ F (.int i) := ev_c (.int i)
theorem ev_str (x : Str) : EvD K (tC (.str x)) σ F (.str x) := ev_c (.str x)
theorem ev_bl (b : Bool) : EvD K (tC (.bl b)) σ F (.bool b) := ev_c (.bl b)
theorem ev_non : EvD K (tC .non) σ F .none := ev_c .non
theorem ev_I0 {g : Int → Int → V} {k : PyData} (hk : ∀ F, Dp K F (g i j) k) (ha : EvD K ta σ F (.int i)) (hb : EvD K tb σ F (.int j)) : EvD K (tOp (rI0 g) ta tb) σ F k :=
  ev_op ha hb fun v u F1 H1 _ e hv hu Q q => by
    cases hv
    cases hu
    exact ⟨i, j, rfl, rfl, q _ F1 H1 (Gr.refl e) (hk F1)⟩
theorem ev_I {C : Int → Int → Prop} {g : Int → Int → V} {k : PyData} (hc : C i j) (hk : ∀ F, Dp K F (g i j) k) (ha : EvD K ta σ F (.int i)) (hb : EvD K tb σ F (.int j)) : EvD K (tOp (rI C g) ta tb) σ F k :=
  ev_op ha hb fun v u F1 H1 _ e hv hu Q q => by
    cases hv
    cases hu
    exact ⟨i, j, rfl, rfl, hc, q _ F1 H1 (Gr.refl e) (hk F1)⟩
theorem ev_U {g : Int → V} {k : PyData} (hk : ∀ F, Dp K F (g i) k) (ha : EvD K ta σ F (.int i)) : EvD K (tUn (rU g) ta) σ F k :=
  ev_un ha fun v F1 H1 _ e hv Q q => by
    cases hv
    exact ⟨i, rfl, q _ F1 H1 (Gr.refl e) (hk F1)⟩
theorem ev_eqI (ha : EvD K ta σ F (.int i)) (hb : EvD K tb σ F (.int j)) : EvD K (tOp rEq ta tb) σ F (.bool (i == j)) :=
  ev_op ha hb fun v u F1 H1 _ e hv hu Q q => by
    cases hv
    cases hu
    refine ⟨rfl, q _ F1 H1 (Gr.refl e) ?_⟩
    rw [dec_int]
    exact .bl _
theorem ev_neI (ha : EvD K ta σ F (.int i)) (hb : EvD K tb σ F (.int j)) : EvD K (tOp rNe ta tb) σ F (.bool (i != j)) :=
  ev_op ha hb fun v u F1 H1 _ e hv hu Q q => by
    cases hv
    cases hu
    refine ⟨rfl, q _ F1 H1 (Gr.refl e) ?_⟩
    rw [dec_int]
    exact .bl _
/-! ### tests -/
theorem et_test (h : EvD K te σ F (.bool p)) : EtD (tTest te) σ F p := fun H e Q q => h H e _ fun v F' H' g hv => by
  cases hv
  exact ⟨p, rfl, q F' H' g⟩
theorem et_B (h : EvD K te σ F (.bool p)) : EtD (tB te) σ F p := fun H e Q q => h H e _ fun v F' H' g hv => by
  cases hv
  exact ⟨p, rfl, q F' H' g⟩
theorem et_and (h1 : EtD tt σ F p) (h2 : p = true → EtD tu σ F q) : EtD (tAnd tt tu) σ F (p && q) := fun H e Q k => h1 H e _ fun F1 H1 g1 => by
  cases p with
  | true =>
    show tu σ H1 Q
    exact ((h2 rfl).mono g1.fx) H1 g1.fh Q fun F2 H2 g2 => k F2 H2 (g1.trans g2)
  | false =>
    show Q false H1
    exact k F1 H1 g1
theorem et_or (h1 : EtD tt σ F p) (h2 : p = false → EtD tu σ F q) : EtD (tOr tt tu) σ F (p || q) := fun H e Q k => h1 H e _ fun F1 H1 g1 => by
  cases p with
  | true =>
    show Q true H1
    exact k F1 H1 g1
  | false =>
    show tu σ H1 Q
    exact ((h2 rfl).mono g1.fx) H1 g1.fh Q fun F2 H2 g2 => k F2 H2 (g1.trans g2)
theorem et_not (h : EtD tt σ F p) : EtD (tNot tt) σ F (!p) := fun H e Q k => h H e _ fun F1 H1 g1 => k F1 H1 g1
theorem et_is (h : EtD tt σ F p) (e : p = q) : EtD tt σ F q := e ▸ h
theorem ev_is (h : EvD K te σ F a) (e : a = b) : EvD K te σ F b := e ▸ h
theorem el_is (h : EvL K te σ F ds) (e : ds = es) : EvL K te σ F es := e ▸ h
theorem ev_andV (h1 : EvD K ta σ F (.bool p)) (h2 : p = true → EvD K tb σ F (.bool q)) : EvD K (tAndV ta tb) σ F (.bool (p && q)) := fun H e Q k => h1 H e _ fun v F1 H1 g1 hv => by
  cases hv
  refine ⟨p, rfl, ?_⟩
  cases p with
  | true =>
    show tb σ H1 Q
    exact ((h2 rfl).mono g1.fx) H1 g1.fh Q fun v F2 H2 g2 hv => k v F2 H2 (g1.trans g2) hv
  | false =>
    show Q (.bl false) H1
    exact k _ F1 H1 g1 (.bl _)
theorem ev_orV (h1 : EvD K ta σ F (.bool p)) (h2 : p = false → EvD K tb σ F (.bool q)) : EvD K (tOrV ta tb) σ F (.bool (p || q)) := fun H e Q k => h1 H e _ fun v F1 H1 g1 hv => by
  cases hv
  refine ⟨p, rfl, ?_⟩
  cases p with
  | true =>
    show Q (.bl true) H1
    exact k _ F1 H1 g1 (.bl _)
  | false =>
    show tb σ H1 Q
    exact ((h2 rfl).mono g1.fx) H1 g1.fh Q fun v F2 H2 g2 hv => k v F2 H2 (g1.trans g2) hv
theorem ev_notV (h1 : EvD K ta σ F (.bool p)) : EvD K (tNotV ta) σ F (.bool (!p)) := fun H e Q k => h1 H e _ fun v F1 H1 g1 hv => by
  cases hv
  exact ⟨p, rfl, k _ F1 H1 g1 (.bl _)⟩
theorem ev_if (h : EtD tt σ F p) (h1 : p = true → EvD K ta σ F d) (h2 : p = false → EvD K tb σ F d) : EvD K (tIf tt ta tb) σ F d := fun H e Q k => h H e _ fun F1 H1 g1 => by
  cases p with
  | true =>
    show ta σ H1 Q
    exact ((h1 rfl).mono g1.fx) H1 g1.fh Q fun v F2 H2 g2 hv => k v F2 H2 (g1.trans g2) hv
  | false =>
    show tb σ H1 Q
    exact ((h2 rfl).mono g1.fx) H1 g1.fh Q fun v F2 H2 g2 hv => k v F2 H2 (g1.trans g2) hv
/-! ### sequences -/
theorem dps_atI {vs : List V} (h : DpAll K F vs ds) (e : atI ds i = some d) : ∃ v, atI vs i = some v ∧ Dp K F v d := by
  unfold atI at e ⊢
  rw [dps_len h]
  cases q : ixN ds.length i with
  | none => rw [q] at e; cases e
  | some j =>
    rw [q] at e
    exact dps_at h e
theorem ev_ixL (ha : EvD K ta σ F (.list ds)) (hb : EvD K tb σ F (.int i)) (e : atI ds i = some d) : EvD K (tOp (rIxL K) ta tb) σ F d :=
  ev_op ha hb fun v u F1 H1 _ eH hv hu Q q => by
    cases hv with
    | lst hs hd =>
      cases hu
      obtain ⟨v, hv, hd⟩ := dps_atI hd e
      exact ⟨_, _, i, v, rfl, rfl, ex_l eH hs, hv, q v F1 H1 (Gr.refl eH) hd⟩
theorem ev_ixT (ha : EvD K ta σ F (.tuple ds)) (hb : EvD K tb σ F (.int i)) (e : atI ds i = some d) : EvD K (tOp (rIxT K) ta tb) σ F d :=
  ev_op ha hb fun v u F1 H1 _ eH hv hu Q q => by
    cases hv with
    | tup hs hd =>
      cases hu
      obtain ⟨v, hv, hd⟩ := dps_atI hd e
      exact ⟨_, _, i, v, rfl, rfl, ex_t eH hs, hv, q v F1 H1 (Gr.refl eH) hd⟩
theorem ev_ix (ha : EvD K ta σ F a) (hb : EvD K tb σ F (.int i)) (h : ∃ ds, (a = .list ds ∨ a = .tuple ds) ∧ atI ds i = some d) : EvD K (tOp (rIx K) ta tb) σ F d :=
  ev_op ha hb fun v u F1 H1 _ eH hv hu Q q => by
    obtain ⟨ds, rfl | rfl, e⟩ := h
    · cases hv with
      | lst hs hd =>
        cases hu
        obtain ⟨v, hv, hd⟩ := dps_atI hd e
        exact .inl ⟨_, _, i, v, rfl, rfl, ex_l eH hs, hv, q v F1 H1 (Gr.refl eH) hd⟩
    · cases hv with
      | tup hs hd =>
        cases hu
        obtain ⟨v, hv, hd⟩ := dps_atI hd e
        exact .inr (.inl ⟨_, _, i, v, rfl, rfl, ex_t eH hs, hv, q v F1 H1 (Gr.refl eH) hd⟩)
theorem ev_ixS {x : Str} {c : Nat} (ha : EvD K ta σ F (.str x)) (hb : EvD K tb σ F (.int i)) (hz : x.length ≤ 100000) (e : atI x.cps.toList i = some c) : EvD K (tOp rIxS ta tb) σ F (.str ⟨#[c]⟩) :=
  ev_op ha hb fun v u F1 H1 _ eH hv hu Q q => by
    cases hv
    cases hu
    exact ⟨x, i, c, rfl, rfl, sz_of hz, e, q _ F1 H1 (Gr.refl eH) (.str _)⟩
/-- == of data -/
theorem ev_eqD (ha : EvD K ta σ F a) (hb : EvD K tb σ F b) (sa : SeqAt.shaped a = true) (sb : SeqAt.shaped b = true) : EvD K (tOp (rEqD K) ta tb) σ F (.bool (PyData.eqv a b)) :=
  ev_op ha hb fun v u F1 H1 _ eH hv hu Q q => ⟨a, b, dp_ex eH hv, dp_ex eH hu, sa, sb, q _ F1 H1 (Gr.refl eH) (.bl _)⟩
theorem ev_neD (ha : EvD K ta σ F a) (hb : EvD K tb σ F b) (sa : SeqAt.shaped a = true) (sb : SeqAt.shaped b = true) : EvD K (tOp (rNeD K) ta tb) σ F (.bool (!PyData.eqv a b)) :=
  ev_op ha hb fun v u F1 H1 _ eH hv hu Q q => ⟨a, b, dp_ex eH hv, dp_ex eH hu, sa, sb, q _ F1 H1 (Gr.refl eH) (.bl _)⟩
theorem ev_isN (ha : EvD K ta σ F a) : EvD K (tIsN ta) σ F (.bool (match a with | .none => true | _ => false)) := fun H e Q k => ha H e _ fun v F1 H1 g1 hv => by
  refine k _ F1 H1 g1 ?_
  cases hv <;> exact .bl _
theorem ev_notN (ha : EvD K ta σ F a) : EvD K (tNotN ta) σ F (.bool (match a with | .none => false | _ => true)) := fun H e Q k => ha H e _ fun v F1 H1 g1 hv => by
  refine k _ F1 H1 g1 ?_
  cases hv <;> exact .bl _
/-! ### built-in calls -/
theorem ev_cb {r : List V → Hp → VK → Prop} {tas : TA} (h : EaD K tas σ F ds)
    (hr : ∀ vs F1 H1, Ex F F1 → Ex F1 H1 → DpAll K F1 vs ds → ∀ Q : VK, (∀ x F' H', Gr F1 H1 F' H' → Dp K F' x d → Q x H') → r vs H1 Q) : EvD K (tCB r tas) σ F d := fun H eH Q q =>
  h H eH _ fun vs F1 H1 g1 hv => hr vs F1 H1 g1.fx g1.fh hv Q fun x F' H' g3 hx => q x F' H' (g1.trans g3) hx
theorem ev_call {sp : Sp} {dvs : List V} {E : XK} {tas : TA} (h : EaD K tas σ F ds)
    (hr : ∀ vs F1 H1, Ex F F1 → Ex F1 H1 → DpAll K F1 vs ds → ∀ Q : VK, (∀ x F' H', Gr F1 H1 F' H' → Dp K F' x d → Q x H') → sp (vs ++ dvs) H1 Q E) : EvD K (tCall sp dvs E tas) σ F d := fun H eH Q q =>
  h H eH _ fun vs F1 H1 g1 hv => hr vs F1 H1 g1.fx g1.fh hv Q fun x F' H' g3 hx => q x F' H' (g1.trans g3) hx
/-- a def that answers data to data: told by f where the arguments are as pre says -/
def spD (K : PySem.W.Frag) (f : List PyData → PyData → Prop) : Sp := fun vs H Q _ => ∃ F ds d, Ex F H ∧ DpAll K F vs ds ∧ f ds d ∧ ∀ v F' H', Gr F H F' H' → Dp K F' v d → Q v H'
theorem ev_callD {f : List PyData → PyData → Prop} {E : XK} {tas : TA} (h : EaD K tas σ F ds) (hf : f ds d) : EvD K (tCall (spD K f) [] E tas) σ F d :=
  ev_call h fun vs F1 H1 _ e hv Q q => ⟨F1, ds, d, e, by rw [List.append_nil]; exact hv, hf, q⟩
/-- one that makes a new list -/
def spN (K : PySem.W.Frag) (f : List PyData → List PyData → Prop) : Sp := fun vs H Q _ => ∃ F ds es, Ex F H ∧ DpAll K F vs ds ∧ f ds es ∧ ∀ p ws F' H', Gr F H F' H' → H p = none → F' p = none → H' p = some (.lst ws) → DpAll K F' ws es → Q (.ref p) H'
theorem el_callN {f : List PyData → List PyData → Prop} {E : XK} {tas : TA} (h : EaD K tas σ F ds) (hf : f ds es) : EvL K (tCall (spN K f) [] E tas) σ F es := fun H eH Q q =>
  h H eH _ fun vs F1 H1 g1 hv => ⟨F1, ds, es, g1.fh, by rw [List.append_nil]; exact hv, hf, fun p ws F' H' g2 h1 h2 h3 h4 => q p ws F' H' (g1.trans g2) (ex_none g1.hx h1) h2 h3 h4⟩
/-! ### walks -/
variable (K) in
def WD (J : It) (F : Hp) (ds : List PyData) : Prop := ∃ G Y, Walk J ds.length G Y ∧ (∀ H, Ex F H → G H) ∧ ∀ F1 i H x H', i < ds.length → Ex F F1 → Ex F1 H → Y i H x H' → ∃ F2 d, ds[i]? = some d ∧ Gr F1 H F2 H' ∧ Dp K F2 x d
variable (K) in
def ItD (wi : TI) (σ : L2.St) (F : Hp) (ds : List PyData) : Prop := ∀ H, Ex F H → ∀ R : It → Hp → Prop, (∀ J F' H', Gr F H F' H' → WD K J F' ds → R J H') → wi σ H R
/-- a target: what it sets of a datum -/
theorem lc_rule {α : Type} {wi : TI} {g : TG} {vs : List Nat} (xs : List α) (enc h : α → PyData) (f : α → Bool) (hi : ItD K wi σ F (xs.map enc)) (hz : xs.length ≤ 40000)
    (hb : ∀ x, x ∈ xs → ∀ v F1, Ex F F1 → Dp K F1 v (enc x) → ∃ σ2, (∀ H, Ex F1 H → ∀ Q : L2.St → Hp → Prop, Q σ2 H → g v (wipe σ vs) H Q) ∧ wipe σ2 vs = wipe σ vs ∧ EtD tt σ2 F1 (f x) ∧ (f x = true → EvD K te σ2 F1 (h x))) :
    EvL K (tLc wi g tt te vs) σ F ((xs.filter f).map h) := fun H eH Q q => hi H eH _ fun J F1 H1 g1 wd => by
  obtain ⟨G, Y, W, hG, hY⟩ := wd
  rw [List.length_map] at W
  intro D hD
  have fD : F1 D = none := ex_none g1.fh hD
  refine lc_it W (Pv := fun i H' => ∃ F' ws, Gr F1 H1 F' H' ∧ F' D = none ∧ H' D = some (.lst ws) ∧ DpAll K F' ws (((xs.take i).filter f).map h)) ⟨F1, [], Gr.only g1.fh hD, fD, upd_same, by rw [List.take_zero]; exact .nil⟩
    (fun i H' _ p => ?_) (fun i v H2 H3 hin p y => ?_) (fun H' p => ?_)
  · obtain ⟨F', ws, g, _⟩ := p
    exact hG _ (g.fx.trans g.fh)
  · obtain ⟨F2, ws, g2, f2, h2, hw⟩ := p
    obtain ⟨F3, d, hd, g3, hv⟩ := hY F2 i H2 v H3 (by rw [List.length_map]; exact hin) g2.fx g2.fh y
    rw [List.getElem?_map, List.getElem?_eq_getElem hin] at hd
    cases hd
    have hx : xs[i] ∈ xs := List.getElem_mem hin
    obtain ⟨σ2, hg, hwp, ht, he⟩ := hb xs[i] hx v F3 (g1.fx.trans (g2.fx.trans g3.fx)) hv
    refine hg H3 g3.fh _ ⟨hwp, ht H3 g3.fh _ fun F4 H4 g4 => ?_⟩
    have k3 := (g3.trans g4).keep h2 f2
    have tk : (xs.take (i + 1)) = xs.take i ++ [xs[i]] := List.take_succ_eq_append_getElem hin
    have wl : ws.length ≤ 40000 := by
      rw [dps_len hw, List.length_map]
      have := List.length_filter_le f (xs.take i)
      rw [List.length_take] at this
      omega
    cases hf : f xs[i] with
    | true =>
      show te σ2 H4 _
      refine ((he hf).mono g4.fx) H4 g4.fh _ fun v' F5 H5 g5 hv' => ?_
      have k5 := g5.keep k3.1 k3.2
      refine ⟨ws, k5.1, sz_lt (by omega), F5, ws ++ [v'], (g2.trans ((g3.trans g4).trans g5)).mut hD k5.2, k5.2, upd_same, ?_⟩
      rw [tk, List.filter_append, List.map_append, List.filter_cons, if_pos hf]
      exact dps_app (dps_ex ((g3.fx.trans g4.fx).trans g5.fx) hw) (.cons hv' .nil)
    | false =>
      show ∃ F' ws, _
      refine ⟨F4, ws, g2.trans (g3.trans g4), k3.2, k3.1, ?_⟩
      rw [tk, List.filter_append, List.map_append, List.filter_cons, if_neg (by rw [hf]; decide)]
      show DpAll K F4 ws (_ ++ [])
      rw [List.append_nil]
      exact dps_ex (g3.fx.trans g4.fx) hw
  · obtain ⟨F', ws, g, fd, hd, hw⟩ := p
    rw [List.take_length] at hw
    exact q D ws F' H' (g1.trans g) (ex_none g1.hx hD) fd hd hw
end
end Dv

set_option Elab.async false
set_option linter.all false
set_option maxRecDepth 100000
set_option maxHeartbeats 4000000
namespace Dv
open PySem L2 Evl
section
variable {K : PySem.W.Frag} {σ : L2.St} {F F1 H H1 : Hp} {te ta tb : TE} {d a b : PyData} {ds es : List PyData} {i j : Int} {tt tu : TT} {p q : Bool}
/-! ### what is walked -/
theorem dps_get {vs : List V} {i : Nat} {v : V} (h : DpAll K F vs ds) (e : vs[i]? = some v) : ∃ d, ds[i]? = some d ∧ Dp K F v d := by
  have hi : i < ds.length := by
    rw [← dps_len h]
    exact (List.getElem?_eq_some_iff.mp e).1
  obtain ⟨v', h1, h2⟩ := dps_at h (List.getElem?_eq_getElem hi)
  rw [e] at h1
  cases h1
  exact ⟨_, List.getElem?_eq_getElem hi, h2⟩
theorem it_list (h : EvD K te σ F (.list ds)) : ItD K (iList K te) σ F ds := fun H eH R q => h H eH _ fun v F1 H1 g1 hv => by
  cases hv with
  | lst hs hd =>
    rename_i p xs
    refine ⟨p, rfl, ⟨xs, ex_l g1.fh hs⟩, q _ F1 H1 g1 ⟨_, _, by rw [← dps_len hd]; exact walk_list (xs := xs), fun H e => ex_l e hs, fun F2 i H2 x H3 _ e1 e2 y => ?_⟩⟩
    obtain ⟨rfl, hx⟩ := y
    obtain ⟨d, h1, h2⟩ := dps_get hd hx
    exact ⟨F2, d, h1, Gr.refl e2, dp_ex e1 h2⟩
theorem it_tup (h : EvD K te σ F (.tuple ds)) : ItD K (iTup K te) σ F ds := fun H eH R q => h H eH _ fun v F1 H1 g1 hv => by
  cases hv with
  | tup hs hd =>
    rename_i p xs
    refine ⟨p, rfl, ⟨xs, ex_t g1.fh hs⟩, q _ F1 H1 g1 ⟨_, _, by rw [← dps_len hd]; exact walk_tup (xs := xs), fun H e => ex_t e hs, fun F2 i H2 x H3 _ e1 e2 y => ?_⟩⟩
    obtain ⟨rfl, hx⟩ := y
    obtain ⟨d, h1, h2⟩ := dps_get hd hx
    exact ⟨F2, d, h1, Gr.refl e2, dp_ex e1 h2⟩
theorem it_rng1 {tas : TA} {n : Int} (h : EaD K tas σ F [.int n]) (h0 : -100000 ≤ n) (h1 : n ≤ 100000) : ItD K (iRng1 tas) σ F ((List.range n.toNat).map fun i : Nat => PyData.int (i : Int)) := fun H eH R q => h H eH _ fun vs F1 H1 g1 hv => by
  cases hv with
  | cons hv hr =>
    cases hr
    cases hv
    refine ⟨n, rfl, by omega, by omega, q _ F1 H1 g1 ⟨_, _, by rw [List.length_map, List.length_range]; exact walk_range, fun _ _ => trivial, fun F2 i H2 x H3 hi _ e2 y => ?_⟩⟩
    obtain ⟨rfl, rfl⟩ := y
    rw [List.length_map, List.length_range] at hi
    refine ⟨F2, .int (i : Int), by rw [List.getElem?_map, List.getElem?_range hi] <;> rfl, Gr.refl e2, ?_⟩
    show Dp K F2 (.int (0 + (i : Int))) _
    rw [Int.zero_add]
    exact .int _
theorem it_rng2 {tas : TA} {m n : Int} (h : EaD K tas σ F [.int m, .int n]) (h0 : -100000 ≤ m ∧ m ≤ 100000) (h1 : -100000 ≤ n ∧ n ≤ 100000) : ItD K (iRng2 tas) σ F ((List.range (n - m).toNat).map fun i : Nat => PyData.int (m + (i : Int))) := fun H eH R q => h H eH _ fun vs F1 H1 g1 hv => by
  cases hv with
  | cons hv hr =>
    cases hr with
    | cons hu hr =>
      cases hr
      cases hv
      cases hu
      refine ⟨m, n, rfl, by omega, q _ F1 H1 g1 ⟨_, _, by rw [List.length_map, List.length_range]; exact walk_range, fun _ _ => trivial, fun F2 i H2 x H3 hi _ e2 y => ?_⟩⟩
      obtain ⟨rfl, rfl⟩ := y
      rw [List.length_map, List.length_range] at hi
      exact ⟨F2, .int (m + (i : Int)), by rw [List.getElem?_map, List.getElem?_range hi] <;> rfl, Gr.refl e2, .int _⟩
theorem walk_zipS {a b : Addr} {xs ys : List V} (hl : xs.length = ys.length) : Walk (Itzs K a b) xs.length (fun H => SqL K H a xs ∧ SqL K H b ys) (YPair (fun i => xs[i]?) (fun i => ys[i]?)) :=
  ⟨fun i H hi q => ⟨xs, ys, xs[i], ys[i]'(by omega), q.1, q.2, List.getElem?_eq_getElem hi, List.getElem?_eq_getElem (by omega)⟩, fun H q => ⟨xs, ys, q.1, q.2, Nat.le_refl _, by omega⟩, fun i H x H' hi q y => by
    obtain ⟨T, x, y, rfl, hT, rfl, f1, f2⟩ := y
    exact ⟨T, x, y, rfl, hT, rfl, f1 xs q.1, f2 ys q.2⟩⟩
theorem pair_wd {J : It} {n : Nat} {G : Hp → Prop} {xs ys : List V} {ds es : List PyData} (W : Walk J n G (YPair (fun i => xs[i]?) (fun i => ys[i]?))) (hG : ∀ H, Ex F H → G H) (hx : DpAll K F xs ds) (hy : DpAll K F ys es) (hn : n = min ds.length es.length) :
    WD K J F ((ds.zip es).map fun z => .tuple [z.1, z.2]) := by
  refine ⟨G, _, by rw [List.length_map, List.length_zip, ← hn]; exact W, hG, fun F2 i H2 x H3 hi e1 e2 y => ?_⟩
  obtain ⟨T, x, y, rfl, hT, rfl, f1, f2⟩ := y
  obtain ⟨d1, a1, b1⟩ := dps_get hx f1
  obtain ⟨d2, a2, b2⟩ := dps_get hy f2
  refine ⟨_, .tuple [d1, d2], ?_, Gr.new e2 hT, .tup (st_of upd_same) (.cons (dp_ex (e1.trans (Ex.new (ex_none e2 hT))) b1) (.cons (dp_ex (e1.trans (Ex.new (ex_none e2 hT))) b2) .nil))⟩
  have hz : (ds.zip es)[i]? = some (d1, d2) := by
    rw [List.getElem?_zip_eq_some]
    exact ⟨a1, a2⟩
  rw [List.getElem?_map, hz] <;> rfl
theorem it_zipS {tas : TA} (h : EaD K tas σ F [.list ds, .list es]) (hl : ds.length = es.length) : ItD K (iZipS K tas) σ F ((ds.zip es).map fun z => .tuple [z.1, z.2]) := fun H eH R q => h H eH _ fun vs F1 H1 g1 hv => by
  cases hv with
  | cons hv hr =>
    cases hr with
    | cons hu hr =>
      cases hr
      cases hv with
      | lst hs hd =>
        cases hu with
        | lst hs2 hd2 =>
          have l1 := dps_len hd
          have l2 := dps_len hd2
          refine ⟨_, _, _, _, rfl, ex_l g1.fh hs, ex_l g1.fh hs2, q _ F1 H1 g1 (pair_wd (walk_zipS (by omega)) (fun H e => ⟨ex_l e hs, ex_l e hs2⟩) hd hd2 (by omega))⟩
theorem it_zip {tas : TA} (h : EaD K tas σ F [.list ds, .list es]) : ItD K (iZip K tas) σ F ((ds.zip es).map fun z => .tuple [z.1, z.2]) := fun H eH R q => h H eH _ fun vs F1 H1 g1 hv => by
  cases hv with
  | cons hv hr =>
    cases hr with
    | cons hu hr =>
      cases hr
      cases hv with
      | lst hs hd =>
        cases hu with
        | lst hs2 hd2 =>
          have l1 := dps_len hd
          have l2 := dps_len hd2
          refine ⟨_, _, _, _, rfl, ex_l g1.fh hs, ex_l g1.fh hs2, q _ F1 H1 g1 (pair_wd (walk_zip (n := min ds.length es.length) (by omega)) (fun H e => ⟨ex_l e hs, ex_l e hs2⟩) hd hd2 rfl)⟩
theorem it_is {wi : TI} (h : ItD K wi σ F ds) (e : ds = es) : ItD K wi σ F es := e ▸ h
/-! ### targets -/
/-- x1, x2 = a pair -/
theorem tup2 {v : V} (h : Dp K F v (.tuple [a, b])) : ∃ x y, Dp K F x a ∧ Dp K F y b ∧ ∀ (i j : Nat) (σ : L2.St) (H : Hp), Ex F H → ∀ Q : L2.St → Hp → Prop, Q ((σ.set i (some x)).set j (some y)) H → gTup K 2 (gCons (gName i) (gCons (gName j) gNil)) v σ H Q := by
  cases h with
  | tup hs hd =>
    cases hd with
    | cons h1 hr =>
      cases hr with
      | cons h2 hr =>
        cases hr
        exact ⟨_, _, h1, h2, fun i j σ H e Q q => ⟨_, _, rfl, ex_t e hs, rfl, _, _, rfl, _, _, rfl, rfl, q⟩⟩
theorem tup3 {v : V} {c : PyData} (h : Dp K F v (.tuple [a, b, c])) : ∃ x y z, Dp K F x a ∧ Dp K F y b ∧ Dp K F z c ∧
    ∀ (i j k : Nat) (σ : L2.St) (H : Hp), Ex F H → ∀ Q : L2.St → Hp → Prop, Q (((σ.set i (some x)).set j (some y)).set k (some z)) H → gTup K 3 (gCons (gName i) (gCons (gName j) (gCons (gName k) gNil))) v σ H Q := by
  cases h with
  | tup hs hd =>
    cases hd with
    | cons h1 hr =>
      cases hr with
      | cons h2 hr =>
        cases hr with
        | cons h3 hr =>
          cases hr
          exact ⟨_, _, _, h1, h2, h3, fun i j k σ H e Q q => ⟨_, _, rfl, ex_t e hs, rfl, _, _, rfl, _, _, rfl, _, _, rfl, rfl, q⟩⟩
/-! ### statements -/
variable {D : Ends} {ts tw : TS} {g : TG}
theorem s_asg {i : Nat} (h : EvD K te σ F d) (e : Ex F H) (k : ∀ v F' H', Gr F H F' H' → Dp K F' v d → D.nx (σ.set i (some v)) H') : tAsg te (gName i) D σ H := h H e _ fun v F' H' g hv => k v F' H' g hv
theorem s_asgL {i : Nat} (h : EvL K te σ F ds) (e : Ex F H) (k : ∀ p vs F' H', Gr F H F' H' → H p = none → F' p = none → H' p = some (.lst vs) → DpAll K F' vs ds → D.nx (σ.set i (some (.ref p))) H') : tAsg te (gName i) D σ H :=
  h H e _ fun p vs F' H' g h1 h2 h3 h4 => k p vs F' H' g h1 h2 h3 h4
theorem s_ret (h : EvD K te σ F d) (e : Ex F H) (k : ∀ v F' H', Gr F H F' H' → Dp K F' v d → D.rt v H') : tRet te D σ H := h H e _ k
theorem s_retL (h : EvL K te σ F ds) (e : Ex F H) (k : ∀ p vs F' H', Gr F H F' H' → H p = none → F' p = none → H' p = some (.lst vs) → DpAll K F' vs ds → D.rt (.ref p) H') : tRet te D σ H :=
  h H e _ fun p vs F' H' g h1 h2 h3 h4 => k p vs F' H' g h1 h2 h3 h4
theorem s_if (h : EtD tt σ F p) (e : Ex F H) (h1 : p = true → ∀ F' H', Gr F H F' H' → ts D σ H') (h2 : p = false → ∀ F' H', Gr F H F' H' → tw D σ H') : tIfS tt ts tw D σ H := h H e _ fun F' H' g => by
  cases p with
  | true =>
    show ts D σ H'
    exact h1 rfl F' H' g
  | false =>
    show tw D σ H'
    exact h2 rfl F' H' g
theorem s_par {i j : Nat} {tas : TA} (h : EaD K tas σ F [a, b]) (e : Ex F H) (k : ∀ v u F' H', Gr F H F' H' → Dp K F' v a → Dp K F' u b → D.nx ((σ.set i (some v)).set j (some u)) H') : tPar i j tas D σ H := h H e _ fun vs F' H' g hv => by
  cases hv with
  | cons h1 hr =>
    cases hr with
    | cons h2 hr =>
      cases hr
      exact ⟨_, _, rfl, k _ _ F' H' g h1 h2⟩
/-- xs.append(e), xs a list of H alone -/
theorem s_app {l : Addr} {xs : List V} {i : Nat} (hl : H l = some (.lst xs)) (fl : F l = none) (hi : σ[i]? = some (some (.ref l))) (h : EvD K te σ F d) (e : Ex F H) (hz : xs.length < 100000)
    (k : ∀ v F' H', Gr F H F' H' → Dp K F' v d → F' l = none → H' l = some (.lst xs) → D.nx σ (upd H' l (.lst (xs ++ [v])))) : tDrop (tBM K "list" rAppend (tVar i) (tCons te tNil)) D σ H :=
  ⟨_, hi, Or.inl ⟨rfl, xs, sq_of hl⟩, h H e _ fun v F' H' g hv => ⟨l, xs, v, rfl, rfl, (g.keep hl fl).1, sz_lt hz, k v F' H' g hv (g.keep hl fl).2 (g.keep hl fl).1⟩⟩
/-- a for over data: Pv by the turn, the slots, F and H -/
def NxP (Fb : Hp) (Pv : L2.St → Hp → Hp → Prop) : L2.St → Hp → Prop := fun σ H => ∃ F', Ex Fb F' ∧ Ex F' H ∧ Pv σ F' H
theorem s_for {wi : TI} (h : ItD K wi σ F ds) (e : Ex F H) (Pv : Nat → L2.St → Hp → Hp → Prop) (h0 : ∀ F' H', Gr F H F' H' → Pv 0 σ F' H')
    (hs : ∀ Fb, Ex F Fb → ∀ n σ' F' H' v d F2 H2, ds[n]? = some d → Ex Fb F' → Ex F' H' → Pv n σ' F' H' → Gr F' H' F2 H2 → Dp K F2 v d →
      g v σ' H2 fun σ2 H3 => ts { D with nx := NxP Fb (Pv (n + 1)), ct := NxP Fb (Pv (n + 1)), bk := D.nx } σ2 H3)
    (hd : ∀ σ' F' H', Ex F F' → Ex F' H' → Pv ds.length σ' F' H' → D.nx σ' H') : tFor wi g ts D σ H := h H e _ fun J F1 H1 g1 wd => by
  obtain ⟨G, Y, W, hG, hY⟩ := wd
  exact for_it W (fun n => NxP F1 (Pv n)) ⟨F1, Ex.refl _, g1.fh, h0 F1 H1 g1⟩ (fun n σ' H' _ p => by
    obtain ⟨F', e1, e2, p⟩ := p
    exact hG _ (e1.trans e2)) (fun n v σ' H' H2 hn p y => by
    obtain ⟨F', e1, e3, p⟩ := p
    obtain ⟨F2, d, hd, g2, hv⟩ := hY F' n H' v H2 hn e1 e3 y
    exact hs F1 g1.fx n σ' F' H' v d F2 H2 hd e1 e3 p g2 hv) (fun σ' H' p => by
    obtain ⟨F', e1, e2, p⟩ := p
    exact hd σ' F' H' (g1.fx.trans e1) e2 p)
/-- while, by a word that falls -/
theorem s_while (W : Nat → L2.St → Hp → Hp → Prop) (m0 : Nat) (h0 : W m0 σ F H) (e : Ex F H)
    (hs : ∀ m σ' F' H', W m σ' F' H' → Ex F F' → Ex F' H' → ∃ b, EtD tt σ' F' b ∧ (b = true → ∀ F1 H1, Gr F' H' F1 H1 → ∃ N : L2.St → Hp → Prop, (∀ σ2 H2, N σ2 H2 → ∃ m' F2, m' < m ∧ W m' σ2 F2 H2 ∧ Ex F F2 ∧ Ex F2 H2) ∧ ts { D with nx := N, ct := N, bk := D.nx } σ' H1) ∧
      (b = false → ∀ F1 H1, Gr F' H' F1 H1 → D.nx σ' H1)) : tWhile tt ts D σ H :=
  ⟨fun m σ H => ∃ F', W m σ F' H ∧ Ex F F' ∧ Ex F' H, ⟨m0, F, h0, Ex.refl F, e⟩, fun m σ' H' hw => by
    obtain ⟨F', w, e1, e2⟩ := hw
    obtain ⟨b, hb, h1, h2⟩ := hs m σ' F' H' w e1 e2
    refine hb H' e2 _ fun F1 H1 g => ?_
    cases b with
    | true =>
      obtain ⟨N, n1, n2⟩ := h1 rfl F1 H1 g
      exact ⟨N, fun σ2 H2 n => let ⟨m', F2, a, b, c, d⟩ := n1 σ2 H2 n; ⟨m', a, F2, b, c, d⟩, n2⟩
    | false => exact h2 rfl F1 H1 g⟩
end
end Dv

set_option Elab.async false
set_option linter.all false
set_option maxRecDepth 100000
set_option maxHeartbeats 4000000
/-! An own exception over ValueError whose __init__(self, f=None) says super().__init__(f) and self.f = f: made, read, told by isinstance. -/
namespace PySem
namespace Xn
open PySem.W PySem.Calls PyProof.Rows PySem.HandSPX
/-! ### the text of __init__ -/
def iA (fld : Str) (p1 p2 p3 : Pos) : Arguments := { posonlyargs := [], args := [{ arg := "self", annotation := none, pos := p1 }, { arg := fld, annotation := none, pos := p2 }], vararg := none, kwonlyargs := [], kw_defaults := [], kwarg := none, defaults := [.Constant .none 0 p3] }
def iB (fld : Str) (q : Nat → Pos) : List Stmt :=
  [.Expr (.Call (.Attribute (.Call (.Name "super" (q 0)) [] [] (q 1)) "__init__" (q 2)) [.Name fld (q 3)] [] (q 4)) (q 4),
   .Assign [.Attribute (.Name "self" (q 5)) fld (q 6)] (.Name fld (q 7)) (q 8)]
def iS (fld : Str) : Scope := { kind := .function, names := [(PySem.Str.ofString "self", .local), (fld, .local), (PySem.Str.ofString "__class__", .free), (PySem.Str.ofString "super", .globalImplicit)], isGenerator := false, isCoroutine := false, more := [] }
/-- what is asked of the places in the text: closed by rfl where they are written -/
structure TextOk (fld : Str) (q : Nat → Pos) : Prop where
  ev : ∃ pl : Sem Bool, ∀ env : Env, eval (.Call (.Attribute (.Call (.Name "super" (q 0)) [] [] (q 1)) "__init__" (q 2)) [.Name fld (q 3)] [] (q 4)) env = (do
      let ov ← attributeBase (.Call (.Name "super" (q 0)) [] [] (q 1)) "__init__" env (eval (.Call (.Name "super" (q 0)) [] [] (q 1)) env)
      standAt (q 2).atName
      let (f, first) ← holding [ov] (getMethod ov "__init__" pl)
      callWith (q 4) f first (backTo (q 4) (starEach [.Name fld (q 3)] env)) [])
  sw1 : ∀ env : Env, swapsWith (.Call (.Attribute (.Call (.Name "super" (q 0)) [] [] (q 1)) "__init__" (q 2)) [.Name fld (q 3)] [] (q 4)) none (q 4).line env = pure false
  st : ∀ env : Env, starEach [.Name fld (q 3)] env = (false, eval (.Name fld (q 3)) env) :: starEach [] env
  pl : ∀ env : Env, (backTo (q 4) (starEach [] env)).any (·.1) = false
  sw2 : ∀ env : Env, swapsWith (.Name fld (q 7)) (some (.Attribute (.Name "self" (q 5)) fld (q 6))) (q 8).line env = pure false
/-- how its arguments are bound -/
structure BindOk (fld : Str) (fd : FuncData) (da : Addr) : Prop where
  two : ∀ x v : Value, ∃ k, bindArgs fd ⟨[x, v], []⟩ = seqItems? (.ref da) >>= k ∧ k (some #[.none]) = pure [(("self" : Str), x), (fld, v)]
  kw : ∀ x v : Value, ∃ k, bindArgs fd ⟨[x], [(fld, v)]⟩ = seqItems? (.ref da) >>= k ∧ k (some #[.none]) = pure [(("self" : Str), x), (fld, v)]
  one : ∀ x : Value, ∃ k, bindArgs fd ⟨[x], []⟩ = seqItems? (.ref da) >>= k ∧ k (some #[.none]) = pure [(("self" : Str), x), (fld, Value.none)]
/-- what the written part says of the class at C, field fld, its __init__ at fI -/
structure ExT (P : Program) (K : Frag) (mg : Str → Option Value) (cn fld : Str) (C fI : Addr) : Prop where
  gC : mg cn = some (.ref C)
  cls : ∃ nm q N bs bm sn sub ab col dd k0 k1 k2 k3 k5, K.lookup C = some (excClassObj nm q C N bs bm true sn sub ab col dd k0 k1 k2 k3 k5 "ValueError.__new__") ∧ refsVE bm = true ∧ alongIn K "__init__" bm = some (some (.builtin "ValueError.__init__"))
  sa : findIn K (.ref C) "__setattr__" = some (some (.builtin "object.__setattr__"))
  ga : findIn K (.ref C) "__getattribute__" = some (some (.builtin "BaseException.__getattribute__"))
  gg : findIn K (.ref C) "__getattr__" = some none
  noN : findIn K (.ref C) fld = some none
  iC : findIn K (.ref C) "__init__" = some (some (.ref fI))
  tC : typeIn K (.ref fI) = some (.type "function")
  kC : keepIn K (.ref C) = true
  exC : subIn K (.ref C) (.type "BaseException") = some true
  exV : subIn K (.ref C) (.type "ValueError") = some true
  exO : mroIn K C (.ref C) = some true
  tyC : typeIn K (.ref C) = some (.type "type")
  hdC : hasDictIn K C = true
  opq : nsIn K cStatics "thirdparty.any" = some none
  noS : mg "super" = none
  fn : ∃ (oc : Value) (od : Option Addr) (qual : Str) (dV doc pm : Value) (an : Option Addr) (cda cc : Addr) (ct : Value) (osl : Array (Option Value)) (p1 p2 p3 : Pos) (q : Nat → Pos)
    (ccl : Value) (cdd : Option Addr) (vs : Array Value) (ccs : Array (Option Value)) (file : Str) (tf : Tok) (cl : Value) (cld : Option Addr) (csl : Array (Option Value)) (dcl : Value) (ddi : Option Addr) (dn : Nat) (dsl : Array (Option Value)) (da : Addr),
    K.lookup fI = some ⟨oc, od, .func (ksFn "__init__" qual (iA fld p1 p2 p3) (iB fld q) (iS fld) dV .none doc pm an (.ref cda) ct cc), osl⟩ ∧ codeIn K (.ref cda) qual = true ∧
    K.lookup cda = some ⟨ccl, cdd, .fields vs, ccs⟩ ∧ vs[2]? = some (.str file tf) ∧ ((P.main.file : Str) == file) = true ∧
    K.lookup cc = some ⟨cl, cld, .cell (some (.ref C)), csl⟩ ∧ TextOk fld q ∧ BindOk fld (ksFn "__init__" qual (iA fld p1 p2 p3) (iB fld q) (iS fld) dV .none doc pm an (.ref cda) ct cc) da ∧ dV = .ref da ∧ K.lookup da = some ⟨dcl, ddi, .seq #[.none] dn, dsl⟩
  nclash : (fld == ("__debug__" : Str)) = false ∧ ¬ (fld = ("self" : Str)) ∧ ¬ (fld = ("__class__" : Str)) ∧ ¬ (fld = ("super" : Str))
theorem one_size (v : Value) : [v].length ≤ sizeLine := by
  rw [sizeLine_eq]
  exact (by decide : 1 ≤ 16777216)
/-- what __init__ leaves of a fresh exception at x -/
structure InitEnd (h h' : Heap) (x C dx t1 : Addr) (fld : Str) (v : Value) : Prop where
  keep : ∀ b o, b ≠ x → h.get? b = some o → h'.get? b = some o
  obj : h'.get? x = some { cls := .ref C, dict := some dx, data := .fields #[.ref t1, .none, .none, .none, .bool false, .none] }
  dbig : h.objs.size ≤ dx
  dne : dx ≠ x
  ns : h'.Ns1 dx (fun y => if y = fld then some v else none)
/-- a made one -/
structure OwnMade (h h' : Heap) (e C d : Addr) (fld : Str) (v : Value) : Prop where
  keep : ∀ b o, h.get? b = some o → h'.get? b = some o
  new : h.objs.size ≤ e
  obj : ∃ t1, h'.get? e = some { cls := .ref C, dict := some d, data := .fields #[.ref t1, .none, .none, .none, .bool false, .none] }
  dbig : h.objs.size ≤ d
  dne : d ≠ e
  ns : h'.Ns1 d (fun y => if y = fld then some v else none)
/-- the module's names and the built-in ones, by the heap -/
structure Nms (h : Heap) (mg : Str → Option Value) : Prop where
  g : h.Ns mainGlobals mg
  b : ∃ mb, h.Ns builtinsNs mb ∧ ∀ x : Str, x ≠ "__name__" → mb x = bootBuiltins x
theorem Nms.keeps {h h' : Heap} {mg : Str → Option Value} (n : Nms h mg) (k : ∀ b o, h.get? b = some o → h'.get? b = some o) : Nms h' mg :=
  ⟨n.g.keeps k, let ⟨mb, a, b⟩ := n.b; ⟨mb, a.keeps k, b⟩⟩
section
variable {prog : Program} {w : World} {A : Around} {E : Value → Shared → Prop} {R : Result → Shared → Prop} {s : Shared} {K : Frag} {mg : Str → Option Value} {cn fld : Str} {C fI : Addr}
theorem call_mw {h : Heap} {g : Array GenState} {d : Drawn} {t : Nat} {os : OsState} {nm q : Str} {N : Addr} {bs bm : List Value} {hdct : Bool} {sn : List Str} {sub : List Value} {ab : Bool} {col : Option Bool} {dd : Option Addr} {k0 k1 k2 k3 k5 : Option Value} {u e t0 : Addr} {rest : List Value} {Q : Value → Shared → Prop}
    (hC : h.get? C = some (excClassObj nm q C N bs bm hdct sn sub ab col dd k0 k1 k2 k3 k5 "ValueError.__new__")) (he : h.get? e = some (excO C t0)) (hu : h.get? u = some (kxs_mw "ValueError.__init__" e)) (hrest : rest.length ≤ sizeLine)
    (hq : ∀ h' t1, (∀ b o, b ≠ e → h.get? b = some o → h'.get? b = some o) → h'.get? e = some (excO C t1) → Q .none ⟨h', g, d, t, os⟩) :
    wpAny (model prog w) A (call (.ref u) rest) Q E ⟨h, g, d, t, os⟩ := by
  refine wpAny_call (codeAny_of_tree ?_)
  show wpAny _ A.in1 (callAny (.ref u) ⟨rest, []⟩) _ _ _
  simp only [callAny]
  refine wpAny_bind (wpAny_load hu ?_)
  simp only [kxs_mw, show (Value.type "method-wrapper" == Value.type "method" || Value.type "method-wrapper" == Value.type "builtin_function_or_method" || Value.type "method-wrapper" == Value.type "method-wrapper") = true by decide, if_true]
  refine W.KFB.if_so (by decide) ?_
  refine wpAny_bind (check_bound_init F.excBase_ValueError.toExcCallFacts hC he rfl ?_)
  refine wpAny_bind (wpAny_pure (wpAny_pure ?_))
  refine ⟨Code.quiet_builtin _ (by decide +kernel), codeAny_builtin F.excBase_ValueError.initEntry ?_⟩
  rw [Around.under_plainId F.excBase_ValueError.init.plain _]
  wp_walk
  refine hq _ h.objs.size (fun b o hb ho => ?_) ?_
  · rw [Heap.get?_update_other _ _ (Ne.symm hb)]
    exact Heap.get?_push_of_some _ ho
  · rw [Heap.get?_update_self _ (Heap.get?_push_of_some _ he) rfl]
    rfl

theorem kept_but {K : Frag} {h h' : Heap} {x : Addr} (X : K.In h) (hx : K.lookup x = none) (k : ∀ b o, b ≠ x → h.get? b = some o → h'.get? b = some o) : K.In h' := fun a o e =>
  k a o (fun z => by rw [z, hx] at e; cases e) (X a o e)
theorem xn_init (T : ExT prog K mg cn fld C fI) {x t0 : Addr} {v : Value} (X : K.In s.heap) (G : Nms s.heap mg) (hlim : s.heap.NoLimit) (hx : s.heap.get? x = some (excO C t0)) (hnx : K.lookup x = none) (hroom : A.depth < recursionLimit)
    (htop : (prog.main.scope.names.lookup ("super" : Str)).isSome = false)
    {args : Args} (hbind : ∀ fd : FuncData, (∃ o : Obj, K.lookup fI = some o ∧ o.data = .func fd) → BindsTo s fd args [("self", .ref x), (fld, v)])
    (hq : ∀ h' tk dx t1, InitEnd s.heap h' x C dx t1 fld v → R (.ok (.ret .none)) { s with heap := h', toks := tk }) :
    codeAny (model prog w) A (.call (.ref fI) args) R s := by
  obtain ⟨oc, od, qual, dV, doc, pm, an, cda, cc, ct, osl, p1, p2, p3, q, ccl, cdd, vs, ccs, file, tf, cl, cld, csl, dcl, ddi, dn, dsl, da, ho, hcd, hcda, hvs, hfile, hcc, hTx, hBd, hdV, hda⟩ := T.fn
  obtain ⟨pl, hev⟩ := hTx.ev
  obtain ⟨nm, qn, N, bs, bm, sn, sub, ab, col, dd, k0, k1, k2, k3, k5, hC, hbm, hal⟩ := T.cls
  obtain ⟨n1, n2, n3, n4⟩ := T.nclash
  have n2' : ¬ (("self" : Str) = fld) := fun e => n2 e.symm
  have hcl : clsIn K C = some { name := nm, bases := bs, mro := .ref C :: bm, ns := N, qualname := qn, hasDict := true, slotNames := sn, subclasses := sub, abstract := ab, collection := col, hasDel := false } := by unfold clsIn; rw [hC] <;> rfl
  have lkS : (iS fld).names.lookup ("self" : Str) = some .local := by simp [iS, List.lookup]
  have lkF : (iS fld).names.lookup fld = some .local := by
    show List.lookup fld [(PySem.Str.ofString "self", NameKind.local), (fld, .local), (PySem.Str.ofString "__class__", .free), (PySem.Str.ofString "super", .globalImplicit)] = _
    have e : (fld == PySem.Str.ofString "self") = false := by simpa using n2
    rw [List.lookup_cons, e, List.lookup_cons]
    simp
  have lkC : (iS fld).names.lookup ("__class__" : Str) = some .free := by
    show List.lookup (PySem.Str.ofString "__class__") [(PySem.Str.ofString "self", NameKind.local), (fld, .local), (PySem.Str.ofString "__class__", .free), (PySem.Str.ofString "super", .globalImplicit)] = _
    have e : (PySem.Str.ofString "__class__" == PySem.Str.ofString "self") = false := by decide +kernel
    have e2 : (PySem.Str.ofString "__class__" == fld) = false := by simpa using fun e => n3 e.symm
    rw [List.lookup_cons, e, List.lookup_cons, e2, List.lookup_cons]
    simp
  have lkSu : (iS fld).names.lookup ("super" : Str) = some .globalImplicit := by
    show List.lookup (PySem.Str.ofString "super") [(PySem.Str.ofString "self", NameKind.local), (fld, .local), (PySem.Str.ofString "__class__", .free), (PySem.Str.ofString "super", .globalImplicit)] = _
    have e : (PySem.Str.ofString "super" == PySem.Str.ofString "self") = false := by decide +kernel
    have e2 : (PySem.Str.ofString "super" == fld) = false := by simpa using fun e => n4 e.symm
    have e3 : (PySem.Str.ofString "super" == PySem.Str.ofString "__class__") = false := by decide +kernel
    rw [List.lookup_cons, e, List.lookup_cons, e2, List.lookup_cons, e3, List.lookup_cons]
    simp
  have hcellN : ∀ y ∈ (iS fld).names, y.2 ≠ .cell := by
    intro y hy
    rcases List.mem_cons.mp hy with rfl | hy
    · intro z; cases z
    rcases List.mem_cons.mp hy with rfl | hy
    · intro z; cases z
    rcases List.mem_cons.mp hy with rfl | hy
    · intro z; cases z
    rcases List.mem_cons.mp hy with rfl | hy
    · intro z; cases z
    · cases hy
  refine ks_codeAny_call_defAt (fd := ksFn "__init__" qual (iA fld p1 p2 p3) (iB fld q) (iS fld) dV .none doc pm an (.ref cda) ct cc) (body := iB fld q) (binds := [("self", .ref x), (fld, v)]) hroom (X _ _ ho) rfl hlim (codeRec_of X hcd) rfl
    (hbind _ ⟨_, ho, rfl⟩) hcellN (fun y hy => ?_) (fun h₁ hns hk₁ => ?_) rfl rfl rfl
  · rcases List.mem_cons.mp hy with rfl | hy
    · exact lkS
    · rcases List.mem_cons.mp hy with rfl | hy
      · exact lkF
      · cases hy
  have X₁ : K.In h₁ := X.keeps hk₁
  have G₁ : Nms h₁ mg := G.keeps hk₁
  have hx₁ := hk₁ _ _ hx
  have mS : (fun y => ([(("self" : Str), Value.ref x), (fld, v)] : List (Str × Value)).reverse.lookup y) "self" = some (.ref x) := by
    show List.lookup ("self" : Str) [(fld, v), (("self" : Str), Value.ref x)] = _
    have e : (("self" : Str) == fld) = false := by simpa using n2'
    rw [List.lookup_cons, e, List.lookup_cons]
    simp
  have mF : (fun y => ([(("self" : Str), Value.ref x), (fld, v)] : List (Str × Value)).reverse.lookup y) fld = some v := by
    show List.lookup fld [(fld, v), (("self" : Str), Value.ref x)] = _
    rw [List.lookup_cons]
    simp
  have hL : s.heap.objs.size ≠ x := Nat.ne_of_gt (Heap.lt_size hx)
  have hLlt : s.heap.objs.size < h₁.objs.size := hns.lt
  obtain ⟨mb, hb, hbb⟩ := G₁.b
  have hcC₁ := X₁ _ _ hC
  have iV : Looks (model prog w) h₁ (isInstance (.ref x) (.type "ValueError")) true := by
    have I : InstAt h₁ x (excO C t0) C none := ⟨hx₁, rfl, rfl, trivial⟩
    exact I.type.andThen (looks_subIn X₁ T.exV)
  -- super().__init__(value)
  unfold iB
  refine ks_wpAt_execs_cons (ks_wpAt_Expr_any (ks_wpAt_MethodCall (pl := pl) ?_ (hev _)) rfl (hTx.sw1 _))
  refine ks_wpAt_super_base (env := ksEnv qual (iS fld) s.heap.objs.size fI (.ref cda) cc) lkSu lkC rfl rfl (X₁ _ _ ho) rfl rfl rfl (X₁ _ _ hcda) rfl hvs hfile htop ?_
  refine ks_loadName_global rfl lkSu (loadGlobal_builtin (env := ksEnv qual (iS fld) s.heap.objs.size fI (.ref cda) cc) G₁.g T.noS hb ((hbb _ (by decide +kernel)).trans (by first | boot_by_name | rfl | kernel_rfl)) ⟨rfl, ?_⟩)
  refine wpAny_loadName_free rfl lkC rfl ⟨_, X₁ _ _ hcc, rfl⟩ ?_
  refine wpAny_loadName_local rfl lkS hns mS ?_
  refine ks_wpAny_isType_cls hcC₁ rfl ⟨rfl, ?_⟩
  refine ks_wpAny_call_super hcC₁ rfl hx₁ rfl (fun c e => by cases e) (looks_mroIn X₁ T.exO) (fun h₂ e₂ k₂ => ?_)
  have X₂ : K.In h₂ := X₁.keeps k₂
  refine kxs_getMethod kxs_ValueError e₂ (looks_opaque X₂ T.opq) (l₀ := .ref C :: bm) ?_ (l := bm) (by simp [List.dropWhile_cons]) X₂ hal (iV.keeps k₂) ?_ (by decide +kernel) ?_
  · exact fun A Q E s k q => wpAny_bind ((looks_clsIn X₂ hcl) A _ E s k (wpAny_pure q))
  · rintro rfl
    rw [hcC₁] at hx₁
    cases hx₁
  -- the argument, the call
  have hx₂ := k₂ _ _ hx₁
  have k₃ : ∀ b o, h₂.get? b = some o → (h₂.push (kxs_mw "ValueError.__init__" x)).get? b = some o := fun b o e => Heap.get?_push_of_some _ e
  have hu : (h₂.push (kxs_mw "ValueError.__init__" x)).get? h₂.objs.size = some (kxs_mw "ValueError.__init__" x) := Heap.get?_push_at rfl rfl
  have X₃ := X₂.keeps k₃
  show wpAny _ _ (callWith (q 4) (.ref h₂.objs.size) [] (backTo (q 4) (starEach [.Name fld (q 3)] _)) []) _ _ _
  rw [hTx.st]
  refine kxs_callWith (i := "ValueError.__init__") (x := x) (by show (false || (backTo (q 4) (starEach [] _)).any (·.1)) = false; rw [hTx.pl]; rfl) ?_
  refine evalArgs_plain ?_
  refine Calls.spliced_cons ?_
  refine ESX.ldL (v := v) (hns.keeps fun b o e => k₃ b o (k₂ b o e)) mF ?_ rfl lkF n1
  refine Calls.spliced_nil ?_
  refine ⟨hu, ?_⟩
  refine call_mw (X₃ _ _ hC) (k₃ _ _ hx₂) hu (one_size v) fun h₄ t₁ k₄ hx₄ => ?_
  have kk : ∀ b o, b ≠ x → h₁.get? b = some o → h₄.get? b = some o := fun b o hb e => k₄ b o hb (k₃ b o (k₂ b o e))
  have X₄ : K.In h₄ := kept_but X₁ hnx kk
  have hns₄ : h₄.Ns s.heap.objs.size (fun y => ([(("self" : Str), Value.ref x), (fld, v)] : List (Str × Value)).reverse.lookup y) := by
    obtain ⟨o, es, ep, e, r⟩ := hns
    exact ⟨o, es, ep, kk _ _ hL e, r⟩
  refine wpAt_of_wpAny ?_
  show wpAny _ _ (execs [_] _) _ _ _
  refine wpAny_execs_cons (plainObj_wpAny_Assign_Attribute ?_ (hTx.sw2 _))
  refine ESX.ldL (v := v) hns₄ mF (ESX.ldL (v := .ref x) hns₄ mS ?_ rfl lkS (by decide)) rfl lkF n1
  refine set_plain X₄ (ox := excO C t₁) (od := none) ⟨hx₄, rfl, rfl, trivial⟩ T.sa ?_
  refine exc_osa X₄ hx₄ hcl (show refsVE (.ref C :: bm) = true from hbm) rfl T.noN (fun h₅ tk₅ dx k₅ dn dne hx₅ hn₅ => ?_)
  show wpAny _ _ (execs _ _) _ _ _
  have z1 : s.heap.objs.size ≤ h₄.objs.size := Nat.le_of_lt hns₄.lt
  exact wpAny_execs_nil (hq h₅ tk₅ dx t₁ ⟨fun b o hb e => k₅ b o hb (kk b o hb (hk₁ b o e)), hx₅, Nat.le_trans z1 dn, dne, hn₅⟩)
end

/-! ### C(f=v): the call with the field's name -/
section
variable {M : Model} {A : Around} {E : Value → Shared → Prop} {h : Heap} {g : Array GenState} {d : Drawn} {t : Nat} {os : OsState}
variable {nm q : Str} {C N : Addr} {bs bm bmB : List Value} {hdct : Bool} {sn : List Str} {sub : List Value} {ab : Bool} {col : Option Bool} {dd : Option Addr} {k0 k1 k2 k3 k5 : Option Value} {B newId initId : String}
theorem check_new_ownK (F : ExcBaseFacts B newId initId bmB) (hT : ∀ X : String, bm.contains (.type X) = bmB.contains (.type X)) {rest : List Value} {kw : List (Str × Value)} {Q : Unit → Shared → Prop}
    (hC : h.get? C = some (excClassObj nm q C N bs bm hdct sn sub ab col dd k0 k1 k2 k3 k5 newId)) (hq : Q () ⟨h, g, d, t, os⟩) : wpAny M A (checkBuiltinCall newId ⟨.ref C :: rest, kw⟩) Q E ⟨h, g, d, t, os⟩ := by
  have hcont : (Value.ref C :: bm).contains (.type B) = true := by rw [List.contains_cons, hT, F.hasB, Bool.or_true]
  have hstar := F.noStar
  simp only [checkBuiltinCall, F.newKind, F.newSplit, F.newRow]
  repeat (first | refine wpAny_loadPart_at hC ?_ | (refine wpAny_isSubtype_exc hC ?_; rw [hcont]) | refine wpAny_staticBase_exc hC ?_ | refine wpAny_madeBy_exc hC ?_ | simp only [bne_self_eq_false, Bool.false_eq_true, if_false] | wp_step)
  exact hq
end
section
variable {prog : Program} {w : World} {A : Around} {E : Value → Shared → Prop} {R : Result → Shared → Prop} {h : Heap} {g : Array GenState} {d : Drawn} {t : Nat} {os : OsState}
variable {nm q : Str} {C N : Addr} {bs bm bmB : List Value} {hdct : Bool} {sn : List Str} {sub : List Value} {ab : Bool} {col : Option Bool} {dd : Option Addr} {k0 k1 k2 k3 k5 : Option Value} {B newId initId : String}
theorem new_ownK (F : ExcBaseFacts B newId initId bmB) (hT : ∀ X : String, bm.contains (.type X) = bmB.contains (.type X)) {rest : List Value} {kw : List (Str × Value)}
    (hC : h.get? C = some (excClassObj nm q C N bs bm hdct sn sub ab col dd k0 k1 k2 k3 k5 newId))
    (hq : R (.ok (.ret (.ref (h.objs.size + 1)))) ⟨(h.push { cls := .type "tuple", data := .seq rest.toArray }).push
      { cls := .ref C, data := .fields #[.ref h.objs.size, .none, .none, .none, .bool false, .none] }, g, d, t, os⟩) (hrest : rest.length ≤ sizeLine) :
    codeAny (model prog w) A (.builtin newId ⟨.ref C :: rest, kw⟩) R ⟨h, g, d, t, os⟩ := by
  have hends := F.ends
  have hcB : (Value.ref C :: bm).contains (.type B) = true := by rw [List.contains_cons, hT, F.hasB, Bool.or_true]
  have hcA : (Value.ref C :: bm).contains (.type "AttributeError") = false := by rw [List.contains_cons, hT, F.noAttr]; rfl
  have hcN : (Value.ref C :: bm).contains (.type "NameError") = false := by rw [List.contains_cons, hT, F.noName]; rfl
  refine codeAny_builtinAt F.entry ?_
  unfold Builtin.«BaseException.__new__»
  refine wpAt_bind ?_
  show wpAt _ _ _ (stack >>= _) _ _ _
  refine wpAt_bind (wpAt_stack fun p below => wpAt_of_wpAny ?_)
  wp_walk
  refine wpAt_of_wpAny ?_
  rw [F.owner]
  repeat (first | with_reducible refine wpAny_madeHere_exc F.canon hC ?_ | with_reducible refine wpAny_loadPart_at hC ?_ | (with_reducible refine wpAny_isSubtype_exc hC ?_; first | rw [hcB] | rw [hcA] | rw [hcN]) | wp_step)
  show R _ _
  rw [Heap.size_push]
  exact hq
theorem type_call_ownK (F : ExcBaseFacts B newId initId bmB) (hT : ∀ X : String, bm.contains (.type X) = bmB.contains (.type X)) {rest : List Value} {kw : List (Str × Value)} {fI : Addr} {Q : Fin → Shared → Prop}
    (hC : h.get? C = some (excClassObj nm q C N bs bm hdct sn sub ab col dd k0 k1 k2 k3 k5 newId))
    (hi : W.Looks (model prog w) h (typeLookup (.ref C) "__init__") (some (.ref fI))) (hb : ∀ self, W.Looks (model prog w) h (bindSpecial (.ref fI) self) (.ref fI, [self])) (hrest : rest.length ≤ sizeLine)
    (hq : codeAny (model prog w) A (.call (.ref fI) ⟨.ref (h.objs.size + 1) :: rest, kw⟩)
      (fun r s' => match r with | .ok (.ret v) => v = .none ∧ Q (.done (.ret (.ref (h.objs.size + 1)))) s' | .ok _ => False | .error e => E e s')
      ⟨(h.push (W.kdv_tup rest)).push (excO C h.objs.size), g, d, t, os⟩) :
    wpAny (model prog w) A (Builtin.«type.__call__» ⟨.ref C :: rest, kw⟩) Q E ⟨h, g, d, t, os⟩ := by
  repeat (first | with_reducible refine wpAny_loadPart_at hC ?_ | with_reducible refine wpAny_madeBy_exc hC ?_ | wp_step)
  refine codeAny_call_builtin_code (Code.quiet_builtin _ F.quiet) (check_new_ownK F hT hC ?_)
  refine new_ownK F hT hC ?_ hrest
  show wpAny _ _ _ _ _ _
  have k : ∀ b o, h.get? b = some o → ((h.push (W.kdv_tup rest)).push (excO C h.objs.size)).get? b = some o := fun b o e => Heap.get?_push_of_some _ (Heap.get?_push_of_some _ e)
  have hC₁ := k _ _ hC
  have hget : ((h.push (W.kdv_tup rest)).push (excO C h.objs.size)).get? (h.objs.size + 1) = some (excO C h.objs.size) := by heap_get
  have hcC : (Value.ref C :: bm).contains (.ref C) = true := by simp
  have i1 := hi.keeps k
  have b1 := (hb (.ref (h.objs.size + 1))).keeps k
  unfold isInstance
  repeat (first | with_reducible refine wpAny_loadPart_at hget ?_ | (with_reducible refine wpAny_isSubtype_exc hC₁ ?_; rw [hcC]) | wp_step)
  show wpAny _ _ (typeLookup (.ref C) _) _ _ _
  refine i1.at ?_
  refine wpAny_holding (wpAny_bind (b1.at ?_))
  refine wpAny_bind (wpAny_call (codeAny_mono hq fun r s' z => ?_))
  rcases r with e | (v | _ | _ | _) <;> first | exact z | exact z.elim | skip
  obtain ⟨rfl, z⟩ := z
  first
    | exact wpAny_pure (wpAny_pure z)
    | (wp_walk; exact z)
theorem call_ownK (F : ExcBaseFacts B newId initId bmB) (hT : ∀ X : String, bm.contains (.type X) = bmB.contains (.type X)) {rest : List Value} {kw : List (Str × Value)} {fI : Addr}
    (hC : h.get? C = some (excClassObj nm q C N bs bm hdct sn sub ab col dd k0 k1 k2 k3 k5 newId))
    (hi : W.Looks (model prog w) h (typeLookup (.ref C) "__init__") (some (.ref fI))) (hb : ∀ self, W.Looks (model prog w) h (bindSpecial (.ref fI) self) (.ref fI, [self])) (hrest : rest.length ≤ sizeLine)
    (hq : codeAny (model prog w) (A.under (.builtin "type.__call__" ⟨.ref C :: rest, kw⟩)) (.call (.ref fI) ⟨.ref (h.objs.size + 1) :: rest, kw⟩) (W.InitBack (h.objs.size + 1) R)
      ⟨(h.push (W.kdv_tup rest)).push (excO C h.objs.size), g, d, t, os⟩) :
    codeAny (model prog w) A (.call (.ref C) ⟨rest, kw⟩) R ⟨h, g, d, t, os⟩ := by
  have f1 := tc_lookup
  have f2 := tc_bind (.ref C)
  have f3 := tc_sub
  have hTy : (⟨h, g, d, t, os⟩ : Shared).TypeIs (.ref C) "type" := ⟨_, hC, rfl⟩
  refine codeAny_of_tree ?_
  show wpAny _ _ (callAny (.ref C) _) _ _ _
  repeat (any_goals (first | assumption | with_reducible refine wpAny_loadPart_at hC ?_ | wp_step))
  refine ⟨rfl, ?_⟩
  have typ : W.Looks (model prog w) h (isInstance (.ref C) (.type "type")) true := by
    intro A' Q' E' s' k' q'
    have hT' : s'.TypeIs (.ref C) "type" := ⟨_, k' _ _ hC, rfl⟩
    unfold isInstance
    refine wpAny_bind (wpAny_typeOf hT' ?_)
    refine wpAny_of_eq tc_sub ?_
    exact q'

  refine codeAny_call_builtin_at (Code.quiet_builtin _ (by decide +kernel)) entry_typeCall (W.check_slot tc_kind tc_split typ (W.tc_args _ _ _) (type_call_ownK F hT hC hi hb hrest ?_))
  refine codeAny_mono hq fun r s' z => ?_
  rcases r with e | (v | _ | _ | _) <;> exact z
end

end Xn
end PySem

set_option Elab.async false
set_option linter.all false
set_option maxRecDepth 100000
set_option maxHeartbeats 4000000
namespace PySem
namespace Xn
open PySem.W PySem.Calls PyProof.Rows PySem.HandSPX

section
variable {prog : Program} {w : World} {A : Around} {R : Result → Shared → Prop} {s : Shared} {K : Frag} {mg : Str → Option Value} {cn fld : Str} {C fI : Addr}
/-- a new exception of the class: by position (args [v], no keyword), by name, or bare -/
theorem xn_made (T : ExT prog K mg cn fld C fI) {v : Value} {rest : List Value} {kw : List (Str × Value)} (hform : (rest = [v] ∧ kw = []) ∨ (rest = [] ∧ kw = [(fld, v)]) ∨ (rest = [] ∧ kw = [] ∧ v = .none))
    (X : K.In s.heap) (G : Nms s.heap mg) (hlim : s.heap.NoLimit) (hroom : A.depth + 1 < recursionLimit) (htop : (prog.main.scope.names.lookup ("super" : Str)).isSome = false)
    (hq : ∀ h' tk e d, OwnMade s.heap h' e C d fld v → R (.ok (.ret (.ref e))) { s with heap := h', toks := tk }) :
    codeAny (model prog w) A (.call (.ref C) ⟨rest, kw⟩) R s := by
  obtain ⟨nm, q, N, bs, bm, sn, sub, ab, col, dd, k0, k1, k2, k3, k5, hC, hbm, hal⟩ := T.cls
  obtain ⟨hp, g, dr, tk, os⟩ := s
  have k : ∀ b o, hp.get? b = some o → ((hp.push (kdv_tup rest)).push (excO C hp.objs.size)).get? b = some o := fun b o e => Heap.get?_push_of_some _ (Heap.get?_push_of_some _ e)
  have hget : ((hp.push (kdv_tup rest)).push (excO C hp.objs.size)).get? (hp.objs.size + 1) = some (excO C hp.objs.size) := by heap_get
  have hnx : K.lookup (hp.objs.size + 1) = none := by
    cases e : K.lookup (hp.objs.size + 1) with
    | none => rfl
    | some o =>
      have z : hp.get? (hp.objs.size + 1) = some o := X _ _ e
      exact absurd (Nat.lt_of_succ_lt (Heap.lt_size z)) (Nat.lt_irrefl _)
  have hrest : rest.length ≤ sizeLine := by
    rcases hform with ⟨rfl, _⟩ | ⟨rfl, _⟩ | ⟨rfl, _⟩
    · exact one_size v
    · exact Nat.zero_le _
    · exact Nat.zero_le _
  refine call_ownK F.excBase_ValueError (fun X => refsVE_contains X bm hbm) (X _ _ hC) (looks_findIn X T.iC) (fun self => bind_fn X self T.tC) hrest ?_
  refine xn_init (v := v) (s := ⟨(hp.push (kdv_tup rest)).push (excO C hp.objs.size), g, dr, tk, os⟩) T (X.keeps k) (G.keeps k) (hlim.keeps k) hget hnx ?_ htop ?_ fun h' tk' dx t1 ⟨k', hx, dn, dne, hns⟩ => ?_
  · show (A.under _).depth < recursionLimit
    have : (A.under (.builtin "type.__call__" ⟨.ref C :: rest, kw⟩)).depth = A.depth + 1 := by
      first | rfl | simp [Around.under, Code.weight, Code.isCreation, Code.isGuard, Code.isCaller, Code.frames, Code.isFrame, guardIds]
    rw [this]
    exact hroom
  · intro fd ⟨o, ho, hfd⟩
    obtain ⟨oc, od, qual, dV, doc, pm, an, cda, cc, ct, osl, p1, p2, p3, q, ccl, cdd, vs, ccs, file, tf, cl, cld, csl, dcl, ddi, dn, dsl, da, ho', hcd, hcda, hvs, hfile, hcc, hTx, hBd, hdV, hda⟩ := T.fn
    rw [ho] at ho'
    cases ho'
    cases hfd
    have X' := X.keeps k
    rcases hform with ⟨rfl, rfl⟩ | ⟨rfl, rfl⟩ | ⟨rfl, rfl, rfl⟩
    · obtain ⟨kk, e1, e2⟩ := hBd.two (.ref (hp.objs.size + 1)) v
      exact L2.BindsTo.of_looks fun M => by rw [e1]; exact L2.looks_items X' hda rfl (.of_pure e2)
    · obtain ⟨kk, e1, e2⟩ := hBd.kw (.ref (hp.objs.size + 1)) v
      exact L2.BindsTo.of_looks fun M => by rw [e1]; exact L2.looks_items X' hda rfl (.of_pure e2)
    · obtain ⟨kk, e1, e2⟩ := hBd.one (.ref (hp.objs.size + 1))
      exact L2.BindsTo.of_looks fun M => by rw [e1]; exact L2.looks_items X' hda rfl (.of_pure e2)
  · have old : ∀ b o, hp.get? b = some o → h'.get? b = some o := fun b o e => k' b o (Nat.ne_of_lt (Nat.lt_succ_of_lt (Heap.lt_size e))) (k b o e)
    have z : hp.objs.size + 1 + 1 ≤ dx := by
      first
        | (simpa only [Heap.size_push] using dn)
        | exact dn
        | (have q := dn; rw [Heap.size_push, Heap.size_push] at q; exact q)
    exact ⟨rfl, hq h' tk' (hp.objs.size + 1) dx ⟨old, Nat.le_succ _, ⟨t1, hx⟩, Nat.le_trans (Nat.le_trans (Nat.le_succ _) (Nat.le_succ _)) z, dne, hns⟩⟩
end
end Xn
end PySem

set_option Elab.async false
set_option linter.all false
set_option maxRecDepth 100000
set_option maxHeartbeats 4000000
namespace L2
open PySem PySem.Spec PyProof.Rows
/-- an exception object of the class at C, its own dict at d, at a -/
def ExI (C d a : Addr) : HO := .ext fun h => ∃ t1, h.get? a = some { cls := .ref C, dict := some d, data := .fields #[.ref t1, .none, .none, .none, .bool false, .none] }
theorem exI_ok {P : Program} {w : World} {H : Hp} {h : Heap} {C d a : Addr} {t1 : Addr} (e : h.get? a = some { cls := .ref C, dict := some d, data := .fields #[.ref t1, .none, .none, .none, .bool false, .none] }) : ObjOk P w H h a (ExI C d a) :=
  ⟨⟨t1, e⟩, ⟨_, e⟩, fun _ _ ⟨t, q⟩ k => ⟨t, k _ q⟩⟩
theorem relO_one {fld : Str} {v : V} {v' : Value} (r : RelV v v') (f : Str) : RelO (List.lookup f [(fld, v)]) (if f = fld then some v' else none) := by
  by_cases hw : f = fld
  · subst hw
    rw [if_pos rfl]
    have q : List.lookup f [(f, v)] = some v := by simp [List.lookup]
    rw [q]
    exact r
  · rw [if_neg hw]
    have qw : (f == fld) = false := by simpa using hw
    have q2 : List.lookup f [(fld, v)] = none := by simp [List.lookup, qw]
    rw [q2]
    trivial
/-- C(v) in every form -/
def tXn (C : Addr) (fld : Str) (ta : St → Hp → (V → Hp → Prop) → Prop) : TE := fun σ H Q => ta σ H fun v H1 => ∀ e d, H1 e = none → H1 d = none → d ≠ e →
  Q (.ref e) (upd (upd H1 d (.xd [(fld, v)])) e (ExI C d e))
section
variable {X : Cx} {cn fld : Str} {C fI : Addr} {k : Nat}
theorem xn_fin (T : PySem.Xn.ExT X.prog X.K X.mg cn fld C fI) {pins : List (Addr × Obj)} {σ : St} {H : Hp} {s : Shared} {Q : VK} {v : V} {v' : Value} {h' : Heap} {tk : Nat} {e d : Addr} (I : Inv X pins σ H s) (rv : RelV v v') (M : PySem.Xn.OwnMade s.heap h' e C d fld v')
    (q : ∀ e d, H e = none → H d = none → d ≠ e → Q (.ref e) (upd (upd H d (.xd [(fld, v)])) e (ExI C d e))) : EP X pins σ Q (.ref e) { s with heap := h', toks := tk } := by
  obtain ⟨t1, hoe⟩ := M.obj
  have hns := M.ns
  obtain ⟨hp, g, dr, tk0, os⟩ := s
  obtain ⟨G', g1, g2⟩ := restrict h' fun b => decide (b ≠ e)
  have gk : ∀ b, b ≠ e → G'.get? b = h'.get? b := fun b hb => g1 b (decide_eq_true hb)
  have ge : G'.get? e = none := g2 e (by simp)
  have old : ∀ b o, hp.get? b = some o → G'.get? b = some o := fun b o q => (gk b (Nat.ne_of_lt (Nat.lt_of_lt_of_le (Heap.lt_size q) M.new))).trans (M.keep b o q)
  have ob : ObjOk X.prog X.w (upd H d (.xd [(fld, v)])) G' d (.xd [(fld, v)]) :=
    ⟨_, hns.at (fun o q => (gk d M.dne).trans q), fun f => relO_one rv f⟩
  have J : Inv X pins σ (upd H d (.xd [(fld, v)])) ⟨G', g, dr, tk, os⟩ := I.laid (t' := tk) old M.dbig ob
  have hne : (upd H d (.xd [(fld, v)])) e = none := by
    rw [upd_ne (Ne.symm M.dne)]
    exact I.hok.fresh M.new
  have J2 : Inv X pins σ (upd (upd H d (.xd [(fld, v)])) e (ExI C d e)) ⟨h', g, dr, tk, os⟩ :=
    J.laidN (t' := tk) (h' := h') (fun b o q => by
      by_cases hb : b = e
      · have q' : G'.get? b = some o := q
        rw [hb, ge] at q'; cases q'
      · exact (gk b hb).symm.trans q) ge hne (exI_ok hoe)
  exact ⟨.ref e, _, J2, rfl, q e d (I.hok.fresh M.new) (I.hok.fresh M.dbig) M.dne⟩
theorem Inv.nms {pins : List (Addr × Obj)} {σ : St} {H : Hp} {s : Shared} (I : Inv X pins σ H s) : PySem.Xn.Nms s.heap X.mg :=
  ⟨I.mod.glob.keeps I.bk, let ⟨mb, a, b⟩ := I.mod.blt; ⟨mb, a.keeps I.bk, b⟩⟩
/-- C(e) -/
def t1A (ta : TA) : St → Hp → (V → Hp → Prop) → Prop := fun σ H Q => ta σ H fun vs H1 => ∃ v, vs = [v] ∧ Q v H1
theorem pe_xn1 {a : Expr} {ta : TA} {p pos : Pos} (T : PySem.Xn.ExT X.prog X.K X.mg cn fld C fI) (hr : Room k X.A) (ht : (X.prog.main.scope.names.lookup ("super" : Str)).isSome = false) (ha : PA X [a] ta) (hg : Gl X cn := by rfl) (hdb : (cn == ("__debug__" : Str)) = false := by decide)
    (he : starEach (a :: []) X.env = (false, eval a X.env) :: starEach [] X.env := by rfl) (hpl : (backTo pos (starEach [] X.env)).any (·.1) = false := by rfl) :
    PE X (.Call (.Name cn p) [a] [] pos) (tXn C fld (t1A ta)) := by
  refine ⟨fun pins s σ H Q I h => ?_⟩
  refine wpAny_Call_Name_kw (ld_glob I hg T.gC ?_ hdb)
  refine PySem.W.callWith_K (h₀ := X.base) I.ok.mod.kin T.kC (thn (ha.run pos pins s σ H _ I h) fun us s1 hh => ?_) he hpl
  obtain ⟨vs, H1, I1, r1, v, ev, q1⟩ := hh
  subst ev
  refine ⟨I1.kIn, ?_⟩
  cases r1 with
  | cons rv rn =>
    rename_i v' us'
    cases rn
    show wpAny _ _ (call (.ref C) [v']) _ _ _
    exact wpAny_call (PySem.Xn.xn_made T (.inl ⟨rfl, rfl⟩) I1.kIn I1.nms I1.nolimit (by have := hr.dp; omega) ht fun h' tk' e d M => xn_fin T I1 rv M q1)
/-- C() -/
theorem pe_xn0 {p pos : Pos} (T : PySem.Xn.ExT X.prog X.K X.mg cn fld C fI) (hr : Room k X.A) (ht : (X.prog.main.scope.names.lookup ("super" : Str)).isSome = false) (hg : Gl X cn := by rfl) (hdb : (cn == ("__debug__" : Str)) = false := by decide) :
    PE X (.Call (.Name cn p) [] [] pos) (tXn C fld fun _ H Q => Q .non H) := by
  refine ⟨fun pins s σ H Q I h => ?_⟩
  refine wpAny_Call_Name_kw (ld_glob I hg T.gC ?_ hdb)
  refine PySem.W.callWith_K0 I.kIn T.kC ?_
  show wpAny _ _ (call (.ref C) []) _ _ _
  exact wpAny_call (PySem.Xn.xn_made T (v := .none) (.inr (.inr ⟨rfl, rfl, rfl⟩)) I.kIn I.nms I.nolimit (by have := hr.dp; omega) ht fun h' tk' e d M => xn_fin T I (v := .non) rfl M h)
/-- C(f=e) -/
theorem pe_xnK {kws : List Keyword} {tk : TA} {p pos : Pos} (T : PySem.Xn.ExT X.prog X.K X.mg cn fld C fI) (hr : Room k X.A) (ht : (X.prog.main.scope.names.lookup ("super" : Str)).isSome = false) (hkw : PK X kws tk) (hg : Gl X cn := by rfl) (hdb : (cn == ("__debug__" : Str)) = false := by decide)
    (hall : (backToKw pos (keywordEach kws X.env)).all (·.1.isSome) = true := by rfl) (hks : (backToKw pos (keywordEach kws X.env)).filterMap (·.1) = [fld] := by rfl)
    (hpl : ((backTo pos (starEach [] X.env)).any (·.1) || (backToKw pos (keywordEach kws X.env)).any (·.1.isNone)) = false := by rfl) :
    PE X (.Call (.Name cn p) [] kws pos) (tXn C fld (t1A tk)) := by
  refine ⟨fun pins s σ H Q I h => ?_⟩
  refine wpAny_Call_Name_kw (ld_glob I hg T.gC ?_ hdb)
  refine PySem.W.callWith_KW0 (h₀ := X.base) I.ok.mod.kin T.kC hall ?_ hpl
  refine thn (hkw.run pos pins s σ H _ I h) fun ws s2 hh => ?_
  obtain ⟨zs, H2, I2, rz, v, ev, q2⟩ := hh
  subst ev
  refine ⟨I2.kIn, ?_⟩
  rw [hks]
  cases rz with
  | cons rv rn =>
    rename_i v' us'
    cases rn
    show wpAny _ _ (call (.ref C) [] [(fld, v')]) _ _ _
    exact wpAny_call (PySem.Xn.xn_made T (.inr (.inl ⟨rfl, rfl⟩)) I2.kIn I2.nms I2.nolimit (by have := hr.dp; omega) ht fun h' tk' e d M => xn_fin T I2 rv M q2)
/-- e.f of a made exception that stands in H -/
def tXnF (K : PySem.W.Frag) (f : Str) (te : TE) : TE := fun σ H Q => te σ H fun x H1 => ∃ (a C d : Addr) (fs : List (Str × V)) (v : V), x = .ref a ∧ H1 a = some (ExI C d a) ∧ H1 d = some (.xd fs) ∧ fs.lookup f = some v ∧ XfC K C ∧ PySem.W.findIn K (.ref C) f = some none ∧ Q v H1
theorem pe_xnF {e : Expr} {te : TE} {pos : Pos} {n : Str} (he : PE X e te) (hb : attributeBase e n X.env (eval e X.env) = eval e X.env := by rfl) : PE X (.Attribute e n pos) (tXnF X.K n te) := by
  refine ⟨fun pins s σ H Q I h => ?_⟩
  refine attr_of hb (thn (he.run pins s σ H _ I h) fun u s1 hh => ?_)
  obtain ⟨x, H1, I1, rx, a, C, dd, fs, v, ex, ha, ea, l, T, hno, q⟩ := hh
  subst ex
  obtain rfl : u = Value.ref a := rx
  obtain ⟨⟨t1, hoa⟩, _, _⟩ := I1.hok a _ ha
  have hx : ObjOk X.prog X.w H1 s1.heap dd (.xd fs) := I1.hok dd _ ea
  obtain ⟨mA, hns, hr⟩ := hx
  obtain ⟨od, ho, hl⟩ := lookIn_ns hns
  obtain ⟨u, hu, ru⟩ := RelO.some_of (v := v) (o := mA n) (by rw [← l]; exact hr n)
  have J : PySem.W.InstAt s1.heap a _ C (some od) := ⟨hoa, rfl, rfl, ho⟩
  exact HandSPX.exc_get I1.kIn J T.ga T.gg T.exC (PySem.W.findObj_own T.hdC hno rfl (by rw [hl, hu])) (handed_of ru) ⟨v, H1, I1.tok _, ru, q⟩
/-- isinstance(e, c) of a made exception that stands in H -/
structure ExC (K : PySem.W.Frag) (C : Addr) : Prop where
  hcl : (PySem.W.clsIn K C).isSome = true
  hg : PySem.W.findIn K (.ref C) "__getattribute__" = some (some (.builtin "BaseException.__getattribute__"))
  hk : PySem.W.findIn K (.ref C) "__getattr__" = some none
  hs : PySem.W.subIn K (.ref C) (.type "BaseException") = some true
  ha : PySem.W.findIn K (.ref C) "__class__" = some (some (.builtin "object.__class__"))
  hn : PySem.W.specialIn K (.builtin "object.__class__") "__get__" = some (some (.builtin "getset_descriptor.__get__"))
  ht : PySem.W.takesIn K (.builtin "object.__class__") = some true
  hm : PySem.W.mroIn K C (.type "object") = some true
def rIsX (K : PySem.W.Frag) : List V → Hp → VK → Prop := fun xs H Q => ∃ (a C d : Addr) (c : V) (cv : Value) (b : Bool), xs = [.ref a, c] ∧ H a = some (ExI C d a) ∧ (∃ fs, H d = some (.xd fs)) ∧ ClsV c cv ∧ ExC K C ∧ PySem.W.kitOne K (.ref C) cv = some b ∧ Q (.bl b) H
theorem call_isX : CallR X (.builtin "isinstance") (rIsX X.K) := by
  intro pins s σ H xs us Q I r h
  obtain ⟨a, C, d, c, cv, b, rfl, ha, ⟨fs, hd⟩, hcv, T, e, q⟩ := h
  obtain ⟨u1, u2, rfl, r1, r2⟩ := vals2 r
  have e2 := hcv.eq r2
  subst e2
  obtain rfl : u1 = Value.ref a := r1
  obtain ⟨⟨t1, hoa⟩, _, _⟩ := I.hok a _ ha
  obtain ⟨mA, hns, _⟩ : ObjOk X.prog X.w H s.heap d (.xd fs) := I.hok d _ hd
  obtain ⟨od, hod, _⟩ := lookIn_ns hns
  have J : PySem.W.InstAt s.heap a _ C (some od) := ⟨hoa, rfl, rfl, hod⟩
  exact PySem.W.kia_one (PySem.W.kitx_exc T.hcl T.hg T.hk T.hs T.ha T.hn T.ht T.hm) I.kIn J e (fun z => nomatch z) fun tk => ⟨.bl b, H, I.tok tk, rfl, q⟩
end
end L2

set_option Elab.async false
set_option linter.all false
set_option maxRecDepth 100000
set_option maxHeartbeats 4000000
/-! The hand layer's calls once more, where it is told that no repr runs around (A.guards). -/
namespace L2
open PySem PySem.Spec PyProof.Rows
abbrev RoomG (k : Nat) (A : Around) : Prop := Room k A ∧ A.guards = some []
theorem RoomG.mono {j k : Nat} {A : Around} (r : RoomG k A) (h : j ≤ k) : RoomG j A := ⟨r.1.mono h, r.2⟩
structure FnOkG (P : Program) (w : World) (K : PySem.W.Frag) (mg : Str → Option Value) (base : Heap) (CX : CXT) (k : Nat) (f : Addr) (fd : FuncData) (ps : List Str) (sp : Sp) : Prop where
  len : ∀ vs H Q E, sp vs H Q E → vs.length = ps.length
  run : ∀ (A : Around) (outer : List Env) (s : Shared) (H : Hp) (args : Args) (us : List Value) (vs : List V) (Q : VK) (E : XK), RoomG k A → Env0 P w K mg base A outer s H → BindsTo s fd args (ps.zip us) → Vals vs us → sp vs H Q E →
    codeAny (model P w) A (.call (.ref f) args) (CR CX outer P w H s Q E) s
theorem FnOk.g {P : Program} {w : World} {K : PySem.W.Frag} {mg : Str → Option Value} {base : Heap} {CX : CXT} {k : Nat} {f : Addr} {fd : FuncData} {ps : List Str} {sp : Sp} (F : FnOk P w K mg base CX k f fd ps sp) : FnOkG P w K mg base CX k f fd ps sp :=
  ⟨F.len, fun A outer s H args us vs Q E hr => F.run A outer s H args us vs Q E hr.1⟩
theorem FnOkG.imp {P : Program} {w : World} {K : PySem.W.Frag} {mg : Str → Option Value} {base : Heap} {CX : CXT} {k : Nat} {f : Addr} {fd : FuncData} {ps : List Str} {sp sp' : Sp} (F : FnOkG P w K mg base CX k f fd ps sp)
    (h : ∀ vs H Q E, sp' vs H Q E → sp vs H Q E) : FnOkG P w K mg base CX k f fd ps sp' :=
  ⟨fun vs H Q E q => F.len vs H Q E (h _ _ _ _ q), fun A outer s H args us vs Q E hr he hb hv hs => F.run A outer s H args us vs Q E hr he hb hv (h _ _ _ _ hs)⟩
section
variable {X : Cx} {CX : CXT} {k : Nat} {f C : Addr} {fd : FuncData} {ps : List Str} {sp : Sp} {dvs : List V} {ds : List Value} {E : XK} {x m : Str} {p pos apos : Pos} {e o : Expr} {es : List Expr} {ta : TE} {t : TA}
theorem run_fnG {pins : List (Addr × Obj)} {σ : St} {H : Hp} {s : Shared} {Q : VK} {us : List Value} {vs : List V} (F : FnOkG X.prog X.w X.K X.mg X.base CX k f fd ps sp) (hr : RoomG k X.A) (hb : Binds X.K fd ps ds) (hd : Vals dvs ds) (hx : Passes CX X E)
    (I : Inv X pins σ H s) (r : Vals vs us) (h : sp (vs ++ dvs) H Q E) : wpAny (model X.prog X.w) X.A (call (.ref f) us) (EP X pins σ Q) X.xe s := by
  have r2 : Vals (vs ++ dvs) (us ++ ds) := r.append hd
  have hl : (us ++ ds).length = ps.length := by rw [← r2.length]; exact F.len _ _ _ _ h
  refine wpAny_call (codeAny_mono (F.run X.A X.stack s H ⟨us, []⟩ (us ++ ds) (vs ++ dvs) Q E hr I.env0 (hb s us I.kIn hl) r2 h) fun r s' hq => ?_)
  cases r with
  | error e => exact hx pins σ H s e s' I hq
  | ok fl =>
    cases fl with
    | ret u => exact I.after hq
    | next => exact False.elim hq
    | brk => exact False.elim hq
    | cont => exact False.elim hq

theorem pe_callG (F : FnOkG X.prog X.w X.K X.mg X.base CX k f fd ps sp) (hr : RoomG k X.A) (hg : Gl X x) (hm : X.mg x = some (.ref f)) (hk : PySem.W.keepIn X.K (.ref f) = true) (hb : Binds X.K fd ps ds) (hd : Vals dvs ds) (hx : Passes CX X E)
    (ha : PA X (e :: es) t) (hdb : (x == ("__debug__" : Str)) = false := by decide) (he : starEach (e :: es) X.env = (false, eval e X.env) :: starEach es X.env := by rfl) (hpl : (backTo pos (starEach es X.env)).any (·.1) = false := by rfl) :
    PE X (.Call (.Name x p) (e :: es) [] pos) (tCall sp dvs E t) := by
  refine ⟨fun pins s σ H Q I h => ?_⟩
  refine wpAny_Call_Name_kw (ld_glob I hg hm ?_ hdb)
  refine PySem.W.callWith_K (h₀ := X.base) I.ok.mod.kin hk (thn (ha.run pos pins s σ H _ I h) fun us s1 ⟨vs, H1, I1, r, q⟩ => ⟨I1.kIn, ?_⟩) he hpl
  exact run_fnG F hr hb hd hx I1 r q
theorem pe_call0G (F : FnOkG X.prog X.w X.K X.mg X.base CX k f fd ps sp) (hr : RoomG k X.A) (hg : Gl X x) (hm : X.mg x = some (.ref f)) (hk : PySem.W.keepIn X.K (.ref f) = true) (hb : Binds X.K fd ps ds) (hd : Vals dvs ds) (hx : Passes CX X E)
    (hdb : (x == ("__debug__" : Str)) = false := by decide) : PE X (.Call (.Name x p) [] [] pos) (tCall sp dvs E tNil) := by
  refine ⟨fun pins s σ H Q I h => ?_⟩
  refine wpAny_Call_Name_kw (ld_glob I hg hm ?_ hdb)
  exact PySem.W.callWith_K0 I.kIn hk (run_fnG (us := []) F hr hb hd hx I .nil h)

/-- o.m(e, ..) -/
theorem pe_methG {pl : Sem Bool} (he : PE X o ta) (c : Cls X.K C) (hm : Meth X.K C m f) (F : FnOkG X.prog X.w X.K X.mg X.base CX k f fd ps sp) (hr : RoomG k X.A) (hb : Binds X.K fd ps ds) (hd : Vals dvs ds) (hx : Passes CX X E) (ha : PA X (e :: es) t)
    (hst : starEach (e :: es) X.env = (false, eval e X.env) :: starEach es X.env := by rfl) (hpl : (backTo pos (starEach es X.env)).any (·.1) = false := by rfl)
    (ht : eval (.Call (.Attribute o m apos) (e :: es) [] pos) X.env = (do
      let ov ← eval o X.env
      standAt apos.atName
      let (f, first) ← holding [ov] (getMethod ov m pl)
      callWith pos f first (backTo pos (starEach (e :: es) X.env)) (backToKw pos (keywordEach [] X.env))) := by rfl) :
    PE X (.Call (.Attribute o m apos) (e :: es) [] pos) (tMeth C m sp dvs E ta t) := by
  refine ⟨fun pins s σ H Q I h => ?_⟩
  refine PySem.W.methodCall_KW (pl := pl) (thn (he.run pins s σ H _ I h) fun u s1 ⟨x, H1, I1, rx, a, dx, fs, ex, ea, l, q⟩ => ?_) ht
  subst ex
  obtain rfl : u = Value.ref a := rx
  refine getmeth_ok I1 ea c hm l ?_
  refine PySem.W.callWith_K (first := [.ref a]) (h₀ := X.base) I.ok.mod.kin hm.kp (thn (ha.run pos pins s1 σ H1 _ I1 q) fun us s2 ⟨vs, H2, I2, r, q2⟩ => ⟨I2.kIn, ?_⟩) hst hpl
  exact run_fnG (us := .ref a :: us) (vs := .ref a :: vs) F hr hb hd hx I2 (.cons rfl r) q2
/-- o.m() -/
theorem pe_meth0G {pl : Sem Bool} (he : PE X o ta) (c : Cls X.K C) (hm : Meth X.K C m f) (F : FnOkG X.prog X.w X.K X.mg X.base CX k f fd ps sp) (hr : RoomG k X.A) (hb : Binds X.K fd ps ds) (hd : Vals dvs ds) (hx : Passes CX X E)
    (ht : eval (.Call (.Attribute o m apos) [] [] pos) X.env = (do
      let ov ← eval o X.env
      standAt apos.atName
      let (f, first) ← holding [ov] (getMethod ov m pl)
      callWith pos f first (backTo pos (starEach [] X.env)) (backToKw pos (keywordEach [] X.env))) := by rfl) :
    PE X (.Call (.Attribute o m apos) [] [] pos) (tMeth C m sp dvs E ta tNil) := by
  refine ⟨fun pins s σ H Q I h => ?_⟩
  refine PySem.W.methodCall_KW (pl := pl) (thn (he.run pins s σ H _ I h) fun u s1 ⟨x, H1, I1, rx, a, dx, fs, ex, ea, l, q⟩ => ?_) ht
  subst ex
  obtain rfl : u = Value.ref a := rx
  refine getmeth_ok I1 ea c hm l ?_
  exact PySem.W.callWith_K0 (first := [.ref a]) I1.kIn hm.kp (run_fnG (us := [.ref a]) (vs := [.ref a]) F hr hb hd hx I1 (.cons rfl .nil) q)

theorem run_makeG {pins : List (Addr × Obj)} {σ : St} {H : Hp} {s : Shared} {Q : VK} {us : List Value} {vs : List V} (M : Mk X.K C f) (F : FnOkG X.prog X.w X.K X.mg X.base CX k f fd ps sp) (hr : RoomG (k + 1) X.A) (hb : Binds X.K fd ps ds) (hd : Vals dvs ds)
    (hx : Passes CX X E) (I : Inv X pins σ H s) (r : Vals vs us)
    (h : ∀ x dx, H x = none → H dx = none → dx ≠ x → sp (.ref x :: (vs ++ dvs)) (upd (upd H dx (.own x)) x (.ins C dx [])) (fun v H2 => v = .non ∧ Q (.ref x) H2) E) :
    wpAny (model X.prog X.w) X.A (call (.ref C) us) (EP X pins σ Q) X.xe s := by
  have hq := h (s.heap.objs.size + 1) s.heap.objs.size (I.hok.fresh (Nat.le_succ _)) (I.hok.fresh (Nat.le_refl _)) (Nat.ne_of_lt (Nat.lt_succ_self _))
  have I2 := Inv.made (C := C) I
  have r2 : Vals (V.ref (s.heap.objs.size + 1) :: (vs ++ dvs)) (Value.ref (s.heap.objs.size + 1) :: (us ++ ds)) := .cons rfl (r.append hd)
  have hl : (Value.ref (s.heap.objs.size + 1) :: us ++ ds).length = ps.length := by
    have e := r2.length
    rw [F.len _ _ _ _ hq] at e
    exact e.symm
  refine wpAny_call (make_map (f := f) I.kIn M.makes M.init (beq_iff_eq.mp M.fn) (codeAny_mono (F.run _ X.stack _ _ ⟨Value.ref (s.heap.objs.size + 1) :: us, []⟩ (Value.ref (s.heap.objs.size + 1) :: (us ++ ds)) _ _ E ⟨hr.1.make C us [], hr.2⟩
    (I2.env0.make C us []) (hb _ (Value.ref (s.heap.objs.size + 1) :: us) I2.kIn hl) r2 hq) fun r s' hq' => ?_))
  cases r with
  | error e => exact hx pins σ _ _ e s' I2 hq'
  | ok fl =>
    cases fl with
    | ret u =>
      obtain ⟨v, H', I3, rv, ev, q3⟩ := I2.after hq'
      subst ev
      exact ⟨rv, ⟨V.ref (s.heap.objs.size + 1), H', I3, rfl, q3⟩⟩
    | next => exact False.elim hq'
    | brk => exact False.elim hq'
    | cont => exact False.elim hq'
theorem pe_makeG (M : Mk X.K C f) (F : FnOkG X.prog X.w X.K X.mg X.base CX k f fd ps sp) (hr : RoomG (k + 1) X.A) (hg : Gl X x) (hm : X.mg x = some (.ref C)) (hb : Binds X.K fd ps ds) (hd : Vals dvs ds) (hx : Passes CX X E)
    (ha : PA X (e :: es) t) (hdb : (x == ("__debug__" : Str)) = false := by decide) (he : starEach (e :: es) X.env = (false, eval e X.env) :: starEach es X.env := by rfl) (hpl : (backTo pos (starEach es X.env)).any (·.1) = false := by rfl) :
    PE X (.Call (.Name x p) (e :: es) [] pos) (tMake C sp dvs E t) := by
  refine ⟨fun pins s σ H Q I h => ?_⟩
  refine wpAny_Call_Name_kw (ld_glob I hg hm ?_ hdb)
  refine PySem.W.callWith_K (h₀ := X.base) I.ok.mod.kin M.kp (thn (ha.run pos pins s σ H _ I h) fun us s1 ⟨vs, H1, I1, r, q⟩ => ⟨I1.kIn, ?_⟩) he hpl
  exact run_makeG M F hr hb hd hx I1 r q
theorem pe_make0G (M : Mk X.K C f) (F : FnOkG X.prog X.w X.K X.mg X.base CX k f fd ps sp) (hr : RoomG (k + 1) X.A) (hg : Gl X x) (hm : X.mg x = some (.ref C)) (hb : Binds X.K fd ps ds) (hd : Vals dvs ds) (hx : Passes CX X E)
    (hdb : (x == ("__debug__" : Str)) = false := by decide) : PE X (.Call (.Name x p) [] [] pos) (tMake C sp dvs E tNil) := by
  refine ⟨fun pins s σ H Q I h => ?_⟩
  refine wpAny_Call_Name_kw (ld_glob I hg hm ?_ hdb)
  exact PySem.W.callWith_K0 I.kIn M.kp (run_makeG (us := []) M F hr hb hd hx I .nil h)
end
theorem fn_ofG {CX : CXT} {P : Program} {w : World} {K : PySem.W.Frag} {mg : Str → Option Value} {base : Heap} {k : Nat} {f : Addr} {name qual : Str} {params : Arguments} {body : List Stmt} {scope : Scope} {dV kV doc pm cdv ct oc : Value} {an od : Option Addr}
    {osl : Array (Option Value)} {N ps : List Str} {sp : Sp} (lk : K.lookup f = some ⟨oc, od, .func (PySem.W.fnOf name qual params body scope dV kV doc pm an cdv ct), osl⟩) (hcd : PySem.W.codeIn K cdv qual = true) (S : FnScope N ps scope)
    (len : ∀ vs H Q E, sp vs H Q E → vs.length = ps.length)
    (hbody : ∀ (A : Around) (outer : List Env) (s : Shared) (H : Hp) (vs : List V) (Q : VK) (E : XK), RoomG k (A.deeper (envOfC qual scope s.heap.objs.size f cdv)) → sp vs H Q E →
      ∃ t, PSs (cxOf CX P w K mg base N qual scope f cdv A outer s H E) body t ∧ t { nx := fun _ H' => Q .non H', rt := Q } (start N vs) H) :
    FnOkG P w K mg base CX (k + 1) f (PySem.W.fnOf name qual params body scope dV kV doc pm an cdv ct) ps sp := by
  refine ⟨len, fun A outer s H args us vs Q E hr e0 hb r hsp => ?_⟩
  have hl := len _ _ _ _ hsp
  have KX : K.In s.heap := e0.mod.kin.keeps fun b o e => (e0.bs b o e).1
  have lim : s.heap.NoLimit := e0.mod.nolimit.keeps fun b o e => (e0.bs b o e).1
  have hkind : ∀ y ∈ ps.zip us, scope.names.lookup y.1 = some .local ∨ (scope.names.lookup y.1 = some .cell ∧ ((cellsFrom (s.heap.objs.size + 1) scope.names []).lookup y.1).isSome = true) := fun ⟨n, v⟩ hy => by
    rcases S.par n (List.of_mem_zip hy).1 with q | q
    · exact .inl q
    · exact .inr ⟨q, PySem.W.cellsFrom_some _ _ _ (.inl q)⟩
  refine codeAny_call_function hr.1.depth (KX _ _ lk) rfl S.co S.gen rfl (PySem.W.codeRec_of KX hcd) (hb _ _ _ _ ?_)
  refine wpAny_newFunctionEnv_cells S.kind hkind fun env he s1 x => ?_
  subst he
  refine ⟨lim.keeps x.toInCall.keep, codeAny_func ?_⟩
  obtain ⟨t, ht, hq⟩ := hbody A outer s H vs Q E ⟨hr.1.deeper _, hr.2⟩ hsp
  have I : Inv (cxOf CX P w K mg base N qual scope f cdv A outer s H E) [] (start N vs) H s1 := inv_start S hr.1.hd e0 hl r x
  refine wpAny_mono (ht.run [] s1 (start N vs) H _ I hq) (fun fl s' hs => ?_) fun e s' hs => hs
  have fin : ∀ {σ' : St} {H' : Hp} {v : V} {u : Value}, Inv (cxOf CX P w K mg base N qual scope f cdv A outer s H E) [] σ' H' s' → RelV v u → Q v H' → CE outer P w H s Q u s' :=
    fun {σ' H' v u} J rv q => ⟨v, H', J.os, J.bare, J.base, J.hok, rv, q⟩
  cases fl with
  | ret u =>
    obtain ⟨v, σ', H', J, rv, q⟩ := hs
    exact fin J rv q
  | next =>
    obtain ⟨σ', H', J, q⟩ := hs
    exact fin (v := V.non) (u := Value.none) J rfl q
  | brk =>
    obtain ⟨_, _, _, q⟩ := hs
    exact False.elim q
  | cont =>
    obtain ⟨_, _, _, q⟩ := hs
    exact False.elim q

theorem Fun.okG {P : Program} {w : World} {K : PySem.W.Frag} {mg : Str → Option Value} {base : Heap} {x qual : Str} {st : Stmt} {f : Addr} {fd : FuncData} {N ps : List Str} {k : Nat} {sp : Sp} (F : Fun K x qual st f fd) (S : FnScope N ps (defScope st)) (len : ∀ vs H Q E, sp vs H Q E → vs.length = ps.length)
    (hbody : ∀ (cdv : Value) (A : Around) (outer : List Env) (s : Shared) (H : Hp) (vs : List V) (Q : VK) (E : XK), RoomG k (A.deeper (envOfC qual (defScope st) s.heap.objs.size f cdv)) → sp vs H Q E →
      ∃ t, PSs (cxOf CX0 P w K mg base N qual (defScope st) f cdv A outer s H E).nox (defBody st) t ∧ t { nx := fun _ H' => Q .non H', rt := Q } (start N vs) H) : FnOkG P w K mg base CX0 (k + 1) f fd ps sp := by
  obtain ⟨oc, od, kV, doc, pm, an, cdv, ct, osl, rfl, lk, hcd⟩ := F.ex
  refine fn_ofG lk hcd S len fun A outer s H vs Q E hr hsp => ?_
  obtain ⟨t, h, q⟩ := hbody cdv A outer s H vs Q E hr hsp
  exact ⟨t, h.nox, q⟩
theorem Fun.okXG {P : Program} {w : World} {K : PySem.W.Frag} {mg : Str → Option Value} {base : Heap} {x qual : Str} {st : Stmt} {f : Addr} {fd : FuncData} {N ps : List Str} {k : Nat} {sp : Sp} (F : Fun K x qual st f fd) (S : FnScope N ps (defScope st)) (len : ∀ vs H Q E, sp vs H Q E → vs.length = ps.length)
    (hbody : ∀ (cdv : Value) (A : Around) (outer : List Env) (s : Shared) (H : Hp) (vs : List V) (Q : VK) (E : XK), RoomG k (A.deeper (envOfC qual (defScope st) s.heap.objs.size f cdv)) → sp vs H Q E →
      ∃ t, PSs (cxOf (L2.CX P w) P w K mg base N qual (defScope st) f cdv A outer s H E) (defBody st) t ∧ t { nx := fun _ H' => Q .non H', rt := Q } (start N vs) H) : FnOkG P w K mg base (L2.CX P w) (k + 1) f fd ps sp := by
  obtain ⟨oc, od, kV, doc, pm, an, cdv, ct, osl, rfl, lk, hcd⟩ := F.ex
  exact fn_ofG lk hcd S len fun A outer s H vs Q E hr hsp => hbody cdv A outer s H vs Q E hr hsp
theorem law_callG {P : Program} {w : World} {K : PySem.W.Frag} {mg mb : Str → Option Value} {CX : CXT} {k : Nat} {fa a : Addr} {fd : FuncData} {x : Str} {sp : Sp} {s₁ : Shared} {vs : List Value} {ns : List Int}
    (KX : K.In s₁.heap) (hns : s₁.heap.Ns mainGlobals mg) (hb : s₁.heap.Ns builtinsNs mb) (hbb : ∀ x : Str, x ≠ "__name__" → mb x = bootBuiltins x) (hlim : s₁.heap.NoLimit) (hg : s₁.gens = #[])
    (ha : s₁.heap.get? a = some { cls := .type "list", data := .seq vs.toArray }) (hi : IntsAre vs ns) (hl : ns.length ≤ sizeLine) (hr : Room k callerA)
    (F : ∀ base : Heap, K.In base → base.Ns mainGlobals mg → FnOkG P w K mg base CX k fa fd [x] sp) (hbind : ∀ (s : Shared) (u : Value), BindsTo s fd ⟨[u], []⟩ [(x, u)])
    (hsp : ∀ H : Hp, Only H → SqL K H a (ns.map V.int) → sp [.ref a] H (fun v _ => v = .bl true) fun _ _ _ => False)
    (hCX : ∀ H e s', CX [] H s₁ (fun _ _ _ => False) e s' → False) :
    codeAny (model P w) callerA (.call (.ref fa) ⟨[.ref a], []⟩) (fun r s' => r = .ok (.ret (.bool true)) ∧ OldK s₁.heap s'.heap ∧ s'.os = s₁.os ∧ AllBare s'.gens) s₁ := by
  have rv := vals_ints hi
  have lenV := hi.length
  -- from an abstract heap in which nothing but the script may be tracked
  have core : ∀ H : Hp, Only H → SqL K H a (ns.map V.int) → HOk P w H s₁.heap → (∀ b, H b ≠ none → b = a) → (H a ≠ none → K.lookup a = none) →
      codeAny (model P w) callerA (.call (.ref fa) ⟨[.ref a], []⟩) (fun r s' => r = .ok (.ret (.bool true)) ∧ OldK s₁.heap s'.heap ∧ s'.os = s₁.os ∧ AllBare s'.gens) s₁ := by
    intro H hO hS hok hA hK
    have base_of : ∀ {b : Addr} {o : Obj}, s₁.heap.get? b = some o → H b = none → (hidT s₁.heap H).get? b = some o := fun e n => hidT_get e n
    have noA : ∀ {b : Addr} {o : Obj} {es : Array DictEntry} {ep : Nat}, s₁.heap.get? b = some o → o.data = .dict es ep → H b = none := fun {b o es ep} e d => by
      cases q : H b with
      | none => rfl
      | some u =>
        have e' : b = a := hA b (by rw [q]; simp)
        subst e'
        rw [ha] at e; cases e
        have d' : Data.seq vs.toArray _ = Data.dict es ep := d
        cases d'
    have nsK : ∀ {b : Addr} {m : Str → Option Value}, s₁.heap.Ns b m → (hidT s₁.heap H).Ns b m := fun {b m} ⟨o, es, ep, e, d, r⟩ => ⟨o, es, ep, base_of e (noA e d), d, r⟩
    have hKb : K.In (hidT s₁.heap H) := fun b o e => base_of (KX b o e) (by
      cases q : H b with
      | none => rfl
      | some u =>
        have e' : b = a := hA b (by rw [q]; simp)
        subst e'
        rw [hK (by rw [q]; simp)] at e; cases e)
    have hM : Mod K mg (hidT s₁.heap H) := ⟨hKb, nsK hns, ⟨mb, nsK hb, hbb⟩, let ⟨mc, h1, h2⟩ := hlim; ⟨mc, nsK h1, h2⟩⟩
    have e0 : Env0 P w K mg (hidT s₁.heap H) callerA [] s₁ H := ⟨rfl, hM, fun b o e => of_hidT e, Nat.le_of_eq (hidT_size _ _), trivial, fun b hb => absurd (show b ∈ ([] : List Addr) from hb) (by simp), hok, .of_eq hg⟩
    refine codeAny_mono ((F _ hKb (nsK hns)).run callerA [] s₁ H ⟨[.ref a], []⟩ [.ref a] [.ref a] _ _ ⟨hr, rfl⟩ e0 (hbind s₁ (.ref a)) (.cons rfl .nil) (hsp H hO hS)) fun r s' h => ?_
    cases r with
    | error e => exact (hCX H e s' h).elim
    | ok fl =>
      cases fl with
      | next => exact False.elim h
      | brk => exact False.elim h
      | cont => exact False.elim h
      | ret u =>
        obtain ⟨v, H', os, bare, un, hok', r', q⟩ := h
        have q' : v = .bl true := q
        subst q'
        obtain rfl : u = Value.bool true := r'
        refine ⟨rfl, OldK.of_keep fun b o e => ?_, os, bare⟩
        cases q : H b with
        | none => exact un.keep b o e q (by intro z; exact absurd (show b ∈ ([] : List Addr) from z) (by simp)) (by simp)
        | some u =>
          rcases hO b with z | ⟨ob, xs, z⟩
          · rw [q] at z; cases z
          · have z2 := un.frzs b ob _ z
            obtain ⟨e1, _⟩ := hok b _ z
            obtain ⟨e2, _⟩ := hok' b _ z2
            rw [e] at e1; cases e1
            exact e2
  cases hk : K.lookup a with
  | some o =>
    -- the script is one of the module's own objects
    have e := KX a o hk
    rw [ha] at e
    cases e
    refine core (fun _ => none) (fun _ => .inl rfl) (.inr ⟨_, vs.toArray, _, hk, rfl, rfl, rfl, by rw [List.size_toArray, lenV]; exact hl, by simpa using rv⟩) (fun b u z => by have z' : (none : Option HO) = some u := z; cases z') (fun b z => absurd rfl z) fun z => absurd rfl z
  | none =>
    refine core (fun b => if b = a then some (.frz { cls := .type "list", data := .seq vs.toArray } (.lst (ns.map V.int))) else none) (fun b => ?_) (.inl (.inr ⟨{ cls := .type "list", data := .seq vs.toArray }, if_pos rfl⟩)) (fun b u z => ?_) (fun b z => ?_) fun _ => hk
    · by_cases hb : b = a
      · exact .inr ⟨_, _, if_pos hb⟩
      · exact .inl (if_neg hb)
    · by_cases hb : b = a
      · have z' := (if_pos hb).symm.trans z
        cases z'
        subst hb
        exact ⟨ha, by rw [List.length_map]; exact hl, vs, _, rv, ha⟩
      · have z' := (if_neg hb).symm.trans z
        cases z'
    · by_cases hb : b = a
      · exact hb
      · exact absurd (if_neg hb) z
theorem walk_ofG {l : PySem.W.OpenLaw} {n k : Nat} {q : Program} {loose : List Str} {XP : (Str → Option Value) → Heap → Prop} {YP : World → Heap → Prop} {d : DefRec} {K : Params → PySem.W.Frag} {CX : World → CXT} {sp : World → Sp} {x : Str}
    (hn : l.most = some n) (hn2 : n ≤ sizeLine) (hdf : d.params.defaults = []) (hr : Room k callerA)
    (hY : ∀ (w : World) (h : Heap), YP w h → (K w.params).In h)
    (F : ∀ (w : World) (mg : Str → Option Value) (fa : Addr) (h : Heap), (K w.params).In h → h.Ns mainGlobals mg → mg d.name = some (.ref fa) →
      ∃ fd : FuncData, (∀ (s : Shared) (u : Value), BindsTo s fd ⟨[u], []⟩ [(x, u)]) ∧
        ∀ base : Heap, (K w.params).In base → base.Ns mainGlobals mg → FnOkG l.prog w (K w.params) mg base (CX w) k fa fd [x] (sp w))
    (hsp : ∀ (w : World) (H : Hp) (a : Addr) (ns : List Int), ns.length ≤ n → Only H → SqL (K w.params) H a (ns.map V.int) → sp w [.ref a] H (fun v _ => v = .bl true) fun _ _ _ => False)
    (hCX : ∀ (w : World) (H : Hp) (s : Shared) (e : Value) (s' : Shared), CX w [] H s (fun _ _ _ => False) e s' → False) :
    PySem.W.WalkO q loose XP YP l.row.toRowW d [] (fun f vs => PySem.call f vs) := by
  refine Att.attach_call hn hdf fun w s₀ s₁ mg mb fa o pm cd doc a vs ns G Y ho hd hcd hmg hobj hints hlen hg => ?_
  have KX := hY w _ Y
  obtain ⟨fd, hb, hF⟩ := F w mg fa _ KX G.T.g hmg
  exact law_callG KX G.T.g G.T.b G.T.builtins G.T.nolimit hg hobj hints (Nat.le_trans hlen hn2) hr hF hb (fun H hO hS => hsp w H a ns hlen hO hS) fun H e s' => hCX w H s₁ e s'

end L2

set_option Elab.async false
set_option linter.all false
set_option maxRecDepth 100000
set_option maxHeartbeats 4000000
namespace L2
open PySem PySem.Spec PyProof.Rows
def keyD : Key → PyData
  | .inl i => .int i
  | .inr x => .str x
/-- a scalar -/
inductive Sc : V → PyData → Prop
  | non : Sc .non .none
  | bl (b : Bool) : Sc (.bl b) (.bool b)
  | int (i : Int) : Sc (.int i) (.int i)
  | str (x : Str) : Sc (.str x) (.str x)
theorem Sc.reads {h : Heap} : ∀ {v : V} {d : PyData} {u : Value}, Sc v d → RelV v u → Reads h u d []
  | _, _, _, .non, r => by cases r; exact .none
  | _, _, _, .bl b, r => by cases r; exact .bool b
  | _, _, _, .int i, r => by obtain ⟨t, rfl⟩ := r; exact .int i t
  | _, _, _, .str x, r => by obtain ⟨t, rfl⟩ := r; exact .str x t
theorem Sc.readsAll {h : Heap} : ∀ {vs : List V} {ds : List PyData} {us : List Value}, Paired Sc vs ds → Vals vs us → ReadsAll h us ds []
  | _, _, _, .nil, .nil => .nil
  | _, _, _, .cons a b, .cons r t => by
    have := ReadsAll.cons (a.reads (h := h) r) (Sc.readsAll b t)
    simpa using this
/-- repr of data without dicts, or of a dict of scalars -/
def rReprD (K : PySem.W.Frag) : List V → Hp → VK → Prop := fun xs H Q => ∃ (v : V) (d : PyData), xs = [v] ∧
  ((Dp K H v d ∧ d.hasDict = false) ∨ ∃ (a : Addr) (kvs : List (Key × V)) (ds : List PyData), v = .ref a ∧ H a = some (.dK kvs) ∧ Paired Sc (kvs.map (·.2)) ds ∧ d = .dict ((kvs.map fun p => keyD p.1).zip ds)) ∧
  d.showable = true ∧ d.shown.length ≤ sizeLine ∧ d.depth ≤ 50 ∧ Q (.str d.shown) H
theorem keys_read {P : Program} {w : World} {h : Heap} : ∀ {es : List DictEntry} {kvs : List (Key × Value)}, Pairs (mixKind P w) es kvs → ReadsAll h (es.map (·.key)) (kvs.map fun p => keyD p.1) [] ∧ es.map (·.val) = kvs.map (·.2)
  | _, _, .nil => ⟨.nil, rfl⟩
  | _, _, .cons (e := e) (kv := kv) a b c => by
    obtain ⟨r1, r2⟩ := keys_read c
    refine ⟨?_, by rw [List.map_cons, List.map_cons, b, r2]⟩
    have k1 : Reads h e.key (keyD kv.1) [] := by
      rcases keyIs_shape (show keyIs kv.1 e.key = true from a) with ⟨i, t, e1, e2⟩ | ⟨x, t, e1, e2⟩
      · rw [e1, e2]
        exact .int i t
      · rw [e1, e2]
        exact .str x t
    have := ReadsAll.cons k1 r1
    simpa using this
section
variable {X : Cx}
theorem call_reprD (hg : X.A.guards = some []) (hu : X.A.units + 64 < cLine) : CallR X (.builtin "repr") (rReprD X.K) := by
  intro pins s σ H xs us Q I r h
  obtain ⟨v, d, rfl, hv, hs, hz, hdp, q⟩ := h
  obtain ⟨u, rfl, rv⟩ := vals1 r
  have fin : ∀ (as : List Addr), Reads s.heap u d as → (d.hasDict = true → sysModules ∉ as) → wpAny (model X.prog X.w) X.A (call (.builtin "repr") [u]) (EP X pins σ Q) X.xe s := by
    intro as hr hno
    cases hr with
    | none => exact PySem.P.repr_of_none ⟨.str _, H, I.tok _, ⟨_, rfl⟩, q⟩
    | bool b => exact PySem.P.repr_of_bool ⟨.str _, H, I.tok _, ⟨_, rfl⟩, q⟩
    | int i t => exact PySem.P.repr_of_int (by simpa [PyData.showable] using hs) ⟨.str _, H, I.tok _, ⟨_, rfl⟩, q⟩
    | str x t => exact PySem.P.repr_of_str ⟨.str _, H, I.tok _, ⟨_, rfl⟩, q⟩ hz
    | list a b c e => exact repr_of_reads' (.list a b c e) hs hno hg (by omega) (fun _ _ z => z) (fun h' u' tk k => ⟨.str _, H, I.kept (t' := tk) k, ⟨_, rfl⟩, q⟩) hz
    | tuple a b c e => exact repr_of_reads' (.tuple a b c e) hs hno hg (by omega) (fun _ _ z => z) (fun h' u' tk k => ⟨.str _, H, I.kept (t' := tk) k, ⟨_, rfl⟩, q⟩) hz
    | dict a b c e f => exact repr_of_reads' (.dict a b c e f) hs hno hg (by omega) (fun _ _ z => z) (fun h' u' tk k => ⟨.str _, H, I.kept (t' := tk) k, ⟨_, rfl⟩, q⟩) hz
  rcases hv with ⟨hd, hno⟩ | ⟨a, kvs, ds, rfl, ha, hp, rfl⟩
  · obtain ⟨as, hr⟩ := Dp.reads I d v u hd rv
    exact fin as hr fun z => by rw [hno] at z; cases z
  · obtain rfl : u = Value.ref a := rv
    obtain ⟨_, hsys, vs, kv, o, es, ep, ho, hE, hD, _, hP, _⟩ : ObjOk X.prog X.w H s.heap a (.dK kvs) := I.hok a _ ha
    obtain ⟨kr, vr⟩ := keys_read (h := s.heap) hP
    have e1 : ∀ {l1 : List (Key × V)} {l2 : List (Key × Value)}, KV l1 l2 → (l2.map fun p => keyD p.1) = (l1.map fun p => keyD p.1) ∧ Vals (l1.map (·.2)) (l2.map (·.2)) := by
      intro l1 l2 hk
      induction hk with
      | nil => exact ⟨rfl, .nil⟩
      | cons a _ ih => exact ⟨by rw [List.map_cons, List.map_cons, a.1, ih.1], .cons a.2 ih.2⟩
    obtain ⟨ek, ev⟩ := e1 kv
    have hlen : (kvs.map fun p => keyD p.1).length = ds.length := by
      have := Paired.length hp
      simpa using this
    have vr2 : ReadsAll s.heap (es.toList.map (·.val)) ds [] := by
      rw [vr]
      exact Sc.readsAll hp ev
    have R : Reads s.heap (.ref a) (.dict ((kvs.map fun p => keyD p.1).zip ds)) (a :: [] ++ []) :=
      .dict ho hE.1 hD (by rw [List.map_fst_zip (Nat.le_of_eq hlen), ← ek]; exact kr) (by rw [List.map_snd_zip (Nat.le_of_eq hlen.symm)]; exact vr2)
    exact fin _ R fun _ z => by
      have : sysModules = a := by simpa using z
      rw [this] at hsys
      simp at hsys
end
end L2

set_option Elab.async false
set_option linter.all false
set_option maxRecDepth 100000
set_option maxHeartbeats 4000000
namespace Dv
open PySem L2 Evl
/-- the type of a datum by its name -/
def tyD : PyData → String
  | .none => "NoneType"
  | .bool _ => "bool"
  | .int _ => "int"
  | .str _ => "str"
  | .list _ => "list"
  | .tuple _ => "tuple"
  | .dict _ => "dict"
def isD (d : PyData) (T : String) : Bool := tyD d == T || (T == "int" && tyD d == "bool")
section
variable {K : PySem.W.Frag} {σ : L2.St} {F F1 H H1 : Hp} {te ta tb : TE} {d a b : PyData} {ds es : List PyData} {i j : Int} {tt tu : TT} {p q : Bool}
theorem tyx_of {v : V} (h : Dp K H v d) : TyX K H v (.type (tyD d)) := by
  cases h with
  | non => exact .base .non
  | bl b => exact .base (.bl b)
  | int i => exact .base (.int i)
  | str x => exact .base (.str x)
  | lst hs _ =>
    rcases hs with (h | ⟨o, h⟩) | ⟨o, its, n, hk, hc, _⟩
    · exact .base (.lst h)
    · exact .base (.frz h)
    · exact .kList hk hc
  | tup hs _ =>
    rcases hs with (h | ⟨o, h⟩) | ⟨o, its, n, hk, hc, _⟩
    · exact .base (.tup h)
    · exact .fTuple h
    · exact .kTuple hk hc
/-- the answers of isinstance for the built-in types -/
def tys : List String := ["int", "bool", "str", "list", "tuple", "dict"]
theorem kit_ty {T : String} (hT : T ∈ tys) (hd : ∀ kv, d ≠ .dict kv) : PySem.W.kitOne K (.type (tyD d)) (.type T) = some (isD d T) := by
  have e : ∀ t ∈ ["NoneType", "bool", "int", "str", "list", "tuple"], ∀ T ∈ tys, PySem.W.kitOne ([] : PySem.W.Frag) (.type t) (.type T) = some (t == T || (T == "int" && t == "bool")) := by decide +kernel
  have e2 : PySem.W.kitOne K (.type (tyD d)) (.type T) = PySem.W.kitOne ([] : PySem.W.Frag) (.type (tyD d)) (.type T) := rfl
  rw [e2]
  refine e _ ?_ T hT
  cases d <;> simp [tyD]
  exact absurd rfl (hd _)
theorem dp_nodict {v : V} (h : Dp K H v d) : ∀ kv, d ≠ .dict kv := by
  intro kv e
  subst e
  cases h
theorem ev_isi {T : String} (h : EvD K ta σ F d) (hT : T ∈ tys) : EvD K (tCB (rIsi K) (tCons ta (tCons (tC (.ty T)) tNil))) σ F (.bool (isD d T)) := fun H e Q q =>
  h H e _ fun v F' H' g hv => ⟨v, .ty T, _, _, _, rfl, .ty T, tyx_of (dp_ex g.fh hv), kit_ty hT (dp_nodict hv), q _ F' H' g (.bl _)⟩
theorem ev_abs (h : EvD K ta σ F (.int i)) : EvD K (tCB (fun xs H Q => ∃ i, xs = [.int i] ∧ Q (.int (if i < 0 then -i else i)) H) (tCons ta tNil)) σ F (.int (i.natAbs : Int)) := fun H e Q q =>
  h H e _ fun v F' H' g hv => by
    cases hv
    refine ⟨i, rfl, q _ F' H' g ?_⟩
    have : (if i < 0 then -i else i) = (i.natAbs : Int) := by split <;> omega
    rw [this]
    exact .int _
theorem ev_int1 (h : EvD K ta σ F (.int i)) : EvD K (tCB (fun xs H Q => (∃ i, xs = [.int i] ∧ Q (.int i) H) ∨ ∃ k, xs = [.bl k] ∧ Q (.int (if k then 1 else 0)) H) (tCons ta tNil)) σ F (.int i) := fun H e Q q =>
  h H e _ fun v F' H' g hv => by
    cases hv
    exact .inl ⟨i, rfl, q _ F' H' g (.int _)⟩
/-- len -/
def lenD : PyData → Option Nat
  | .list ds => some ds.length
  | .tuple ds => some ds.length
  | .str x => some x.length
  | _ => none
theorem ev_len {n : Nat} (h : EvD K ta σ F d) (hl : lenD d = some n) (hn : n ≤ 100000) : EvD K (tCB (fun xs H Q => ∃ x n, xs = [x] ∧ LenV K x H n ∧ Q (.int n) H) (tCons ta tNil)) σ F (.int (n : Int)) := fun H e Q q =>
  h H e _ fun v F' H' g hv => by
    refine ⟨v, n, rfl, ?_, q _ F' H' g (.int _)⟩
    have hv' := dp_ex g.fh hv
    cases hv' with
    | str x => cases hl; exact ⟨sz_of hn, rfl⟩
    | lst hs ha => cases hl; exact .inl ⟨_, hs, (dps_len ha).symm⟩
    | tup hs ha => cases hl; exact .inr ⟨_, hs, (dps_len ha).symm⟩
    | non => cases hl
    | bl b => cases hl
    | int i => cases hl
/-- list(..) of a list or a tuple: a new list; tuple(..) of a list -/
theorem el_list (h : EvD K ta σ F d) (hd : d = .list ds ∨ d = .tuple ds) : EvL K (tCB (fun xs H Q => ∃ p ys, xs = [.ref p] ∧ (SqL K H p ys ∨ SqT K H p ys) ∧ ∀ l, H l = none → Q (.ref l) (upd H l (.lst ys))) (tCons ta tNil)) σ F ds := fun H e Q q =>
  h H e _ fun v F' H' g hv => by
    rcases hd with rfl | rfl
    · cases hv with
      | lst hs ha => exact ⟨_, _, rfl, .inl (ex_l g.fh hs), fun l hl => q l _ F' _ (g.trans (Gr.only g.fh hl)) (ex_none g.hx hl) (ex_none g.fh hl) upd_same ha⟩
    · cases hv with
      | tup hs ha => exact ⟨_, _, rfl, .inr (ex_t g.fh hs), fun l hl => q l _ F' _ (g.trans (Gr.only g.fh hl)) (ex_none g.hx hl) (ex_none g.fh hl) upd_same ha⟩
theorem ev_tuple (h : EvD K ta σ F (.list ds)) : EvD K (tCB (fun xs H Q => ∃ p ys, xs = [.ref p] ∧ ((SqL K H p ys ∧ ∀ l, H l = none → Q (.ref l) (upd H l (.tup ys))) ∨ (SqT K H p ys ∧ Q (.ref p) H))) (tCons ta tNil)) σ F (.tuple ds) := fun H e Q q =>
  h H e _ fun v F' H' g hv => by
    cases hv with
    | lst hs ha => exact ⟨_, _, rfl, .inl ⟨ex_l g.fh hs, fun l hl => q _ _ _ (g.trans (Gr.new g.fh hl)) (.tup (st_of upd_same) (dps_ex (Ex.new (ex_none g.fh hl)) ha))⟩⟩
/-- slices of a list -/
def cutD (ds : List PyData) (lo hi : Option Int) : List PyData := (ds.drop (HT.sIx ds.length 0 lo)).take (HT.sIx ds.length ds.length hi - HT.sIx ds.length 0 lo)
theorem dps_drop : ∀ (n : Nat) {ds : List PyData} {vs : List V}, DpAll K F vs ds → DpAll K F (vs.drop n) (ds.drop n)
  | 0, _, _, h => h
  | n + 1, [], _, h => by cases h; exact .nil
  | n + 1, _ :: _, _, h => by cases h with | cons h1 h2 => exact dps_drop n h2
theorem dps_take : ∀ (n : Nat) {ds : List PyData} {vs : List V}, DpAll K F vs ds → DpAll K F (vs.take n) (ds.take n)
  | 0, _, _, _ => .nil
  | n + 1, [], _, h => by cases h; exact .nil
  | n + 1, _ :: _, _, h => by cases h with | cons h1 h2 => exact .cons h1 (dps_take n h2)
theorem el_sl {tl th : TO} {lo hi : Option Int} (h : EvD K te σ F (.list ds)) (h1 : EoD tl σ F lo) (h2 : EoD th σ F hi) : EvL K (tSl (rSlL K) te tl th) σ F (cutD ds lo hi) := fun H e Q q =>
  h H e _ fun v F1 H1 g1 hv => (h1.mono g1.fx) H1 g1.fh _ fun F2 H2 g2 => (h2.mono (g1.fx.trans g2.fx)) H2 g2.fh _ fun F3 H3 g3 => by
    cases hv with
    | lst hs ha =>
      have e3 := (g2.fx.trans g3.fx)
      have l := dps_len ha
      refine ⟨_, _, rfl, ex_l (e3.trans g3.fh) hs, fun p hp => q p _ F3 _ ((g1.trans (g2.trans g3)).trans (Gr.only g3.fh hp)) (ex_none (g1.trans (g2.trans g3)).hx hp) (ex_none g3.fh hp) upd_same ?_⟩
      unfold cutV cutD
      rw [l]
      exact dps_take _ (dps_drop _ (dps_ex e3 ha))
end
end Dv

set_option Elab.async false
set_option linter.all false
set_option maxRecDepth 100000
set_option maxHeartbeats 4000000
namespace Dv
open PySem PySem.Spec PyProof.Rows L2 Evl
/-- a def that can be called: its name stands for it, and it does what sp says -/
structure Cal (P : Program) (w : World) (K : PySem.W.Frag) (mg : Str → Option Value) (base : Heap) (nm : Str) (ps : List Str) (k : Nat) (sp : Sp) : Prop where
  ex : ∃ f fd, mg nm = some (.ref f) ∧ PySem.W.keepIn K (.ref f) = true ∧ Binds K fd ps [] ∧ FnOkG P w K mg base CX0 k f fd ps sp ∧ ∃ oc od osl, K.lookup f = some ⟨oc, od, .func fd, osl⟩
/-- what the module says of a def -/
structure Def (K : PySem.W.Frag) (mg : Str → Option Value) (nm : Str) (st : Stmt) (ps : List Str) : Prop where
  ex : ∃ f fd, mg nm = some (.ref f) ∧ Fun K nm nm st f fd ∧ Binds K fd ps []
section
variable {P : Program} {w : World} {K : PySem.W.Frag} {mg : Str → Option Value} {base : Heap} {nm : Str} {st : Stmt} {N ps : List Str} {k : Nat} {sp : Sp}
theorem cal_mk (D : Def K mg nm st ps) (S : FnScope N ps (defScope st)) (len : ∀ vs H Q E, sp vs H Q E → vs.length = ps.length)
    (hbody : ∀ (f : Addr) (cdv : Value) (A : Around) (outer : List Env) (s : Shared) (H : Hp) (vs : List V) (Q : VK) (E : XK), RoomG k (A.deeper (envOfC nm (defScope st) s.heap.objs.size f cdv)) → sp vs H Q E →
      ∃ t, PSs (cxOf CX0 P w K mg base N nm (defScope st) f cdv A outer s H E).nox (defBody st) t ∧ t { nx := fun _ H' => Q .non H', rt := Q } (start N vs) H) : Cal P w K mg base nm ps (k + 1) sp := by
  obtain ⟨f, fd, g, F, b⟩ := D.ex
  obtain ⟨oc, od, kV, doc, pm, an, cdv, ct, osl, e, lk, hcd⟩ := F.ex
  exact ⟨f, fd, g, F.kp, b, F.okG S len (hbody f), oc, od, osl, lk⟩
theorem len_D {f : List PyData → PyData → Prop} {n : Nat} (h : ∀ ds d, f ds d → ds.length = n) : ∀ vs H Q E, spD K f vs H Q E → vs.length = n := fun _ _ _ _ ⟨_, _, _, _, hv, hf, _⟩ => (dps_len hv).trans (h _ _ hf)
theorem len_N {f : List PyData → List PyData → Prop} {n : Nat} (h : ∀ ds d, f ds d → ds.length = n) : ∀ vs H Q E, spN K f vs H Q E → vs.length = n := fun _ _ _ _ ⟨_, _, _, _, hv, hf, _⟩ => (dps_len hv).trans (h _ _ hf)
end
section
variable {X : Cx} {x : Str} {p pos : Pos} {e : Expr} {es : List Expr} {t : TA} {k j : Nat} {ps : List Str} {sp : Sp}
theorem pe_callC (C : Cal X.prog X.w X.K X.mg X.base x ps k sp) (hr : RoomG j X.A) (ha : PA X (e :: es) t) (hg : Gl X x := by rfl) (hj : k ≤ j := by decide) (hdb : (x == ("__debug__" : Str)) = false := by decide)
    (he : starEach (e :: es) X.env = (false, eval e X.env) :: starEach es X.env := by rfl) (hpl : (backTo pos (starEach es X.env)).any (·.1) = false := by rfl) : PE X (.Call (.Name x p) (e :: es) [] pos) (tCall sp [] E0 t) := by
  obtain ⟨f, fd, g, kp, b, G, _⟩ := C.ex
  exact pe_callG G (hr.mono hj) hg g kp b .nil pass0 ha hdb he hpl
end
section
variable {K : PySem.W.Frag} {σ : L2.St} {F : Hp} {te ta tb : TE} {d a b : PyData} {tt tu : TT} {p q : Bool}
/-! ### tests whose first part decides -/
theorem et_orT (h : EtD tt σ F true) : EtD (tOr tt tu) σ F true := et_or (q := true) h fun z => nomatch z
theorem et_orF (h : EtD tt σ F false) (h2 : EtD tu σ F q) : EtD (tOr tt tu) σ F q := et_or h fun _ => h2
theorem et_andF (h : EtD tt σ F false) : EtD (tAnd tt tu) σ F false := et_and (q := false) h fun z => nomatch z
theorem et_andT (h : EtD tt σ F true) (h2 : EtD tu σ F q) : EtD (tAnd tt tu) σ F q := et_and h fun _ => h2
theorem ev_orT (h : EvD K ta σ F (.bool true)) : EvD K (tOrV ta tb) σ F (.bool true) := ev_orV (q := true) h fun z => nomatch z
theorem ev_orF (h : EvD K ta σ F (.bool false)) (h2 : EvD K tb σ F (.bool q)) : EvD K (tOrV ta tb) σ F (.bool q) := ev_orV h fun _ => h2
theorem ev_andF (h : EvD K ta σ F (.bool false)) : EvD K (tAndV ta tb) σ F (.bool false) := ev_andV (q := false) h fun z => nomatch z
theorem ev_andT (h : EvD K ta σ F (.bool true)) (h2 : EvD K tb σ F (.bool q)) : EvD K (tAndV ta tb) σ F (.bool q) := ev_andV h fun _ => h2
theorem ev_ifT (h : EtD tt σ F true) (h1 : EvD K ta σ F d) : EvD K (tIf tt ta tb) σ F d := ev_if h (fun _ => h1) fun z => nomatch z
theorem ev_ifF (h : EtD tt σ F false) (h1 : EvD K tb σ F d) : EvD K (tIf tt ta tb) σ F d := ev_if h (fun z => nomatch z) fun _ => h1
theorem s_ifT {ts tw : TS} {D : Ends} {H : Hp} (h : EtD tt σ F true) (e : Ex F H) (k : ∀ F' H', Gr F H F' H' → ts D σ H') : tIfS tt ts tw D σ H := s_if h e (fun _ => k) fun z => nomatch z
theorem s_ifF {ts tw : TS} {D : Ends} {H : Hp} (h : EtD tt σ F false) (e : Ex F H) (k : ∀ F' H', Gr F H F' H' → tw D σ H') : tIfS tt ts tw D σ H := s_if h e (fun z => nomatch z) fun _ => k
theorem et_notT (h : EtD tt σ F true) : EtD (tNot tt) σ F false := et_not h
theorem et_notF (h : EtD tt σ F false) : EtD (tNot tt) σ F true := et_not h
theorem et_v (h : EvD K te σ F d) (e : d = .bool p) : EtD (tTest te) σ F p := et_test (by rw [← e]; exact h)
theorem one {vs : List V} {a : PyData} (h : DpAll K F vs [a]) : ∃ x, vs = [x] ∧ Dp K F x a := by
  cases h with
  | cons h1 h =>
  cases h
  exact ⟨_, rfl, h1⟩
theorem two {vs : List V} {a b : PyData} (h : DpAll K F vs [a, b]) : ∃ x y, vs = [x, y] ∧ Dp K F x a ∧ Dp K F y b := by
  cases h with
  | cons h1 h =>
  cases h with
  | cons h2 h =>
  cases h
  exact ⟨_, _, rfl, h1, h2⟩
theorem three {vs : List V} {a b c : PyData} (h : DpAll K F vs [a, b, c]) : ∃ x y z, vs = [x, y, z] ∧ Dp K F x a ∧ Dp K F y b ∧ Dp K F z c := by
  cases h with
  | cons h1 h =>
  obtain ⟨x, y, rfl, h2, h3⟩ := two h
  exact ⟨_, _, _, rfl, h1, h2, h3⟩
end
end Dv

set_option Elab.async false
set_option linter.all false
set_option maxRecDepth 100000
set_option maxHeartbeats 4000000
namespace R3
open PySem PySem.Spec PyProof.Rows L2 Dv
def top (i : Nat) : Stmt := PySem.Challenge.pw_wholemills_k11_rows_led.main.body.getD i (.Pass ⟨0, 0, 0, 0⟩)
abbrev sWall : Stmt := top 0
abbrev sIsWhole : Stmt := top 13
abbrev sIsName : Stmt := top 14
abbrev sCommonDivisor : Stmt := top 15
abbrev sFraction : Stmt := top 16
abbrev sIsFraction : Stmt := top 17
abbrev sIsAmount : Stmt := top 18
abbrev sPlus : Stmt := top 19
abbrev sMinus : Stmt := top 20
abbrev sScaled : Stmt := top 21
abbrev sBelow : Stmt := top 22
abbrev sLesser : Stmt := top 23
abbrev sGreater : Stmt := top 24
abbrev sCheckSize : Stmt := top 30
abbrev sIsNumber : Stmt := top 31
abbrev sIsStuff : Stmt := top 32
abbrev sAreParts : Stmt := top 33
abbrev sIsRecipe : Stmt := top 34
abbrev sCheckMill : Stmt := top 35
abbrev sAreHoldings : Stmt := top 36
abbrev sCheckHoldings : Stmt := top 37
abbrev sNumbersOf : Stmt := top 38
abbrev sIsStep : Stmt := top 41
abbrev sIsBlock : Stmt := top 42
abbrev sAreBlocks : Stmt := top 43
abbrev sMoved : Stmt := top 44
abbrev sWalked : Stmt := top 46
abbrev sCheckRow : Stmt := top 47
abbrev sLed : Stmt := top 48
abbrev sIsRow : Stmt := top 49
abbrev sDone : Stmt := top 50
abbrev sNarrows : Stmt := top 51
abbrev sLawCaughtRow : Stmt := top 53
abbrev sLawCommon : Stmt := top 54
abbrev sLawPart : Stmt := top 55
abbrev sLawHash : Stmt := top 56
abbrev sLawRandom : Stmt := top 57
abbrev sLawAmountDrawn : Stmt := top 58
abbrev sLawLess : Stmt := top 59
abbrev sLawHeldDrawn : Stmt := top 60
abbrev sLawPartsDrawn : Stmt := top 61
abbrev sLawMillDrawn : Stmt := top 62
abbrev sLawCell : Stmt := top 63
abbrev sLawGenerator : Stmt := top 64
abbrev sLawNumberOf : Stmt := top 65
abbrev sLawBy : Stmt := top 66
abbrev sLawPlus : Stmt := top 67
abbrev sLawStepped : Stmt := top 68
abbrev sLawRowDrawn : Stmt := top 69
abbrev sLawGone : Stmt := top 70
abbrev sLawRight : Stmt := top 71
abbrev sLawNone : Stmt := top 72
abbrev sLaw : Stmt := top 73
/-- the built-in names that the module does not hold -/
structure Bl (mg : Str → Option Value) : Prop where
  int : mg "int" = none
  bool : mg "bool" = none
  str : mg "str" = none
  list : mg "list" = none
  tuple : mg "tuple" = none
  dict : mg "dict" = none
  len : mg "len" = none
  range : mg "range" = none
  sum : mg "sum" = none
  max : mg "max" = none
  abs : mg "abs" = none
  isi : mg "isinstance" = none
  repr : mg "repr" = none
  zip : mg "zip" = none
  enum : mg "enumerate" = none
section
variable {P : Program} {w : World} {K : PySem.W.Frag} {mg : Str → Option Value} {base : Heap}
/-! ### common_divisor, fraction -/
def spGcd : Sp := fun vs H Q _ => ∃ a b : Nat, vs = [.int a, .int b] ∧ Q (.int (Nat.gcd a b : Nat)) H
theorem sc_common_divisor : FnScope (["one", "other"] : List Str) (["one", "other"] : List Str) (defScope sCommonDivisor) := ⟨rfl, rfl, rfl, by decide +kernel, rfl, by decide +kernel, by decide +kernel⟩
theorem ok_common_divisor (D : Def K mg "common_divisor" sCommonDivisor ["one", "other"]) : Cal P w K mg base "common_divisor" ["one", "other"] 1 spGcd := by
  refine cal_mk D sc_common_divisor (fun vs H Q E h => ?_) (fun f cdv A outer s H vs Q E hr h => ?_)
  · obtain ⟨a, b, rfl, _⟩ := h
    rfl
  · obtain ⟨a, b, rfl, q⟩ := h
    refine ⟨_, (pss_cons (ps_while PassesOwn.never (pt_cmpR op_ne (pv 1) pe_int (nomark _)) (pss_one (ps_par (i := 0) (j := 1) (by rfl) sc_common_divisor.nd rfl rfl (by decide) rfl rfl (pa_cons (pv 1) (pa_cons (pe_op op_mod (pv 0) (pv 1)) pa_nil)) (by rfl))))
      (pss_one (ps_ret (pv 0)))), ?_⟩
    refine ⟨fun m σ H' => ∃ x y : Nat, σ = [some (.int x), some (.int y)] ∧ Nat.gcd x y = Nat.gcd a b ∧ m = y ∧ H' = H, ⟨b, a, b, rfl, rfl, rfl, rfl⟩, ?_⟩
    rintro m σ H' ⟨x, y, rfl, hg, rfl, rfl⟩
    refine ⟨_, rfl, rfl, _, rfl, ?_⟩
    have e : (!decide (V.int (m : Int) = V.int 0)) = decide (m ≠ 0) := by
      rw [dec_int, Bool.eq_iff_iff]
      simp
    rw [e]
    by_cases h0 : m = 0
    · subst h0
      rw [decide_eq_false (by simp)]
      refine iteF ?_
      refine ⟨_, rfl, ?_⟩
      rw [← hg, Nat.gcd_zero_right] at q
      exact q
    · rw [decide_eq_true h0]
      refine iteT ?_
      refine ⟨fun σ' H2 => ∃ x' y' : Nat, σ' = [some (.int x'), some (.int y')] ∧ Nat.gcd x' y' = Nat.gcd a b ∧ y' < m ∧ H2 = H', ?_, ?_⟩
      · rintro σ' H2 ⟨x', y', h1, h2, h3, h4⟩
        exact ⟨y', h3, x', y', h1, h2, rfl, h4⟩
      · refine ⟨_, rfl, _, rfl, _, rfl, _, _, rfl, rfl, (by omega), _, _, rfl, m, x % m, ?_, ?_, Nat.mod_lt _ (by omega), rfl⟩
        · rfl
        · rw [Nat.gcd_comm m, ← Nat.gcd_rec, Nat.gcd_comm m x, hg]
theorem ev_gcd {σ : L2.St} {F : Hp} {ta tb : TE} {i j : Int} {E : XK} (hi : 0 ≤ i) (hj : 0 ≤ j) (ha : EvD K ta σ F (.int i)) (hb : EvD K tb σ F (.int j)) : EvD K (tCall spGcd [] E (tCons ta (tCons tb tNil))) σ F (.int (Nat.gcd i.natAbs j.natAbs : Nat)) :=
  ev_call (Dv.ea_cons ha (Dv.ea_cons hb Dv.ea_nil)) fun vs F1 H1 _ e1 hv Q q => by
    cases hv with
    | cons h1 hv =>
    cases hv with
    | cons h2 hv =>
    cases hv
    cases h1
    cases h2
    refine ⟨i.natAbs, j.natAbs, ?_, q _ F1 H1 (Gr.refl e1) (.int _)⟩
    rw [show ((i.natAbs : Nat) : Int) = i by omega, show ((j.natAbs : Nat) : Int) = j by omega] <;> rfl
/-- top over under, in least terms -/
def frac (t : Int) (u : Int) : Int × Int := (t / (Nat.gcd t.natAbs u.natAbs : Int), u / (Nat.gcd t.natAbs u.natAbs : Int))
def encF (x : Int × Int) : PyData := .tuple [.int x.1, .int x.2]
def fFrac : List PyData → PyData → Prop := fun ds d => ∃ t u : Int, ds = [.int t, .int u] ∧ 0 < u ∧ u < 1073741824 ∧ d = encF (frac t u)
theorem two {F : Hp} {vs : List V} {a b : PyData} (h : DpAll K F vs [a, b]) : ∃ x y, vs = [x, y] ∧ Dp K F x a ∧ Dp K F y b := by
  cases h with
  | cons h1 h =>
  cases h with
  | cons h2 h =>
  cases h
  exact ⟨_, _, rfl, h1, h2⟩
theorem one {F : Hp} {vs : List V} {a : PyData} (h : DpAll K F vs [a]) : ∃ x, vs = [x] ∧ Dp K F x a := by
  cases h with
  | cons h1 h =>
  cases h
  exact ⟨_, rfl, h1⟩
theorem sc_fraction : FnScope (["top", "under", "common"] : List Str) (["top", "under"] : List Str) (defScope sFraction) := ⟨rfl, rfl, rfl, by decide +kernel, rfl, by decide +kernel, by decide +kernel⟩
theorem ok_fraction (D : Def K mg "fraction" sFraction ["top", "under"]) (B : Bl mg) (C_common_divisor : Cal P w K mg base "common_divisor" ["one", "other"] 1 spGcd) : Cal P w K mg base "fraction" ["top", "under"] 2 (spD K fFrac) := by
  refine cal_mk D sc_fraction (len_D (by rintro _ _ ⟨t, u, rfl, _⟩; rfl)) (fun f cdv A outer s H vs Q E hr h => ?_)
  obtain ⟨F, ds, d, e, hv, ⟨t, u, rfl, hu, hu2, rfl⟩, q⟩ := h
  obtain ⟨x, y, rfl, h1, h2⟩ := two hv
  refine ⟨_, (pss_cons (ps_set (i := 2) sc_fraction.nd rfl (.inl rfl) (pe_callC C_common_divisor hr (pa_cons (pe_callB call_abs (by rfl) B.abs (by decide +kernel) (pa_cons (pv 0) pa_nil)) (pa_cons (pv 1) pa_nil))))
      (pss_one (ps_ret (pe_tup (pa_cons (pe_op op_fdiv (pv 0) (pv 2)) (pa_cons (pe_op op_fdiv (pv 1) (pv 2)) pa_nil)))))), ?_⟩
  have hg : 0 < Nat.gcd t.natAbs u.natAbs := Nat.gcd_pos_of_pos_right _ (by omega)
  have hg2 : Nat.gcd t.natAbs u.natAbs ≤ u.natAbs := Nat.gcd_le_right _ (by omega)
  refine Dv.s_asg (K := K) (F := F) (d := .int (Nat.gcd t.natAbs u.natAbs : Nat)) (Dv.ev_is (ev_gcd (by omega) (by omega) (ev_abs (Dv.ev_var rfl h1)) (Dv.ev_var rfl h2)) (by simp)) e ?_
  intro v F1 H1 g1 hv
  refine Dv.s_ret (K := K) (d := encF (frac t u)) (Dv.ev_tup (Dv.ea_cons (Dv.ev_I ⟨by omega, by omega⟩ (fun _ => .int _) (Dv.ev_var rfl (dp_ex g1.fx h1)) (Dv.ev_var rfl hv)) (Dv.ea_cons (Dv.ev_I ⟨by omega, by omega⟩ (fun _ => .int _) (Dv.ev_var rfl (dp_ex g1.fx h2)) (Dv.ev_var rfl hv)) Dv.ea_nil)) (by simp)) g1.fh ?_
  intro v F2 H2 g2 hv
  exact q v F2 H2 (g1.trans g2) hv
/-! ### plus, scaled -/
def fplus (x y : Int × Int) : Int × Int := frac (x.1 * y.2 + y.1 * x.2) (x.2 * y.2)
def fscaled (x : Int × Int) (n : Int) : Int × Int := frac (x.1 * n) x.2
/-- a fraction whose numbers are small -/
def Sm (x : Int × Int) : Prop := 0 < x.2 ∧ x.2 < 32768 ∧ -1000000000000 < x.1 ∧ x.1 < 1000000000000
def fPlus : List PyData → PyData → Prop := fun ds d => ∃ x y : Int × Int, ds = [encF x, encF y] ∧ Sm x ∧ Sm y ∧ d = encF (fplus x y)
theorem sc_plus : FnScope (["one", "other"] : List Str) (["one", "other"] : List Str) (defScope sPlus) := ⟨rfl, rfl, rfl, by decide +kernel, rfl, by decide +kernel, by decide +kernel⟩
theorem ok_plus (D : Def K mg "plus" sPlus ["one", "other"]) (C_fraction : Cal P w K mg base "fraction" ["top", "under"] 2 (spD K fFrac)) : Cal P w K mg base "plus" ["one", "other"] 3 (spD K fPlus) := by
  refine cal_mk D sc_plus (len_D (by rintro _ _ ⟨t, u, rfl, _⟩; rfl)) (fun f cdv A outer s H vs Q E hr h => ?_)
  obtain ⟨F, ds, d, e, hv, ⟨⟨a, b⟩, ⟨c, d⟩, rfl, ⟨s1, s2, s3, s4⟩, ⟨t1, t2, t3, t4⟩, rfl⟩, q⟩ := h
  obtain ⟨x, y, rfl, h1, h2⟩ := two hv
  dsimp only at s1 s2 s3 s4 t1 t2 t3 t4
  refine ⟨_, (pss_one (ps_ret (pe_callC C_fraction hr (pa_cons (pe_op op_add (pe_op op_mul (pe_ix ix_tup (pv 0) pe_int (fun _ _ => rfl)) (pe_ix ix_tup (pv 1) pe_int (fun _ _ => rfl))) (pe_op op_mul (pe_ix ix_tup (pv 1) pe_int (fun _ _ => rfl)) (pe_ix ix_tup (pv 0) pe_int (fun _ _ => rfl)))) (pa_cons (pe_op op_mul (pe_ix ix_tup (pv 0) pe_int (fun _ _ => rfl)) (pe_ix ix_tup (pv 1) pe_int (fun _ _ => rfl))) pa_nil))))), ?_⟩
  have p1 : 0 < b * d := Int.mul_pos s1 t1
  have p2 : b * d < 1073741824 := by
    have : b * d ≤ 32767 * 32767 := Int.mul_le_mul (by omega) (by omega) (by omega) (by omega)
    omega
  have o0 := Dv.ev_ixT (K := K) (F := F) (σ := [some x, some y]) (i := 0) (d := .int a) (Dv.ev_var (i := 0) rfl h1) (Dv.ev_int 0) rfl
  have o1 := Dv.ev_ixT (K := K) (F := F) (σ := [some x, some y]) (i := 1) (d := .int b) (Dv.ev_var (i := 0) rfl h1) (Dv.ev_int 1) rfl
  have t0 := Dv.ev_ixT (K := K) (F := F) (σ := [some x, some y]) (i := 0) (d := .int c) (Dv.ev_var (i := 1) rfl h2) (Dv.ev_int 0) rfl
  have u1 := Dv.ev_ixT (K := K) (F := F) (σ := [some x, some y]) (i := 1) (d := .int d) (Dv.ev_var (i := 1) rfl h2) (Dv.ev_int 1) rfl
  refine Dv.s_ret (K := K) (d := encF (fplus (a, b) (c, d))) (ev_callD (Dv.ea_cons (Dv.ev_I0 (fun _ => .int _) (Dv.ev_I (.inl ⟨by omega, by omega⟩) (fun _ => .int _) o0 u1) (Dv.ev_I (.inl ⟨by omega, by omega⟩) (fun _ => .int _) t0 o1))
    (Dv.ea_cons (Dv.ev_I (.inl ⟨by omega, by omega⟩) (fun _ => .int _) o1 u1) Dv.ea_nil)) ⟨_, _, rfl, p1, p2, rfl⟩) e ?_
  exact fun v F2 H2 g2 hv => q v F2 H2 g2 hv
end
end R3

set_option Elab.async false
set_option linter.all false
set_option maxRecDepth 100000
set_option maxHeartbeats 4000000
namespace R3
open PySem PySem.Spec PyProof.Rows L2 Dv
section
variable {P : Program} {w : World} {K : PySem.W.Frag} {mg : Str → Option Value} {base : Heap}
theorem one_times {n : Int} (x : Int × Int) : True := trivial
def fScaled : List PyData → PyData → Prop := fun ds d => ∃ (x : Int × Int) (n : Int), ds = [encF x, .int n] ∧ 0 < x.2 ∧ x.2 < 1073741824 ∧ (-1000000000000 < n ∧ n < 1000000000000) ∧ d = encF (fscaled x n)
theorem sc_scaled : FnScope (["one", "number"] : List Str) (["one", "number"] : List Str) (defScope sScaled) := ⟨rfl, rfl, rfl, by decide +kernel, rfl, by decide +kernel, by decide +kernel⟩
theorem ok_scaled (D : Def K mg "scaled" sScaled ["one", "number"]) (C_fraction : Cal P w K mg base "fraction" ["top", "under"] 2 (spD K fFrac)) : Cal P w K mg base "scaled" ["one", "number"] 3 (spD K fScaled) := by
  refine cal_mk D sc_scaled (len_D (by rintro _ _ ⟨t, u, rfl, _⟩; rfl)) (fun f cdv A outer s H vs Q E hr h => ?_)
  obtain ⟨F, ds, d, e, hv, ⟨⟨a, b⟩, n, rfl, s1, s2, ⟨s3, s4⟩, rfl⟩, q⟩ := h
  obtain ⟨x, y, rfl, h1, h2⟩ := Dv.two hv
  dsimp only at s1 s2
  refine ⟨_, (pss_one (ps_ret (pe_callC C_fraction hr (pa_cons (pe_op op_mul (pe_ix ix_tup (pv 0) pe_int (fun _ _ => rfl)) (pv 1)) (pa_cons (pe_ix ix_tup (pv 0) pe_int (fun _ _ => rfl)) pa_nil))))), ?_⟩
  refine Dv.s_ret (K := K) (d := encF (fscaled (a, b) n)) (ev_callD (Dv.ea_cons (Dv.ev_I (.inr ⟨by omega, by omega⟩) (fun _ => .int _) (Dv.ev_ixT (d := .int a) (Dv.ev_var rfl h1) (Dv.ev_int 0) rfl) (Dv.ev_var rfl h2)) (Dv.ea_cons (Dv.ev_ixT (d := .int b) (Dv.ev_var rfl h1) (Dv.ev_int 1) rfl) Dv.ea_nil)) ⟨_, _, rfl, s1, s2, rfl⟩) e ?_
  exact fun v F2 H2 g2 hv => q v F2 H2 g2 hv
/-! ### is_whole, is_fraction, is_amount -/
def isWhole (d : PyData) : Bool := isD d "int" && !isD d "bool"
def fWhole : List PyData → PyData → Prop := fun ds d => ∃ x, ds = [x] ∧ d = .bool (isWhole x)
theorem sc_is_whole : FnScope (["value"] : List Str) (["value"] : List Str) (defScope sIsWhole) := ⟨rfl, rfl, rfl, by decide +kernel, rfl, by decide +kernel, by decide +kernel⟩
theorem ok_is_whole (D : Def K mg "is_whole" sIsWhole ["value"]) (B : Bl mg) : Cal P w K mg base "is_whole" ["value"] 1 (spD K fWhole) := by
  refine cal_mk D sc_is_whole (len_D (by rintro _ _ ⟨t, rfl, _⟩; rfl)) (fun f cdv A outer s H vs Q E hr h => ?_)
  obtain ⟨F, ds, d, e, hv, ⟨d, rfl, rfl⟩, q⟩ := h
  obtain ⟨x, rfl, h1⟩ := Dv.one hv
  refine ⟨_, (pss_one (ps_ret (pe_and (pe_callB call_isi (by rfl) B.isi (by decide +kernel) (pa_cons (pv 0) (pa_cons (pe_bltn (v := .ty "int") (by rfl) B.int (by decide +kernel) rfl) pa_nil))) (pe_one (pe_not (pe_callB call_isi (by rfl) B.isi (by decide +kernel) (pa_cons (pv 0) (pa_cons (pe_bltn (v := .ty "bool") (by rfl) B.bool (by decide +kernel) rfl) pa_nil)))))))), ?_⟩
  exact Dv.s_ret (K := K) (d := .bool (isWhole d)) (Dv.ev_andV (ev_isi (Dv.ev_var rfl h1) (by decide)) fun _ => Dv.ev_notV (ev_isi (Dv.ev_var rfl h1) (by decide))) e fun v F2 H2 g2 hv => q v F2 H2 g2 hv
theorem whole_int {d : PyData} (h : isWhole d = true) : ∃ i, d = .int i := by
  cases d <;> first | exact ⟨_, rfl⟩ | (simp [isWhole, isD, tyD] at h)
/-- a fraction in least terms -/
def isFrac : PyData → Bool
  | .tuple [.int a, .int b] => decide (1 ≤ b) && (Nat.gcd a.natAbs b.natAbs == 1)
  | _ => false
def fIsFrac : List PyData → PyData → Prop := fun ds d => ∃ x, ds = [x] ∧ (∀ es, x = .tuple es → es.length ≤ 100000) ∧ d = .bool (isFrac x)
theorem sc_is_fraction : FnScope (["value"] : List Str) (["value"] : List Str) (defScope sIsFraction) := ⟨rfl, rfl, rfl, by decide +kernel, rfl, by decide +kernel, by decide +kernel⟩
theorem ok_is_fraction (D : Def K mg "is_fraction" sIsFraction ["value"]) (B : Bl mg) (C_common_divisor : Cal P w K mg base "common_divisor" ["one", "other"] 1 spGcd) (C_is_whole : Cal P w K mg base "is_whole" ["value"] 1 (spD K fWhole)) :
    Cal P w K mg base "is_fraction" ["value"] 2 (spD K fIsFrac) := by
  refine cal_mk D sc_is_fraction (len_D (by rintro _ _ ⟨t, rfl, _⟩; rfl)) (fun f cdv A outer s H vs Q E hr h => ?_)
  obtain ⟨F, ds, d, e, hv, ⟨d, rfl, hsz, rfl⟩, q⟩ := h
  obtain ⟨x, rfl, h1⟩ := Dv.one hv
  refine ⟨_, (pss_cons (ps_if (PW.pt (pw_or (pt_not (pt_val (pe_callB call_isi (by rfl) B.isi (by decide +kernel) (pa_cons (pv 0) (pa_cons (pe_bltn (v := .ty "tuple") (by rfl) B.tuple (by decide +kernel) rfl) pa_nil))))) (pw_or (pt_cmpR op_ne (pe_callB call_len (by rfl) B.len (by decide +kernel) (pa_cons (pv 0) pa_nil)) pe_int (nomark _)) (pw_or (pt_not (pt_val (pe_callC C_is_whole hr (pa_cons (pe_ix ix_tup (pv 0) pe_int (fun _ _ => rfl)) pa_nil)))) (pw_or1 (pt_not (pt_val (pe_callC C_is_whole hr (pa_cons (pe_ix ix_tup (pv 0) pe_int (fun _ _ => rfl)) pa_nil))))))))) (pss_one (ps_ret pe_bl)) pss_nil)
      (pss_one (ps_ret (pe_and (pe_cmpR op_ge (pe_ix ix_tup (pv 0) pe_int (fun _ _ => rfl)) pe_int (nomark _)) (pe_one (pe_cmpR op_eq (pe_callC C_common_divisor hr (pa_cons (pe_callB call_abs (by rfl) B.abs (by decide +kernel) (pa_cons (pe_ix ix_tup (pv 0) pe_int (fun _ _ => rfl)) pa_nil)) (pa_cons (pe_ix ix_tup (pv 0) pe_int (fun _ _ => rfl)) pa_nil))) pe_int (nomark _))))))), ?_⟩
  have no : isFrac d = false → ∀ F1 H1, Gr F H F1 H1 → Q (.bl false) H1 := fun h F1 H1 g => q _ F1 H1 g (by rw [h]; exact .bl false)
  have vx := Dv.ev_var (σ := [some x]) (i := 0) rfl h1
  by_cases ht : ∃ es, d = .tuple es
  · obtain ⟨es, rfl⟩ := ht
    have hl := hsz es rfl
    have tT := et_notT (Dv.et_test (ev_isi (T := "tuple") vx (by decide)))
    by_cases h2 : es.length = 2
    · match es, h2 with
      | [a, b], _ =>
        have ln := et_v (p := false) (Dv.ev_neI (ev_len vx rfl (by simp)) (Dv.ev_int 2)) rfl
        have va := Dv.ev_ixT (d := a) vx (Dv.ev_int 0) rfl
        have vb := Dv.ev_ixT (d := b) vx (Dv.ev_int 1) rfl
        by_cases ha : isWhole a = true
        · by_cases hb : isWhole b = true
          · obtain ⟨i, rfl⟩ := whole_int ha
            obtain ⟨j, rfl⟩ := whole_int hb
            refine s_ifF (et_orF tT (et_orF ln (et_orF (et_notT (et_v (ev_callD (Dv.ea_cons va Dv.ea_nil) ⟨_, rfl, rfl⟩) rfl)) (et_notT (et_v (ev_callD (Dv.ea_cons vb Dv.ea_nil) ⟨_, rfl, rfl⟩) rfl))))) e fun F1 H1 g1 => ?_
            have vb' := vb.mono g1.fx
            have va' := va.mono g1.fx
            by_cases hj : 1 ≤ j
            · exact Dv.s_ret (K := K) (d := .bool (isFrac (.tuple [.int i, .int j]))) (Dv.ev_andV (Dv.ev_I0 (k := .bool (decide (1 ≤ j))) (fun _ => .bl _) vb' (Dv.ev_int 1)) fun _ => Dv.ev_is (Dv.ev_eqI (ev_gcd (by omega) (by omega) (ev_abs va') vb') (Dv.ev_int 1)) (by
                congr 1
                rw [Bool.eq_iff_iff]
                simp
                omega)) g1.fh fun v F2 H2 g2 hv => q v F2 H2 (g1.trans g2) hv
            · have e0 : isFrac (.tuple [.int i, .int j]) = false := by simp [isFrac, hj]
              exact Dv.s_ret (K := K) (d := .bool false) (ev_andF (Dv.ev_is (Dv.ev_I0 (k := .bool (decide (1 ≤ j))) (fun _ => .bl _) vb' (Dv.ev_int 1)) (by rw [decide_eq_false hj]))) g1.fh fun v F2 H2 g2 hv => q v F2 H2 (g1.trans g2) (by rw [e0]; exact hv)
          · have hb : isWhole b = false := by simpa using hb
            have e0 : isFrac (.tuple [a, b]) = false := by
              cases a <;> cases b <;> first | rfl | (exfalso; revert hb; decide) | (exfalso; revert hb; simp [isWhole, isD, tyD])
            exact s_ifT (et_orF tT (et_orF ln (et_orF (et_notT (et_v (ev_callD (Dv.ea_cons va Dv.ea_nil) ⟨_, rfl, rfl⟩) (by rw [ha]))) (et_notF (et_v (ev_callD (Dv.ea_cons vb Dv.ea_nil) ⟨_, rfl, rfl⟩) (by rw [hb])))))) e fun F1 H1 g1 => no e0 F1 H1 g1
        · have ha : isWhole a = false := by simpa using ha
          have e0 : isFrac (.tuple [a, b]) = false := by
            cases a <;> cases b <;> first | rfl | (exfalso; revert ha; decide) | (exfalso; revert ha; simp [isWhole, isD, tyD])
          exact s_ifT (et_orF tT (et_orF ln (et_orT (et_notF (et_v (ev_callD (Dv.ea_cons va Dv.ea_nil) ⟨_, rfl, rfl⟩) (by rw [ha])))))) e fun F1 H1 g1 => no e0 F1 H1 g1
    · have e0 : isFrac (.tuple es) = false := by
        unfold isFrac
        split
        · rename_i q
          cases q
          exact absurd rfl h2
        · rfl
      exact s_ifT (et_orF tT (et_orT (et_v (Dv.ev_neI (ev_len vx rfl hl) (Dv.ev_int 2)) (by
        congr 1
        simp only [bne_iff_ne, ne_eq]
        omega)))) e fun F1 H1 g1 => no e0 F1 H1 g1
  · have e0 : isFrac d = false := by
      unfold isFrac
      split
      · exact absurd ⟨_, rfl⟩ ht
      · rfl
    have e1 : isD d "tuple" = false := by
      cases d <;> first | rfl | exact absurd ⟨_, rfl⟩ ht
    exact s_ifT (et_orT (et_notF (et_v (ev_isi (T := "tuple") vx (by decide)) (by rw [e1])))) e fun F1 H1 g1 => no e0 F1 H1 g1
def isAmt (d : PyData) : Bool := isFrac d && (match d with | .tuple (.int a :: _) => decide (0 ≤ a) | _ => false)
def fIsAmt : List PyData → PyData → Prop := fun ds d => ∃ x, ds = [x] ∧ (∀ es, x = .tuple es → es.length ≤ 100000) ∧ d = .bool (isAmt x)
theorem frac_shape {d : PyData} (h : isFrac d = true) : ∃ a b : Int, d = .tuple [.int a, .int b] ∧ 1 ≤ b := by
  unfold isFrac at h
  split at h
  · rename_i a b
    rw [Bool.and_eq_true] at h
    exact ⟨a, b, rfl, of_decide_eq_true h.1⟩
  · cases h
theorem sc_is_amount : FnScope (["value"] : List Str) (["value"] : List Str) (defScope sIsAmount) := ⟨rfl, rfl, rfl, by decide +kernel, rfl, by decide +kernel, by decide +kernel⟩
theorem ok_is_amount (D : Def K mg "is_amount" sIsAmount ["value"]) (C_is_fraction : Cal P w K mg base "is_fraction" ["value"] 2 (spD K fIsFrac)) : Cal P w K mg base "is_amount" ["value"] 3 (spD K fIsAmt) := by
  refine cal_mk D sc_is_amount (len_D (by rintro _ _ ⟨t, rfl, _⟩; rfl)) (fun f cdv A outer s H vs Q E hr h => ?_)
  obtain ⟨F, ds, d, e, hv, ⟨d, rfl, hsz, rfl⟩, q⟩ := h
  obtain ⟨x, rfl, h1⟩ := Dv.one hv
  refine ⟨_, (pss_one (ps_ret (pe_and (pe_callC C_is_fraction hr (pa_cons (pv 0) pa_nil)) (pe_one (pe_cmpR op_ge (pe_ix ix_tup (pv 0) pe_int (fun _ _ => rfl)) pe_int (nomark _)))))), ?_⟩
  refine Dv.s_ret (K := K) (d := .bool (isAmt d)) (Dv.ev_andV (ev_callD (Dv.ea_cons (Dv.ev_var rfl h1) Dv.ea_nil) ⟨_, rfl, hsz, rfl⟩) fun hf => ?_) e fun v F2 H2 g2 hv => q v F2 H2 g2 hv
  obtain ⟨a, b, rfl, _⟩ := frac_shape hf
  exact Dv.ev_I0 (fun _ => .bl _) (Dv.ev_ixT (d := .int a) (Dv.ev_var rfl h1) (Dv.ev_int 0) rfl) (Dv.ev_int 0)
end
end R3

set_option Elab.async false
set_option linter.all false
set_option maxRecDepth 100000
set_option maxHeartbeats 4000000
namespace Dv
open PySem L2 Evl
section
variable {K : PySem.W.Frag} {σ : L2.St} {F F1 H H1 : Hp} {te ta tb tc : TE} {d a b : PyData} {ds es : List PyData} {i j k : Int} {p q : Bool}
/-- a <= b <= c -/
theorem ev_chI {f g : Int → Int → Bool} (ha : EvD K ta σ F (.int i)) (hb : EvD K tb σ F (.int j)) (hc : EvD K tc σ F (.int k)) : EvD K (tChain (rI0 fun i j => .bl (f i j)) (rI0 fun i j => .bl (g i j)) ta tb tc) σ F (.bool (f i j && g j k)) := fun H e Q q =>
  ha H e _ fun v F1 H1 g1 hv => (hb.mono g1.fx) H1 g1.fh _ fun u F2 H2 g2 hu => by
    cases hv
    cases hu
    refine ⟨i, j, rfl, rfl, f i j, rfl, ?_⟩
    cases hf : f i j with
    | true =>
      show tc σ H2 _
      refine (hc.mono (g1.fx.trans g2.fx)) H2 g2.fh _ fun w F3 H3 g3 hw => ?_
      cases hw
      exact ⟨j, k, rfl, rfl, q _ F3 H3 (g1.trans (g2.trans g3)) (by rw [hf]; exact .bl _)⟩
    | false =>
      show Q (.bl false) H2
      exact q _ F2 H2 (g1.trans g2) (by rw [hf]; exact .bl _)
theorem et_chI {f g : Int → Int → Bool} (ha : EvD K ta σ F (.int i)) (hb : EvD K tb σ F (.int j)) (hc : EvD K tc σ F (.int k)) (e : (f i j && g j k) = p) : EtD (tTest (tChain (rI0 fun i j => .bl (f i j)) (rI0 fun i j => .bl (g i j)) ta tb tc)) σ F p :=
  et_v (ev_chI ha hb hc) (by rw [e])
theorem ev_notInS {c : Nat} {x : Str} (ha : EvD K ta σ F (.str ⟨#[c]⟩)) (hb : EvD K tb σ F (.str x)) : EvD K (tOp rNotInS ta tb) σ F (.bool (!decide (c ∈ x.cps.toList))) :=
  ev_op ha hb fun v u F1 H1 _ e hv hu Q q => by
    cases hv
    cases hu
    exact ⟨c, x, rfl, rfl, q _ F1 H1 (Gr.refl e) (.bl _)⟩
theorem ev_addS {x y : Str} (hl : x.length + y.length ≤ 100000) (ha : EvD K ta σ F (.str x)) (hb : EvD K tb σ F (.str y)) : EvD K (tOp (fun x y H Q => ∃ i j, x = .str i ∧ y = .str j ∧ i.length + j.length ≤ sizeLine ∧ Q (.str (i ++ j)) H) ta tb) σ F (.str (x ++ y)) :=
  ev_op ha hb fun v u F1 H1 _ e hv hu Q q => by
    cases hv
    cases hu
    exact ⟨x, y, rfl, rfl, sz_of hl, q _ F1 H1 (Gr.refl e) (.str _)⟩
theorem it_str {x : Str} (h : EvD K te σ F (.str x)) : ItD K (iStr te) σ F (x.cps.toList.map fun c => PyData.str ⟨#[c]⟩) := fun H eH R q => h H eH _ fun v F1 H1 g1 hv => by
  cases hv
  refine ⟨x, rfl, q _ F1 H1 g1 ⟨_, _, by rw [List.length_map, Array.length_toList]; exact walk_str, fun _ _ => trivial, fun F2 i H2 v H3 hi e1 e2 y => ?_⟩⟩
  obtain ⟨rfl, c, hc, rfl⟩ := y
  refine ⟨F2, .str ⟨#[c]⟩, ?_, Gr.refl e2, .str _⟩
  rw [List.getElem?_map, Array.getElem?_toList, hc] <;> rfl
theorem lay_strs : ∀ cs : List Nat, (∀ c ∈ cs, c < 0x110000) → PyData.canLayAll0 (cs.map fun c => PyData.str ⟨#[c]⟩) = true
  | [], _ => by simp [PyData.canLayAll0]
  | c :: cs, h => by
    have h1 := lay_strs cs fun c hc => h c (List.mem_cons_of_mem _ hc)
    have h2 := h c List.mem_cons_self
    simp [PyData.canLayAll0, PyData.canLay0, h1, PyData.strOk, h2]
theorem dep_strs : ∀ cs : List Nat, PyData.depthAll (cs.map fun c => PyData.str ⟨#[c]⟩) = 0
  | [] => by simp [PyData.depthAll]
  | c :: cs => by simp [PyData.depthAll, PyData.depth, dep_strs cs]
theorem shaped_strs (cs : List Nat) (h : ∀ c ∈ cs, c < 0x110000) : SeqAt.shaped (.list (cs.map fun c => PyData.str ⟨#[c]⟩)) = true := by
  show ((PyData.list _).canLay0 && decide ((PyData.list _).depth ≤ 64)) = true
  simp [PyData.canLay0, PyData.depth, lay_strs cs h, dep_strs]
theorem shaped_nil : SeqAt.shaped (.list []) = true := by decide +kernel
theorem eqv_nil (ds : List PyData) : PyData.eqv (.list ds) (.list []) = ds.isEmpty := by
  cases ds <;> simp [PyData.eqv, PyData.eqvAll]
end
end Dv
namespace R3
open PySem PySem.Spec PyProof.Rows L2 Dv
section
variable {P : Program} {w : World} {K : PySem.W.Frag} {mg : Str → Option Value} {base : Heap}
/-- the module's own numbers and texts -/
structure Cst (mg : Str → Option Value) : Prop where
  letters : ∃ t, mg "LETTERS" = some (.str "abcdefghijklmnopqrstuvwxyz" t)
  figures : ∃ t, mg "FIGURES" = some (.str "0123456789" t)
  mostName : ∃ t, mg "MOST_NAME" = some (.int 8 t)
  mostStuffs : ∃ t, mg "MOST_STUFFS" = some (.int 8 t)
  mostRecipes : ∃ t, mg "MOST_RECIPES" = some (.int 8 t)
  mostNumber : ∃ t, mg "MOST_NUMBER" = some (.int 1000000 t)
def letters : Str := "abcdefghijklmnopqrstuvwxyz"
def figures : Str := "0123456789"
def nameS (x : Str) : Bool := decide (1 ≤ x.length) && decide (x.length ≤ 8) && (match x.cps.toList with | c :: _ => decide (c ∈ letters.cps.toList) | [] => false) && x.cps.toList.all fun c => decide (c ∈ (letters ++ figures).cps.toList)
def isName : PyData → Bool
  | .str x => nameS x
  | _ => false
def fIsName : List PyData → PyData → Prop := fun ds d => ∃ x, ds = [x] ∧ (∀ y, x = .str y → y.length ≤ 30000 ∧ PyData.strOk y = true) ∧ d = .bool (isName x)
theorem sc_is_name : FnScope (["value", "sign"] : List Str) (["value"] : List Str) (defScope sIsName) := ⟨rfl, rfl, rfl, by decide +kernel, rfl, by decide +kernel, by decide +kernel⟩
theorem ok_is_name (D : Def K mg "is_name" sIsName ["value"]) (B : Bl mg) (CC : Cst mg) : Cal P w K mg base "is_name" ["value"] 1 (spD K fIsName) := by
  refine cal_mk D sc_is_name (len_D (by rintro _ _ ⟨t, rfl, _⟩; rfl)) (fun f cdv A outer s H vs Q E hr h => ?_)
  obtain ⟨F, ds, d, e, hv, ⟨d, rfl, hsz, rfl⟩, q⟩ := h
  obtain ⟨x, rfl, h1⟩ := Dv.one hv
  obtain ⟨t1, c1⟩ := CC.letters
  obtain ⟨t2, c2⟩ := CC.figures
  obtain ⟨t3, c3⟩ := CC.mostName
  refine ⟨_, (pss_cons (ps_if (PW.pt (pw_or (pt_not (pt_val (pe_callB call_isi (by rfl) B.isi (by decide +kernel) (pa_cons (pv 0) (pa_cons (pe_bltn (v := .ty "str") (by rfl) B.str (by decide +kernel) rfl) pa_nil))))) (pw_or (pt_not (pt_chain op_le op_le pe_int (pe_callB call_len (by rfl) B.len (by decide +kernel) (pa_cons (pv 0) pa_nil)) (pe_glob (v := .int 8) rfl c3 ⟨_, rfl⟩))) (pw_or1 (pt_cmpR op_notInS (pe_ix ix_str (pv 0) pe_int (fun _ _ => rfl)) (pe_glob (v := .str letters) rfl c1 ⟨_, rfl⟩) (by rfl)))))) (pss_one (ps_ret pe_bl)) pss_nil)
      (pss_one (ps_ret (pe_cmpR (op_eqD hr.1.units) (pe_lc (own := [("sign", 1)]) (g := gName 1) rfl sc_is_name.nd (pi_str (pv 0)) (blkOk_by (own := [("sign", 1)]) (N := ["value", "sign"]) (sc := defScope sIsName) (by decide +kernel)) (fun _ _ _ _ _ => (pg_name (i := 1) sc_is_name.nd rfl (.inl rfl)))  (fun _ _ _ _ _ => (pts_one (pt_cmpR op_notInS (pv 1) (pe_op op_add_str (pe_glob (v := .str letters) rfl c1 ⟨_, rfl⟩) (pe_glob (v := .str figures) rfl c2 ⟨_, rfl⟩)) (by rfl)))) (fun _ _ _ _ _ => (pv 1))) (pe_lst pa_nil) (nomark _))))), ?_⟩
  have no : isName d = false → ∀ F1 H1, Gr F H F1 H1 → Q (.bl false) H1 := fun h F1 H1 g => q _ F1 H1 g (by rw [h]; exact .bl false)
  have vx := Dv.ev_var (σ := [some x, none]) (i := 0) rfl h1
  by_cases ht : ∃ y, d = .str y
  · obtain ⟨y, rfl⟩ := ht
    obtain ⟨hl, hok⟩ := hsz y rfl
    have t1 := et_notT (et_v (p := true) (ev_isi (T := "str") vx (by decide)) rfl)
    have ln := ev_chI (f := fun i j => decide (i ≤ j)) (g := fun i j => decide (i ≤ j)) (Dv.ev_int 1) (ev_len vx rfl (show y.length ≤ 100000 by omega)) (Dv.ev_int 8)
    by_cases h2 : 1 ≤ y.length ∧ y.length ≤ 8
    · have e2 : (decide ((1 : Int) ≤ (y.length : Int)) && decide ((y.length : Int) ≤ 8)) = true := by
        rw [Bool.and_eq_true]
        exact ⟨decide_eq_true (by omega), decide_eq_true (by omega)⟩
      have t2 := et_notT (et_v ln (by rw [e2]))

      obtain ⟨c, cs, hc⟩ : ∃ c cs, y.cps.toList = c :: cs := by
        cases hq : y.cps.toList with
        | nil =>
          have : y.length = y.cps.toList.length := by rw [Array.length_toList] <;> rfl
          rw [hq] at this
          exact absurd h2.1 (by rw [this]; decide)
        | cons c cs => exact ⟨c, cs, rfl⟩
      have vc := Dv.ev_ixS (i := 0) (c := c) vx (Dv.ev_int 0) (show y.length ≤ 100000 by omega) (by rw [hc]; simp [atI, ixN])
      have t3 := Dv.ev_notInS vc (Dv.ev_c (.str letters))
      by_cases h3 : c ∈ letters.cps.toList
      · refine s_ifF (et_orF t1 (et_orF t2 (et_v t3 (by rw [decide_eq_true h3]; rfl)))) e fun F1 H1 g1 => ?_
        have hn : isName (.str y) = (y.cps.toList.filter fun c => !decide (c ∈ (letters ++ figures).cps.toList)).isEmpty := by
          show nameS y = _
          unfold nameS
          rw [decide_eq_true h2.1, decide_eq_true h2.2, hc]
          show ((true && true && decide (c ∈ letters.cps.toList)) && _) = _
          rw [decide_eq_true h3]
          simp only [Bool.true_and]
          rw [Bool.eq_iff_iff, List.isEmpty_iff, List.filter_eq_nil_iff, List.all_eq_true]
          simp
        refine Dv.s_ret (K := K) (d := .bool (isName (.str y))) (Dv.ev_is (Dv.ev_eqD (EvL.ev (lc_rule y.cps.toList (fun c => PyData.str ⟨#[c]⟩) (fun c => PyData.str ⟨#[c]⟩) (fun c => !decide (c ∈ (letters ++ figures).cps.toList)) (it_str (vx.mono g1.fx)) (by
          rw [Array.length_toList]
          show y.length ≤ _
          omega) (fun c _ v F2 e2 hv => ⟨[some x, some v], fun _ _ _ q => q, rfl, et_v (Dv.ev_notInS (Dv.ev_var rfl hv) (Dv.ev_addS (by decide +kernel) (Dv.ev_c (.str letters)) (Dv.ev_c (.str figures)))) rfl, fun _ => Dv.ev_var rfl hv⟩))) (EvL.ev (Dv.el_lst Dv.ea_nil (by simp))) (by
          refine shaped_strs (y.cps.toList.filter fun c => !decide (c ∈ (letters ++ figures).cps.toList)) fun c hc => ?_
          have hm := Array.mem_toList_iff.mp (List.mem_filter.mp hc).1
          have := Array.all_eq_true_iff_forall_mem.mp hok c hm
          exact of_decide_eq_true this) shaped_nil) (by
          rw [eqv_nil, hn, List.isEmpty_map])) g1.fh fun v F2 H2 g2 hv => q v F2 H2 (g1.trans g2) hv
      · have e0 : isName (.str y) = false := by
          show nameS y = false
          unfold nameS
          rw [hc]
          show ((_ && _ && decide (c ∈ letters.cps.toList)) && _) = _
          rw [decide_eq_false h3]
          simp
        exact s_ifT (et_orF t1 (et_orF t2 (et_v t3 (by rw [decide_eq_false h3]; rfl)))) e fun F1 H1 g1 => no e0 F1 H1 g1
    · have e2 : (decide ((1 : Int) ≤ (y.length : Int)) && decide ((y.length : Int) ≤ 8)) = false := by
        rw [Bool.and_eq_false_iff]
        by_cases h3 : 1 ≤ y.length
        · exact .inr (decide_eq_false (by omega))
        · exact .inl (decide_eq_false (by omega))
      have e0 : isName (.str y) = false := by
        show nameS y = false
        unfold nameS
        by_cases h3 : 1 ≤ y.length
        · rw [decide_eq_false (show ¬ y.length ≤ 8 by omega)]
          simp
        · rw [decide_eq_false h3]
          simp
      exact s_ifT (et_orF t1 (et_orT (et_notF (et_v ln (by rw [e2]))))) e fun F1 H1 g1 => no e0 F1 H1 g1
  · have e0 : isName d = false := by
      cases d <;> first | rfl | exact absurd ⟨_, rfl⟩ ht
    have e1 : isD d "str" = false := by
      cases d <;> first | rfl | exact absurd ⟨_, rfl⟩ ht
    exact s_ifT (et_orT (et_notF (et_v (ev_isi (T := "str") vx (by decide)) (by rw [e1])))) e fun F1 H1 g1 => no e0 F1 H1 g1
end
end R3

set_option Elab.async false
set_option linter.all false
set_option maxRecDepth 100000
set_option maxHeartbeats 4000000
namespace Dv
open PySem L2 Evl
mutual
/-- texts that can be laid, nothing of great length -/
def gd : PyData → Bool
  | .str x => decide (x.length ≤ 30000) && PyData.strOk x
  | .list xs => decide (xs.length ≤ 30000) && gds xs
  | .tuple xs => decide (xs.length ≤ 30000) && gds xs
  | _ => true
def gds : List PyData → Bool
  | [] => true
  | x :: xs => gd x && gds xs
end
theorem gd_str {x : Str} (h : gd (.str x) = true) : x.length ≤ 30000 ∧ PyData.strOk x = true := by
  rw [gd, Bool.and_eq_true] at h
  exact ⟨of_decide_eq_true h.1, h.2⟩
theorem gd_tup {xs : List PyData} (h : gd (.tuple xs) = true) : xs.length ≤ 30000 ∧ gds xs = true := by
  rw [gd, Bool.and_eq_true] at h
  exact ⟨of_decide_eq_true h.1, h.2⟩
theorem gd_list {xs : List PyData} (h : gd (.list xs) = true) : xs.length ≤ 30000 ∧ gds xs = true := by
  rw [gd, Bool.and_eq_true] at h
  exact ⟨of_decide_eq_true h.1, h.2⟩
theorem gds_mem : ∀ {xs : List PyData} {x : PyData}, gds xs = true → x ∈ xs → gd x = true
  | [], _, _, h => nomatch h
  | y :: ys, x, g, h => by
    rw [gds, Bool.and_eq_true] at g
    rcases List.mem_cons.mp h with rfl | h
    · exact g.1
    · exact gds_mem g.2 h
section
variable {K : PySem.W.Frag} {σ : L2.St} {F F1 H H1 : Hp} {te ta tb tc : TE} {d a b : PyData} {ds es : List PyData} {i j k : Int} {p q : Bool}
def nonB : PyData → Bool
  | .none => true
  | _ => false
theorem dec_non {v : V} (h : Dp K F v d) : decide (v = .non) = nonB d := by
  cases h <;> simp [nonB]
theorem ev_isNR (ha : EvD K ta σ F d) : EvD K (tOp rIsN ta (tC .non)) σ F (.bool (nonB d)) := fun H e Q q => ha H e _ fun v F1 H1 g1 hv => by
  refine ⟨rfl, q _ F1 H1 g1 ?_⟩
  rw [dec_non hv]
  exact .bl _
end
end Dv
namespace R3
open PySem PySem.Spec PyProof.Rows L2 Dv
section
variable {P : Program} {w : World} {K : PySem.W.Frag} {mg : Str → Option Value} {base : Heap}
def isNum (d : PyData) (l : Int) : Bool := isWhole d && (match d with | .int i => decide (l ≤ i) && decide (i ≤ 1000000) | _ => false)
def fIsNum : List PyData → PyData → Prop := fun ds d => ∃ x l, ds = [x, .int l] ∧ d = .bool (isNum x l)
theorem sc_is_number : FnScope (["value", "least"] : List Str) (["value", "least"] : List Str) (defScope sIsNumber) := ⟨rfl, rfl, rfl, by decide +kernel, rfl, by decide +kernel, by decide +kernel⟩
theorem ok_is_number (D : Def K mg "is_number" sIsNumber ["value", "least"]) (CC : Cst mg) (C_is_whole : Cal P w K mg base "is_whole" ["value"] 1 (spD K fWhole)) : Cal P w K mg base "is_number" ["value", "least"] 2 (spD K fIsNum) := by
  refine cal_mk D sc_is_number (len_D (by rintro _ _ ⟨t, l, rfl, _⟩; rfl)) (fun f cdv A outer s H vs Q E hr h => ?_)
  obtain ⟨F, ds, d, e, hv, ⟨d, l, rfl, rfl⟩, q⟩ := h
  obtain ⟨x, y, rfl, h1, h2⟩ := Dv.two hv
  obtain ⟨t3, c3⟩ := CC.mostNumber
  refine ⟨_, (pss_one (ps_ret (pe_and (pe_callC C_is_whole hr (pa_cons (pv 0) pa_nil)) (pe_one (pe_chain op_le op_le (pv 1) (pv 0) (pe_glob (v := .int 1000000) rfl c3 ⟨_, rfl⟩)))))), ?_⟩
  refine Dv.s_ret (K := K) (d := .bool (isNum d l)) (Dv.ev_andV (ev_callD (Dv.ea_cons (Dv.ev_var rfl h1) Dv.ea_nil) ⟨_, rfl, rfl⟩) fun hw => ?_) e fun v F2 H2 g2 hv => q v F2 H2 g2 hv
  obtain ⟨i, rfl⟩ := whole_int hw
  exact ev_chI (f := fun i j => decide (i ≤ j)) (g := fun i j => decide (i ≤ j)) (Dv.ev_var rfl h2) (Dv.ev_var rfl h1) (Dv.ev_int 1000000)
def isStuff : PyData → Bool
  | .tuple [n, r] => isName n && (nonB r || isNum r 0)
  | _ => false
def fIsStuff : List PyData → PyData → Prop := fun ds d => ∃ x, ds = [x] ∧ gd x = true ∧ d = .bool (isStuff x)
theorem sc_is_stuff : FnScope (["value"] : List Str) (["value"] : List Str) (defScope sIsStuff) := ⟨rfl, rfl, rfl, by decide +kernel, rfl, by decide +kernel, by decide +kernel⟩
theorem ok_is_stuff (D : Def K mg "is_stuff" sIsStuff ["value"]) (B : Bl mg) (C_is_name : Cal P w K mg base "is_name" ["value"] 1 (spD K fIsName)) (C_is_number : Cal P w K mg base "is_number" ["value", "least"] 2 (spD K fIsNum)) :
    Cal P w K mg base "is_stuff" ["value"] 3 (spD K fIsStuff) := by
  refine cal_mk D sc_is_stuff (len_D (by rintro _ _ ⟨t, rfl, _⟩; rfl)) (fun f cdv A outer s H vs Q E hr h => ?_)
  obtain ⟨F, ds, d, e, hv, ⟨d, rfl, hg, rfl⟩, q⟩ := h
  obtain ⟨x, rfl, h1⟩ := Dv.one hv
  refine ⟨_, (pss_cons (ps_if (PW.pt (pw_or (pt_not (pt_val (pe_callB call_isi (by rfl) B.isi (by decide +kernel) (pa_cons (pv 0) (pa_cons (pe_bltn (v := .ty "tuple") (by rfl) B.tuple (by decide +kernel) rfl) pa_nil))))) (pw_or (pt_cmpR op_ne (pe_callB call_len (by rfl) B.len (by decide +kernel) (pa_cons (pv 0) pa_nil)) pe_int (nomark _)) (pw_or1 (pt_not (pt_val (pe_callC C_is_name hr (pa_cons (pe_ix ix_tup (pv 0) pe_int (fun _ _ => rfl)) pa_nil)))))))) (pss_one (ps_ret pe_bl)) pss_nil)
      (pss_one (ps_ret (pe_or (pe_cmpR op_isN (pe_ix ix_tup (pv 0) pe_int (fun _ _ => rfl)) pe_non (nomark _)) (pe_one (pe_callC C_is_number hr (pa_cons (pe_ix ix_tup (pv 0) pe_int (fun _ _ => rfl)) (pa_cons pe_int pa_nil)))))))), ?_⟩
  have no : isStuff d = false → ∀ F1 H1, Gr F H F1 H1 → Q (.bl false) H1 := fun h F1 H1 g => q _ F1 H1 g (by rw [h]; exact .bl false)
  have vx := Dv.ev_var (σ := [some x]) (i := 0) rfl h1
  by_cases ht : ∃ es, d = .tuple es
  · obtain ⟨es, rfl⟩ := ht
    obtain ⟨hl, hgs⟩ := gd_tup hg
    have tT := et_notT (et_v (p := true) (ev_isi (T := "tuple") vx (by decide)) rfl)
    by_cases h2 : es.length = 2
    · match es, h2 with
      | [a, b], _ =>
        have ln := et_v (p := false) (Dv.ev_neI (ev_len vx rfl (by simp)) (Dv.ev_int 2)) rfl
        have va := Dv.ev_ixT (d := a) vx (Dv.ev_int 0) rfl
        have vb := Dv.ev_ixT (d := b) vx (Dv.ev_int 1) rfl
        have ga : gd a = true := gds_mem hgs (by simp)
        have nm := ev_callD (E := E0) (Dv.ea_cons va Dv.ea_nil) (show fIsName [a] (.bool (isName a)) from ⟨a, rfl, fun y hy => gd_str (by rw [← hy]; exact ga), rfl⟩)
        cases hn : isName a with
        | true =>
          refine s_ifF (et_orF tT (et_orF ln (et_notT (et_v nm (by rw [hn]))))) e fun F1 H1 g1 => ?_
          refine Dv.s_ret (K := K) (d := .bool (isStuff (.tuple [a, b]))) (Dv.ev_is (Dv.ev_orV (ev_isNR (vb.mono g1.fx)) fun _ => ev_callD (Dv.ea_cons (vb.mono g1.fx) (Dv.ea_cons (Dv.ev_int 0) Dv.ea_nil)) ⟨_, _, rfl, rfl⟩) (by
            show _ = PyData.bool (isName a && _)
            rw [hn, Bool.true_and])) g1.fh fun v F2 H2 g2 hv => q v F2 H2 (g1.trans g2) hv
        | false =>
          exact s_ifT (et_orF tT (et_orF ln (et_notF (et_v nm (by rw [hn]))))) e fun F1 H1 g1 => no (by show (isName a && _) = false; rw [hn] <;> rfl) F1 H1 g1
    · have e0 : isStuff (.tuple es) = false := by
        unfold isStuff
        split
        · rename_i q
          cases q
          exact absurd rfl h2
        · rfl
      exact s_ifT (et_orF tT (et_orT (et_v (Dv.ev_neI (ev_len vx rfl (by omega)) (Dv.ev_int 2)) (by
        congr 1
        simp only [bne_iff_ne, ne_eq]
        omega)))) e fun F1 H1 g1 => no e0 F1 H1 g1
  · have e0 : isStuff d = false := by
      unfold isStuff
      split
      · exact absurd ⟨_, rfl⟩ ht
      · rfl
    have e1 : isD d "tuple" = false := by
      cases d <;> first | rfl | exact absurd ⟨_, rfl⟩ ht
    exact s_ifT (et_orT (et_notF (et_v (ev_isi (T := "tuple") vx (by decide)) (by rw [e1])))) e fun F1 H1 g1 => no e0 F1 H1 g1
end
end R3

set_option Elab.async false
set_option linter.all false
set_option maxRecDepth 100000
set_option maxHeartbeats 4000000
namespace Dv
open PySem L2 Evl
section
variable {K : PySem.W.Frag} {σ : L2.St} {F F1 H H1 : Hp} {te ta tb tc : TE} {d a b : PyData} {ds es : List PyData} {i j k : Int} {p q : Bool} {tu : TT}
/-- not isinstance(x, tuple) or len(x) != n or .. -/
theorem et_tupn {n : Nat} (vx : EvD K te σ F d) (hl : ∀ es, d = .tuple es → es.length ≤ 100000) (h1 : ∀ es, d = .tuple es → es.length = n → EtD tu σ F p) (h2 : (¬ ∃ es, d = .tuple es ∧ es.length = n) → p = true) :
    EtD (tOr (tNot (tTest (tCB (rIsi K) (tCons te (tCons (tC (.ty "tuple")) tNil)))))
      (tOr (tTest (tOp rNe (tCB (fun xs H Q => ∃ x n, xs = [x] ∧ LenV K x H n ∧ Q (.int n) H) (tCons te tNil)) (tC (.int (n : Int))))) tu)) σ F p := by
  by_cases ht : ∃ es, d = .tuple es
  · obtain ⟨es, rfl⟩ := ht
    have tT := et_notT (et_v (p := true) (ev_isi (T := "tuple") vx (by decide)) rfl)
    have hl' := hl es rfl
    by_cases hn : es.length = n
    · exact et_orF tT (et_orF (et_v (ev_neI (ev_len vx rfl hl') (ev_int n)) (by
        congr 1
        simp only [bne_eq_false_iff_eq]
        omega)) (h1 es rfl hn))
    · have e0 := h2 (fun ⟨es', e, h⟩ => by cases e; exact hn h)
      subst e0
      exact et_orF tT (et_orT (et_v (ev_neI (ev_len vx rfl hl') (ev_int n)) (by
        congr 1
        simp only [bne_iff_ne, ne_eq]
        omega)))
  · have e0 := h2 (fun ⟨es', e, h⟩ => ht ⟨es', e⟩)
    subst e0
    have e1 : isD d "tuple" = false := by
      cases d <;> first | rfl | exact absurd ⟨_, rfl⟩ ht
    exact et_orT (et_notF (et_v (ev_isi (T := "tuple") vx (by decide)) (by rw [e1])))
theorem len2 {es : List PyData} (h : es.length = 2) : ∃ a b, es = [a, b] := match es, h with | [a, b], _ => ⟨a, b, rfl⟩
theorem len3 {es : List PyData} (h : es.length = 3) : ∃ a b c, es = [a, b, c] := match es, h with | [a, b, c], _ => ⟨a, b, c, rfl⟩
/-- x not in d, d a dict of F -/
theorem et_dnotin {ad : Addr} {kvs : List (Key × V)} {x : Str} (ha : EvD K ta σ F (.str x)) (hb : ∀ F1 H1, Ex F F1 → Ex F1 H1 → ∀ Q : VK, Q (.ref ad) H1 → tb σ H1 Q) (hd : F ad = some (.dK kvs)) : EtD (tB (tDNotIn ta tb)) σ F (!(valV kvs (.inr x)).isSome) := fun H e Q q =>
  ha H e _ fun v F1 H1 g1 hv => by
    cases hv
    exact hb F1 H1 g1.fx g1.fh _ ⟨ad, _, rfl, DGet.k (k := .inr x) (g1.fh _ _ (g1.fx _ _ hd)), _, rfl, q F1 H1 g1⟩
/-- x in xs, texts, xs a list of H alone -/
theorem et_inStrs {al : Addr} {xs : List Str} {x : Str} {l : Nat} (ha : EvD K ta σ F (.str x)) (hi : σ[l]? = some (some (.ref al))) (H : Hp) (e : Ex F H) (hl : H al = some (.lst (xs.map V.str))) (fl : F al = none) (Q : Bool → Hp → Prop)
    (q : ∀ F' H', Gr F H F' H' → Q (decide (x ∈ xs)) H') : tTest (tOp (rIn K false) ta (tVar l)) σ H Q := ha H e _ fun v F1 H1 g1 hv => by
  cases hv
  refine ⟨_, hi, al, xs.map V.str, rfl, .inl (sq_of (g1.keep hl fl).1), rfl, by simp [flatV], _, rfl, ?_⟩
  have : (if false = true then !inV (V.str x) (xs.map V.str) else inV (V.str x) (xs.map V.str)) = decide (x ∈ xs) := by
    rw [if_neg (by decide)]
    unfold inV
    rw [Bool.eq_iff_iff, List.any_eq_true, decide_eq_true_iff]
    constructor
    · rintro ⟨y, hy, he⟩
      obtain ⟨z, hz, rfl⟩ := List.mem_map.mp hy
      have : z = x := by simpa [eqV] using he
      exact this ▸ hz
    · intro hx
      exact ⟨_, List.mem_map.mpr ⟨x, hx, rfl⟩, by simp [eqV]⟩
  rw [this]
  exact q F1 H1 g1
end
end Dv
namespace R3
open PySem PySem.Spec PyProof.Rows L2 Dv
section
variable {P : Program} {w : World} {K : PySem.W.Frag} {mg : Str → Option Value} {base : Heap}
def partOk : PyData → Bool
  | .tuple [a, k] => isName a && isNum k 1
  | _ => false
theorem part_shape {d : PyData} (h : partOk d = true) : ∃ n k, d = .tuple [.str n, k] ∧ nameS n = true ∧ isNum k 1 = true := by
  unfold partOk at h
  split at h
  · rename_i a k
    rw [Bool.and_eq_true] at h
    obtain ⟨h1, h2⟩ := h
    cases a <;> first | (cases h1; done) | skip
    exact ⟨_, k, rfl, h1, h2⟩
  · cases h
def nameAt : PyData → Str
  | .tuple (.str n :: _) => n
  | _ => ""
def partsGo (names : List Str) : List PyData → List Str → Bool
  | [], _ => true
  | d :: r, seen => partOk d && decide (nameAt d ∈ names) && !decide (nameAt d ∈ seen) && partsGo names r (seen ++ [nameAt d])
def areParts (names : List Str) : PyData → Bool
  | .list xs => partsGo names xs []
  | _ => false
/-- the spots: a dict of names -/
def SpotsAt (F : Hp) (a : Addr) (names : List Str) : Prop := ∃ kvs : List (Key × V), F a = some (.dK kvs) ∧ ∀ x : Str, (valV kvs (.inr x)).isSome = decide (x ∈ names)
theorem SpotsAt.ex {F F1 : Hp} {a : Addr} {names : List Str} (e : Evl.Ex F F1) (h : SpotsAt F a names) : SpotsAt F1 a names := let ⟨k, h1, h2⟩ := h; ⟨k, e _ _ h1, h2⟩
def spParts (K : PySem.W.Frag) : Sp := fun vs H Q _ => ∃ (F : Hp) (v : V) (d : PyData) (sp : Addr) (names : List Str), vs = [v, .ref sp] ∧ Evl.Ex F H ∧ Dp K F v d ∧ gd d = true ∧ SpotsAt F sp names ∧ ∀ F' H', Gr F H F' H' → Q (.bl (areParts names d)) H'
theorem sc_are_parts : FnScope (["value", "spots", "seen", "item"] : List Str) (["value", "spots"] : List Str) (defScope sAreParts) := ⟨rfl, rfl, rfl, by decide +kernel, rfl, by decide +kernel, by decide +kernel⟩
theorem ok_are_parts (D : Def K mg "are_parts" sAreParts ["value", "spots"]) (B : Bl mg) (C_is_name : Cal P w K mg base "is_name" ["value"] 1 (spD K fIsName)) (C_is_number : Cal P w K mg base "is_number" ["value", "least"] 2 (spD K fIsNum)) :
    Cal P w K mg base "are_parts" ["value", "spots"] 3 (spParts K) := by
  refine cal_mk D sc_are_parts (fun vs H Q E h => ?_) (fun f cdv A outer s H vs Q E hr h => ?_)
  · obtain ⟨F, v, d, sp, names, rfl, _⟩ := h
    rfl
  obtain ⟨F, v, d, sp, names, rfl, e, hv, hg, hsp, q⟩ := h
  have hu := hu_of hr.1
  refine ⟨_, (pss_cons (ps_if (pt_not (pt_val (pe_callB call_isi (by rfl) B.isi (by decide +kernel) (pa_cons (pv 0) (pa_cons (pe_bltn (v := .ty "list") (by rfl) B.list (by decide +kernel) rfl) pa_nil))))) (pss_one (ps_ret pe_bl)) pss_nil)
      (pss_cons (ps_set (i := 2) sc_are_parts.nd rfl (.inl rfl) (pe_lst pa_nil))
      (pss_cons (ps_for PassesOwn.never rfl (pi_list (pv 0)) (pg_name (i := 3) sc_are_parts.nd rfl (.inl rfl)) (pss_cons (ps_if (PW.pt (pw_or (pt_not (pt_val (pe_callB call_isi (by rfl) B.isi (by decide +kernel) (pa_cons (pv 3) (pa_cons (pe_bltn (v := .ty "tuple") (by rfl) B.tuple (by decide +kernel) rfl) pa_nil))))) (pw_or (pt_cmpR op_ne (pe_callB call_len (by rfl) B.len (by decide +kernel) (pa_cons (pv 3) pa_nil)) pe_int (nomark _)) (pw_or (pt_not (pt_val (pe_callC C_is_name hr (pa_cons (pe_ix ix_tup (pv 3) pe_int (fun _ _ => rfl)) pa_nil)))) (pw_or1 (pt_not (pt_val (pe_callC C_is_number hr (pa_cons (pe_ix ix_tup (pv 3) pe_int (fun _ _ => rfl)) (pa_cons pe_int pa_nil)))))))))) (pss_one (ps_ret pe_bl)) pss_nil)
      (pss_cons (ps_if (PW.pt (pw_or (pt_cmp (pc_dnotin hu (pe_ix ix_tup (pv 3) pe_int (fun _ _ => rfl)) (pv 1)) (by rfl)) (pw_or1 (pt_cmpR op_in_seq (pe_ix ix_tup (pv 3) pe_int (fun _ _ => rfl)) (pv 2) (by rfl))))) (pss_one (ps_ret pe_bl)) pss_nil)
      (pss_one (ps_expr (pe_bm PySem.F.plainAttrs_list PySem.F.slot_list_append PySem.F.type_list_append mt_append (pv 2) (pa_cons (pe_ix ix_tup (pv 3) pe_int (fun _ _ => rfl)) pa_nil)))))))
      (pss_one (ps_ret pe_bl))))), ?_⟩
  have vx := Dv.ev_var (K := K) (σ := [some v, some (.ref sp), none, none]) (i := 0) rfl hv
  by_cases ht : ∃ xs, d = .list xs
  · obtain ⟨xs, rfl⟩ := ht
    obtain ⟨hxl, hgs⟩ := gd_list hg
    refine s_ifF (et_notT (et_v (p := true) (ev_isi (T := "list") vx (by decide)) rfl)) e fun F0 H0 g0 => ?_
    refine Dv.s_asgL (K := K) (Dv.el_lst Dv.ea_nil (by simp)) g0.fh fun p ws F1 H1 g1 hp0 fp hp1 hws => ?_
    cases hws
    have g01 := g0.trans g1
    refine Dv.s_for (it_list (Dv.ev_var rfl (dp_ex g01.fx hv))) g1.fh
      (fun n σ F' H' => ∃ (it : Option V) (seen : List Str), σ = [some v, some (.ref sp), some (.ref p), it] ∧ F' p = none ∧ H' p = some (.lst (seen.map V.str)) ∧ seen.length ≤ n ∧ partsGo names xs [] = partsGo names (xs.drop n) seen ∧ Gr F H F' H')
      (fun F2 H2 g2 => ?_) ?_ (fun σ' F2 H2 e2 e3 p2 => ?_)
    · have k := g2.keep hp1 fp
      exact ⟨none, [], rfl, k.2, k.1, Nat.le_refl _, rfl, g01.trans g2⟩
    · rintro Fb eb n σ' F2 H2 u du F3 H3 hdu e2 e3 ⟨it, seen, rfl, fp2, hp2, hsl, hpg, gg⟩ g3 hu3
      have hp3 := g3.keep hp2 fp2
      have gg3 := gg.trans g3
      have hn : n < xs.length := (List.getElem?_eq_some_iff.mp hdu).1
      have hdrop : xs.drop n = du :: xs.drop (n + 1) := by
        rw [List.drop_eq_getElem_cons hn]
        congr 1
        exact (List.getElem?_eq_some_iff.mp hdu).2
      rw [hdrop] at hpg
      have hgd : gd du = true := gds_mem hgs (List.mem_of_getElem? hdu)
      have vu := Dv.ev_var (K := K) (σ := [some v, some (.ref sp), some (.ref p), some u]) (i := 3) rfl hu3
      show tSeq _ _ _ [some v, some (.ref sp), some (.ref p), some u] H3
      have t1 : ∀ a k, du = .tuple [a, k] → EvD K (tCall (spD K fIsName) [] E0 (tCons (tOp (rIxT K) (tVar 3) (tC (.int 0))) tNil)) [some v, some (.ref sp), some (.ref p), some u] F3 (.bool (isName a)) := by
        intro a k hd
        subst hd
        have ga : gd a = true := gds_mem (gd_tup hgd).2 (by simp)
        exact ev_callD (Dv.ea_cons (Dv.ev_ixT (d := a) vu (Dv.ev_int 0) rfl) Dv.ea_nil) ⟨a, rfl, fun y hy => gd_str (by rw [← hy]; exact ga), rfl⟩
      have t2 : ∀ a k, du = .tuple [a, k] → EvD K (tCall (spD K fIsNum) [] E0 (tCons (tOp (rIxT K) (tVar 3) (tC (.int 1))) (tCons (tC (.int 1)) tNil))) [some v, some (.ref sp), some (.ref p), some u] F3 (.bool (isNum k 1)) := by
        intro a k hd
        subst hd
        exact ev_callD (Dv.ea_cons (Dv.ev_ixT (d := k) vu (Dv.ev_int 1) rfl) (Dv.ea_cons (Dv.ev_int 1) Dv.ea_nil)) ⟨_, _, rfl, rfl⟩
      cases hpo : partOk du with
      | false =>
        refine s_ifT (et_tupn (n := 2) vu (fun es he => by subst he; exact Nat.le_trans (gd_tup hgd).1 (by decide)) (fun es he hl => ?_) fun _ => rfl) g3.fh fun F4 H4 g4 => ?_
        · obtain ⟨a, k, rfl⟩ := len2 hl
          subst he
          have z : (isName a && isNum k 1) = false := hpo
          cases ha : isName a with
          | false => exact et_orT (et_notF (et_v (t1 a k rfl) (by rw [ha])))
          | true =>
            rw [ha, Bool.true_and] at z
            exact et_orF (et_notT (et_v (t1 a k rfl) (by rw [ha]))) (et_notF (et_v (t2 a k rfl) (by rw [z])))
        · have := q F4 H4 (gg3.trans g4)
          rw [show areParts names (.list xs) = partsGo names xs [] from rfl, hpg, partsGo, hpo] at this
          exact this
      | true =>
        obtain ⟨nm, k, rfl, hnm, hk⟩ := part_shape hpo
        refine s_ifF (et_tupn (n := 2) vu (fun es he => by cases he; exact (by simp : 2 ≤ 100000)) (fun es he hl => ?_) fun no => absurd ⟨_, rfl, rfl⟩ no) g3.fh fun F4 H4 g4 => ?_
        · cases he
          exact et_orF (et_notT (et_v (t1 _ _ rfl) (by rw [show isName (.str nm) = true from hnm]))) (et_notT (et_v (t2 _ _ rfl) (by rw [hk])))
        have hp4 := g4.keep hp3.1 hp3.2
        have gg4 := gg3.trans g4
        have v0 := Dv.ev_ixT (d := .str nm) (vu.mono g4.fx) (Dv.ev_int 0) rfl
        obtain ⟨kvs, hkv, hks⟩ := hsp.ex gg4.fx
        have nI := et_dnotin (tb := tVar 1) v0 (fun F1 H1 _ _ Q q => ⟨_, rfl, q⟩) hkv
        rw [hks] at nI
        have hpg' : partsGo names xs [] = (decide (nm ∈ names) && !decide (nm ∈ seen) && partsGo names (xs.drop (n + 1)) (seen ++ [nm])) := by
          rw [hpg, partsGo, hpo, Bool.true_and] <;> rfl
        have no : (decide (nm ∈ names) && !decide (nm ∈ seen)) = false → ∀ F5 H5, Gr F4 H4 F5 H5 → Q (.bl false) H5 := fun h F5 H5 g5 => by
          have := q F5 H5 (gg4.trans g5)
          rw [show areParts names (.list xs) = partsGo names xs [] from rfl, hpg', h, Bool.false_and] at this
          exact this
        by_cases hin : nm ∈ names
        · rw [decide_eq_true hin] at nI
          -- then the second part of the or
          refine nI H4 g4.fh _ fun F5 H5 g5 => ?_
          rw [if_neg (show ¬ ((!true) = true) by decide)]
          have hp5 := g5.keep hp4.1 hp4.2
          refine et_inStrs (v0.mono g5.fx) rfl H5 g5.fh hp5.1 hp5.2 _ fun F6 H6 g6 => ?_
          by_cases hs : nm ∈ seen
          · rw [decide_eq_true hs]
            exact iteT (no (by rw [decide_eq_true hs]; simp) F6 H6 (g5.trans g6))
          · rw [decide_eq_false hs]
            refine iteF ?_
            have hp6 := g6.keep hp5.1 hp5.2
            have g56 := g5.trans g6
            refine Dv.s_app (xs := seen.map V.str) (d := .str nm) hp6.1 hp6.2 rfl (v0.mono g56.fx) g6.fh (by rw [List.length_map]; omega) fun y F7 H7 g7 hy f7 h7 => ?_
            cases hy
            have hH : H p = none := ex_none g0.hx hp0
            refine ⟨F7, e2.trans (g3.fx.trans (g4.fx.trans (g56.fx.trans g7.fx))), ?_, some u, seen ++ [nm], rfl, f7, by rw [upd_same, List.map_append] <;> rfl, by rw [List.length_append]; simp; omega, ?_, ?_⟩
            · exact Evl.Ex.mut g7.fh f7
            · rw [hpg', decide_eq_true hin, decide_eq_false hs] <;> rfl
            · exact ((gg4.trans g56).trans g7).mut hH f7
        · rw [decide_eq_false hin] at nI
          refine nI H4 g4.fh _ fun F5 H5 g5 => ?_
          rw [if_pos (show (!false) = true from rfl)]
          exact iteT (no (by rw [decide_eq_false hin]; rfl) F5 H5 g5)
    · obtain ⟨it, seen, rfl, _, _, _, hpg, gg⟩ := p2
      dsimp only
      refine Dv.s_ret (K := K) (d := .bool true) (Dv.ev_bl true) e3 fun y F4 H4 g4 hy => ?_
      cases hy
      have := q F4 H4 (gg.trans g4)
      rw [show areParts names (.list xs) = partsGo names xs [] from rfl, hpg, List.drop_length] at this
      exact this
  · have e0 : areParts names d = false := by
      cases d <;> first | rfl | exact absurd ⟨_, rfl⟩ ht
    have e1 : isD d "list" = false := by
      cases d <;> first | rfl | exact absurd ⟨_, rfl⟩ ht
    refine s_ifT (et_notF (et_v (ev_isi (T := "list") vx (by decide)) (by rw [e1]))) e fun F1 H1 g1 => ?_
    have := q F1 H1 g1
    rw [e0] at this
    exact this
end
end R3

set_option Elab.async false
set_option linter.all false
set_option maxRecDepth 100000
set_option maxHeartbeats 4000000
namespace R3
open PySem PySem.Spec PyProof.Rows L2 Dv
section
variable {P : Program} {w : World} {K : PySem.W.Frag} {mg : Str → Option Value} {base : Heap}
theorem ev_parts {σ : L2.St} {F : Hp} {te : TE} {d : PyData} {sp : Addr} {names : List Str} {j : Nat} {E : XK} (h : EvD K te σ F d) (hj : σ[j]? = some (some (.ref sp))) (hs : SpotsAt F sp names) (hg : gd d = true) :
    EvD K (tCall (spParts K) [] E (tCons te (tCons (tVar j) tNil))) σ F (.bool (areParts names d)) := fun H e Q q =>
  h H e _ fun v F1 H1 g1 hv => ⟨_, hj, F1, v, d, sp, names, rfl, g1.fh, hv, hg, hs.ex g1.fx, fun F' H' g => q _ F' H' (g1.trans g) (.bl _)⟩
def isRecipe (names : List Str) : PyData → Bool
  | .tuple [n, t, g] => isName n && areParts names t && areParts names g
  | _ => false
def spRecipe (K : PySem.W.Frag) : Sp := fun vs H Q _ => ∃ (F : Hp) (v : V) (d : PyData) (sp : Addr) (names : List Str), vs = [v, .ref sp] ∧ Evl.Ex F H ∧ Dp K F v d ∧ gd d = true ∧ SpotsAt F sp names ∧ ∀ F' H', Gr F H F' H' → Q (.bl (isRecipe names d)) H'
theorem sc_is_recipe : FnScope (["value", "spots"] : List Str) (["value", "spots"] : List Str) (defScope sIsRecipe) := ⟨rfl, rfl, rfl, by decide +kernel, rfl, by decide +kernel, by decide +kernel⟩
theorem ok_is_recipe (D : Def K mg "is_recipe" sIsRecipe ["value", "spots"]) (B : Bl mg) (C_is_name : Cal P w K mg base "is_name" ["value"] 1 (spD K fIsName)) (C_are_parts : Cal P w K mg base "are_parts" ["value", "spots"] 3 (spParts K)) :
    Cal P w K mg base "is_recipe" ["value", "spots"] 4 (spRecipe K) := by
  refine cal_mk D sc_is_recipe (fun vs H Q E h => ?_) (fun f cdv A outer s H vs Q E hr h => ?_)
  · obtain ⟨F, v, d, sp, names, rfl, _⟩ := h
    rfl
  obtain ⟨F, v, d, sp, names, rfl, e, hv, hg, hsp, q⟩ := h
  refine ⟨_, (pss_cons (ps_if (PW.pt (pw_or (pt_not (pt_val (pe_callB call_isi (by rfl) B.isi (by decide +kernel) (pa_cons (pv 0) (pa_cons (pe_bltn (v := .ty "tuple") (by rfl) B.tuple (by decide +kernel) rfl) pa_nil))))) (pw_or (pt_cmpR op_ne (pe_callB call_len (by rfl) B.len (by decide +kernel) (pa_cons (pv 0) pa_nil)) pe_int (nomark _)) (pw_or1 (pt_not (pt_val (pe_callC C_is_name hr (pa_cons (pe_ix ix_tup (pv 0) pe_int (fun _ _ => rfl)) pa_nil)))))))) (pss_one (ps_ret pe_bl)) pss_nil)
      (pss_one (ps_ret (pe_and (pe_callC C_are_parts hr (pa_cons (pe_ix ix_tup (pv 0) pe_int (fun _ _ => rfl)) (pa_cons (pv 1) pa_nil))) (pe_one (pe_callC C_are_parts hr (pa_cons (pe_ix ix_tup (pv 0) pe_int (fun _ _ => rfl)) (pa_cons (pv 1) pa_nil)))))))), ?_⟩
  have vx := Dv.ev_var (K := K) (σ := [some v, some (.ref sp)]) (i := 0) rfl hv
  have nm : ∀ a t g, d = .tuple [a, t, g] → EvD K (tCall (spD K fIsName) [] E0 (tCons (tOp (rIxT K) (tVar 0) (tC (.int 0))) tNil)) [some v, some (.ref sp)] F (.bool (isName a)) := by
    intro a t g hd
    subst hd
    have ga : gd a = true := gds_mem (gd_tup hg).2 (by simp)
    exact ev_callD (Dv.ea_cons (Dv.ev_ixT (d := a) vx (Dv.ev_int 0) rfl) Dv.ea_nil) ⟨a, rfl, fun y hy => gd_str (by rw [← hy]; exact ga), rfl⟩
  have hlen : ∀ es, d = .tuple es → es.length ≤ 100000 := fun es he => by
    subst he
    exact Nat.le_trans (gd_tup hg).1 (by decide)
  by_cases hs : ∃ a t g, d = .tuple [a, t, g] ∧ isName a = true
  · obtain ⟨a, t, g, rfl, hn⟩ := hs
    have gt : gd t = true := gds_mem (gd_tup hg).2 (by simp)
    have gg : gd g = true := gds_mem (gd_tup hg).2 (by simp)
    refine s_ifF (et_tupn (n := 3) vx hlen (fun es he _ => et_notT (et_v (nm a t g rfl) (by rw [hn]))) fun no => absurd ⟨_, rfl, rfl⟩ no) e fun F1 H1 g1 => ?_
    refine Dv.s_ret (K := K) (d := .bool (isRecipe names (.tuple [a, t, g]))) (Dv.ev_is (Dv.ev_andV (ev_parts (j := 1) (Dv.ev_ixT (d := t) (vx.mono g1.fx) (Dv.ev_int 1) rfl) rfl (hsp.ex g1.fx) gt) fun _ => ev_parts (j := 1) (Dv.ev_ixT (d := g) (vx.mono g1.fx) (Dv.ev_int 2) rfl) rfl (hsp.ex g1.fx) gg) (by
      show _ = PyData.bool (isName a && areParts names t && areParts names g)
      rw [hn, Bool.true_and])) g1.fh fun y F2 H2 g2 hy => ?_
    cases hy
    exact q F2 H2 (g1.trans g2)
  · have e0 : isRecipe names d = false := by
      unfold isRecipe
      split
      · rename_i a t g
        cases hn : isName a with
        | true => exact absurd ⟨a, t, g, rfl, hn⟩ hs
        | false => rfl
      · rfl
    refine s_ifT (et_tupn (n := 3) vx hlen (fun es he hl => ?_) fun _ => rfl) e fun F1 H1 g1 => ?_
    · obtain ⟨a, t, g, rfl⟩ := len3 hl
      cases hn : isName a with
      | true => exact absurd ⟨a, t, g, he, hn⟩ hs
      | false => exact et_notF (et_v (nm a t g he) (by rw [hn]))
    · have := q F1 H1 g1
      rw [e0] at this
      exact this
def spSize (K : PySem.W.Frag) : Sp := fun vs H Q _ => ∃ (F : Hp) (v : V) (xs : List PyData) (l m : Int), vs = [v, .int l, .int m] ∧ Evl.Ex F H ∧ Dp K F v (.list xs) ∧ l ≤ xs.length ∧ (xs.length : Int) ≤ m ∧ xs.length ≤ 100000 ∧ ∀ F' H', Gr F H F' H' → Q .non H'
theorem sc_check_size : FnScope (["value", "least", "most"] : List Str) (["value", "least", "most"] : List Str) (defScope sCheckSize) := ⟨rfl, rfl, rfl, by decide +kernel, rfl, by decide +kernel, by decide +kernel⟩
theorem ok_check_size (D : Def K mg "check_size" sCheckSize ["value", "least", "most"]) (B : Bl mg) : Cal P w K mg base "check_size" ["value", "least", "most"] 1 (spSize K) := by
  refine cal_mk D sc_check_size (fun vs H Q E h => ?_) (fun f cdv A outer s H vs Q E hr h => ?_)
  · obtain ⟨F, v, xs, l, m, rfl, _⟩ := h
    rfl
  obtain ⟨F, v, xs, l, m, rfl, e, hv, h1, h2, h3, q⟩ := h
  refine ⟨_, (pss_one (ps_if (PW.pt (pw_or (pt_not (pt_val (pe_callB call_isi (by rfl) B.isi (by decide +kernel) (pa_cons (pv 0) (pa_cons (pe_bltn (v := .ty "list") (by rfl) B.list (by decide +kernel) rfl) pa_nil))))) (pw_or1 (pt_not (pt_chain op_le op_le (pv 1) (pe_callB call_len (by rfl) B.len (by decide +kernel) (pa_cons (pv 0) pa_nil)) (pv 2)))))) (pss_one ps_never) pss_nil)), ?_⟩
  have vx := Dv.ev_var (K := K) (σ := [some v, some (.int l), some (.int m)]) (i := 0) rfl hv
  refine s_ifF (et_orF (et_notT (et_v (p := true) (ev_isi (T := "list") vx (by decide)) rfl)) (et_notT (et_chI (f := fun i j => decide (i ≤ j)) (g := fun i j => decide (i ≤ j)) (Dv.ev_var rfl (.int l)) (ev_len vx rfl h3) (Dv.ev_var rfl (.int m)) (by
    rw [decide_eq_true h1, decide_eq_true h2] <;> rfl)))) e fun F1 H1 g1 => q F1 H1 g1
end
end R3

set_option Elab.async false
set_option linter.all false
set_option maxRecDepth 100000
set_option maxHeartbeats 4000000
/-! enumerate(d), d a dict that is locked. -/
namespace PySem
namespace EK
open Sem (wp)
section
variable {prog : Program} {w : World} {A : Around} {E : Value → Shared → Prop} {s : Shared}
theorem nextOf_key_item {it d : Addr} {i n ep : Nat} {od : Obj} {es : Array DictEntry} {en : DictEntry} {Q : Value → Shared → Prop} (hit : s.heap.IsKeyIter it d i n ep) (hod : s.heap.get? d = some od) (hdd : od.data = .dict es ep)
    (hsz : es.size = n) (hx : es[i]? = some en) (hQ : ∀ h', h'.IsKeyIter it d (i + 1) n ep → Heap.SameBut it s.heap h' → Q en.key { s with heap := h' }) : wpAny (model prog w) A (Builtin.SmallTypes.nextOf (.ref it)) Q E s := by
  obtain ⟨o, ho, hc, hd⟩ := id hit
  unfold Builtin.SmallTypes.nextOf
  refine wpAny_bind (wpAny_callSpecial?_slot (name := Str.ofString "__next__") hit.typeIs F.slot_dict_keyiterator_next
    (wpAny_call_entry F.slot_dict_keyiterator_next hit.typeIs F.entry_dict_keyiterator_next ?_ (F.args_dict_keyiterator_next_1 _)))
  refine wpAny_bind (wpAny_pure ?_)
  refine wpAny_bind ?_
  refine wpAny_bind ?_
  first | refine wpAny_bind (wpAny_typeNameOfWhole_keyiter hit.typeIs (wpAny_pure ?_)) | refine wpAny_bind (wpAny_typeNameOf_keyiter hit.typeIs (wpAny_pure ?_))
  refine wpAny_bind (wpAny_fieldsOf ho hd ?_)
  have hown : Builtin.Dict_items.ownsTuple "dict_keyiterator" = false := by decide
  simp only [hown, Bool.false_eq_true, if_false]
  show wpAny _ _ (if (Value.ref d == Value.none) = true then _ else _) _ _ s
  rw [if_neg (show ¬ ((Value.ref d == Value.none) = true) from Bool.false_ne_true)]
  refine wpAny_bind (wpAny_pure ?_)
  refine wpAny_bind (wpAny_dictEntries hod hdd ?_)
  rw [if_neg (by rw [hsz]; simp)]
  refine wpAny_bind (wpAny_pure ?_)
  refine wpAny_bind (wpAny_dictEpoch hod hdd ?_)
  rw [if_neg (by simp)]
  refine wpAny_pure ?_
  obtain ⟨hlt', hen⟩ := Array.getElem?_eq_some_iff.mp hx
  simp only [show ¬ ((i : Int) < 0) from by omega, if_false, Int.toNat_natCast, Array.getElem?_eq_getElem hlt']
  refine wpAny_bind ?_
  first | refine wpAny_bind (wpAny_typeNameOfWhole_keyiter hit.typeIs (wpAny_pure ?_)) | refine wpAny_bind (wpAny_typeNameOf_keyiter hit.typeIs (wpAny_pure ?_))
  refine wpAny_bind (wpAny_isOneOf_keyiter hit.typeIs ?_)
  show wpAny _ _ (setField (.ref it) 1 (rawInt ((i : Int) + 1)) >>= _) _ _ s
  refine wpAny_bind (wpAny_setField ho hd (by simp) ?_)
  have hit' : (s.heap.update it (Obj.mapFields (·.setIfInBounds 1 (rawInt ((i : Int) + 1))))).IsKeyIter it d (i + 1) n ep :=
    ⟨_, Heap.get?_update_self _ ho (Obj.isFreed_of_fields (Obj.data_mapFields hd _)), (Obj.cls_mapFields ..).trans hc, by rw [Obj.data_mapFields hd]; simp [rawInt]⟩
  refine wpAny_bind (wpAny_holding ?_)
  refine wpAny_bind (wpAny_isOneOf_keyiter (s := { s with heap := s.heap.update it (Obj.mapFields (·.setIfInBounds 1 (rawInt ((i : Int) + 1)))) }) hit'.typeIs ?_)
  show wpAny _ _ (pure es[i].key) _ _ _
  rw [hen]
  exact wpAny_pure (wpAny_pure ⟨_, rfl, wpAny_pure (hQ _ hit' (Heap.SameBut.update ..))⟩)
theorem nextOf_key_end {it d : Addr} {i n ep : Nat} {od : Obj} {es : Array DictEntry} {Q : Value → Shared → Prop} (hh : A.handled = none) (hit : s.heap.IsKeyIter it d i n ep) (hod : s.heap.get? d = some od) (hdd : od.data = .dict es ep)
    (hsz : es.size = n) (hge : n ≤ i) (hE : ∀ h' e, Heap.ExtBut it s.heap h' → (∃ o, h'.get? e = some o ∧ o.cls = .type "StopIteration") → E (.ref e) { s with heap := h' }) : wpAny (model prog w) A (Builtin.SmallTypes.nextOf (.ref it)) Q E s := by
  obtain ⟨o, ho, hc, hd⟩ := id hit
  unfold Builtin.SmallTypes.nextOf
  refine wpAny_bind (wpAny_callSpecial?_slot (name := Str.ofString "__next__") hit.typeIs F.slot_dict_keyiterator_next
    (wpAny_call_entry F.slot_dict_keyiterator_next hit.typeIs F.entry_dict_keyiterator_next ?_ (F.args_dict_keyiterator_next_1 _)))
  refine wpAny_bind (wpAny_pure ?_)
  refine wpAny_bind ?_
  refine wpAny_bind ?_
  first | refine wpAny_bind (wpAny_typeNameOfWhole_keyiter hit.typeIs (wpAny_pure ?_)) | refine wpAny_bind (wpAny_typeNameOf_keyiter hit.typeIs (wpAny_pure ?_))
  refine wpAny_bind (wpAny_fieldsOf ho hd ?_)
  have hown : Builtin.Dict_items.ownsTuple "dict_keyiterator" = false := by decide
  simp only [hown, Bool.false_eq_true, if_false]
  show wpAny _ _ (if (Value.ref d == Value.none) = true then _ else _) _ _ s
  rw [if_neg (show ¬ ((Value.ref d == Value.none) = true) from Bool.false_ne_true)]
  refine wpAny_bind (wpAny_pure ?_)
  refine wpAny_bind (wpAny_dictEntries hod hdd ?_)
  rw [if_neg (by rw [hsz]; simp)]
  refine wpAny_bind (wpAny_pure ?_)
  refine wpAny_bind (wpAny_dictEpoch hod hdd ?_)
  rw [if_neg (by simp)]
  refine wpAny_pure ?_
  have hge' : es.size ≤ i := by rw [hsz]; exact hge
  simp only [show ¬ ((i : Int) < 0) from by omega, if_false, Int.toNat_natCast, Array.getElem?_eq_none hge']
  refine wpAny_bind ?_
  first | refine wpAny_bind (wpAny_typeNameOfWhole_keyiter hit.typeIs (wpAny_pure ?_)) | refine wpAny_bind (wpAny_typeNameOf_keyiter hit.typeIs (wpAny_pure ?_))
  show wpAny _ _ (setField (.ref it) 0 .none >>= _) _ _ s
  refine wpAny_bind (wpAny_setField ho hd (by simp) ?_)
  show wpAny _ _ (newExc (.type "StopIteration") [] >>= _) _ _ _
  refine wpAny_bind ?_
  simp only [newExc, newTuple]
  refine wpAny_bind (wpAny_newObj_type ?_ (by size_fits))
  refine wpAny_bind (m := firstArgMember _ _) (wpAny_of_eq (a := Value.none) (by first | rfl | (simp only [firstArgMember]; rfl)) ?_)
  refine wpAny_newObj_type ?_ (by size_fits)
  simp only [raiseNew]
  refine wpAny_bind (wpAny_handled ?_)
  rw [show A.in1.handled = none from hh]
  refine wpAny_bind (wpAny_pure (wpAny_throw ?_))
  exact hE _ _ (((Heap.SameBut.update ..).extBut.push _).push _) ⟨_, Heap.get?_push_size _ rfl, rfl⟩
end
theorem draws_keys {prog : Program} {w : World} {A : Around} {it d : Addr} {n ep : Nat} {od : Obj} {es : Array DictEntry} (hh : A.handled = none) (hdd : od.data = .dict es ep) (hsz : es.size = n) (hne : d ≠ it) :
    Draws prog w A it [it, d] n (fun i v => ∃ en, es[i]? = some en ∧ v = en.key) (fun i h => h.IsKeyIter it d i n ep ∧ h.get? d = some od) where
  live := fun i h st => let ⟨⟨o, ho, _⟩, _⟩ := st; ⟨o, ho⟩
  frame := fun i h h' st k => let ⟨⟨o, ho, r⟩, hd⟩ := st; ⟨⟨o, k it (by simp) o ho, r⟩, k d (by simp) _ hd⟩
  item := fun i s Q E hi st hQ => by
    obtain ⟨hit, hod⟩ := st
    have hx : es[i]? = some es[i] := Array.getElem?_eq_getElem (by omega)
    exact nextOf_key_item hit hod hdd hsz hx fun h' hit' sb => hQ _ h' s.toks ⟨_, hx, rfl⟩ ⟨hit', (sb.2 d hne).trans hod⟩ sb
  done := fun s Q E st hE => nextOf_key_end hh st.1 st.2 hdd hsz (Nat.le_refl _) hE
theorem meets_new (d : Addr) (o : Obj) (es : Array DictEntry) (ep : Nat) (hs : (d == sysModules) = false) (hc : o.ExactDict) (hdat : o.data = .dict es ep) :
    Meets (Builtin.«enumerate.__new__» ⟨[.type "enumerate", .ref d], []⟩) (fun _ R s => s.heap.get? d = some o ∧
      R (.ok (.ret (.ref (s.heap.push { cls := .type "dict_keyiterator", data := .fields #[.ref d, .int 0 0, .int es.size 0, .int ep 0] }).objs.size)))
        { s with heap := (s.heap.push { cls := .type "dict_keyiterator", data := .fields #[.ref d, .int 0 0, .int es.size 0, .int ep 0] }).push { cls := .type "enumerate", data := .fields #[.none, .bool false, .ref s.heap.objs.size, rawInt 0, .none, .none] } }) :=
  .of_wp fun prog w A R s h => by
    obtain ⟨hp, g, dr, tk, os⟩ := s; obtain ⟨hl, h⟩ := h
    have hsub := sub_enumerate
    have hL : (Shared.mk hp g dr tk os).heap.get? d = some o := hl
    wp_walk using AutoSeq1.wpAny_loadPart' hl
    refine wpAny_stack_any fun st => wpAny_pure ?_
    split
    · rename_i c _ _ _ _ _
      cases (c == Value.type "enumerate")
      · wp_walk using AutoSeq1.wpAny_loadPart' hl, L2.iter_keys hs hL hc hdat
        exact ⟨_, rfl, h⟩
      · wp_walk using AutoSeq1.wpAny_loadPart' hl, L2.iter_keys hs hL hc hdat
        exact ⟨_, rfl, h⟩
    · wp_walk using AutoSeq1.wpAny_loadPart' hl, L2.iter_keys hs hL hc hdat
      exact ⟨_, rfl, h⟩
section
variable {prog : Program} {w : World} {A : Around} {E : Value → Shared → Prop} {s : Shared}
theorem call_enumK {d : Addr} {o : Obj} {es : Array DictEntry} {ep : Nat} {Q : Value → Shared → Prop} (hs : (d == sysModules) = false) (hd : s.heap.get? d = some o) (hc : o.ExactDict) (hdat : o.data = .dict es ep)
    (h : ∀ h', IsEnum h' (s.heap.objs.size + 1) s.heap.objs.size 0 .none → h'.IsKeyIter s.heap.objs.size d 0 es.size ep → h'.objs.size = s.heap.objs.size + 2 →
      (∀ b o, s.heap.get? b = some o → h'.get? b = some o) → Q (.ref (s.heap.objs.size + 1)) { s with heap := h' }) :
    wpAny (model prog w) A (call (.type "enumerate") [.ref d]) Q E s := by
  refine callType_new F.called_enumerate (by decide) (F.typeCall_enumerate_1 _) (F.newCall_enumerate_1 _) (fun obj => F.args_object_init_2 obj _) F.entry_enumerate_new
    (meets_new d o es ep hs hc hdat) ⟨hd, ?_⟩
  have hz : (s.heap.push { cls := .type "dict_keyiterator", data := .fields #[.ref d, .int 0 0, .int es.size 0, .int ep 0] }).objs.size = s.heap.objs.size + 1 := Heap.size_push ..
  show _ ∧ _
  rw [hz]
  have he : IsEnum ((s.heap.push { cls := .type "dict_keyiterator", data := .fields #[.ref d, .int 0 0, .int es.size 0, .int ep 0] }).push
      { cls := .type "enumerate", data := .fields #[.none, .bool false, .ref s.heap.objs.size, rawInt 0, .none, .none] }) (s.heap.objs.size + 1) s.heap.objs.size 0 .none := by
    rw [← hz]
    exact Heap.get?_push_size _ rfl
  refine ⟨⟨_, he, rfl⟩, h _ he ⟨_, Heap.get?_push_of_some _ (Heap.get?_push_size _ rfl), rfl, rfl⟩ (by rw [Heap.size_push, hz]) fun b o' e => Heap.get?_push_of_some _ (Heap.get?_push_of_some _ e)⟩
end
end EK
end PySem

set_option Elab.async false
set_option linter.all false
set_option maxRecDepth 100000
set_option maxHeartbeats 4000000
namespace L2
open PySem PySem.Spec PyProof.Rows
/-- the places and the keys of the locked dict at d, each a new tuple -/
def Itek (d : Addr) (o : Obj) (kvs : List (Key × V)) : It :=
  ⟨fun i H => H d = some (.frz o (.dK kvs)) ∧ i < kvs.length, fun i H x H' => ∃ T k v, kvs[i]? = some (k, v) ∧ x = .ref T ∧ H T = none ∧ H' = upd H T (.tup [.int (i : Nat), kV k]), fun i H => H d = some (.frz o (.dK kvs)) ∧ kvs.length ≤ i⟩
section
variable {P : Program} {w : World} {K : PySem.W.Frag} {d : Addr} {o : Obj} {es : Array DictEntry} {ep : Nat}
theorem turn_enumK {kvs : List (Key × V)} {elts : List Expr} {kk : Nat} {tpos : Pos} (e it : Addr) (hod : o.data = .dict es ep) (hde : d ≠ e) (hdi : d ≠ it) :
    Turn P w K (.Tuple elts kk tpos) (Itek d o kvs) [e, it] e (fun i h => (∃ old, IsEnum h e it ((i : Nat) : Int) old) ∧ h.IsKeyIter it d i kvs.length ep ∧ e ≠ it) where
  mem := by simp
  obj := fun i h st b hb => by
    obtain ⟨⟨old, he⟩, ⟨o, ho, hc, hd⟩, _⟩ := st
    have e' : b = e ∨ b = it := by simpa using hb
    rcases e' with z | z
    · rw [z]; exact ⟨_, he, fun v q => nomatch q⟩
    · rw [z]; exact ⟨o, ho, fun v q => by rw [hd] at q; cases q⟩
  keep := fun i h h' st k => let ⟨⟨old, he⟩, ⟨oi, ho, r⟩, hne⟩ := st; ⟨⟨old, k e (by simp) _ he⟩, ⟨oi, k it (by simp) oi ho, r⟩, hne⟩
  item := by
    intro X hP hw hK hc i pins s σ H E I hf st hg
    subst hP hw hK
    obtain ⟨⟨old, he⟩, hit, hne⟩ := st
    obtain ⟨hd, hi⟩ := hg
    obtain ⟨hs, hgd, hx, es', ep', vs, hdt, hsz, kv, hm⟩ := I.frzK hd
    obtain ⟨rfl, rfl⟩ := dict_ep hod hdt
    obtain ⟨⟨k, v⟩, hkv⟩ : ∃ p, kvs[i]? = some p := ⟨kvs[i], List.getElem?_eq_getElem hi⟩
    obtain ⟨u, hu, ru⟩ := kv_get kv hkv
    have hl : kvs.length = vs.length := Paired.length kv
    have hel : e < s.heap.objs.size := Heap.lt_size he
    have hil : it < s.heap.objs.size := by obtain ⟨_, q, _⟩ := hit; exact Heap.lt_size q
    refine wpAny_pyNext_enum_itemD (EK.draws_keys (prog := X.prog) (w := X.w) (A := X.A.in1) (it := it) (I.ok.hd hc) hod hsz hdi) he ⟨hit, hgd⟩ hi hne (by simpa using ⟨hne, Ne.symm hde⟩) fun x h' tk hP ho hst hT hsz' hk => ?_
    obtain ⟨en, hen, rfl⟩ := hP
    obtain ⟨od2, es2, hod2, _, hdd2, _, hp, _⟩ := hm
    rw [hgd] at hod2
    cases hod2
    obtain ⟨rfl, _⟩ := dict_ep hod hdd2
    have hkey : keyIs k en.key = true := (hp.get? (e := en) (by simpa using hen) hu).1
    refine ⟨_, rfl, wpAny_letOwnedTupleGo_enum (s := { s with heap := h', toks := tk + 1 }) ho fun h'' he' sb => ?_⟩
    have hT2 : h''.get? s.heap.objs.size = some { cls := .type "tuple", data := .seq #[.int i tk, en.key] } := (sb.2 _ (Nat.ne_of_gt hel)).trans hT
    have new : ObjOk X.prog X.w (upd H s.heap.objs.size (.tup [.int (i : Nat), kV k])) h'' s.heap.objs.size (.tup [.int (i : Nat), kV k]) :=
      ⟨by show 2 ≤ sizeLine; decide, [.int i tk, en.key], .cons ⟨_, rfl⟩ (.cons (relV_key hkey) .nil), ⟨_, hT2, rfl, _, rfl⟩⟩
    have I1 : Inv X pins σ (upd H s.heap.objs.size (.tup [.int (i : Nat), kV k])) { s with heap := h'', toks := tk + 1 } :=
      I.turnedNew (ch := [e, it]) (fun b ob hb q => (sb.2 b (fun z => hb (by simp [z]))).trans (hk b ob (fun z => hb (by simp [z])) (fun z => hb (by simp [z])) q)) hf (Nat.le_refl _) new
    obtain ⟨⟨oi, hoi, ri⟩, _⟩ := hst
    refine ⟨.ref s.heap.objs.size, _, I1, rfl, ⟨_, k, v, hkv, rfl, I.hok.fresh (Nat.le_refl _), rfl⟩, ⟨⟨en.key, ?_⟩, ⟨oi, (sb.2 it (Ne.symm hne)).trans hoi, ri⟩, hne⟩, fun b hb => ?_⟩
    · have e1 : ((i + 1 : Nat) : Int) = (i : Int) + 1 := by omega
      rw [e1]; exact he'
    · have hb' : b < s.heap.objs.size := by
        have e' : b = e ∨ b = it := by simpa using hb
        rcases e' with z | z
        · rw [z]; exact hel
        · rw [z]; exact hil
      rw [upd_ne (Nat.ne_of_lt hb')]
      exact (hf b hb).1
  done := by
    intro X hP hw hK hc i pins s σ H E I hf st hg
    subst hP hw hK
    obtain ⟨⟨old, he⟩, hit, hne⟩ := st
    obtain ⟨hd, hi⟩ := hg
    obtain ⟨hs, hgd, hx, es', ep', vs, hdt, hsz, kv, hm⟩ := I.frzK hd
    obtain ⟨rfl, rfl⟩ := dict_ep hod hdt
    obtain ⟨f0, f1, f2, f3, f4, f5⟩ := hf it (by simp)
    have hT : s.TypeIs (.ref e) "enumerate" := ⟨_, he, rfl⟩
    unfold pyNext
    refine wpAny_bind (wpAny_attempt (wpAny_callSpecial?_slot (name := Str.ofString "__next__") hT F.slot_enumerate_next
      (wpAny_call_entry F.slot_enumerate_next hT F.entry_enumerate_next ?_ (F.args_enumerate_next_1 _))))
    show wpAny _ _ (field (.ref e) 2 >>= _) _ _ _
    refine wpAny_bind (wpAny_field he rfl (x := .ref it) rfl ?_)
    refine wpAny_bind (EK.nextOf_key_end (show X.A.in1.handled = none from I.ok.hd hc) hit hgd hdt hsz hi fun h' x he' hx' => ?_)
    obtain ⟨ox, hox, hcx⟩ := hx'
    refine wpAny_bind (wpAny_isInstance (T := "StopIteration") (b := true) ⟨ox, hox, hcx⟩ isSubtype_stop ?_)
    exact wpAny_pure ⟨rfl, I.turned (t' := s.toks) (fun b ob hb q => he' b ob hb q) f0 f1 f3 f4 f5⟩
  self := fun A i s Q E st h => let ⟨⟨_, he⟩, _⟩ := st; wpAny_pyIter_enum he h
end
def iEnumK (ta : TA) : TI := fun σ H R => ta σ H fun vs H1 => ∃ d o kvs, vs = [.ref d] ∧ H1 d = some (.frz o (.dK kvs)) ∧ R (Itek d o kvs) H1
theorem pi_enumK {X : Cx} {e : Expr} {ta : TA} {p pos tpos : Pos} {elts : List Expr} {kk : Nat} (hg : Gl X "enumerate") (hm : X.mg "enumerate" = none) (ha : PA X [e] ta) (hs : starEach [e] X.env = [(false, eval e X.env)] := by rfl) :
    PI X (.Tuple elts kk tpos) (.Call (.Name "enumerate" p) [e] [] pos) (iEnumK ta) := by
  refine ⟨fun pins s σ H R I h => ?_⟩
  refine Call_ (ld_blt I hg hm boot_enumerate (PyProof.Rows.callWith_type1 (thn (ha.run pos pins s σ H _ I h) fun us s1 ⟨vs, H1, I1, r1, q1⟩ => ?_) hs rfl))
  obtain ⟨d, o, kvs, ex, hq, q⟩ := q1
  subst ex
  cases r1 with
  | cons r rr =>
    cases rr
    cases r
    obtain ⟨hs', hgd, hx, es, ep, vs, hdt, hsz, kv, hmm⟩ := I1.frzK hq
    have hlt : d < s1.heap.objs.size := Heap.lt_size hgd
    refine EK.call_enumK hs' hgd hx hdt fun h' he hit hsz' hk => wpAny_pyIter_enum he ?_
    have I2 : Inv X pins σ H1 { s1 with heap := h' } := I1.kept (t' := s1.toks) hk
    rw [hsz] at hit
    refine ⟨s1.heap.objs.size + 1, [s1.heap.objs.size + 1, s1.heap.objs.size], _, _, H1, rfl, I2, turn_enumK (s1.heap.objs.size + 1) s1.heap.objs.size hdt (Nat.ne_of_lt (Nat.lt_succ_of_lt hlt)) (Nat.ne_of_lt hlt), ⟨⟨.none, he⟩, hit, Nat.succ_ne_self _⟩, fun b hb => ?_, q⟩
    have e' : b = s1.heap.objs.size + 1 ∨ b = s1.heap.objs.size := by simpa using hb
    have hle : s1.heap.objs.size ≤ b := by
      rcases e' with z | z
      · rw [z]; exact Nat.le_add_right _ _
      · rw [z]; exact Nat.le_refl _
    exact I1.fpOk hle (I1.hok.fresh hle)
theorem walk_enumK {d : Addr} {o : Obj} {kvs : List (Key × V)} : Walk (Itek d o kvs) kvs.length (fun H => H d = some (.frz o (.dK kvs))) (YPair (fun i => some (.int (i : Nat))) (fun i => kvs[i]?.map fun kv => kV kv.1)) :=
  ⟨fun i H hi q => ⟨q, hi⟩, fun H q => ⟨q, Nat.le_refl _⟩, fun i H x H' hi q y => by
    obtain ⟨T, k, v, hkv, rfl, hT, rfl⟩ := y
    exact ⟨T, _, kV k, rfl, hT, rfl, rfl, by show Option.map _ kvs[i]? = _; rw [hkv] <;> rfl⟩⟩
end L2

set_option Elab.async false
set_option linter.all false
set_option maxRecDepth 100000
set_option maxHeartbeats 4000000
namespace Dv
open PySem L2 Evl
section
variable {K : PySem.W.Frag} {σ : L2.St} {F F1 H H1 : Hp} {te ta tb tc : TE} {d a b : PyData} {ds es : List PyData} {ad : Addr} {kvs : List (Key × V)}
/-- what stands at a dict's address is not seen by data -/
def NoSq (o : Option HO) : Prop := ∀ xs, o ≠ some (.lst xs) ∧ o ≠ some (.tup xs) ∧ ∀ ob, o ≠ some (.frz ob (.lst xs)) ∧ o ≠ some (.frz ob (.tup xs))
theorem noSq_dK : NoSq (some (.dK kvs)) := fun xs => ⟨(fun z => by cases z), (fun z => by cases z), fun ob => ⟨(fun z => by cases z), (fun z => by cases z)⟩⟩
theorem noSq_frz {o : Obj} : NoSq (some (.frz o (.dK kvs))) := fun xs => ⟨(fun z => by cases z), (fun z => by cases z), fun ob => ⟨(fun z => by cases z), (fun z => by cases z)⟩⟩
theorem noSq_none : NoSq none := fun xs => ⟨(fun z => by cases z), (fun z => by cases z), fun ob => ⟨(fun z => by cases z), (fun z => by cases z)⟩⟩
theorem sqL_put {p : Addr} {xs : List V} {o : HO} (h : NoSq (F ad)) (hs : SqL K F p xs) : SqL K (upd F ad o) p xs := by
  rcases hs with (q | ⟨ob, q⟩) | q
  · refine .inl (.inl ?_)
    rw [upd_ne (fun z => (h xs).1 (by rw [← z]; exact q))]
    exact q
  · refine .inl (.inr ⟨ob, ?_⟩)
    rw [upd_ne (fun z => ((h xs).2.2 ob).1 (by rw [← z]; exact q))]
    exact q
  · exact .inr q
theorem sqT_put {p : Addr} {xs : List V} {o : HO} (h : NoSq (F ad)) (hs : SqT K F p xs) : SqT K (upd F ad o) p xs := by
  rcases hs with (q | ⟨ob, q⟩) | q
  · refine .inl (.inl ?_)
    rw [upd_ne (fun z => (h xs).2.1 (by rw [← z]; exact q))]
    exact q
  · refine .inl (.inr ⟨ob, ?_⟩)
    rw [upd_ne (fun z => ((h xs).2.2 ob).2 (by rw [← z]; exact q))]
    exact q
  · exact .inr q
mutual
theorem dp_put {o : HO} (h : NoSq (F ad)) : ∀ {d : PyData} {v : V}, Dp K F v d → Dp K (upd F ad o) v d
  | .none, _, e => by cases e; exact .non
  | .bool b, _, e => by cases e; exact .bl b
  | .int i, _, e => by cases e; exact .int i
  | .str x, _, e => by cases e; exact .str x
  | .list ds, _, e => by
    cases e with
    | lst hs ha => exact .lst (sqL_put h hs) (dps_put h ha)
  | .tuple ds, _, e => by
    cases e with
    | tup hs ha => exact .tup (sqT_put h hs) (dps_put h ha)
  | .dict _, _, e => by cases e
theorem dps_put {o : HO} (h : NoSq (F ad)) : ∀ {ds : List PyData} {vs : List V}, DpAll K F vs ds → DpAll K (upd F ad o) vs ds
  | [], _, e => by cases e; exact .nil
  | d :: ds, _, e => by
    cases e with
    | cons h1 h2 => exact .cons (dp_put h h1) (dps_put h h2)
end
theorem ex_upd {F H : Hp} {p : Addr} {o : HO} (e : Ex F H) : Ex (upd F p o) (upd H p o) := fun a u h => by
  by_cases q : a = p
  · subst q
    rw [upd_same] at h ⊢
    exact h
  · rw [upd_ne q] at h ⊢
    exact e a u h
/-- from the locked heaps back -/
theorem Gr.unlock {F H F' H' : Hp} {o u : HO} (hd : F ad = some u) (e : Ex F H) (g : Gr (upd F ad o) (upd H ad o) F' H') : F' ad = some o ∧ H' ad = some o ∧ Gr F H (upd F' ad u) (upd H' ad u) := by
  have f1 : F' ad = some o := g.fx ad o upd_same
  refine ⟨f1, g.fh ad o f1, ?_, ex_upd g.fh, ?_, ?_⟩
  · intro a w h
    by_cases q : a = ad
    · subst q
      rw [upd_same]
      exact hd.symm.trans h
    · rw [upd_ne q]
      exact g.fx a w (by rw [upd_ne q]; exact h)
  · intro a w h
    by_cases q : a = ad
    · subst q
      rw [upd_same]
      exact (e _ _ hd).symm.trans h
    · rw [upd_ne q]
      exact g.hx a w (by rw [upd_ne q]; exact h)
  · intro a h1 h2
    by_cases q : a = ad
    · subst q
      rw [hd] at h1
      cases h1
    · rw [upd_ne q] at h2
      have := g.fr a (by rw [upd_ne q]; exact h1) h2
      rw [upd_ne q] at this
      exact this
/-- a comprehension over a dict of F: within, the dict is locked -/
theorem el_lock (hd : F ad = some (.dK kvs)) (h : ∀ od, EvL K te σ (upd F ad (.frz od (.dK kvs))) ds) : EvL K (tLockE te) σ F ds := fun H e Q q =>
  ⟨ad, _, e _ _ hd, trivial, fun od => h od (upd H ad (.frz od (.dK kvs))) (ex_upd e) _ fun p vs F' H' g h1 h2 h3 h4 => by
    obtain ⟨f1, f2, gg⟩ := Gr.unlock hd e g
    have hp : p ≠ ad := fun z => by
      subst z
      rw [upd_same] at h1
      cases h1
    refine ⟨f2, q p vs _ _ gg (by rw [upd_ne hp] at h1; exact h1) (by rw [upd_ne hp]; exact h2) (by rw [upd_ne hp]; exact h3) (dps_put (by rw [f1]; exact noSq_frz) h4)⟩⟩
/-! ### a locked dict walked -/
variable {o : Obj} {td : TE}
theorem it_vals (ht : ∀ H1, Ex F H1 → ∀ Q : VK, Q (.ref ad) H1 → td σ H1 Q) (hd : F ad = some (.frz o (.dK kvs))) (hv : DpAll K F (kvs.map Prod.snd) ds) : ItD K (iVals td) σ F ds := fun H e R q =>
  ht H e _ ⟨ad, o, kvs, rfl, e _ _ hd, q _ F H (Gr.refl e) ⟨_, _, by rw [← dps_len hv, List.length_map]; exact walk_values, fun H' e' => e' _ _ hd, fun F2 i H2 x H3 hi e1 e2 y => by
    obtain ⟨rfl, k, hk⟩ := y
    obtain ⟨d, h1, h2⟩ := dps_get hv (v := x) (i := i) (by rw [List.getElem?_map, hk] <;> rfl)
    exact ⟨F2, d, h1, Gr.refl e2, dp_ex e1 h2⟩⟩⟩
theorem it_enumK {tas : TA} {names : List Str} (ht : ∀ H1, Ex F H1 → ∀ Q : List V → Hp → Prop, Q [.ref ad] H1 → tas σ H1 Q) (hd : F ad = some (.frz o (.dK kvs))) (hn : kvs.map Prod.fst = names.map Sum.inr) :
    ItD K (iEnumK tas) σ F (names.zipIdx.map fun z => .tuple [.int z.2, .str z.1]) := fun H e R q =>
  ht H e _ ⟨ad, o, kvs, rfl, e _ _ hd, q _ F H (Gr.refl e) ⟨_, _, by
    have : kvs.length = names.length := by
      have := congrArg List.length hn
      rwa [List.length_map, List.length_map] at this
    rw [List.length_map, List.length_zipIdx, ← this]
    exact walk_enumK, fun H' e' => e' _ _ hd, fun F2 i H2 x H3 hi e1 e2 y => by
    obtain ⟨T, x, y, rfl, hT, rfl, f1, f2⟩ := y
    cases f1
    have hk : (names.map (Sum.inr : Str → Key))[i]? = (kvs.map Prod.fst)[i]? := by rw [hn]
    rw [List.getElem?_map, List.getElem?_map] at hk
    have f2 : Option.map (fun kv => kV kv.1) kvs[i]? = some y := f2
    cases hq : kvs[i]? with
    | none => rw [hq] at f2; cases f2
    | some kv =>
      rw [hq] at f2 hk
      cases hz : names[i]? with
      | none => rw [hz] at hk; cases hk
      | some nm =>
        rw [hz] at hk
        have hk' : (Sum.inr nm : Key) = kv.1 := Option.some.inj hk
        have f2' : kV kv.1 = y := Option.some.inj f2
        rw [← hk'] at f2'
        subst f2'
        refine ⟨_, .tuple [.int i, .str nm], ?_, Gr.new e2 hT, .tup (st_of upd_same) (.cons (.int _) (.cons (.str _) .nil))⟩
        rw [List.getElem?_map, List.getElem?_zipIdx, hz]
        simp⟩⟩
end
end Dv

set_option Elab.async false
set_option linter.all false
set_option maxRecDepth 100000
set_option maxHeartbeats 4000000
namespace L2
open PySem PySem.Spec PyProof.Rows
/-- a dict comprehension over a walk: Pv by the turn and the heap (the new dict at D within) -/
theorem dc_it {J : It} {n : Nat} {G : Hp → Prop} {Y : Nat → Hp → V → Hp → Prop} (w : Walk J n G Y) {g : TG} {tt : TT} {tk tv : TE} {vs : List Nat} {σ : St} {H1 : Hp} {D : Addr} {Qd : Hp → Prop} (Pv : Nat → Hp → Prop) (h0 : Pv 0 (upd H1 D (.dK []))) (hG : ∀ i H, i ≤ n → Pv i H → G H)
    (hs : ∀ i x H H', i < n → Pv i H → Y i H x H' → g x (wipe σ vs) H' fun σ2 H2 => wipe σ2 vs = wipe σ vs ∧ tt σ2 H2 fun b H3 =>
      if b = true then tk σ2 H3 fun y H4 => tv σ2 H4 fun z H5 => ∃ kvs k, y = kV k ∧ H5 D = some (.dK kvs) ∧ kvs.length < sizeLine ∧ Pv (i + 1) (upd H5 D (.dK (putK kvs k z))) else Pv (i + 1) H3) (hd : ∀ H, Pv n H → Qd H) :
    ∃ W : Nat → Nat → Hp → Prop, (∃ m, W 0 m (upd H1 D (.dK []))) ∧ ∀ i m H, W i m H →
      (J.stop i H ∧ Qd H) ∨ (J.go i H ∧ ∃ Nx : Hp → Prop, (∀ H', Nx H' → ∃ m', m' < m ∧ W (i + 1) m' H') ∧ ∀ x H', J.yld i H x H' → g x (wipe σ vs) H' fun σ2 H2 => wipe σ2 vs = wipe σ vs ∧ tt σ2 H2 fun b H3 =>
        if b = true then tk σ2 H3 fun y H4 => tv σ2 H4 fun z H5 => ∃ kvs k, y = kV k ∧ H5 D = some (.dK kvs) ∧ kvs.length < sizeLine ∧ Nx (upd H5 D (.dK (putK kvs k z))) else Nx H3) := by
  refine ⟨fun i m H => m = n - i ∧ i ≤ n ∧ Pv i H, ⟨n, by simp, Nat.zero_le _, h0⟩, ?_⟩
  rintro i m H ⟨rfl, hi, p⟩
  have q := hG i H hi p
  by_cases hlt : i < n
  · exact .inr ⟨w.goes i H hlt q, Pv (i + 1), fun H' p' => ⟨n - (i + 1), by omega, rfl, hlt, p'⟩, fun x H' y => hs i x H H' hlt p (w.yields i H x H' hlt q y)⟩
  · have e : i = n := by omega
    subst e
    exact .inl ⟨w.stops H q, hd H p⟩
end L2
namespace Dv
open PySem L2 Evl
section
variable {K : PySem.W.Frag} {σ : L2.St} {F F1 H H1 : Hp} {te ta tb tc : TE} {d a b : PyData} {ds es : List PyData} {ad : Addr} {kvs : List (Key × V)}
variable (K) in
/-- a new dict, not yet of F' -/
def EvK (te : TE) (σ : L2.St) (F : Hp) (ks : List Key) (ds : List PyData) : Prop := ∀ H, Ex F H → ∀ Q : VK, (∀ p vs F' H', Gr F H F' H' → H p = none → F' p = none → H' p = some (.dK (ks.zip vs)) → DpAll K F' vs ds → Q (.ref p) H') → te σ H Q
theorem ek_lock {ks : List Key} (hd : F ad = some (.dK kvs)) (h : ∀ od, EvK K te σ (upd F ad (.frz od (.dK kvs))) ks ds) : EvK K (tLockE te) σ F ks ds := fun H e Q q =>
  ⟨ad, _, e _ _ hd, trivial, fun od => h od (upd H ad (.frz od (.dK kvs))) (ex_upd e) _ fun p vs F' H' g h1 h2 h3 h4 => by
    obtain ⟨f1, f2, gg⟩ := Gr.unlock hd e g
    have hp : p ≠ ad := fun z => by
      subst z
      rw [upd_same] at h1
      cases h1
    refine ⟨f2, q p vs _ _ gg (by rw [upd_ne hp] at h1; exact h1) (by rw [upd_ne hp]; exact h2) (by rw [upd_ne hp]; exact h3) (dps_put (by rw [f1]; exact noSq_frz) h4)⟩⟩
theorem putK_new {κ : Type} [DecidableEq κ] {kvs : List (κ × V)} {k : κ} {v : V} (h : k ∉ kvs.map Prod.fst) : putK kvs k v = kvs ++ [(k, v)] := by
  unfold putK
  rw [if_neg]
  intro z
  obtain ⟨p, hp, e⟩ := List.any_eq_true.mp z
  exact h (List.mem_map.mpr ⟨p, hp, of_decide_eq_true e⟩)
theorem zip_fst : ∀ {ks : List Key} {vs : List V}, vs.length = ks.length → (ks.zip vs).map Prod.fst = ks
  | [], _, _ => by simp
  | k :: ks, [], h => by cases h
  | k :: ks, v :: vs, h => by
    rw [List.zip_cons_cons, List.map_cons, zip_fst (Nat.succ.inj h)]
theorem zip_snd : ∀ {ks : List Key} {vs : List V}, vs.length = ks.length → (ks.zip vs).map Prod.snd = vs
  | [], [], _ => rfl
  | [], _ :: _, h => by cases h
  | k :: ks, [], h => by cases h
  | k :: ks, v :: vs, h => by
    rw [List.zip_cons_cons, List.map_cons, zip_snd (Nat.succ.inj h)]
theorem zip_app {ks : List Key} {vs : List V} {k : Key} {v : V} (h : vs.length = ks.length) : ks.zip vs ++ [(k, v)] = (ks ++ [k]).zip (vs ++ [v]) := by
  rw [List.zip_append h.symm] <;> rfl
/-- {k: v for x in xs}, new texts as keys -/
theorem dc_rule {α : Type} {wi : TI} {g : TG} {vs : List Nat} {tk tv : TE} (xs : List α) (enc vf : α → PyData) (kf : α → Str) (hi : ItD K wi σ F (xs.map enc)) (hz : xs.length ≤ 40000) (hn : (xs.map kf).Nodup)
    (hb : ∀ x, x ∈ xs → ∀ v F1, Ex F F1 → Dp K F1 v (enc x) → ∃ σ2, (∀ H, Ex F1 H → ∀ Q : L2.St → Hp → Prop, Q σ2 H → g v (wipe σ vs) H Q) ∧ wipe σ2 vs = wipe σ vs ∧ EvD K tk σ2 F1 (.str (kf x)) ∧ EvD K tv σ2 F1 (vf x)) :
    EvK K (tDc wi g tYes tk tv vs) σ F (xs.map fun x => Sum.inr (kf x)) (xs.map vf) := fun H eH Q q => hi H eH _ fun J F1 H1 g1 wd => by
  obtain ⟨G, Y, W, hG, hY⟩ := wd
  rw [List.length_map] at W
  intro D hD
  have fD : F1 D = none := ex_none g1.fh hD
  refine dc_it W (Pv := fun i H' => ∃ F' ws, Gr F1 H1 F' H' ∧ F' D = none ∧ H' D = some (.dK (((xs.take i).map fun x => (Sum.inr (kf x) : Key)).zip ws)) ∧ DpAll K F' ws ((xs.take i).map vf)) ⟨F1, [], Gr.only g1.fh hD, fD, upd_same, by rw [List.take_zero]; exact .nil⟩
    (fun i H' _ p => ?_) (fun i v H2 H3 hin p y => ?_) (fun H' p => ?_)
  · obtain ⟨F', ws, g, _⟩ := p
    exact hG _ (g.fx.trans g.fh)
  · obtain ⟨F2, ws, g2, f2, h2, hw⟩ := p
    obtain ⟨F3, d, hd, g3, hv⟩ := hY F2 i H2 v H3 (by rw [List.length_map]; exact hin) g2.fx g2.fh y
    rw [List.getElem?_map, List.getElem?_eq_getElem hin] at hd
    cases hd
    have hx : xs[i] ∈ xs := List.getElem_mem hin
    obtain ⟨σ2, hg, hwp, hk, he⟩ := hb xs[i] hx v F3 (g1.fx.trans (g2.fx.trans g3.fx)) hv
    have k3 := g3.keep h2 f2
    refine hg H3 g3.fh _ ⟨hwp, ?_⟩
    unfold tYes
    refine iteT ?_
    refine hk H3 g3.fh _ fun y F4 H4 g4 hy => (he.mono g4.fx) H4 g4.fh _ fun z F5 H5 g5 hz5 => ?_
    cases hy
    have k5 := (g4.trans g5).keep k3.1 k3.2
    have tk' : (xs.take (i + 1)) = xs.take i ++ [xs[i]] := List.take_succ_eq_append_getElem hin
    have wl : ws.length = ((xs.take i).map fun x => (Sum.inr (kf x) : Key)).length := by rw [dps_len hw, List.length_map, List.length_map]
    have tl : (xs.take i).length ≤ xs.length := by rw [List.length_take]; omega
    refine ⟨_, Sum.inr (kf xs[i]), rfl, k5.1, sz_lt (by
      rw [List.length_zip, List.length_map]
      omega), F5, ws ++ [z], (g2.trans (g3.trans (g4.trans g5))).mut hD k5.2, k5.2, ?_, ?_⟩
    · rw [upd_same, putK_new, zip_app wl, tk', List.map_append] <;> try rfl
      rw [zip_fst wl]
      intro hm
      obtain ⟨x, hx', hk'⟩ := List.mem_map.mp hm
      have e1 : kf x = kf xs[i] := Sum.inr.inj hk'
      have hnd : ((xs.take i ++ [xs[i]]).map kf).Nodup := by
        rw [← tk']
        exact List.Nodup.sublist (List.Sublist.map _ (List.take_sublist _ _)) hn
      rw [List.map_append, List.nodup_append] at hnd
      exact hnd.2.2 (kf x) (List.mem_map.mpr ⟨x, hx', rfl⟩) (kf xs[i]) (by simp) e1
    · rw [tk', List.map_append]
      exact dps_app (dps_ex (g3.fx.trans (g4.fx.trans g5.fx)) hw) (.cons hz5 .nil)
  · obtain ⟨F', ws, g, fd, hd, hw⟩ := p
    rw [List.take_length] at hw hd
    exact q D ws F' H' (g1.trans g) (ex_none g1.hx hD) fd hd hw
end
end Dv

set_option Elab.async false
set_option linter.all false
set_option maxRecDepth 100000
set_option maxHeartbeats 4000000
namespace Dv
open PySem L2 Evl
/-- what __init__ of an object at x (its dict at dx) does to the heaps: F, H ahead know neither -/
structure Bx (x dx : Addr) (F H F' H' : Hp) : Prop where
  fx : Ex F F'
  fh : Ex F' H'
  hx : ∀ a o, a ≠ x → H a = some o → H' a = some o
  fr : ∀ a, F a = none → F' a ≠ none → H a = none ∨ a = x ∨ a = dx
theorem Bx.step {x dx : Addr} {F H F' H' F2 H2 : Hp} (b : Bx x dx F H F' H') (g : Gr F' H' F2 H2) : Bx x dx F H F2 H2 :=
  ⟨b.fx.trans g.fx, g.fh, fun a o h1 h2 => g.hx _ _ (b.hx a o h1 h2), fun a h1 h2 => by
    cases h : F' a with
    | some o => exact b.fr a h1 (by rw [h]; exact fun z => nomatch z)
    | none =>
      by_cases q : a = x
      · exact .inr (.inl q)
      · cases h3 : H a with
        | none => exact .inl rfl
        | some o =>
          have := g.fr a h h2
          rw [b.hx a o q h3] at this
          cases this⟩
/-- an object that is new, or x itself, set anew in both -/
theorem Bx.put {x dx p : Addr} {F H F' H' : Hp} {o : HO} (b : Bx x dx F H F' H') (hp : H p = none ∨ p = x) (fp : F p = none) : Bx x dx F H (upd F' p o) (upd H' p o) :=
  ⟨fun a u h => by
    rw [upd_ne (ne_of_none h fp)]
    exact b.fx a u h, ex_upd b.fh, fun a u h1 h2 => by
    have : a ≠ p := fun z => by
      rcases hp with hp | hp
      · rw [z, hp] at h2; cases h2
      · exact h1 (z.trans hp)
    rw [upd_ne this]
    exact b.hx a u h1 h2, fun a h1 h2 => by
    by_cases q : a = p
    · rcases hp with hp | hp
      · exact .inl (by rw [q]; exact hp)
      · exact .inr (.inl (q.trans hp))
    · rw [upd_ne q] at h2
      exact b.fr a h1 h2⟩
/-- in H' alone -/
theorem Bx.mut {x dx p : Addr} {F H F' H' : Hp} {o : HO} (b : Bx x dx F H F' H') (hp : H p = none) (fp : F' p = none) : Bx x dx F H F' (upd H' p o) :=
  ⟨b.fx, Ex.mut b.fh fp, fun a u h1 h2 => by
    rw [upd_ne (ne_of_none h2 hp)]
    exact b.hx a u h1 h2, b.fr⟩
theorem Bx.take {x dx p : Addr} {F H F' H' : Hp} {o : HO} (b : Bx x dx F H F' H') (hp : H p = none) (fp : F' p = none) (h : H' p = some o) : Bx x dx F H (upd F' p o) H' :=
  ⟨fun a u ha => by
    rw [upd_ne (ne_of_none (b.fx a u ha) fp)]
    exact b.fx a u ha, fun a u ha => by
    by_cases q : a = p
    · rw [q] at ha ⊢
      rw [upd_same] at ha
      cases ha
      exact h
    · rw [upd_ne q] at ha
      exact b.fh a u ha, b.hx, fun a h1 h2 => by
    by_cases q : a = p
    · exact .inl (by rw [q]; exact hp)
    · rw [upd_ne q] at h2
      exact b.fr a h1 h2⟩
section
variable {K : PySem.W.Frag} {σ : L2.St} {F F1 H H1 : Hp} {te ta tb tc : TE} {d a b : PyData} {ds es : List PyData} {ad : Addr} {kvs : List (Key × V)}
theorem fld_ref {C dx x : Addr} {fs : List (Str × V)} {f : Str} {v : V} {i : Nat} (hi : σ[i]? = some (some (.ref x))) (hx : F x = some (.ins C dx fs)) (c : Cls K C) (n : NoAttr K C f) (hl : fs.lookup f = some v) : ∀ H1, Ex F H1 → ∀ Q : VK, Q v H1 → tFld K (tVar i) f σ H1 Q :=
  fun H1 e Q q => ⟨_, hi, x, C, dx, fs, v, rfl, e _ _ hx, c, n, hl, q⟩
theorem valV_none {κ : Type} [DecidableEq κ] {kvs : List (κ × V)} {k : κ} (h : k ∉ kvs.map Prod.fst) : valV kvs k = none := by
  unfold valV
  cases q : kvs.find? fun kv => decide (kv.1 = k) with
  | none => rfl
  | some p =>
    have h1 := List.find?_some q
    exact absurd (List.mem_map.mpr ⟨p, List.mem_of_find?_eq_some q, of_decide_eq_true h1⟩) h
/-- for item in xs: if not call(item) or key in self.f: raise ..; self.f[key] = val -/
theorem fill_loop {α : Type} {D : Ends} {tcall : TE} {tk tv : TE} {C dx x ro : Addr} {fs : List (Str × V)} {f : Str} {vs0 : List V} (R : Hp → Hp → Prop) (xs : List α) (enc vf : α → PyData) (kf : α → Str) (σ0 : V → L2.St)
    (h0 : σ[0]? = some (some (.ref x))) (hs0 : ∀ v, (σ0 v)[0]? = some (some (.ref x))) (hset : ∀ v, σ.set 3 (some v) = σ0 v) (hset2 : ∀ v u, (σ0 v).set 3 (some u) = σ0 u)
    (hx : F x = some (.ins C dx fs)) (c : Cls K C) (n : NoAttr K C f) (hl : fs.lookup f = some (.ref ro)) (e : Ex F H) (hR : R F H)
    (hR1 : ∀ F H F' H', R F H → Gr F H F' H' → R F' H') (hR2 : ∀ F H o, R F H → F ro = none → R F (upd H ro o)) (hr : H ro = some (.dK [])) (fr : F ro = none)
    (hi : EvD K te σ F (.list (xs.map enc))) (hz : xs.length ≤ 40000) (hn : (xs.map kf).Nodup)
    (hcall : ∀ z, z ∈ xs → ∀ v F1, Ex F F1 → Dp K F1 v (enc z) → EvD K tcall (σ0 v) F1 (.bool true)) (hk : ∀ z, z ∈ xs → ∀ v F1, Ex F F1 → Dp K F1 v (enc z) → EvD K tk (σ0 v) F1 (.str (kf z)))
    (hv : ∀ z, z ∈ xs → ∀ v F1, Ex F F1 → Dp K F1 v (enc z) → EvD K tv (σ0 v) F1 (vf z))
    (hd : ∀ σ' vs F' H', (σ' = σ ∨ ∃ v, σ' = σ0 v) → R F' H' → Ex F F' → Ex F' H' → F' ro = none → H' ro = some (.dK ((xs.map fun z => (Sum.inr (kf z) : Key)).zip vs)) → DpAll K F' vs (xs.map vf) → D.nx σ' H') :
    tFor (iList K te) (gName 3) (tSeq (tIfS (tOr (tNot (tB tcall)) (tB (tDIn tk (tFld K (tVar 0) f)))) tNever tNext) (sDPut (tFld K (tVar 0) f) tk tv)) D σ H := by
  refine s_for (it_list hi) e (fun n σ' F' H' => (σ' = σ ∨ ∃ v, σ' = σ0 v) ∧ R F' H' ∧ F' ro = none ∧ ∃ vs, H' ro = some (.dK (((xs.take n).map fun z => (Sum.inr (kf z) : Key)).zip vs)) ∧ DpAll K F' vs ((xs.take n).map vf))
    (fun F' H' g => ?_) ?_ (fun σ' F' H' e1 e2 p => ?_)
  · have k := g.keep hr fr
    exact ⟨.inl rfl, hR1 _ _ _ _ hR g, k.2, [], by rw [List.take_zero]; exact k.1, by rw [List.take_zero]; exact .nil⟩
  · rintro Fb eb m σ' F' H' v du F2 H2 hdu e1 e2 ⟨hσ, hR', fr', ws, hr', hw⟩ g2 hv2
    obtain ⟨hm, hdm⟩ := List.getElem?_eq_some_iff.mp hdu
    rw [List.length_map] at hm
    have hdu' : du = enc xs[m] := by rw [← hdm, List.getElem_map]
    subst hdu'
    have hmem : xs[m] ∈ xs := List.getElem_mem hm
    have eF2 : Ex F F2 := eb.trans (e1.trans g2.fx)
    have k2 := g2.keep hr' fr'
    have es : σ'.set 3 (some v) = σ0 v := by
      rcases hσ with rfl | ⟨u, rfl⟩
      · exact hset v
      · exact hset2 u v
    show tSeq _ _ _ (σ'.set 3 (some v)) H2
    rw [es]
    have tl : (xs.take m).length ≤ xs.length := by rw [List.length_take]; omega
    have wl : ws.length = ((xs.take m).map fun z => (Sum.inr (kf z) : Key)).length := by rw [dps_len hw, List.length_map, List.length_map]
    have tk' : (xs.take (m + 1)) = xs.take m ++ [xs[m]] := List.take_succ_eq_append_getElem hm
    have hnew : (Sum.inr (kf xs[m]) : Key) ∉ (((xs.take m).map fun z => (Sum.inr (kf z) : Key)).zip ws).map Prod.fst := by
      rw [zip_fst wl]
      intro hm'
      obtain ⟨z, hz', hk'⟩ := List.mem_map.mp hm'
      have e1 : kf z = kf xs[m] := Sum.inr.inj hk'
      have hnd : ((xs.take m ++ [xs[m]]).map kf).Nodup := by
        rw [← tk']
        exact List.Nodup.sublist (List.Sublist.map _ (List.take_sublist _ _)) hn
      rw [List.map_append, List.nodup_append] at hnd
      exact hnd.2.2 (kf z) (List.mem_map.mpr ⟨z, hz', rfl⟩) (kf xs[m]) (by simp) e1
    -- the test
    show tIfS _ _ _ _ (σ0 v) H2
    refine (hcall _ hmem v F2 eF2 hv2) H2 g2.fh _ fun y F3 H3 g3 hy => ?_
    cases hy
    refine ⟨true, rfl, ?_⟩
    refine iteF ?_
    refine (hk _ hmem v F3 (eF2.trans g3.fx) (dp_ex g3.fx hv2)) H3 g3.fh _ fun y F4 H4 g4 hy => ?_
    cases hy
    have k4 := (g3.trans g4).keep k2.1 k2.2
    have hx4 := (eF2.trans (g3.fx.trans g4.fx)) _ _ hx
    refine fld_ref (hs0 v) hx4 c n hl H4 g4.fh _ ⟨ro, _, rfl, DGet.k (k := Sum.inr (kf xs[m])) k4.1, ?_⟩
    refine ⟨_, rfl, ?_⟩
    rw [valV_none hnew]
    refine iteF ?_
    -- the setting
    refine (hv _ hmem v F4 (eF2.trans (g3.fx.trans g4.fx)) (dp_ex (g3.fx.trans g4.fx) hv2)) H4 g4.fh _ fun y F5 H5 g5 hy => ?_
    have hx5 := g5.fx _ _ hx4
    refine fld_ref (hs0 v) hx5 c n hl H5 g5.fh _ ?_
    refine (hk _ hmem v F5 (eF2.trans (g3.fx.trans (g4.fx.trans g5.fx))) (dp_ex (g3.fx.trans (g4.fx.trans g5.fx)) hv2)) H5 g5.fh _ fun y2 F6 H6 g6 hy2 => ?_
    cases hy2
    have gg := g3.trans (g4.trans (g5.trans g6))
    have k6 := gg.keep k2.1 k2.2
    refine ⟨ro, _, rfl, DPut.k (k := Sum.inr (kf xs[m])) k6.1 (sz_lt (by
      rw [List.length_zip, List.length_map]
      omega)), F6, e1.trans (g2.fx.trans gg.fx), Ex.mut gg.fh k6.2, .inr ⟨v, rfl⟩, hR2 _ _ _ (hR1 _ _ _ _ hR' (g2.trans gg)) k6.2, k6.2, ws ++ [y], ?_, ?_⟩
    · rw [upd_same, putK_new hnew, zip_app wl, tk', List.map_append] <;> rfl
    · rw [tk', List.map_append]
      exact dps_app (dps_ex (g2.fx.trans gg.fx) hw) (.cons (dp_ex g6.fx hy) .nil)
  · obtain ⟨hσ, hR', fr', ws, hr', hw⟩ := p
    rw [List.length_map, List.take_length] at hr' hw
    exact hd σ' ws F' H' hσ hR' e1 e2 fr' hr' hw
end
end Dv

set_option Elab.async false
set_option linter.all false
set_option maxRecDepth 100000
set_option maxHeartbeats 4000000
namespace R3
open PySem PySem.Spec PyProof.Rows L2 Dv
abbrev sMillInit : Stmt := inClass (top 29) 0
abbrev sMillStuffs : Stmt := inClass (top 29) 1
abbrev sMillRecipes : Stmt := inClass (top 29) 2
abbrev sMillNames : Stmt := inClass (top 29) 3
abbrev sMillEq : Stmt := inClass (top 29) 4
/-! ### a mill -/
structure MillD where
  stuffs : List (Str × Option Int)
  recipes : List (Str × List (Str × Int) × List (Str × Int))
def encRoom : Option Int → PyData
  | none => .none
  | some i => .int i
def encStuff (z : Str × Option Int) : PyData := .tuple [.str z.1, encRoom z.2]
def encPart (z : Str × Int) : PyData := .tuple [.str z.1, .int z.2]
def encRecipe (z : Str × List (Str × Int) × List (Str × Int)) : PyData := .tuple [.str z.1, .list (z.2.1.map encPart), .list (z.2.2.map encPart)]
def encRule (z : Str × List (Str × Int) × List (Str × Int)) : PyData := .tuple [.tuple (z.2.1.map encPart), .tuple (z.2.2.map encPart)]
def MillD.names (m : MillD) : List Str := m.stuffs.map (·.1)
structure MillD.Ok (m : MillD) : Prop where
  s1 : 1 ≤ m.stuffs.length
  s2 : m.stuffs.length ≤ 8
  sn : m.names.Nodup
  ss : ∀ z ∈ m.stuffs, gd (encStuff z) = true ∧ isStuff (encStuff z) = true
  r2 : m.recipes.length ≤ 8
  rn : (m.recipes.map (·.1)).Nodup
  rs : ∀ z ∈ m.recipes, gd (encRecipe z) = true ∧ isRecipe m.names (encRecipe z) = true
def keysOf (xs : List Str) : List Key := xs.map Sum.inr
structure MillAt (K : PySem.W.Frag) (F : Hp) (C x : Addr) (m : MillD) : Prop where
  ex : ∃ (dx ro sp ru : Addr) (v1 v2 v3 : List V), F x = some (.ins C dx [("rooms", .ref ro), ("spots", .ref sp), ("rules", .ref ru)]) ∧
    F ro = some (.dK ((m.stuffs.map fun z => (Sum.inr z.1 : Key)).zip v1)) ∧ DpAll K F v1 (m.stuffs.map fun z => encRoom z.2) ∧
    F sp = some (.dK ((m.names.zipIdx.map fun z => (Sum.inr z.1 : Key)).zip v2)) ∧ DpAll K F v2 (m.names.zipIdx.map fun z => PyData.int z.2) ∧
    F ru = some (.dK ((m.recipes.map fun z => (Sum.inr z.1 : Key)).zip v3)) ∧ DpAll K F v3 (m.recipes.map encRule) ∧ ro ≠ ru ∧ sp ≠ ru ∧ ro ≠ sp
theorem MillAt.mono {K : PySem.W.Frag} {F F1 : Hp} {C x : Addr} {m : MillD} (e : Evl.Ex F F1) (h : MillAt K F C x m) : MillAt K F1 C x m := by
  obtain ⟨dx, ro, sp, ru, v1, v2, v3, h1, h2, h3, h4, h5, h6, h7, r⟩ := h.ex
  exact ⟨dx, ro, sp, ru, v1, v2, v3, e _ _ h1, e _ _ h2, dps_ex e h3, e _ _ h4, dps_ex e h5, e _ _ h6, dps_ex e h7, r⟩
/-- what is asked of the class Mill -/
structure MillC (K : PySem.W.Frag) (C : Addr) : Prop where
  cl : Cls K C
  rooms : NoAttr K C "rooms"
  spots : NoAttr K C "spots"
  rules : NoAttr K C "rules"
theorem names_spots {names : List Str} {vs : List V} (h : vs.length = names.length) (x : Str) : (valV ((names.zipIdx.map fun z => (Sum.inr z.1 : Key)).zip vs) (.inr x)).isSome = decide (x ∈ names) := by
  have e : (names.zipIdx.map fun z => (Sum.inr z.1 : Key)) = names.map Sum.inr := by
    show names.zipIdx.map (Sum.inr ∘ Prod.fst) = _
    rw [← List.map_map, List.zipIdx_map_fst]
  rw [e, ← valV_any]
  rw [Bool.eq_iff_iff, List.any_eq_true, decide_eq_true_iff]
  constructor
  · rintro ⟨p, hp, hk⟩
    have : p.1 ∈ names.map (Sum.inr : Str → Key) := by
      rw [← zip_fst (ks := names.map Sum.inr) (vs := vs) (by rw [List.length_map]; exact h)]
      exact List.mem_map.mpr ⟨p, hp, rfl⟩
    rw [of_decide_eq_true hk] at this
    obtain ⟨y, hy, q⟩ := List.mem_map.mp this
    exact (Sum.inr.inj q) ▸ hy
  · intro hx
    have : (Sum.inr x : Key) ∈ ((names.map (Sum.inr : Str → Key)).zip vs).map Prod.fst := by
      rw [zip_fst (by rw [List.length_map]; exact h)]
      exact List.mem_map.mpr ⟨x, hx, rfl⟩
    obtain ⟨p, hp, q⟩ := List.mem_map.mp this
    exact ⟨p, hp, decide_eq_true q⟩
def spMillInit (K : PySem.W.Frag) (C : Addr) : Sp := fun vs H Q _ => ∃ (F : Hp) (x dx : Addr) (v1 v2 : V) (m : MillD), vs = [.ref x, v1, v2] ∧ Evl.Ex F H ∧ F x = none ∧ F dx = none ∧ H x = some (.ins C dx []) ∧ (H dx).isSome = true ∧ x ≠ dx ∧
  Dp K F v1 (.list (m.stuffs.map encStuff)) ∧ Dp K F v2 (.list (m.recipes.map encRecipe)) ∧ m.Ok ∧ ∀ F' H', Bx x dx F H F' H' → MillAt K F' C x m → Q .non H'
section
variable {P : Program} {w : World} {K : PySem.W.Frag} {mg : Str → Option Value} {base : Heap}
theorem ev_size {σ : L2.St} {F : Hp} {te : TE} {xs : List PyData} {l m : Int} {E : XK} (h : EvD K te σ F (.list xs)) (h1 : l ≤ xs.length) (h2 : (xs.length : Int) ≤ m) (h3 : xs.length ≤ 100000) :
    EvD K (tCall (spSize K) [] E (tCons te (tCons (tC (.int l)) (tCons (tC (.int m)) tNil)))) σ F .none := fun H e Q q =>
  h H e _ fun v F1 H1 g1 hv => ⟨F1, v, xs, l, m, rfl, g1.fh, hv, h1, h2, h3, fun F' H' g => q _ F' H' (g1.trans g) .non⟩
theorem s_drop {σ : L2.St} {F H : Hp} {te : TE} {d : PyData} {D : Ends} (h : EvD K te σ F d) (e : Evl.Ex F H) (k : ∀ F' H', Gr F H F' H' → D.nx σ H') : tDrop te D σ H := h H e _ fun v F' H' g _ => k F' H' g
/-- self.f = {} -/
theorem s_fldNew {σ : L2.St} {F H : Hp} {D : Ends} {C dx x : Addr} {fs : List (Str × V)} {f : Str} {i : Nat} (hi : σ[i]? = some (some (.ref x))) (hx : F x = some (.ins C dx fs)) (c : Cls K C) (n : NoAttr K C f) (hl : fs.length < 1000) (e : Evl.Ex F H)
    (k : ∀ p, H p = none → p ≠ x → D.nx σ (upd (upd H p (.dK [])) x (.ins C dx (putF f (.ref p) fs)))) : sFld K (tVar i) tDNewK f D σ H := fun p hp => by
  have hpx : p ≠ x := fun z => by
    have := e _ _ hx
    rw [← z, hp] at this
    cases this
  exact ⟨_, hi, x, C, dx, fs, rfl, by rw [upd_ne (Ne.symm hpx)]; exact e _ _ hx, c, n, hl, k p hp hpx⟩
/-- self.f = a new dict -/
theorem s_fldK {σ : L2.St} {F H : Hp} {D : Ends} {C dx x : Addr} {fs : List (Str × V)} {f : Str} {i : Nat} {tv : TE} {ks : List Key} {ds : List PyData} (h : EvK K tv σ F ks ds) (hi : σ[i]? = some (some (.ref x))) (hx : F x = some (.ins C dx fs)) (c : Cls K C) (n : NoAttr K C f) (hl : fs.length < 1000) (e : Evl.Ex F H)
    (k : ∀ p vs F' H', Gr F H F' H' → H p = none → F' p = none → H' p = some (.dK (ks.zip vs)) → DpAll K F' vs ds → D.nx σ (upd H' x (.ins C dx (putF f (.ref p) fs)))) : sFld K (tVar i) tv f D σ H :=
  h H e _ fun p vs F' H' g h1 h2 h3 h4 => ⟨_, hi, x, C, dx, fs, rfl, g.hx _ _ (e _ _ hx), c, n, hl, k p vs F' H' g h1 h2 h3 h4⟩
theorem sc_Mill___init__ : FnScope (["self", "stuffs", "recipes", "item", "at", "name"] : List Str) (["self", "stuffs", "recipes"] : List Str) (defScope sMillInit) := ⟨rfl, rfl, rfl, by decide +kernel, rfl, by decide +kernel, by decide +kernel⟩
theorem ok_mill_init {f : Addr} {fd : FuncData} {C : Addr} (D : Fun K "__init__" "Mill.__init__" sMillInit f fd) (MC : MillC K C) (B : Bl mg) (CC : Cst mg)
    (C_check_size : Cal P w K mg base "check_size" ["value", "least", "most"] 1 (spSize K)) (C_is_stuff : Cal P w K mg base "is_stuff" ["value"] 3 (spD K fIsStuff)) (C_is_recipe : Cal P w K mg base "is_recipe" ["value", "spots"] 4 (spRecipe K)) :
    FnOkG P w K mg base CX0 5 f fd ["self", "stuffs", "recipes"] (spMillInit K C) := by
  refine D.okG sc_Mill___init__ (fun vs H Q E h => ?_) (fun cdv A outer s H vs Q E hr h => ?_)
  · obtain ⟨F, x, dx, v1, v2, m, rfl, _⟩ := h
    rfl
  obtain ⟨F, x, dx, v1, v2, m, rfl, e, fx, fdx, hx, hdx, hxd, hv1, hv2, ok, q⟩ := h
  obtain ⟨t1, c1⟩ := CC.mostStuffs
  obtain ⟨t2, c2⟩ := CC.mostRecipes
  have hu := hu_of hr.1
  refine ⟨_, (pss_cons (ps_expr (pe_callC C_check_size hr (pa_cons (pv 1) (pa_cons pe_int (pa_cons (pe_glob (v := .int 8) rfl c1 ⟨_, rfl⟩) pa_nil)))))
      (pss_cons (ps_fld (pv 0) pe_dnewK rfl)
      (pss_cons (ps_for PassesOwn.never rfl (pi_list (pv 1)) (pg_name (i := 3) sc_Mill___init__.nd rfl (.inl rfl)) (pss_cons (ps_if (PW.pt (pw_or (pt_not (pt_val (pe_callC C_is_stuff hr (pa_cons (pv 3) pa_nil)))) (pw_or1 (pt_cmp (pc_din hu (pe_ix ix_tup (pv 3) pe_int (fun _ _ => rfl)) (pe_fld (pv 0) rfl)) (by rfl))))) (pss_one ps_never) pss_nil)
      (pss_one (ps_dput hu (pe_fld (pv 0) rfl) (pe_ix ix_tup (pv 3) pe_int (fun _ _ => rfl)) (pe_ix ix_tup (pv 3) pe_int (fun _ _ => rfl)) rfl))))
      (pss_cons (ps_expr (pe_callC C_check_size hr (pa_cons (pv 2) (pa_cons pe_int (pa_cons (pe_glob (v := .int 8) rfl c2 ⟨_, rfl⟩) pa_nil)))))
      (pss_cons (ps_fld (pv 0) (pe_lock (pe_dc (own := [("at", 4), ("name", 5)]) (g := gTup K 2 (gCons (gName 4) (gCons (gName 5) gNil))) rfl sc_Mill___init__.nd (pi_enumK rfl B.enum (pa_cons (pe_fld (pv 0) rfl) pa_nil)) (blkOk_by (own := [("at", 4), ("name", 5)]) (N := ["self", "stuffs", "recipes", "item", "at", "name"]) (sc := defScope sMillInit) (by decide +kernel)) (fun _ _ _ _ _ => (pg_tup (by rfl) (pgs_cons (pg_name (i := 4) sc_Mill___init__.nd rfl (.inl rfl)) (pgs_cons (pg_name (i := 5) sc_Mill___init__.nd rfl (.inl rfl)) pgs_nil)))) (fun _ _ _ _ _ => pts_nil) (fun _ _ _ _ _ => (pv 5)) (fun _ _ _ _ _ => (pv 4)))) rfl)
      (pss_cons (ps_fld (pv 0) pe_dnewK rfl)
      (pss_one (ps_for PassesOwn.never rfl (pi_list (pv 2)) (pg_name (i := 3) sc_Mill___init__.nd rfl (.inl rfl)) (pss_cons (ps_if (PW.pt (pw_or (pt_not (pt_val (pe_callC C_is_recipe hr (pa_cons (pv 3) (pa_cons (pe_fld (pv 0) rfl) pa_nil))))) (pw_or1 (pt_cmp (pc_din hu (pe_ix ix_tup (pv 3) pe_int (fun _ _ => rfl)) (pe_fld (pv 0) rfl)) (by rfl))))) (pss_one ps_never) pss_nil)
      (pss_one (ps_dput hu (pe_fld (pv 0) rfl) (pe_ix ix_tup (pv 3) pe_int (fun _ _ => rfl)) (pe_tup (pa_cons (pe_callTy call_tuple_of (by rfl) B.tuple (by decide +kernel) (pa_cons (pe_ix ix_tup (pv 3) pe_int (fun _ _ => rfl)) pa_nil)) (pa_cons (pe_callTy call_tuple_of (by rfl) B.tuple (by decide +kernel) (pa_cons (pe_ix ix_tup (pv 3) pe_int (fun _ _ => rfl)) pa_nil)) pa_nil))) rfl))))))))))), ?_⟩
  have st : start ["self", "stuffs", "recipes", "item", "at", "name"] [V.ref x, v1, v2] = [some (.ref x), some v1, some v2, none, none, none] := rfl
  rw [st]
  have k1 : (("rooms" : Str) == "spots") = false := by decide +kernel
  have k2 : (("rooms" : Str) == "rules") = false := by decide +kernel
  have k3 : (("spots" : Str) == "rules") = false := by decide +kernel
  -- x into F
  have b0 : Bx x dx F H F H := ⟨Evl.Ex.refl F, e, fun _ _ _ h => h, fun a h1 h2 => absurd h1 h2⟩
  have b1 : Bx x dx F H (upd F x (.ins C dx [])) H := by
    have := b0.put (p := x) (o := .ins C dx []) (.inr rfl) fx
    rwa [show upd H x (.ins C dx []) = H from by
      funext a
      by_cases z : a = x
      · rw [z, upd_same, hx]
      · rw [upd_ne z]] at this
  have hv1' := dp_put (o := .ins C dx []) (by rw [fx]; exact noSq_none) hv1
  have hv2' := dp_put (o := .ins C dx []) (by rw [fx]; exact noSq_none) hv2
  -- check_size(stuffs, 1, MOST_STUFFS)
  refine s_drop (K := K) (F := upd F x (.ins C dx [])) (ev_size (Dv.ev_var rfl hv1') (by rw [List.length_map]; have := ok.s1; omega) (by rw [List.length_map]; have := ok.s2; omega) (by rw [List.length_map]; have := ok.s2; omega)) b1.fh fun F1 H1 g1 => ?_
  have b2 := b1.step g1
  have x1 : F1 x = some (.ins C dx []) := g1.fx _ _ upd_same
  -- self.rooms = {}
  refine s_fldNew (f := "rooms") rfl x1 MC.cl MC.rooms (by simp) b2.fh fun ro hro hrx => ?_
  have hroH : H ro = none := by
    cases z : H ro with
    | none => rfl
    | some o => rw [b2.hx ro o hrx z] at hro; cases hro
  have fro1 : F1 ro = none := ex_none b2.fh hro
  have hroF : F ro = none := ex_none e hroH
  have b3 : Bx x dx F H (upd F1 x (.ins C dx [("rooms", .ref ro)])) (upd (upd H1 ro (.dK [])) x (.ins C dx [("rooms", .ref ro)])) := (b2.mut hroH fro1).put (.inr rfl) fx
  have n1 : NoSq (F1 x) := by rw [x1]; exact fun xs => ⟨(fun z => by cases z), (fun z => by cases z), fun ob => ⟨(fun z => by cases z), (fun z => by cases z)⟩⟩
  have w1 := dp_put (o := .ins C dx [("rooms", .ref ro)]) n1 (dp_ex g1.fx hv1')
  have w2 := dp_put (o := .ins C dx [("rooms", .ref ro)]) n1 (dp_ex g1.fx hv2')
  have rr : ∀ o, (upd F1 x o) ro = none := fun o => by rw [upd_ne hrx]; exact fro1
  have hR1 : ∀ Fa Ha Fb Hb, Bx x dx F H Fa Ha → Gr Fa Ha Fb Hb → Bx x dx F H Fb Hb := fun _ _ _ _ b g => b.step g
  -- for item in stuffs
  refine fill_loop (K := K) (fs := [("rooms", V.ref ro)]) (fun Fa Ha => Bx x dx F H Fa Ha) m.stuffs encStuff (fun z => encRoom z.2) (fun z => z.1) (fun v => [some (.ref x), some v1, some v2, some v, none, none]) (vs0 := [])
    rfl (fun _ => rfl) (fun _ => rfl) (fun _ _ => rfl) upd_same MC.cl MC.rooms (by rfl) b3.fh b3 hR1 (fun _ _ o b fr => b.mut hroH fr) (by rw [upd_ne hrx, upd_same]) (rr _) (Dv.ev_var rfl w1) (by have := ok.s2; omega) ok.sn
    (fun z hz v F2 _ hv => ev_callD (Dv.ea_cons (Dv.ev_var rfl hv) Dv.ea_nil) ⟨_, rfl, (ok.ss z hz).1, by rw [(ok.ss z hz).2]⟩)
    (fun z hz v F2 _ hv => Dv.ev_ixT (d := .str z.1) (Dv.ev_var rfl hv) (Dv.ev_int 0) rfl)
    (fun z hz v F2 _ hv => Dv.ev_ixT (d := encRoom z.2) (Dv.ev_var rfl hv) (Dv.ev_int 1) rfl)
    fun σ' ws F2 H2 hσ b4 e1 e2 fro2 hro2 hw => ?_
  obtain ⟨it, rfl⟩ : ∃ it, σ' = [some (.ref x), some v1, some v2, it, none, none] := by
    rcases hσ with rfl | ⟨v, rfl⟩
    · exact ⟨none, rfl⟩
    · exact ⟨some v, rfl⟩
  have w2' := dp_ex e1 w2
  have x2 : F2 x = some (.ins C dx [("rooms", .ref ro)]) := e1 _ _ upd_same
  -- check_size(recipes, 0, MOST_RECIPES)
  refine s_drop (K := K) (F := F2) (ev_size (Dv.ev_var rfl w2') (by omega) (by rw [List.length_map]; have := ok.r2; omega) (by rw [List.length_map]; have := ok.r2; omega)) e2 fun F3 H3 g3 => ?_
  have k3' := g3.keep hro2 fro2
  have b5 := (b4.step g3).take hroH k3'.2 k3'.1
  have n3 : NoSq (F3 ro) := by rw [k3'.2]; exact noSq_none
  have w2'' := dp_put (o := .dK ((m.stuffs.map fun z => (Sum.inr z.1 : Key)).zip ws)) n3 (dp_ex g3.fx w2')
  have hw3 := dps_put (o := .dK ((m.stuffs.map fun z => (Sum.inr z.1 : Key)).zip ws)) n3 (dps_ex g3.fx hw)
  have x3 : upd F3 ro (.dK ((m.stuffs.map fun z => (Sum.inr z.1 : Key)).zip ws)) x = some (.ins C dx [("rooms", .ref ro)]) := by
    rw [upd_ne (Ne.symm hrx)]
    exact g3.fx _ _ x2
  have wl : ws.length = m.stuffs.length := by rw [dps_len hw, List.length_map]
  have hkeys : ((m.stuffs.map fun z => (Sum.inr z.1 : Key)).zip ws).map Prod.fst = m.names.map Sum.inr := by
    rw [zip_fst (by rw [List.length_map]; exact wl)]
    unfold MillD.names
    rw [List.map_map] <;> rfl
  -- self.spots = {..}
  refine s_fldK (K := K) (f := "spots") (ek_lock (K := K) (F := upd F3 ro (.dK ((m.stuffs.map fun z => (Sum.inr z.1 : Key)).zip ws))) (ks := m.names.zipIdx.map fun z => Sum.inr z.1) (ds := m.names.zipIdx.map fun z => PyData.int z.2) upd_same fun od => ?_) rfl x3 MC.cl MC.spots (by simp) b5.fh fun sp v2s F5 H5 g5 hsp fsp hsp5 hd5 => ?_
  · refine dc_rule (K := K) m.names.zipIdx (fun z => PyData.tuple [.int z.2, .str z.1]) (fun z => PyData.int z.2) (fun z => z.1) (it_enumK (fun Hq eq Q q => fld_ref rfl (by rw [upd_ne (Ne.symm hrx)]; exact x3) MC.cl MC.rooms (by rfl) Hq eq _ q) upd_same hkeys) (by
      rw [List.length_zipIdx]
      have := ok.s2
      unfold MillD.names
      rw [List.length_map]
      omega) (by rw [List.zipIdx_map_fst]; exact ok.sn) fun z _ v F6 _ hv => ?_
    obtain ⟨a, b, ha, hb, ht⟩ := tup2 hv
    exact ⟨[some (.ref x), some v1, some v2, it, some a, some b], fun Hq eq Q q => ht 4 5 _ Hq eq Q q, rfl, Dv.ev_var rfl hb, Dv.ev_var rfl ha⟩
  have b6 := b5.step g5
  have hspH : H sp = none := by
    cases z : H sp with
    | none => rfl
    | some o =>
      have hsx : sp ≠ x := fun q => by
        rw [q] at hsp
        have := b5.fh _ _ x3
        rw [hsp] at this
        cases this
      rw [b5.hx sp o hsx z] at hsp
      cases hsp
  have hspx : sp ≠ x := fun q => by
    rw [q] at hsp
    have := b5.fh _ _ x3
    rw [hsp] at this
    cases this
  have hspr : ro ≠ sp := fun q => by
    rw [← q] at hsp
    have := b5.fh _ _ upd_same
    rw [hsp] at this
    cases this
  have x5 : F5 x = some (.ins C dx [("rooms", .ref ro)]) := g5.fx _ _ x3
  have b7 := b6.take hspH fsp hsp5
  generalize hS : HO.dK ((m.names.zipIdx.map fun z => (Sum.inr z.1 : Key)).zip v2s) = oS at b7 hsp5
  have b8 := b7.put (p := x) (o := .ins C dx [("rooms", .ref ro), ("spots", .ref sp)]) (.inr rfl) fx
  have pf : putF "spots" (.ref sp) [(("rooms" : Str), V.ref ro)] = ([("rooms", V.ref ro), ("spots", V.ref sp)] : List (Str × V)) := by
    show (if ("rooms" : Str) = "spots" then _ else _) = _
    rw [if_neg (by simpa using k1)] <;> rfl
  rw [pf]
  generalize hF8 : upd (upd F5 sp oS) x (.ins C dx [("rooms", .ref ro), ("spots", .ref sp)]) = F8 at b8
  generalize hH8 : upd H5 x (.ins C dx [("rooms", .ref ro), ("spots", .ref sp)]) = H8 at b8
  have x8 : F8 x = some (.ins C dx [("rooms", .ref ro), ("spots", .ref sp)]) := by rw [← hF8]; exact upd_same
  have n5 : NoSq (F5 sp) := by rw [fsp]; exact noSq_none
  have n5x : NoSq ((upd F5 sp oS) x) := by rw [upd_ne (Ne.symm hspx), x5]; exact fun xs => ⟨(fun z => by cases z), (fun z => by cases z), fun ob => ⟨(fun z => by cases z), (fun z => by cases z)⟩⟩
  have tr : ∀ {d : PyData} {v : V}, Dp K (upd F3 ro (.dK ((m.stuffs.map fun z => (Sum.inr z.1 : Key)).zip ws))) v d → Dp K F8 v d := fun h => by
    rw [← hF8]
    exact dp_put n5x (dp_put n5 (dp_ex g5.fx h))
  have trs : ∀ {ds : List PyData} {vs : List V}, DpAll K F5 vs ds → DpAll K F8 vs ds := fun h => by
    rw [← hF8]
    exact dps_put n5x (dps_put n5 h)
  have sp8 : F8 sp = some (.dK ((m.names.zipIdx.map fun z => (Sum.inr z.1 : Key)).zip v2s)) := by
    rw [← hF8, upd_ne hspx, upd_same, hS]
  have ro8 : F8 ro = some (.dK ((m.stuffs.map fun z => (Sum.inr z.1 : Key)).zip ws)) := by
    rw [← hF8, upd_ne hrx, upd_ne hspr]
    exact g5.fx _ _ upd_same
  have w8 := tr w2''
  have hw8 : DpAll K F8 ws (m.stuffs.map fun z => encRoom z.2) := trs (dps_ex g5.fx hw3)
  have hd8 := trs hd5
  -- self.rules = {}
  refine s_fldNew (f := "rules") rfl x8 MC.cl MC.rules (by simp) b8.fh fun ru hru hrux => ?_
  have pf2 : putF "rules" (.ref ru) [(("rooms" : Str), V.ref ro), ("spots", V.ref sp)] = ([("rooms", V.ref ro), ("spots", V.ref sp), ("rules", V.ref ru)] : List (Str × V)) := by
    show (if ("rooms" : Str) = "rules" then _ else (("rooms" : Str), V.ref ro) :: (if ("spots" : Str) = "rules" then _ else _)) = _
    rw [if_neg (by simpa using k2), if_neg (by simpa using k3)] <;> rfl
  rw [pf2]
  have hruH : H ru = none := by
    cases z : H ru with
    | none => rfl
    | some o => rw [b8.hx ru o hrux z] at hru; cases hru
  have fru8 : F8 ru = none := ex_none b8.fh hru
  have b9 : Bx x dx F H (upd F8 x (.ins C dx [("rooms", .ref ro), ("spots", .ref sp), ("rules", .ref ru)])) (upd (upd H8 ru (.dK [])) x (.ins C dx [("rooms", .ref ro), ("spots", .ref sp), ("rules", .ref ru)])) := (b8.mut hruH fru8).put (.inr rfl) fx
  have n8 : NoSq (F8 x) := by rw [x8]; exact fun xs => ⟨(fun z => by cases z), (fun z => by cases z), fun ob => ⟨(fun z => by cases z), (fun z => by cases z)⟩⟩
  have w9 := dp_put (o := .ins C dx [("rooms", .ref ro), ("spots", .ref sp), ("rules", .ref ru)]) n8 w8
  have hw9 := dps_put (o := .ins C dx [("rooms", .ref ro), ("spots", .ref sp), ("rules", .ref ru)]) n8 hw8
  have hd9 := dps_put (o := .ins C dx [("rooms", .ref ro), ("spots", .ref sp), ("rules", .ref ru)]) n8 hd8
  have hrr : ro ≠ ru := fun z => by rw [← z, ro8] at fru8; cases fru8
  have hsr : sp ≠ ru := fun z => by rw [← z, sp8] at fru8; cases fru8
  have v2l : v2s.length = m.names.length := by rw [dps_len hd5, List.length_map, List.length_zipIdx]
  -- for item in recipes
  refine fill_loop (K := K) (fs := [("rooms", V.ref ro), ("spots", V.ref sp), ("rules", V.ref ru)]) (fun Fa Ha => Bx x dx F H Fa Ha) m.recipes encRecipe encRule (fun z => z.1) (fun v => [some (.ref x), some v1, some v2, some v, none, none]) (vs0 := [])
    rfl (fun _ => rfl) (fun _ => rfl) (fun _ _ => rfl) upd_same MC.cl MC.rules (by rfl) b9.fh b9 hR1 (fun _ _ o b fr => b.mut hruH fr) (by rw [upd_ne hrux, upd_same]) (by rw [upd_ne hrux]; exact fru8) (Dv.ev_var rfl w9) (by have := ok.r2; omega) ok.rn
    (fun z hz v F2 ee hv Hq eq Q q => ⟨v, rfl, fld_ref rfl (ee _ _ upd_same) MC.cl MC.spots (by rfl) Hq eq _ ⟨F2, v, _, sp, m.names, rfl, eq, hv, (ok.rs z hz).1, ⟨_, ee _ _ (by rw [upd_ne hspx]; exact sp8), names_spots v2l⟩, fun F' H' g => q _ F' H' g (by rw [(ok.rs z hz).2]; exact .bl true)⟩⟩)
    (fun z hz v F2 _ hv => Dv.ev_ixT (d := .str z.1) (Dv.ev_var rfl hv) (Dv.ev_int 0) rfl)
    (fun z hz v F2 _ hv => Dv.ev_tup (Dv.ea_cons (ev_tuple (Dv.ev_ixT (d := .list (z.2.1.map encPart)) (Dv.ev_var rfl hv) (Dv.ev_int 1) rfl)) (Dv.ea_cons (ev_tuple (Dv.ev_ixT (d := .list (z.2.2.map encPart)) (Dv.ev_var rfl hv) (Dv.ev_int 2) rfl)) Dv.ea_nil)) (by simp))
    fun σ' us F' H' hσ b10 e3 e4 fru hru' hw10 => ?_
  refine q _ _ (b10.take hruH fru hru') ?_
  have nn : NoSq (F' ru) := by rw [fru]; exact noSq_none
  refine ⟨dx, ro, sp, ru, ws, v2s, us, ?_, ?_, dps_put nn (dps_ex e3 hw9), ?_, dps_put nn (dps_ex e3 hd9), upd_same, dps_put nn hw10, hrr, hsr, hspr⟩
  · rw [upd_ne (Ne.symm hrux)]
    exact e3 _ _ upd_same
  · rw [upd_ne hrr]
    exact e3 _ _ (by rw [upd_ne hrx]; exact ro8)
  · rw [upd_ne hsr]
    exact e3 _ _ (by rw [upd_ne hspx]; exact sp8)
end
end R3

set_option Elab.async false
set_option linter.all false
set_option maxRecDepth 100000
set_option maxHeartbeats 4000000
namespace Dv
open PySem PySem.Spec PyProof.Rows L2 Evl
/-- a class that can be made: its __init__ does what sp says -/
structure Mak (P : Program) (w : World) (K : PySem.W.Frag) (mg : Str → Option Value) (base : Heap) (nm : Str) (C : Addr) (ps : List Str) (k : Nat) (sp : Sp) : Prop where
  ex : ∃ f fd, mg nm = some (.ref C) ∧ Mk K C f ∧ Binds K fd ("self" :: ps) [] ∧ FnOkG P w K mg base CX0 k f fd ("self" :: ps) sp
section
variable {X : Cx} {x : Str} {p pos : Pos} {e : Expr} {es : List Expr} {t : TA} {k j : Nat} {ps : List Str} {sp : Sp} {C : Addr}
theorem pe_makC (M : Mak X.prog X.w X.K X.mg X.base x C ps k sp) (hr : RoomG j X.A) (ha : PA X (e :: es) t) (hg : Gl X x := by rfl) (hj : k + 1 ≤ j := by decide) (hdb : (x == ("__debug__" : Str)) = false := by decide)
    (he : starEach (e :: es) X.env = (false, eval e X.env) :: starEach es X.env := by rfl) (hpl : (backTo pos (starEach es X.env)).any (·.1) = false := by rfl) : PE X (.Call (.Name x p) (e :: es) [] pos) (tMake C sp [] E0 t) := by
  obtain ⟨f, fd, g, M, b, G⟩ := M.ex
  exact pe_makeG M G (hr.mono hj) hg g b .nil pass0 ha hdb he hpl
end
section
variable {K : PySem.W.Frag} {σ : L2.St} {F F1 H H1 : Hp} {te ta tb tc : TE} {d a b : PyData} {ds es : List PyData}
/-- evaluates to an object of which Pd holds -/
def EvO (Pd : Hp → Addr → Prop) (te : TE) (σ : L2.St) (F : Hp) : Prop := ∀ H, Ex F H → ∀ Q : VK, (∀ x F' H', Gr F H F' H' → Pd F' x → Q (.ref x) H') → te σ H Q
theorem eo_var {Pd : Hp → Addr → Prop} {i : Nat} {x : Addr} (hi : σ[i]? = some (some (.ref x))) (h : Pd F x) : EvO Pd (tVar i) σ F := fun H e Q q => ⟨_, hi, q x F H (Gr.refl e) h⟩
theorem Bx.gr {x dx : Addr} {F H F' H' : Hp} {o o2 : HO} (hx : H x = none) (hdx : H dx = none) (b : Bx x dx F (upd (upd H dx o) x o2) F' H') : Gr F H F' H' :=
  ⟨b.fx, b.fh, fun a u h => by
    have h1 := ne_of_none h hx
    have h2 := ne_of_none h hdx
    exact b.hx a u h1 (by rw [upd_ne h1, upd_ne h2]; exact h), fun a h1 h2 => by
    rcases b.fr a h1 h2 with h | h | h
    · by_cases q : a = x
      · rw [q]; exact hx
      · by_cases q2 : a = dx
        · rw [q2]; exact hdx
        · rw [upd_ne q, upd_ne q2] at h
          exact h
    · rw [h]; exact hx
    · rw [h]; exact hdx⟩
theorem ex_new2 {x dx : Addr} {F H : Hp} {o o2 : HO} (e : Ex F H) (hx : H x = none) (hdx : H dx = none) : Ex F (upd (upd H dx o) x o2) := fun a u h => by
  have h' := e a u h
  rw [upd_ne (ne_of_none h' hx), upd_ne (ne_of_none h' hdx)]
  exact h'
end
end Dv

set_option Elab.async false
set_option linter.all false
set_option maxRecDepth 100000
set_option maxHeartbeats 4000000
namespace R3
open PySem PySem.Spec PyProof.Rows L2 Dv
section
variable {P : Program} {w : World} {K : PySem.W.Frag} {mg : Str → Option Value} {base : Heap}
/-- Mill(..) -/
theorem ev_mill {σ : L2.St} {F : Hp} {ta : TA} {C : Addr} {E : XK} {m : MillD} (h : EaD K ta σ F [.list (m.stuffs.map encStuff), .list (m.recipes.map encRecipe)]) (ok : m.Ok) : EvO (fun F x => MillAt K F C x m) (tMake C (spMillInit K C) [] E ta) σ F := fun H e Q q =>
  h H e _ fun vs F1 H1 g1 hv x dx hx hdx hne => by
    obtain ⟨v1, v2, rfl, h1, h2⟩ := Dv.two hv
    refine ⟨F1, x, dx, v1, v2, m, rfl, ex_new2 g1.fh hx hdx, ex_none g1.fh hx, ex_none g1.fh hdx, upd_same, by rw [upd_ne hne, upd_same] <;> rfl, Ne.symm hne, h1, h2, ok, fun F' H' b hm => ⟨rfl, q x F' H' (g1.trans (b.gr hx hdx)) hm⟩⟩
/-- the part of a mill that is not its rules -/
structure Mill0 (K : PySem.W.Frag) (F : Hp) (C x : Addr) (m : MillD) : Prop where
  ex : ∃ (dx ro sp ru : Addr) (v1 v2 : List V), F x = some (.ins C dx [("rooms", .ref ro), ("spots", .ref sp), ("rules", .ref ru)]) ∧
    F ro = some (.dK ((m.stuffs.map fun z => (Sum.inr z.1 : Key)).zip v1)) ∧ DpAll K F v1 (m.stuffs.map fun z => encRoom z.2) ∧
    F sp = some (.dK ((m.names.zipIdx.map fun z => (Sum.inr z.1 : Key)).zip v2)) ∧ DpAll K F v2 (m.names.zipIdx.map fun z => PyData.int z.2)
theorem MillAt.part {F : Hp} {C x : Addr} {m : MillD} (h : MillAt K F C x m) : Mill0 K F C x m := by
  obtain ⟨dx, ro, sp, ru, v1, v2, v3, h1, h2, h3, h4, h5, r⟩ := h.ex
  exact ⟨dx, ro, sp, ru, v1, v2, h1, h2, h3, h4, h5⟩
theorem Mill0.mono {F F1 : Hp} {C x : Addr} {m : MillD} (e : Evl.Ex F F1) (h : Mill0 K F C x m) : Mill0 K F1 C x m := by
  obtain ⟨dx, ro, sp, ru, v1, v2, h1, h2, h3, h4, h5⟩ := h.ex
  exact ⟨dx, ro, sp, ru, v1, v2, e _ _ h1, e _ _ h2, dps_ex e h3, e _ _ h4, dps_ex e h5⟩
theorem spots_val {F : Hp} {n : Str} : ∀ (names : List Str) (k : Nat) (vs : List V), DpAll K F vs ((names.zipIdx k).map fun z => PyData.int z.2) → n ∈ names →
    valV (((names.zipIdx k).map fun z => (Sum.inr z.1 : Key)).zip vs) (.inr n) = some (.int ((k + names.idxOf n : Nat) : Int))
  | [], _, _, _, h => nomatch h
  | a :: r, k, vs, hd, hm => by
    rw [List.zipIdx_cons] at hd ⊢
    cases hd with
    | cons h1 h2 =>
      cases h1
      rw [List.map_cons, List.zip_cons_cons]
      by_cases e : a = n
      · subst e
        rw [valV_pos rfl, List.idxOf_cons_self]
        rfl
      · have hm' : n ∈ r := by
          rcases List.mem_cons.mp hm with h | h
          · exact absurd h.symm e
          · exact h
        rw [valV_neg (by intro z; exact e (Sum.inr.inj z)), spots_val r (k + 1) _ h2 hm', List.idxOf_cons, show (a == n) = false by simpa using e]
        congr 2
        simp only [cond_false]
        omega
/-- one number a stuff -/
def numbersOf (names : List Str) (ps : List (Str × Int)) : List Int := ps.foldl (fun acc p => acc.set (names.idxOf p.1) p.2) (List.replicate names.length 0)
theorem dps_ints {F : Hp} : ∀ xs : List Int, DpAll K F (xs.map V.int) (xs.map PyData.int)
  | [] => .nil
  | x :: xs => .cons (.int x) (dps_ints xs)
theorem ints_of {F : Hp} : ∀ {xs : List Int} {ws : List V}, DpAll K F ws (xs.map PyData.int) → ws = xs.map V.int
  | [], _, h => by cases h; rfl
  | x :: xs, _, h => by
    cases h with
    | cons h1 h2 =>
      cases h1
      rw [ints_of h2] <;> rfl
theorem foldl_len (names : List Str) : ∀ (ps : List (Str × Int)) (acc : List Int), (ps.foldl (fun acc p => acc.set (names.idxOf p.1) p.2) acc).length = acc.length
  | [], _ => rfl
  | p :: ps, acc => by rw [List.foldl_cons, foldl_len names ps, List.length_set]
theorem numbersOf_len (names : List Str) (ps : List (Str × Int)) : (numbersOf names ps).length = names.length := by
  unfold numbersOf
  rw [foldl_len, List.length_replicate]
def spNums (K : PySem.W.Frag) (C : Addr) : Sp := fun vs H Q _ => ∃ (F : Hp) (x : Addr) (v : V) (m : MillD) (ps : List (Str × Int)), vs = [.ref x, v] ∧ Evl.Ex F H ∧ Mill0 K F C x m ∧ m.stuffs.length ≤ 8 ∧ Dp K F v (.tuple (ps.map encPart)) ∧ (∀ p ∈ ps, p.1 ∈ m.names) ∧
  ∀ p ws F' H', Gr F H F' H' → H p = none → F' p = none → H' p = some (.lst ws) → DpAll K F' ws ((numbersOf m.names ps).map PyData.int) → Q (.ref p) H'
theorem fl1 {ro sp ru : Addr} : ([("rooms", V.ref ro), ("spots", V.ref sp), ("rules", V.ref ru)] : List (Str × V)).lookup ("rooms" : Str) = some (.ref ro) := by rfl
theorem fl2 {ro sp ru : Addr} : ([("rooms", V.ref ro), ("spots", V.ref sp), ("rules", V.ref ru)] : List (Str × V)).lookup ("spots" : Str) = some (.ref sp) := by rfl
theorem fl3 {ro sp ru : Addr} : ([("rooms", V.ref ro), ("spots", V.ref sp), ("rules", V.ref ru)] : List (Str × V)).lookup ("rules" : Str) = some (.ref ru) := by rfl
theorem sc_numbers_of : FnScope (["mill", "parts", "found", "name", "number"] : List Str) (["mill", "parts"] : List Str) (defScope sNumbersOf) := ⟨rfl, rfl, rfl, by decide +kernel, rfl, by decide +kernel, by decide +kernel⟩
theorem ok_numbers_of (D : Def K mg "numbers_of" sNumbersOf ["mill", "parts"]) (B : Bl mg) {C : Addr} (MC : MillC K C) : Cal P w K mg base "numbers_of" ["mill", "parts"] 1 (spNums K C) := by
  refine cal_mk D sc_numbers_of (fun vs H Q E h => ?_) (fun f cdv A outer s H vs Q E hr h => ?_)
  · obtain ⟨F, x, v, m, ps, rfl, _⟩ := h
    rfl
  obtain ⟨F, x, v, m, ps, rfl, e, hm, hl, hv, hin, q⟩ := h
  have hu := hu_of hr.1
  obtain ⟨dx, ro, sp, ru, v1, v2, hx, hro, hv1, hsp, hv2⟩ := hm.ex
  have hnl : m.names.length = m.stuffs.length := List.length_map ..
  refine ⟨_, (pss_cons (ps_set (i := 2) sc_numbers_of.nd rfl (.inl rfl) (pe_op op_rep (pe_lst (pa_cons pe_int pa_nil)) (pe_callB call_lenD (by rfl) B.len (by decide +kernel) (pa_cons (pe_fld (pv 0) rfl) pa_nil))))
      (pss_cons (ps_for PassesOwn.never rfl (pi_tup (pv 1)) (pg_tup (by rfl) (pgs_cons (pg_name (i := 3) sc_numbers_of.nd rfl (.inl rfl)) (pgs_cons (pg_name (i := 4) sc_numbers_of.nd rfl (.inl rfl)) pgs_nil))) (pss_one (ps_asg (pv 4) (pg_sub (pv 2) (pe_dget hu (pe_fld (pv 0) rfl) (pv 3) (fun _ _ => rfl)) set_list))))
      (pss_one (ps_ret (pv 2))))), ?_⟩
  have st : start ["mill", "parts", "found", "name", "number"] [V.ref x, v] = [some (.ref x), some v, none, none, none] := rfl
  rw [st]
  have el : EvL K (tOp rRep (tLst (tCons (tC (.int 0)) tNil)) (tCB (fun xs H Q => ∃ a kvs, xs = [V.ref a] ∧ H a = some (.dK kvs) ∧ Q (.int kvs.length) H) (tCons (tFld K (tVar 0) "rooms") tNil))) [some (.ref x), some v, none, none, none] F ((List.replicate m.names.length (0 : Int)).map PyData.int) := by
    intro H e Q q
    refine Dv.el_lst (K := K) (σ := [some (.ref x), some v, none, none, none]) (F := F) (ds := [.int 0]) (Dv.ea_cons (Dv.ev_int 0) Dv.ea_nil) (by simp) H e _ fun l ws F1 H1 g1 hl1 hf1 hl2 hw => ?_
    obtain ⟨y, rfl, hy⟩ := Dv.one hw
    cases hy
    refine fld_ref (K := K) (σ := [some (.ref x), some v, none, none, none]) rfl (g1.fx _ _ hx) MC.cl MC.rooms fl1 H1 g1.fh _ ?_
    have kl : ((m.stuffs.map fun z => (Sum.inr z.1 : Key)).zip v1).length = m.names.length := by
      have := dps_len hv1
      rw [List.length_map] at this
      rw [List.length_zip, List.length_map, hnl]
      omega
    refine ⟨ro, _, rfl, g1.fh _ _ (g1.fx _ _ hro), l, _, [V.int 0], rfl, rfl, hl2, by omega, by omega, ?_, fun p hp => ?_⟩
    · rw [kl]
      exact Evl.sz_of (by simp; omega)
    · rw [kl]
      have e1 : (List.replicate ((m.names.length : Int)).toNat [V.int 0]).flatten = (List.replicate m.names.length (0 : Int)).map V.int := by
        rw [Int.toNat_natCast, List.map_replicate]
        exact List.flatten_replicate_singleton
      rw [e1]
      exact q p _ F1 _ (g1.trans (Gr.only g1.fh hp)) (ex_none g1.hx hp) (ex_none g1.fh hp) upd_same (dps_ints _)
  refine Dv.s_asgL (K := K) el e fun p ws F1 H1 g1 hp0 fp hp1 hws => ?_
  have ewn : ws = (List.replicate m.names.length (0 : Int)).map V.int := ints_of hws
  subst ewn
  refine Dv.s_for (it_tup (Dv.ev_var rfl (dp_ex g1.fx hv))) g1.fh
    (fun n σ F' H' => ∃ (a b : Option V), σ = [some (.ref x), some v, some (.ref p), a, b] ∧ F' p = none ∧ H' p = some (.lst (((ps.take n).foldl (fun acc p => acc.set (m.names.idxOf p.1) p.2) (List.replicate m.names.length 0)).map V.int)) ∧ Gr F H F' H')
    (fun F2 H2 g2 => ?_) ?_ (fun σ' F2 H2 e2 e3 p2 => ?_)
  · have k := g2.keep hp1 fp
    exact ⟨none, none, rfl, k.2, by rw [List.take_zero]; exact k.1, g1.trans g2⟩
  · rintro Fb eb n σ F2 H2 u du F3 H3 hdu e2 e3 ⟨a, b, rfl, fp2, hp2, gg⟩ g3 hu3
    obtain ⟨hn, hdn⟩ := List.getElem?_eq_some_iff.mp hdu
    rw [List.length_map] at hn
    have hdu' : du = encPart ps[n] := by rw [← hdn, List.getElem_map]
    subst hdu'
    obtain ⟨y1, y2, hy1, hy2, ht⟩ := tup2 hu3
    have hp3 := g3.keep hp2 fp2
    have gg3 := gg.trans g3
    cases hy1
    cases hy2
    refine ht 3 4 _ H3 g3.fh _ ?_
    show tAsg _ _ _ [some (.ref x), some v, some (.ref p), some (.str ps[n].1), some (.int ps[n].2)] H3
    refine ⟨_, rfl, _, rfl, ?_⟩
    refine fld_ref (K := K) (σ := [some (.ref x), some v, some (.ref p), some (.str ps[n].1), some (.int ps[n].2)]) rfl (gg3.fx _ _ hx) MC.cl MC.spots fl2 H3 g3.fh _ ?_
    refine ⟨_, rfl, sp, _, rfl, DGet.k (k := Sum.inr ps[n].1) (gg3.fh _ _ (gg3.fx _ _ hsp)) |> fun h => (spots_val m.names 0 v2 hv2 (hin _ (List.getElem_mem hn))) ▸ h, ?_⟩
    have hix : m.names.idxOf ps[n].1 < m.names.length := List.idxOf_lt_length_of_mem (hin _ (List.getElem_mem hn))
    refine ⟨p, _, _, m.names.idxOf ps[n].1, rfl, rfl, hp3.1, ?_, ?_⟩
    · rw [List.length_map, foldl_len, List.length_replicate, Nat.zero_add]
      exact Evl.ixN_nat hix
    · dsimp only
      refine ⟨F3, e2.trans g3.fx, Evl.Ex.mut g3.fh hp3.2, some (.str ps[n].1), some (.int ps[n].2), rfl, hp3.2, ?_, gg3.mut hp0 hp3.2⟩
      rw [upd_same, List.take_succ_eq_append_getElem hn, List.foldl_append, ← List.map_set] <;> rfl
  · obtain ⟨a, b, rfl, fp2, hp2, gg⟩ := p2
    rw [List.length_map, List.take_length] at hp2
    exact ⟨_, rfl, q p _ F2 H2 gg hp0 fp2 hp2 (dps_ints _)⟩
end
end R3

set_option Elab.async false
set_option linter.all false
set_option maxRecDepth 100000
set_option maxHeartbeats 4000000
/-! list(d.values()) -/
namespace L2
open PySem PySem.Spec PyProof.Rows
def tListVals (td : TE) : TE := fun σ H Q => td σ H fun x H1 => ∃ a kvs, x = V.ref a ∧ H1 a = some (.dK kvs) ∧ ∀ p, H1 p = none → Q (.ref p) (upd H1 p (.lst (kvs.map Prod.snd)))
theorem pe_listVals {X : Cx} {o : Expr} {td : TE} {p pos mpos apos : Pos} (hc : X.calm = true) (hg : Gl X "list") (hm : X.mg "list" = none) (hd : PE X o td) (hbase : attributeBase o "values" X.env (eval o X.env) = eval o X.env := by rfl) (hline : (apos.endLine == mpos.line) = true := by rfl)
    (hse : starEach [Expr.Call (.Attribute o "values" apos) [] [] mpos] X.env = [(false, eval (Expr.Call (.Attribute o "values" apos) [] [] mpos) X.env)] := by rfl) :
    PE X (.Call (.Name "list" p) [.Call (.Attribute o "values" apos) [] [] mpos] [] pos) (tListVals td) := by
  refine ⟨fun pins s σ H Q I h => ?_⟩
  refine wpAny_Call_Name_kw (ld_blt I hg hm (u := .type "list") (by first | rfl | decide +kernel) ?_ (by first | decide +kernel | decide) (by first | decide +kernel | decide))
  rw [hse]
  refine PySem.callWith_type1 (wpAny_Call_method0_late hbase hline (thn (hd.run pins s σ H _ I h) fun v s1 ⟨x, H1, I1, r1, a, kvs, ex, ha, q⟩ => ?_))
  subst ex
  obtain rfl : v = Value.ref a := r1
  obtain ⟨hz, hsys, vs, rel, dof⟩ := dk_of I1.hok ha
  obtain ⟨ep, dat⟩ := dof.dictAt
  have dat' := dat
  obtain ⟨ob, es, ho, ex, hdat, hko, hpr, hnd⟩ := dat'
  refine ⟨"dict", "dict.values", F.plainAttrs_dict, F.slot_dict_values, F.type_dict_values, ⟨ob, ho, ex.1⟩, fun b e => ?_, Calls.callWith_builtin rfl (PySem.evalArgs_none ?_)⟩
  · cases e
    exact ⟨ob, ho, ex.2.1⟩
  refine call_meetsIn F.slot_dict_values ⟨ob, ho, ex.1⟩ F.entry_dict_values (F.args_dict_values_1 _) (meets_dict_values (mixKind X.prog X.w) a hsys) ⟨⟨vs, dof⟩, ?_⟩
  have k1 : ∀ b u, s1.heap.get? b = some u → (s1.heap.push { cls := .type "dict_values", data := .fields #[.ref a] }).get? b = some u := fun b u e => Heap.get?_push_of_some _ e
  have dat1 : (s1.heap.push { cls := .type "dict_values", data := .fields #[.ref a] }).DictAt (mixKind X.prog X.w) a vs ep := dat.keep k1
  have hl : kvs.length = vs.length := Paired.length rel
  have I2 : Inv X pins σ H1 { s1 with heap := s1.heap.push { cls := .type "dict_values", data := .fields #[.ref a] } } := I1.kept (t' := s1.toks) k1
  refine PySem.W.kdl_call (s := { s1 with heap := s1.heap.push { cls := .type "dict_values", data := .fields #[.ref a] } }) (PySem.W.kdl_values (knd := mixKind X.prog X.w) (kvs := vs) (ep := ep) (r := s1.heap.objs.size) (d := a)) (I.ok.hd hc) ⟨⟨_, Heap.get?_push_size _ rfl, rfl, rfl⟩, dat1⟩ (by rw [← hl]; exact hz) fun h' tk acc' c' hkeep hS hacc => ?_
  refine ⟨.ref _, upd H1 (s1.heap.push { cls := .type "dict_values", data := .fields #[.ref a] }).objs.size (.lst (kvs.map Prod.snd)), I2.laid hkeep (Nat.le_refl _) (show ObjOk X.prog X.w _ _ _ (.lst (kvs.map Prod.snd)) from ⟨?_, acc'.toList, c', ?_, ?_⟩), rfl, q _ (I2.hok.fresh (Nat.le_refl _))⟩
  · rw [List.length_map]; exact hz
  · have el : acc'.toList.length = acc'.size := by simp
    refine vals_of_at (by rw [List.length_map, el, hacc.1, hl]) fun j x w h1 h2 => ?_
    obtain ⟨k, hky⟩ := hacc.2 j w (by rw [← Array.getElem?_toList]; exact h2)
    obtain ⟨y, hy, ry⟩ := KV.at' rel hky
    rw [List.getElem?_map, hy] at h1
    cases h1
    exact ry
  · rw [Array.toArray_toList]; exact hS
end L2

set_option Elab.async false
set_option linter.all false
set_option maxRecDepth 100000
set_option maxHeartbeats 4000000
namespace Dv
open PySem L2 Evl
section
variable {K : PySem.W.Frag} {σ : L2.St} {F F0 H0 H : Hp} {te tv : TE} {d : PyData} {ds es : List PyData} {D : Ends} {C dx x : Addr} {fs : List (Str × V)} {f : Str} {i : Nat}
theorem noSq_ins : NoSq (some (.ins C dx fs)) := fun xs => ⟨(fun z => by cases z), (fun z => by cases z), fun ob => ⟨(fun z => by cases z), (fun z => by cases z)⟩⟩
theorem putF_new {v : V} : ∀ {fs : List (Str × V)}, (∀ p ∈ fs, p.1 ≠ f) → putF f v fs = fs ++ [(f, v)]
  | [], _ => rfl
  | (g, y) :: r, h => by
    have h1 : ¬ g = f := h (g, y) List.mem_cons_self
    show (if g = f then _ else _) = _
    rw [if_neg h1, putF_new fun p hp => h p (List.mem_cons_of_mem _ hp)] <;> rfl
theorem nofs {fs : List (Str × V)} {f : Str} (h : (fs.all fun p => !(p.1 == f)) = true) : ∀ p ∈ fs, p.1 ≠ f := fun p hp z => by
  have := List.all_eq_true.mp h p hp
  rw [z] at this
  simp at this
/-- self.f = data -/
theorem s_fldD (h : EvD K tv σ F d) (hi : σ[i]? = some (some (.ref x))) (hx : F x = some (.ins C dx fs)) (c : Cls K C) (n : NoAttr K C f) (hl : fs.length < 1000) (hn : ∀ p ∈ fs, p.1 ≠ f) (b : Bx x dx F0 H0 F H) (f0 : F0 x = none) (hf : DpAll K F (fs.map Prod.snd) ds)
    (k : ∀ v F' H', Bx x dx F0 H0 F' H' → F' x = some (.ins C dx (fs ++ [(f, v)])) → DpAll K F' ((fs ++ [(f, v)]).map Prod.snd) (ds ++ [d]) → D.nx σ H') : sFld K (tVar i) tv f D σ H :=
  h H b.fh _ fun v F' H' g hv => ⟨_, hi, x, C, dx, fs, rfl, g.hx _ _ (b.fh _ _ hx), c, n, hl, by
    rw [putF_new hn]
    have n1 : NoSq (F' x) := by rw [g.fx _ _ hx]; exact noSq_ins
    refine k v (upd F' x (.ins C dx (fs ++ [(f, v)]))) _ ((b.step g).put (.inr rfl) f0) upd_same ?_
    rw [List.map_append]
    exact dps_app (dps_put n1 (dps_ex g.fx hf)) (.cons (dp_put n1 hv) .nil)⟩
/-- self.f = a new list that is to grow -/
theorem s_fldL (h : EvL K tv σ F es) (hi : σ[i]? = some (some (.ref x))) (hx : F x = some (.ins C dx fs)) (c : Cls K C) (n : NoAttr K C f) (hl : fs.length < 1000) (hn : ∀ p ∈ fs, p.1 ≠ f) (b : Bx x dx F0 H0 F H) (f0 : F0 x = none) (hf : DpAll K F (fs.map Prod.snd) ds)
    (k : ∀ p ws F' H', Bx x dx F0 H0 F' H' → F' x = some (.ins C dx (fs ++ [(f, .ref p)])) → DpAll K F' (fs.map Prod.snd) ds → F' p = none → H' p = some (.lst ws) → H0 p = none → DpAll K F' ws es → D.nx σ H') : sFld K (tVar i) tv f D σ H :=
  h H b.fh _ fun p ws F' H' g h1 h2 h3 h4 => ⟨_, hi, x, C, dx, fs, rfl, g.hx _ _ (b.fh _ _ hx), c, n, hl, by
    rw [putF_new hn]
    have n1 : NoSq (F' x) := by rw [g.fx _ _ hx]; exact noSq_ins
    have hpx : p ≠ x := fun z => by rw [z, b.fh _ _ hx] at h1; cases h1
    have hp0 : H0 p = none := by
      cases z : H0 p with
      | none => rfl
      | some o => rw [b.hx p o hpx z] at h1; cases h1
    exact k p ws (upd F' x (.ins C dx (fs ++ [(f, .ref p)]))) _ ((b.step g).put (.inr rfl) f0) upd_same (dps_put n1 (dps_ex g.fx hf)) (by rw [upd_ne hpx]; exact h2) (by rw [upd_ne hpx]; exact h3) hp0 (dps_put n1 h4)⟩
theorem ev_fld {v : V} (hi : σ[i]? = some (some (.ref x))) (hx : F x = some (.ins C dx fs)) (c : Cls K C) (n : NoAttr K C f) (hl : fs.lookup f = some v) (hv : Dp K F v d) : EvD K (tFld K (tVar i) f) σ F d := fun H e Q q =>
  fld_ref hi hx c n hl H e Q (q v F H (Gr.refl e) hv)
/-- self.f.append(data), the list of H alone -/
theorem s_appF {l : Addr} {xs : List V} (hi : σ[i]? = some (some (.ref x))) (hx : F x = some (.ins C dx fs)) (c : Cls K C) (n : NoAttr K C f) (hlk : fs.lookup f = some (.ref l)) (hl : H l = some (.lst xs)) (fl : F l = none) (h : EvD K te σ F d) (e : Ex F H) (hz : xs.length < 100000)
    (k : ∀ v F' H', Gr F H F' H' → Dp K F' v d → F' l = none → H' l = some (.lst xs) → D.nx σ (upd H' l (.lst (xs ++ [v])))) : tDrop (tBM K "list" rAppend (tFld K (tVar i) f) (tCons te tNil)) D σ H :=
  show tFld K (tVar i) f σ H (fun x H1 => tyV K "list" x H1 ∧ (tCons te tNil) σ H1 fun xs H2 => rAppend x xs H2 fun _ H3 => D.nx σ H3) from
  fld_ref hi hx c n hlk H e _ ⟨Or.inl ⟨rfl, xs, sq_of hl⟩, h H e _ fun v F' H' g hv => ⟨l, xs, v, rfl, rfl, (g.keep hl fl).1, sz_lt hz, k v F' H' g hv (g.keep hl fl).2 (g.keep hl fl).1⟩⟩
/-- list(d.values()), list(d) -/
theorem el_listVals {ad : Addr} {kvs : List (Key × V)} {td : TE} (ht : ∀ H1, Ex F H1 → ∀ Q : VK, Q (.ref ad) H1 → td σ H1 Q) (hd : F ad = some (.dK kvs)) (hv : DpAll K F (kvs.map Prod.snd) ds) : EvL K (tListVals td) σ F ds := fun H e Q q =>
  ht H e _ ⟨ad, kvs, rfl, e _ _ hd, fun p hp => q p _ F _ (Gr.only e hp) hp (ex_none e hp) upd_same hv⟩
theorem dps_keys : ∀ {names : List Str}, DpAll K F ((names.map (Sum.inr : Str → Key)).map kV) (names.map PyData.str)
  | [] => .nil
  | n :: r => .cons (.str n) dps_keys
theorem el_listKeys {ad : Addr} {kvs : List (Key × V)} {names : List Str} {td : TE} (ht : ∀ H1, Ex F H1 → ∀ Q : VK, Q (.ref ad) H1 → td σ H1 Q) (hd : F ad = some (.dK kvs)) (hn : kvs.map Prod.fst = names.map Sum.inr) : EvL K (tCB rListD (tCons td tNil)) σ F (names.map PyData.str) := fun H e Q q =>
  ht H e _ ⟨ad, kvs, rfl, e _ _ hd, fun p hp => q p _ F _ (Gr.only e hp) hp (ex_none e hp) upd_same (by
    have e1 : (kvs.map fun kv => kV kv.1) = (names.map (Sum.inr : Str → Key)).map kV := by
      rw [← hn, List.map_map] <;> rfl
    rw [e1]
    exact dps_keys)⟩
end
end Dv
namespace R3
open PySem PySem.Spec PyProof.Rows L2 Dv
abbrev sGroundInit : Stmt := inClass (top 39) 0
abbrev sGroundHasRoom : Stmt := inClass (top 39) 1
structure GroundC (K : PySem.W.Frag) (G : Addr) : Prop where
  cl : Cls K G
  rooms : NoAttr K G "rooms"
  wide : NoAttr K G "wide"
  titles : NoAttr K G "titles"
  takes : NoAttr K G "takes"
  gives : NoAttr K G "gives"
  gains : NoAttr K G "gains"
def numsD (names : List Str) (ps : List (Str × Int)) : PyData := .list ((numbersOf names ps).map PyData.int)
def gainsOf (names : List Str) (r : Str × List (Str × Int) × List (Str × Int)) : List Int := ((numbersOf names r.2.1).zip (numbersOf names r.2.2)).map fun z => z.2 - z.1
structure GroundAt (K : PySem.W.Frag) (F : Hp) (G x : Addr) (m : MillD) : Prop where
  ex : ∃ (dx : Addr) (a1 a2 a3 a4 a5 a6 : V), F x = some (.ins G dx [("rooms", a1), ("wide", a2), ("titles", a3), ("takes", a4), ("gives", a5), ("gains", a6)]) ∧
    DpAll K F [a1, a2, a3, a4, a5, a6] [.list (m.stuffs.map fun z => encRoom z.2), .int m.stuffs.length, .list (m.recipes.map fun z => PyData.str z.1), .list (m.recipes.map fun r => numsD m.names r.2.1), .list (m.recipes.map fun r => numsD m.names r.2.2), .list (m.recipes.map fun r => PyData.list ((gainsOf m.names r).map PyData.int))]
section
variable {P : Program} {w : World} {K : PySem.W.Frag} {mg : Str → Option Value} {base : Heap}
theorem sc_Ground___init__ : FnScope (["self", "mill", "takes", "gives", "less", "more"] : List Str) (["self", "mill"] : List Str) (defScope sGroundInit) := ⟨rfl, rfl, rfl, by decide +kernel, rfl, by decide +kernel, by decide +kernel⟩
theorem parts_in {names : List Str} : ∀ {ps : List (Str × Int)} {seen : List Str}, partsGo names (ps.map encPart) seen = true → ∀ p ∈ ps, p.1 ∈ names
  | [], _, _, _, h => nomatch h
  | a :: r, seen, h, p, hp => by
    rw [List.map_cons, partsGo, Bool.and_eq_true, Bool.and_eq_true, Bool.and_eq_true] at h
    obtain ⟨⟨⟨h1, h2⟩, h3⟩, h4⟩ := h
    rcases List.mem_cons.mp hp with rfl | hp
    · exact of_decide_eq_true h2
    · exact parts_in h4 p hp
theorem rec_in {m : MillD} (ok : m.Ok) {r : Str × List (Str × Int) × List (Str × Int)} (hr : r ∈ m.recipes) : (∀ p ∈ r.2.1, p.1 ∈ m.names) ∧ ∀ p ∈ r.2.2, p.1 ∈ m.names := by
  have h := (ok.rs r hr).2
  have h' : (isName (.str r.1) && partsGo m.names (r.2.1.map encPart) [] && partsGo m.names (r.2.2.map encPart) []) = true := h
  rw [Bool.and_eq_true, Bool.and_eq_true] at h'
  exact ⟨parts_in h'.1.2, parts_in h'.2⟩
theorem ev_nums {σ : L2.St} {F : Hp} {te : TE} {C ml : Addr} {m : MillD} {ps : List (Str × Int)} {E : XK} {i : Nat} (hi : σ[i]? = some (some (.ref ml))) (hm : Mill0 K F C ml m) (hl : m.stuffs.length ≤ 8) (h : EvD K te σ F (.tuple (ps.map encPart))) (hin : ∀ p ∈ ps, p.1 ∈ m.names) :
    EvD K (tCall (spNums K C) [] E (tCons (tVar i) (tCons te tNil))) σ F (numsD m.names ps) := fun H e Q q =>
  ⟨_, hi, h H e _ fun v F1 H1 g1 hv => ⟨F1, ml, v, m, ps, rfl, g1.fh, hm.mono g1.fx, hl, hv, hin, fun p ws F' H' g h1 h2 h3 h4 => q _ _ _ (g1.trans (g.take h1 h2 h3)) (.lst (Evl.sq_of upd_same) (dps_ex (Evl.Ex.new h2) h4))⟩⟩
/-- a mill's rules, to be walked -/
theorem MillAt.rules {F : Hp} {C ml : Addr} {m : MillD} (h : MillAt K F C ml m) : ∃ (dx ro sp ru : Addr) (v1 v3 : List V), F ml = some (.ins C dx [("rooms", .ref ro), ("spots", .ref sp), ("rules", .ref ru)]) ∧
    F ro = some (.dK ((m.stuffs.map fun z => (Sum.inr z.1 : Key)).zip v1)) ∧ DpAll K F v1 (m.stuffs.map fun z => encRoom z.2) ∧
    F ru = some (.dK ((m.recipes.map fun z => (Sum.inr z.1 : Key)).zip v3)) ∧ DpAll K F v3 (m.recipes.map encRule) ∧
    ∀ od, upd F ru (.frz od (.dK ((m.recipes.map fun z => (Sum.inr z.1 : Key)).zip v3))) ml = some (.ins C dx [("rooms", .ref ro), ("spots", .ref sp), ("rules", .ref ru)]) ∧
      Mill0 K (upd F ru (.frz od (.dK ((m.recipes.map fun z => (Sum.inr z.1 : Key)).zip v3)))) C ml m := by
  obtain ⟨dx, ro, sp, ru, v1, v2, v3, h1, h2, h3, h4, h5, h6, h7, hrr, hsr, _⟩ := h.ex
  refine ⟨dx, ro, sp, ru, v1, v3, h1, h2, h3, h6, h7, fun od => ?_⟩
  have n6 : NoSq (F ru) := by rw [h6]; exact noSq_dK
  have hmr : ml ≠ ru := fun z => by rw [z, h6] at h1; cases h1
  have e1 : upd F ru (.frz od (.dK ((m.recipes.map fun z => (Sum.inr z.1 : Key)).zip v3))) ml = some (.ins C dx [("rooms", .ref ro), ("spots", .ref sp), ("rules", .ref ru)]) := by rw [upd_ne hmr]; exact h1
  exact ⟨e1, ⟨dx, ro, sp, ru, v1, v2, e1, by rw [upd_ne hrr]; exact h2, dps_put n6 h3, by rw [upd_ne hsr]; exact h4, dps_put n6 h5⟩⟩
def spGround (K : PySem.W.Frag) (C G : Addr) : Sp := fun vs H Q _ => ∃ (F : Hp) (x dx ml : Addr) (m : MillD), vs = [.ref x, .ref ml] ∧ Evl.Ex F H ∧ F x = none ∧ F dx = none ∧ H x = some (.ins G dx []) ∧ (H dx).isSome = true ∧ x ≠ dx ∧
  MillAt K F C ml m ∧ m.Ok ∧ ∀ F' H', Bx x dx F H F' H' → GroundAt K F' G x m → Q .non H'
theorem ok_ground_init {f : Addr} {fd : FuncData} {C G : Addr} (D : Fun K "__init__" "Ground.__init__" sGroundInit f fd) (MC : MillC K C) (GC : GroundC K G) (B : Bl mg) (C_numbers_of : Cal P w K mg base "numbers_of" ["mill", "parts"] 1 (spNums K C)) :
    FnOkG P w K mg base CX0 2 f fd ["self", "mill"] (spGround K C G) := by
  refine D.okG sc_Ground___init__ (fun vs H Q E h => ?_) (fun cdv A outer s H vs Q E hr h => ?_)
  · obtain ⟨F, x, dx, ml, m, rfl, _⟩ := h
    rfl
  obtain ⟨F, x, dx, ml, m, rfl, e, fx, fdx, hx, hdx, hxd, hm, ok, q⟩ := h
  refine ⟨_, (pss_cons (ps_fld (pv 0) (pe_listVals rfl rfl B.list (pe_fld (pv 1) rfl)) rfl)
      (pss_cons (ps_fld (pv 0) (pe_callB call_len (by rfl) B.len (by decide +kernel) (pa_cons (pe_fld (pv 0) rfl) pa_nil)) rfl)
      (pss_cons (ps_fld (pv 0) (pe_callTy (call_list_dK (by rfl)) (by rfl) B.list (by decide +kernel) (pa_cons (pe_fld (pv 1) rfl) pa_nil)) rfl)
      (pss_cons (ps_fld (pv 0) (pe_lock (pe_lc (own := [("takes", 2), ("gives", 3)]) (g := gTup K 2 (gCons (gName 2) (gCons (gName 3) gNil))) rfl sc_Ground___init__.nd (pi_values (pe_fld (pv 1) rfl)) (blkOk_by (own := [("takes", 2), ("gives", 3)]) (N := ["self", "mill", "takes", "gives", "less", "more"]) (sc := defScope sGroundInit) (by decide +kernel)) (fun _ _ _ _ _ => (pg_tup (by rfl) (pgs_cons (pg_name (i := 2) sc_Ground___init__.nd rfl (.inl rfl)) (pgs_cons (pg_name (i := 3) sc_Ground___init__.nd rfl (.inl rfl)) pgs_nil)))) (te := tCall (spNums K C) [] E0 (tCons (tVar 1) (tCons (tVar 2) tNil))) (fun _ _ _ _ _ => pts_nil) (fun _ _ _ _ _ => (pe_callC C_numbers_of hr (pa_cons (pv 1) (pa_cons (pv 2) pa_nil)))))) rfl)
      (pss_cons (ps_fld (pv 0) (pe_lock (pe_lc (own := [("takes", 2), ("gives", 3)]) (g := gTup K 2 (gCons (gName 2) (gCons (gName 3) gNil))) rfl sc_Ground___init__.nd (pi_values (pe_fld (pv 1) rfl)) (blkOk_by (own := [("takes", 2), ("gives", 3)]) (N := ["self", "mill", "takes", "gives", "less", "more"]) (sc := defScope sGroundInit) (by decide +kernel)) (fun _ _ _ _ _ => (pg_tup (by rfl) (pgs_cons (pg_name (i := 2) sc_Ground___init__.nd rfl (.inl rfl)) (pgs_cons (pg_name (i := 3) sc_Ground___init__.nd rfl (.inl rfl)) pgs_nil)))) (te := tCall (spNums K C) [] E0 (tCons (tVar 1) (tCons (tVar 3) tNil))) (fun _ _ _ _ _ => pts_nil) (fun _ _ _ _ _ => (pe_callC C_numbers_of hr (pa_cons (pv 1) (pa_cons (pv 3) pa_nil)))))) rfl)
      (pss_cons (ps_fld (pv 0) (pe_lst pa_nil) rfl)
      (pss_one (ps_for PassesOwn.never rfl (pi_zipS (by rfl) B.zip (pa_cons (pe_fld (pv 0) rfl) (pa_cons (pe_fld (pv 0) rfl) pa_nil))) (pg_tup (by rfl) (pgs_cons (pg_name (i := 2) sc_Ground___init__.nd rfl (.inl rfl)) (pgs_cons (pg_name (i := 3) sc_Ground___init__.nd rfl (.inl rfl)) pgs_nil))) (pss_one (ps_expr (pe_bm PySem.F.plainAttrs_list PySem.F.slot_list_append PySem.F.type_list_append mt_append (pe_fld (pv 0) rfl) (pa_cons (pe_lc (own := [("less", 4), ("more", 5)]) (g := gTup K 2 (gCons (gName 4) (gCons (gName 5) gNil))) rfl sc_Ground___init__.nd (pi_zipS (by rfl) B.zip (pa_cons (pv 2) (pa_cons (pv 3) pa_nil))) (blkOk_by (own := [("less", 4), ("more", 5)]) (N := ["self", "mill", "takes", "gives", "less", "more"]) (sc := defScope sGroundInit) (by decide +kernel)) (fun _ _ _ _ _ => (pg_tup (by rfl) (pgs_cons (pg_name (i := 4) sc_Ground___init__.nd rfl (.inl rfl)) (pgs_cons (pg_name (i := 5) sc_Ground___init__.nd rfl (.inl rfl)) pgs_nil))))  (fun _ _ _ _ _ => pts_nil) (fun _ _ _ _ _ => (pe_op op_sub (pv 5) (pv 4)))) pa_nil)))))))))))), ?_⟩
  have st : start ["self", "mill", "takes", "gives", "less", "more"] [V.ref x, V.ref ml] = [some (.ref x), some (.ref ml), none, none, none, none] := rfl
  rw [st]
  have b0 : Bx x dx F H F H := ⟨Evl.Ex.refl F, e, fun _ _ _ h => h, fun a h1 h2 => absurd h1 h2⟩
  have b1 : Bx x dx F H (upd F x (.ins G dx [])) H := by
    have := b0.put (p := x) (o := .ins G dx []) (.inr rfl) fx
    rwa [show upd H x (.ins G dx []) = H from by
      funext a
      by_cases z : a = x
      · rw [z, upd_same, hx]
      · rw [upd_ne z]] at this
  have hl8 := ok.s2
  have hr8 := ok.r2
  -- self.rooms = list(mill.rooms.values())
  obtain ⟨mdx, ro, sp, ru, v1, v3, hml, hro, hv1, hru, hv3, hlk⟩ := (hm.mono b1.fx).rules
  have v1l : v1.length = (m.stuffs.map fun z => (Sum.inr z.1 : Key)).length := by rw [dps_len hv1, List.length_map, List.length_map]
  have v3l : v3.length = (m.recipes.map fun z => (Sum.inr z.1 : Key)).length := by rw [dps_len hv3, List.length_map, List.length_map]
  refine s_fldD (K := K) (f := "rooms") (fs := []) (ds := []) (EvL.ev (el_listVals (fun H1 e1 Q q => fld_ref rfl hml MC.cl MC.rooms fl1 H1 e1 Q q) hro (by rw [zip_snd v1l]; exact hv1))) rfl upd_same GC.cl GC.rooms (by simp) (by simp) b1 fx .nil fun a1 F2 H2 b2 x2 f2 => ?_
  -- self.wide = len(self.rooms)
  cases f2 with
  | cons da1 _ =>
  refine s_fldD (K := K) (f := "wide") (fs := [("rooms", a1)]) (ds := [.list (m.stuffs.map fun z => encRoom z.2)]) (Dv.ev_is (ev_len (n := (m.stuffs.map fun z => encRoom z.2).length) (ev_fld (fs := [("rooms", a1)]) rfl x2 GC.cl GC.rooms (by rfl) da1) rfl (by rw [List.length_map]; omega)) (by rw [List.length_map])) rfl x2 GC.cl GC.wide (by simp) (nofs (by rfl)) b2 fx (.cons da1 .nil) fun a2 F3 H3 b3 x3 f3 => ?_
  -- self.titles = list(mill.rules)
  obtain ⟨mdx, ro, sp, ru, v1, v3, hml, hro, hv1, hru, hv3, hlk⟩ := (hm.mono b3.fx).rules
  refine s_fldD (K := K) (f := "titles") (fs := [("rooms", a1), ("wide", a2)]) (EvL.ev (el_listKeys (names := m.recipes.map (·.1)) (fun H1 e1 Q q => fld_ref rfl hml MC.cl MC.rules fl3 H1 e1 Q q) hru (by
    rw [zip_fst (by rw [dps_len hv3, List.length_map, List.length_map]), List.map_map] <;> rfl))) rfl x3 GC.cl GC.titles (by simp) (nofs (by rfl)) b3 fx f3 fun a3 F4 H4 b4 x4 f4 => ?_
  -- self.takes = [..]
  have lcs : ∀ (j : Nat) (hj : j = 2 ∨ j = 3) (F4 : Hp) (pick : (Str × List (Str × Int) × List (Str × Int)) → List (Str × Int)) (hpick : (j = 2 ∧ pick = fun r => r.2.1) ∨ (j = 3 ∧ pick = fun r => r.2.2)), MillAt K F4 C ml m →
      EvL K (tLockE (tLc (iVals (tFld K (tVar 1) "rules")) (gTup K 2 (gCons (gName 2) (gCons (gName 3) gNil))) tYes (tCall (spNums K C) [] E0 (tCons (tVar 1) (tCons (tVar j) tNil))) [2, 3])) [some (.ref x), some (.ref ml), none, none, none, none] F4 (m.recipes.map fun r => numsD m.names (pick r)) := by
    intro j hj F4 pick hpick hm4
    obtain ⟨mdx, ro, sp, ru, v1, v3, hml, hro, hv1, hru, hv3, hlk⟩ := hm4.rules
    refine el_lock hru fun od => ?_
    obtain ⟨hml', hm0⟩ := hlk od
    have n6 : NoSq (F4 ru) := by rw [hru]; exact noSq_dK
    have v3l : v3.length = (m.recipes.map fun z => (Sum.inr z.1 : Key)).length := by rw [dps_len hv3, List.length_map, List.length_map]
    refine Dv.el_is (lc_rule (K := K) (σ := [some (.ref x), some (.ref ml), none, none, none, none]) m.recipes encRule (fun r => numsD m.names (pick r)) (fun _ => true) (it_vals (fun H1 e1 Q q => fld_ref rfl hml' MC.cl MC.rules fl3 H1 e1 Q q) upd_same (by rw [zip_snd v3l]; exact dps_put n6 hv3)) (by omega) fun r hr v F1 e1 hv => ?_) (by
      rw [List.filter_eq_self.mpr fun _ _ => rfl])
    obtain ⟨y1, y2, hy1, hy2, ht⟩ := tup2 hv
    obtain ⟨i1, i2⟩ := rec_in ok hr
    refine ⟨[some (.ref x), some (.ref ml), some y1, some y2, none, none], fun H e Q q => ht 2 3 _ H e Q q, rfl, fun H e Q q => q F1 H (Gr.refl e), fun _ => ?_⟩
    rcases hpick with ⟨rfl, rfl⟩ | ⟨rfl, rfl⟩
    · exact ev_nums rfl (hm0.mono e1) hl8 (Dv.ev_var rfl hy1) i1
    · exact ev_nums rfl (hm0.mono e1) hl8 (Dv.ev_var rfl hy2) i2
  refine s_fldD (K := K) (f := "takes") (fs := [("rooms", a1), ("wide", a2), ("titles", a3)]) (EvL.ev (lcs 2 (.inl rfl) F4 (fun r => r.2.1) (.inl ⟨rfl, rfl⟩) (hm.mono b4.fx))) rfl x4 GC.cl GC.takes (by simp) (nofs (by rfl)) b4 fx f4 fun a4 F5 H5 b5 x5 f5 => ?_
  refine s_fldD (K := K) (f := "gives") (fs := [("rooms", a1), ("wide", a2), ("titles", a3), ("takes", a4)]) (EvL.ev (lcs 3 (.inr rfl) F5 (fun r => r.2.2) (.inr ⟨rfl, rfl⟩) (hm.mono b5.fx))) rfl x5 GC.cl GC.gives (by simp) (nofs (by rfl)) b5 fx f5 fun a5 F6 H6 b6 x6 f6 => ?_
  -- self.gains = []
  refine s_fldL (K := K) (f := "gains") (fs := [("rooms", a1), ("wide", a2), ("titles", a3), ("takes", a4), ("gives", a5)]) (Dv.el_lst Dv.ea_nil (by simp)) rfl x6 GC.cl GC.gains (by simp) (nofs (by rfl)) b6 fx f6 fun p ws F7 H7 b7 x7 f7 fp hp hpH hws => ?_
  cases hws
  have dt : Dp K F7 a4 (.list (m.recipes.map fun r => numsD m.names r.2.1)) := by
    obtain ⟨z, hz, hd⟩ := dps_at (i := 3) f7 rfl
    cases hz
    exact hd
  have dg : Dp K F7 a5 (.list (m.recipes.map fun r => numsD m.names r.2.2)) := by
    obtain ⟨z, hz, hd⟩ := dps_at (i := 4) f7 rfl
    cases hz
    exact hd
  have x7' : F7 x = some (.ins G dx [("rooms", a1), ("wide", a2), ("titles", a3), ("takes", a4), ("gives", a5), ("gains", .ref p)]) := x7
  refine Dv.s_for (K := K) (it_is (it_zipS (Dv.ea_cons (ev_fld (i := 0) rfl x7' GC.cl GC.takes (by rfl) dt) (Dv.ea_cons (ev_fld (i := 0) rfl x7' GC.cl GC.gives (by rfl) dg) Dv.ea_nil)) (by simp)) (show _ = m.recipes.map fun r => PyData.tuple [numsD m.names r.2.1, numsD m.names r.2.2] by
      rw [List.zip_map', List.map_map] <;> rfl)) b7.fh
    (fun n σ F' H' => ∃ (s2 s3 : Option V) (ws : List V), σ = [some (.ref x), some (.ref ml), s2, s3, none, none] ∧ F' p = none ∧ H' p = some (.lst ws) ∧ DpAll K F' ws ((m.recipes.take n).map fun r => PyData.list ((gainsOf m.names r).map PyData.int)) ∧ Bx x dx F H F' H')
    (fun F8 H8 g8 => ?_) ?_ (fun σ' F8 H8 e8 e9 p8 => ?_)
  · have k := g8.keep hp fp
    exact ⟨none, none, [], rfl, k.2, k.1, by rw [List.take_zero]; exact .nil, b7.step g8⟩
  · rintro Fb eb n σ F8 H8 u du F9 H9 hdu e8 e9 ⟨s2, s3, ws, rfl, fp8, hp8, hw8, b8⟩ g9 hu9
    obtain ⟨hn, hdn⟩ := List.getElem?_eq_some_iff.mp hdu
    rw [List.length_map] at hn
    have hdu' : du = PyData.tuple [numsD m.names m.recipes[n].2.1, numsD m.names m.recipes[n].2.2] := by rw [← hdn, List.getElem_map]
    subst hdu'
    obtain ⟨y1, y2, hy1, hy2, ht⟩ := tup2 hu9
    have k9 := g9.keep hp8 fp8
    have x9 : F9 x = some (.ins G dx [("rooms", a1), ("wide", a2), ("titles", a3), ("takes", a4), ("gives", a5), ("gains", .ref p)]) := g9.fx _ _ (e8 _ _ (eb _ _ x7'))
    refine ht 2 3 _ H9 g9.fh _ ?_
    have n1 := numbersOf_len m.names m.recipes[n].2.1
    have n2 := numbersOf_len m.names m.recipes[n].2.2
    have nl : m.names.length = m.stuffs.length := List.length_map ..
    have inner : EvL K (tLc (iZipS K (tCons (tVar 2) (tCons (tVar 3) tNil))) (gTup K 2 (gCons (gName 4) (gCons (gName 5) gNil))) tYes (tOp (rI0 fun i j => V.int (i - j)) (tVar 5) (tVar 4)) [4, 5]) [some (.ref x), some (.ref ml), some y1, some y2, none, none] F9 ((gainsOf m.names m.recipes[n]).map PyData.int) := by
      refine Dv.el_is (lc_rule (K := K) (σ := [some (.ref x), some (.ref ml), some y1, some y2, none, none]) ((numbersOf m.names m.recipes[n].2.1).zip (numbersOf m.names m.recipes[n].2.2)) (fun z => PyData.tuple [.int z.1, .int z.2]) (fun z => PyData.int (z.2 - z.1)) (fun _ => true)
        (it_is (it_zipS (Dv.ea_cons (Dv.ev_var rfl hy1) (Dv.ea_cons (Dv.ev_var rfl hy2) Dv.ea_nil)) (by rw [List.length_map, List.length_map]; omega)) (by rw [List.zip_map, List.map_map] <;> rfl)) (by
          rw [List.length_zip]
          omega) fun z _ v F1 e1 hv => ?_) (by
        rw [List.filter_eq_self.mpr fun _ _ => rfl]
        unfold gainsOf
        rw [List.map_map] <;> rfl)
      obtain ⟨z1, z2, hz1, hz2, hzt⟩ := tup2 hv
      exact ⟨[some (.ref x), some (.ref ml), some y1, some y2, some z1, some z2], fun H e Q q => hzt 4 5 _ H e Q q, rfl, fun H e Q q => q F1 H (Gr.refl e), fun _ => Dv.ev_I0 (fun _ => .int _) (Dv.ev_var rfl hz2) (Dv.ev_var rfl hz1)⟩
    have wl : ws.length ≤ 8 := by
      rw [dps_len hw8, List.length_map, List.length_take]
      omega
    refine s_appF (K := K) (f := "gains") (i := 0) rfl x9 GC.cl GC.gains (by rfl) k9.1 k9.2 (EvL.ev inner) g9.fh (by omega) fun y F10 H10 g10 hy f10 h10 => ?_
    dsimp only
    refine ⟨F10, e8.trans (g9.fx.trans g10.fx), Evl.Ex.mut g10.fh f10, some y1, some y2, ws ++ [y], rfl, f10, upd_same, ?_, ((b8.step g9).step g10).mut hpH f10⟩
    rw [List.take_succ_eq_append_getElem hn, List.map_append]
    exact dps_app (dps_ex (g9.fx.trans g10.fx) hw8) (.cons hy .nil)
  · obtain ⟨s2, s3, ws, rfl, fp8, hp8, hw8, b8⟩ := p8
    rw [List.length_map, List.take_length] at hw8
    have hpx : p ≠ x := fun z => by
      have := e8 _ _ x7'
      rw [← z, fp8] at this
      cases this
    refine q _ H8 (b8.take hpH fp8 hp8) ⟨dx, a1, a2, a3, a4, a5, .ref p, by rw [upd_ne (Ne.symm hpx)]; exact e8 _ _ x7', ?_⟩
    have f8 := dps_ex (Evl.Ex.new (o := .lst ws) fp8) (dps_ex e8 f7)
    have z := dps_app f8 (.cons (.lst (Evl.sq_of upd_same) (dps_ex (Evl.Ex.new fp8) hw8)) .nil)
    rw [show (m.recipes.map (fun x => x.1)).map PyData.str = m.recipes.map fun z => PyData.str z.1 from by rw [List.map_map] <;> rfl] at z
    exact z
end
end R3

set_option Elab.async false
set_option linter.all false
set_option maxRecDepth 100000
set_option maxHeartbeats 4000000
namespace Dv
open PySem L2 Evl
section
variable {K : PySem.W.Frag} {σ : L2.St} {F H : Hp} {te ta : TE} {d : PyData} {ds : List PyData}
theorem strs_of : ∀ {names : List Str} {ws : List V}, DpAll K F ws (names.map PyData.str) → ws = names.map V.str
  | [], _, h => by cases h; rfl
  | n :: r, _, h => by
    cases h with
    | cons h1 h2 =>
      cases h1
      rw [strs_of h2] <;> rfl
theorem inV_strs {x : Str} {xs : List Str} : inV (V.str x) (xs.map V.str) = decide (x ∈ xs) := by
  unfold inV
  rw [Bool.eq_iff_iff, List.any_eq_true, decide_eq_true_iff]
  constructor
  · rintro ⟨y, hy, he⟩
    obtain ⟨z, hz, rfl⟩ := List.mem_map.mp hy
    have : z = x := by simpa [eqV] using he
    exact this ▸ hz
  · intro hx
    exact ⟨_, List.mem_map.mpr ⟨x, hx, rfl⟩, by simp [eqV]⟩
theorem cutD_from (ds : List PyData) (k : Nat) : cutD ds (some (k : Int)) none = ds.drop k := by
  unfold cutD
  rw [HT.sIx_nat, HT.sIx_none]
  by_cases h : k ≤ ds.length
  · rw [Nat.min_eq_left h, List.take_of_length_le (by rw [List.length_drop]; exact Nat.le_refl _)]
  · rw [Nat.min_eq_right (by omega), List.drop_length, List.drop_of_length_le (by omega)]
    simp
/-- x not in a list of texts -/
theorem ev_notInStrs {x : Str} {xs : List Str} (ha : EvD K ta σ F (.str x)) (hb : EvD K te σ F (.list (xs.map PyData.str))) : EvD K (tOp (rIn K true) ta te) σ F (.bool (!decide (x ∈ xs))) :=
  ev_op ha hb fun v u F1 H1 _ e hv hu Q q => by
    cases hv
    cases hu with
    | lst hs hd =>
      have := strs_of hd
      subst this
      refine ⟨_, xs.map V.str, rfl, .inl (ex_l e hs), rfl, by simp [flatV], ?_⟩
      rw [if_pos rfl, inV_strs]
      exact q _ F1 H1 (Gr.refl e) (.bl _)
theorem idxOf_min {y : Str} : ∀ (xs : List Str) (m : Nat), xs[m]? = some y → xs.idxOf y ≤ m
  | [], m, h => by cases h
  | a :: r, 0, h => by
    cases h
    rw [List.idxOf_cons_self]
    exact Nat.le_refl _
  | a :: r, m + 1, h => by
    rw [List.idxOf_cons]
    have := idxOf_min r m h
    cases (a == y)
    · simp only [cond_false]
      omega
    · simp only [cond_true]
      omega
/-- names.index(x), there -/
theorem ev_indexStrs {x : Str} {xs : List Str} (hb : EvD K te σ F (.list (xs.map PyData.str))) (ha : EvD K ta σ F (.str x)) (hx : x ∈ xs) : EvD K (tBM K "list" (rIndex K) te (tCons ta tNil)) σ F (.int (xs.idxOf x : Nat)) := fun H e Q q =>
  hb H e _ fun v F1 H1 g1 hv => by
    cases hv with
    | lst hs hd =>
      have := strs_of hd
      subst this
      rename_i p
      refine ⟨.inl ⟨rfl, _, ex_l g1.fh hs⟩, (ha.mono g1.fx) H1 g1.fh _ fun u F2 H2 g2 hu => ?_⟩
      cases hu
      have hlt : xs.idxOf x < xs.length := List.idxOf_lt_length_of_mem hx
      have hget : xs[xs.idxOf x] = x := List.getElem_idxOf hlt
      refine ⟨p, xs.map V.str, .str x, xs.idxOf x, .str x, rfl, rfl, ex_l (g2.fx.trans g2.fh) hs, rfl, by simp [flatV], ?_, by simp [eqV], ?_, q _ F2 H2 (g1.trans g2) (.int _)⟩
      · rw [List.getElem?_map, List.getElem?_eq_getElem hlt, hget] <;> rfl
      · intro m z hm hz
        rw [List.getElem?_map] at hz
        obtain ⟨y, hy, rfl⟩ := Option.map_eq_some_iff.mp hz
        have hml : m < xs.length := (List.getElem?_eq_some_iff.mp hy).1
        have : y ≠ x := fun e => by
          subst e
          exact absurd (idxOf_min xs m hy) (by omega)
        simpa [eqV] using this
end
end Dv
namespace R3
open PySem PySem.Spec PyProof.Rows L2 Dv
section
variable {P : Program} {w : World} {K : PySem.W.Frag} {mg : Str → Option Value} {base : Heap}
/-- the module's NOTHING -/
structure Noth (K : PySem.W.Frag) (mg : Str → Option Value) : Prop where
  ex : ∃ a, mg "NOTHING" = some (.ref a) ∧ ∀ F, Dp K F (.ref a) (.tuple [.int 0, .int 1])
def isPair2 : PyData → Bool
  | .tuple [.str _, _] => true
  | _ => false
def brewNm : PyData → Str
  | .tuple (.str n :: _) => n
  | _ => ""
def brewAm : PyData → PyData
  | .tuple [_, a] => a
  | _ => .none
def brewGo : List Str → List PyData → Bool
  | _, [] => true
  | names, d :: r => isPair2 d && decide (brewNm d ∈ names) && isAmt (brewAm d) && !PyData.eqv (brewAm d) (.tuple [.int 0, .int 1]) && brewGo (names.drop (names.idxOf (brewNm d) + 1)) r
def isBrew (names : List Str) : PyData → Bool
  | .list xs => brewGo names xs
  | _ => false
def MillD.titles (m : MillD) : List Str := m.recipes.map (·.1)
end
end R3

set_option Elab.async false
set_option linter.all false
set_option maxRecDepth 100000
set_option maxHeartbeats 4000000
namespace R3
open PySem PySem.Spec PyProof.Rows L2 Dv
section
variable {P : Program} {w : World} {K : PySem.W.Frag} {mg : Str → Option Value} {base : Heap}
/-! ### check_mill of a mill -/
def spCheckMill (C : Addr) : Sp := fun vs H Q _ => ∃ (x dx : Addr) (fs : List (Str × V)), vs = [.ref x] ∧ H x = some (.ins C dx fs) ∧ Q .non H
theorem sc_check_mill : FnScope (["value"] : List Str) (["value"] : List Str) (defScope sCheckMill) := ⟨rfl, rfl, rfl, by decide +kernel, rfl, by decide +kernel, by decide +kernel⟩
theorem ok_check_mill (D : Def K mg "check_mill" sCheckMill ["value"]) (B : Bl mg) {C : Addr} (gC : mg "Mill" = some (.ref C)) (IC : C8.InsC K C) : Cal P w K mg base "check_mill" ["value"] 1 (spCheckMill C) := by
  refine cal_mk D sc_check_mill (fun vs H Q E h => ?_) (fun f cdv A outer s H vs Q E hr h => ?_)
  · obtain ⟨x, dx, fs, rfl, _⟩ := h
    rfl
  obtain ⟨x, dx, fs, rfl, hx, q⟩ := h
  refine ⟨_, (pss_one (ps_if (pt_not (pt_val (pe_callB (C8.call_isC IC) (by rfl) B.isi (by decide +kernel) (pa_cons (pv 0) (pa_cons (pe_glob (v := .ref C) rfl gC rfl) pa_nil))))) (pss_one ps_never) pss_nil)), ?_⟩
  exact ⟨_, rfl, x, dx, fs, rfl, hx, _, rfl, q⟩
/-- check_mill(m), a statement -/
theorem s_check {σ : L2.St} {F H : Hp} {C x : Addr} {m : MillD} {i : Nat} {E : XK} {D : Ends} (hi : σ[i]? = some (some (.ref x))) (hm : MillAt K F C x m) (e : Evl.Ex F H) (k : D.nx σ H) : tDrop (tCall (spCheckMill C) [] E (tCons (tVar i) tNil)) D σ H := by
  obtain ⟨dx, ro, sp, ru, v1, v2, v3, h1, _⟩ := hm.ex
  exact ⟨_, hi, x, dx, _, rfl, e _ _ h1, k⟩
/-- Ground(mill) -/
theorem ev_ground {σ : L2.St} {F : Hp} {C G ml : Addr} {E : XK} {m : MillD} {i : Nat} (hi : σ[i]? = some (some (.ref ml))) (hm : MillAt K F C ml m) (ok : m.Ok) : EvO (fun F x => GroundAt K F G x m) (tMake G (spGround K C G) [] E (tCons (tVar i) tNil)) σ F := fun H e Q q =>
  ⟨_, hi, fun x dx hx hdx hne => ⟨F, x, dx, ml, m, rfl, ex_new2 e hx hdx, ex_none e hx, ex_none e hdx, upd_same, by rw [upd_ne hne, upd_same] <;> rfl, Ne.symm hne, hm, ok, fun F' H' b hg => ⟨rfl, q x F' H' (b.gr hx hdx) hg⟩⟩⟩
theorem GroundAt.mono {F F1 : Hp} {G x : Addr} {m : MillD} (e : Evl.Ex F F1) (h : GroundAt K F G x m) : GroundAt K F1 G x m := by
  obtain ⟨dx, a1, a2, a3, a4, a5, a6, h1, h2⟩ := h.ex
  exact ⟨dx, a1, a2, a3, a4, a5, a6, e _ _ h1, dps_ex e h2⟩
theorem s_asgO {Pd : Hp → Addr → Prop} {σ : L2.St} {F H : Hp} {te : TE} {i : Nat} {D : Ends} (h : EvO Pd te σ F) (e : Evl.Ex F H) (k : ∀ x F' H', Gr F H F' H' → Pd F' x → D.nx (σ.set i (some (.ref x))) H') : tAsg te (gName i) D σ H := h H e _ fun x F' H' g hp => k x F' H' g hp
theorem ev_gfld {σ : L2.St} {F : Hp} {G x : Addr} {m : MillD} {i : Nat} (GC : GroundC K G) (hi : σ[i]? = some (some (.ref x))) (hg : GroundAt K F G x m) :
    EvD K (tFld K (tVar i) "wide") σ F (.int m.stuffs.length) ∧ EvD K (tFld K (tVar i) "titles") σ F (.list (m.titles.map PyData.str)) ∧ EvD K (tFld K (tVar i) "gains") σ F (.list (m.recipes.map fun r => PyData.list ((gainsOf m.names r).map PyData.int))) := by
  obtain ⟨dx, a1, a2, a3, a4, a5, a6, hx, hd⟩ := hg.ex
  cases hd with
  | cons d1 hd =>
  cases hd with
  | cons d2 hd =>
  cases hd with
  | cons d3 hd =>
  cases hd with
  | cons d4 hd =>
  cases hd with
  | cons d5 hd =>
  cases hd with
  | cons d6 hd =>
  refine ⟨ev_fld hi hx GC.cl GC.wide (by rfl) d2, ev_fld hi hx GC.cl GC.titles (by rfl) ?_, ev_fld hi hx GC.cl GC.gains (by rfl) d6⟩
  rw [show m.titles.map PyData.str = m.recipes.map fun z => PyData.str z.1 from by unfold MillD.titles; rw [List.map_map] <;> rfl]
  exact d3
theorem dps_rep {F : Hp} {v : V} {d : PyData} (h : Dp K F v d) : ∀ n : Nat, DpAll K F (List.replicate n v) (List.replicate n d)
  | 0 => .nil
  | n + 1 => .cons h (dps_rep h n)
/-- [x] * n -/
theorem el_rep {σ : L2.St} {F : Hp} {te tn : TE} {d : PyData} {n : Nat} (h : EvD K te σ F d) (hn : EvD K tn σ F (.int n)) (hz : n ≤ 100000) : EvL K (tOp rRep (tLst (tCons te tNil)) tn) σ F (List.replicate n d) := fun H e Q q =>
  Dv.el_lst (K := K) (Dv.ea_cons h Dv.ea_nil) (by simp) H e _ fun l ws F1 H1 g1 hl1 hf1 hl2 hw => by
    obtain ⟨y, rfl, hy⟩ := Dv.one hw
    refine (hn.mono g1.fx) H1 g1.fh _ fun v F2 H2 g2 hv => ?_
    cases hv
    have k2 := g2.keep hl2 hf1
    refine ⟨l, n, [y], rfl, rfl, k2.1, by omega, by omega, Evl.sz_of (by simp; omega), fun p hp => ?_⟩
    have e1 : (List.replicate ((n : Int)).toNat [y]).flatten = List.replicate n y := by
      rw [Int.toNat_natCast]
      exact List.flatten_replicate_singleton
    rw [e1]
    refine q p _ F2 _ ((g1.trans g2).trans (Gr.only g2.fh hp)) (ex_none (g1.trans g2).hx hp) (ex_none g2.fh hp) upd_same ?_
    exact dps_rep (dp_ex g2.fx hy) n
end
end R3

set_option Elab.async false
set_option linter.all false
set_option maxRecDepth 100000
set_option maxHeartbeats 4000000
namespace R3
open PySem PySem.Spec PyProof.Rows L2 Dv
section
variable {P : Program} {w : World} {K : PySem.W.Frag} {mg : Str → Option Value} {base : Heap}
/-- a value below the last modulus, whatever it is -/
def spHash : Sp := fun vs H Q _ => ∃ s x : Int, vs = [.int s, .int x] ∧ 0 ≤ s ∧ s < 2147483647 ∧ 0 ≤ x ∧ x < 1000000 ∧ ∀ z : Int, 0 ≤ z → z < 2147483647 → Q (.int z) H
theorem sc__law_hash : FnScope (["seed", "index", "mixed"] : List Str) (["seed", "index"] : List Str) (defScope sLawHash) := ⟨rfl, rfl, rfl, by decide +kernel, rfl, by decide +kernel, by decide +kernel⟩
theorem ok_law_hash (D : Def K mg "_law_hash" sLawHash ["seed", "index"]) (B : Bl mg) : Cal P w K mg base "_law_hash" ["seed", "index"] 1 spHash := by
  refine cal_mk D sc__law_hash (fun vs H Q E h => ?_) (fun f cdv A outer s H vs Q E hr h => ?_)
  · obtain ⟨s, x, rfl, _⟩ := h
    rfl
  obtain ⟨a, x, rfl, h1, h2, h3, h4, q⟩ := h
  refine ⟨_, (pss_cons (ps_set (i := 2) sc__law_hash.nd rfl (.inl rfl) (pe_op op_mod (pe_callTy call_int1 (by rfl) B.int (by decide +kernel) (pa_cons (pe_op op_add (pe_op op_add (pe_op op_add (pe_op op_mul (pv 0) pe_int) (pe_op op_mul (pe_op op_mul pe_int (pv 1)) (pv 1))) (pe_op op_mul pe_int (pv 1))) pe_int) pa_nil)) pe_int))
      (pss_cons (ps_set (i := 2) sc__law_hash.nd rfl (.inl rfl) (pe_op op_mod (pe_callTy call_int1 (by rfl) B.int (by decide +kernel) (pa_cons (pe_op op_add (pe_op op_add (pe_op op_mul (pv 2) (pv 2)) (pe_op op_mul pe_int (pv 1))) pe_int) pa_nil)) pe_int))
      (pss_one (ps_ret (pe_op op_mod (pe_callTy call_int1 (by rfl) B.int (by decide +kernel) (pa_cons (pe_op op_mul (pv 2) pe_int) pa_nil)) pe_int))))), ?_⟩
  have e1 : 0 ≤ (a * 1299709 + 104729 * x * x + 31 * x + 7) % 2147483629 := Int.emod_nonneg _ (by decide)
  have e2 : (a * 1299709 + 104729 * x * x + 31 * x + 7) % 2147483629 < 2147483629 := Int.emod_lt_of_pos _ (by decide)
  have e3 : 0 ≤ ((a * 1299709 + 104729 * x * x + 31 * x + 7) % 2147483629 * ((a * 1299709 + 104729 * x * x + 31 * x + 7) % 2147483629) + 48271 * x + 15485863) % 2147483587 := Int.emod_nonneg _ (by decide)
  have e4 : ((a * 1299709 + 104729 * x * x + 31 * x + 7) % 2147483629 * ((a * 1299709 + 104729 * x * x + 31 * x + 7) % 2147483629) + 48271 * x + 15485863) % 2147483587 < 2147483587 := Int.emod_lt_of_pos _ (by decide)
  refine ⟨_, rfl, _, _, rfl, rfl, .inl ⟨by omega, by omega⟩, _, rfl, _, _, rfl, rfl, .inl ⟨by decide, by decide⟩, _, rfl, _, _, rfl, rfl, .inl ⟨by omega, by omega⟩, _, _, rfl, rfl, _, rfl, _, _, rfl, rfl, .inl ⟨by decide, by decide⟩, _, _, rfl, rfl, _, _, rfl, rfl, .inl ⟨_, rfl, ?_⟩⟩
  refine ⟨_, _, rfl, rfl, (by show (0 : Int) < _; decide), ?_⟩
  refine ⟨_, rfl, _, rfl, _, _, rfl, rfl, .inl ⟨by omega, by omega⟩, _, rfl, _, _, rfl, rfl, .inl ⟨by decide, by decide⟩, _, _, rfl, rfl, _, _, rfl, rfl, .inl ⟨_, rfl, ?_⟩⟩
  refine ⟨_, _, rfl, rfl, (by show (0 : Int) < _; decide), ?_⟩
  refine ⟨_, rfl, _, _, rfl, rfl, .inl ⟨by omega, by omega⟩, .inl ⟨_, rfl, ?_⟩⟩
  refine ⟨_, _, rfl, rfl, (by show (0 : Int) < _; decide), ?_⟩
  exact q _ (Int.emod_nonneg _ (by decide)) (Int.emod_lt_of_pos _ (by decide))
end
end R3

set_option Elab.async false
set_option linter.all false
set_option maxRecDepth 100000
set_option maxHeartbeats 4000000
namespace R3
open PySem PySem.Spec PyProof.Rows L2 Dv
section
variable {P : Program} {w : World} {K : PySem.W.Frag} {mg : Str → Option Value} {base : Heap}
/-- the generator: a list of three ints, kept out of what stays -/
def G3 (H : Hp) (g : Addr) (a s c : Int) : Prop := H g = some (.lst [.int a, .int s, .int c])
/-- a draw below a small bound -/
def spRandom : Sp := fun vs H Q _ => ∃ (g : Addr) (a s c b : Int), vs = [.ref g, .int b] ∧ G3 H g a s c ∧ 0 ≤ a ∧ 0 ≤ s ∧ s < 2147483647 ∧ 0 ≤ c ∧ c < 999000 ∧ 1 ≤ b ∧ b < 1000 ∧ Builtin.Int.intBits b < 30 ∧
  ∀ (r a' c' : Int), 0 ≤ r → r < b → 0 ≤ a' → c ≤ c' → c' ≤ c + 1 → Q (.int r) (upd H g (.lst [.int a', .int s, .int c']))
theorem sc__law_random : FnScope (["generator", "bound", "drawn", "turn"] : List Str) (["generator", "bound"] : List Str) (defScope sLawRandom) := ⟨rfl, rfl, rfl, by decide +kernel, rfl, by decide +kernel, by decide +kernel⟩
theorem ok_law_random (D : Def K mg "_law_random" sLawRandom ["generator", "bound"]) (B : Bl mg) (C__law_hash : Cal P w K mg base "_law_hash" ["seed", "index"] 1 spHash) : Cal P w K mg base "_law_random" ["generator", "bound"] 2 spRandom := by
  refine cal_mk D sc__law_random (fun vs H Q E h => ?_) (fun f cdv A outer s H vs Q E hr h => ?_)
  · obtain ⟨g, a, s, c, b, rfl, _⟩ := h
    rfl
  obtain ⟨g, a, sd, c, b, rfl, hg, a0, s0, s1, c0, c1, b0, b1, eb, q⟩ := h
  have hr1 : RoomG 1 _ := hr.mono (by decide)
  refine ⟨_, pss_cons (ps_if (pt_cmpR op_gt (pe_ix ix_list (pv 0) pe_int (fun _ _ => rfl)) pe_int (nomark _))
        (pss_cons (ps_set (i := 2) sc__law_random.nd rfl (.inl rfl) (pe_op op_mod (pe_callTy call_int1 (by rfl) B.int (by decide +kernel) (pa_cons (pe_ix ix_list (pv 0) pe_int (fun _ _ => rfl)) pa_nil)) (pv 1)))
        (pss_cons (ps_asg (pe_op op_fdivN (pe_ix ix_list (pv 0) pe_int (fun _ _ => rfl)) (pv 1)) (pg_sub (pv 0) pe_int set_list) )
        (pss_one (ps_ret (pv 2))))) pss_nil)
      (pss_cons (ps_set (i := 2) sc__law_random.nd rfl (.inl rfl) pe_int)
      (pss_cons (ps_for PassesOwn.never rfl (pi_range1 rfl B.range (pa_cons (pe_op op_add pe_int (pe_op op_fdiv (pe_bits (pv 1)) pe_int)) pa_nil)) (pg_name (i := 3) sc__law_random.nd rfl (.inl rfl))
        (pss_cons (ps_asg (pe_op op_add (pe_ix ix_list (pv 0) pe_int (fun _ _ => rfl)) pe_int) (pg_sub (pv 0) pe_int set_list))
        (pss_one (ps_set (i := 2) sc__law_random.nd rfl (.inl rfl) (pe_op op_add (pe_op op_mul (pv 2) pe_int) (pe_callC C__law_hash hr1 (pa_cons (pe_ix ix_list (pv 0) pe_int (fun _ _ => rfl)) (pa_cons (pe_ix ix_list (pv 0) pe_int (fun _ _ => rfl)) pa_nil))))))))
      (pss_one (ps_ret (pe_op op_mod (pe_callTy call_int1 (by rfl) B.int (by decide +kernel) (pa_cons (pv 2) pa_nil)) (pv 1)))))), ?_⟩
  have hS : SqL K H g [.int a, .int sd, .int c] := SqL.of hg
  have bp : (0 : Int) < b := by omega
  refine ⟨_, rfl, g, _, _, _, rfl, rfl, hS, atI_nat (j := 0) rfl, _, _, rfl, rfl, _, rfl, ?_⟩
  refine ite2 (fun _ => ?_) (fun _ => ?_)
  · refine ⟨_, rfl, g, _, _, _, rfl, rfl, hS, atI_nat (j := 0) rfl, .inl ⟨_, rfl, ?_⟩⟩
    refine ⟨_, rfl, _, _, rfl, rfl, bp, ?_⟩
    refine ⟨_, rfl, g, _, _, _, rfl, rfl, hS, atI_nat (j := 0) rfl, _, rfl, _, _, rfl, rfl, ⟨by omega, by omega⟩, ?_⟩
    refine ⟨_, rfl, g, _, _, 0, rfl, rfl, hg, rfl, ?_⟩
    refine ⟨_, rfl, ?_⟩
    exact q _ _ _ (Int.emod_nonneg _ (by omega)) (Int.emod_lt_of_pos _ bp) (by rw [Int.fdiv_eq_ediv_of_nonneg _ (by omega)]; exact Int.ediv_nonneg a0 (by omega)) (by omega) (by omega)
  · refine ⟨_, rfl, b, rfl, _, _, rfl, rfl, ⟨by decide, by decide⟩, _, _, rfl, rfl, ?_⟩
    have ez : (1 : Int) + ((Builtin.Int.intBits b : Nat) : Int) / 30 = 1 := by omega
    refine ⟨1, congrArg (fun z => [V.int z]) ez, by decide, by decide, for_range (lo := 0) (n := 1) (fun i σ H' => ∃ (d c' : Int) (v : Option V), σ = [some (.ref g), some (.int b), some (.int d), v] ∧ H' = upd H g (.lst [.int a, .int sd, .int c']) ∧ 0 ≤ d ∧ (i = 0 → d = 0) ∧ c' = c + i)
      ⟨0, c, none, rfl, ?_, Int.le_refl 0, fun _ => rfl, by simp⟩ ?_ ?_⟩
    · funext x
      by_cases hb : x = g
      · rw [hb, upd_same]; exact hg
      · rw [upd_ne hb]
    · rintro i σ H' hi ⟨d, c', v, rfl, rfl, d0, dz, rfl⟩
      have hS' : ∀ z : Int, SqL K (upd H g (.lst [.int a, .int sd, .int z])) g [.int a, .int sd, .int z] := fun z => SqL.of upd_same
      have z0 := dz (by omega)
      subst z0
      refine ⟨_, rfl, g, _, _, _, rfl, rfl, hS' _, atI_nat (j := 2) rfl, _, _, rfl, rfl, ?_⟩
      refine ⟨_, rfl, g, _, _, 2, rfl, rfl, upd_same, rfl, ?_⟩
      rw [upd_upd]
      refine ⟨_, rfl, _, _, rfl, rfl, .inl ⟨by omega, by omega⟩, ?_⟩
      refine ⟨_, rfl, g, _, _, _, rfl, rfl, hS' _, atI_nat (j := 1) rfl, ?_⟩
      refine ⟨_, rfl, g, _, _, _, rfl, rfl, hS' _, atI_nat (j := 2) rfl, ?_⟩
      refine ⟨sd, c + i + 1, rfl, s0, s1, by omega, by omega, fun z h1 h2 => ?_⟩
      refine ⟨_, _, rfl, rfl, ?_⟩
      exact ⟨_, _, _, rfl, rfl, by omega, fun z => by omega, by omega⟩
    · rintro σ H' ⟨d, c', v, rfl, rfl, d0, dz, rfl⟩
      refine ⟨_, rfl, .inl ⟨_, rfl, ?_⟩⟩
      refine ⟨_, rfl, _, _, rfl, rfl, bp, ?_⟩
      exact q _ _ _ (Int.emod_nonneg _ (by omega)) (Int.emod_lt_of_pos _ bp) a0 (by omega) (by omega)
end
end R3

set_option Elab.async false
set_option linter.all false
set_option maxRecDepth 100000
set_option maxHeartbeats 4000000
namespace R3
open PySem PySem.Spec PyProof.Rows L2 Dv
section
variable {P : Program} {w : World} {K : PySem.W.Frag} {mg : Str → Option Value} {base : Heap}
theorem sm_new {H : Hp} {p : Addr} {o : HO} (h : H p = none) : Same H (upd H p o) := fun b u e => by
  rw [upd_ne (ne_of_none e h)]
  exact e
def spCell (K : PySem.W.Frag) : Sp := fun vs H Q _ => ∃ (a : Addr) (ns : List Int) (n : Nat), vs = [.ref a, .int n] ∧ n ≤ 3 ∧ SqL K H a (ns.map V.int) ∧ ns.length ≤ 63 ∧ ∀ (z : Int) (H' : Hp), Same H H' → Q (.int z) H'
theorem sc__law_cell : FnScope (["script", "index"] : List Str) (["script", "index"] : List Str) (defScope sLawCell) := ⟨rfl, rfl, rfl, by decide +kernel, rfl, by decide +kernel, by decide +kernel⟩
theorem ok_law_cell (D : Def K mg "_law_cell" sLawCell ["script", "index"]) (B : Bl mg) : Cal P w K mg base "_law_cell" ["script", "index"] 1 (spCell K) := by
  refine cal_mk D sc__law_cell (fun vs H Q E h => ?_) (fun f cdv A outer s H vs Q E hr h => ?_)
  · obtain ⟨a, ns, n, rfl, _⟩ := h
    rfl
  obtain ⟨a, ns, n, rfl, hn, hS, hl, q⟩ := h
  refine ⟨_, pss_cons (ps_if (pt_cmpR op_lt (pv 1) (pe_callB call_len_seq (by rfl) B.len PySem.boot_len (pa_cons (pv 0) pa_nil)) (nomark _)) (pss_one (ps_ret (pe_ix ix_list (pv 0) (pv 1) (fun _ _ => rfl)))) pss_nil)
      (pss_one (ps_ret (pe_op op_mod (pe_callB (cr_sum rfl) (by rfl) B.sum (by decide +kernel) (pa_cons (pe_slice sl_list (pv 0) po_none (po_some pe_int)) pa_nil)) pe_int))), ?_⟩
  refine ⟨_, rfl, _, rfl, a, _, rfl, .inl hS, _, _, rfl, rfl, _, rfl, ?_⟩
  refine ite2 (fun h => ?_) (fun h => ?_)
  · rw [List.length_map] at h
    have h' : n < ns.length := by
      have := of_decide_eq_true h
      omega
    obtain ⟨z, hz⟩ : ∃ z, ns[n]? = some z := ⟨ns[n], List.getElem?_eq_getElem h'⟩
    refine ⟨_, rfl, _, rfl, a, _, _, .int z, rfl, rfl, hS, atI_nat (j := n) (by rw [List.getElem?_map, hz]; rfl), ?_⟩
    exact q z H (Same.refl H)
  · refine ⟨_, rfl, _, rfl, a, _, rfl, hS, fun p hp => ?_⟩
    refine ⟨p, ns.take 1, rfl, ?_, ?_⟩
    · have ec : cutV (ns.map V.int) none (some 1) = (ns.take 1).map V.int := by
        cases ns with
        | nil => rfl
        | cons x r =>
          have h1 : HT.sIx (r.length + 1) (r.length + 1) (some 1) = 1 := by
            simp [HT.sIx]
          simp [cutV, h1]
          try rfl
      rw [ec]
      exact SqL.of upd_same
    refine ⟨_, _, rfl, rfl, (by show (0 : Int) < _; decide), ?_⟩
    exact q _ _ (sm_new hp)
def CPowW : Int → Int → Prop := fun i j => 0 ≤ j ∧ (Builtin.Int.intBits i : Int) * j ≤ 2 ^ 27
theorem op_powW {X : Cx} : OpR X (binaryOp .Pow) (rI CPowW fun i j => .int (i ^ j.toNat)) := by
  intro pins s σ H x y v u Q I rx ry h
  obtain ⟨i, j, rfl, rfl, hc, q⟩ := h
  obtain ⟨t, rfl⟩ := rx
  obtain ⟨t', rfl⟩ := ry
  exact pow_int hc.1 hc.2 ⟨.int _, H, I.tok _, ⟨_, rfl⟩, q⟩
def spGen (K : PySem.W.Frag) : Sp := fun vs H Q _ => ∃ (a : Addr) (ns : List Int) (n : Nat), vs = [.ref a, .int n] ∧ n ≤ 3 ∧ SqL K H a (ns.map V.int) ∧ ns.length ≤ 63 ∧
  ∀ (g : Addr) (x s : Int) (H1 : Hp), Same H H1 → H1 g = none → 0 ≤ x → 0 ≤ s → s < 2147483647 → Q (.ref g) (upd H1 g (.lst [.int x, .int s, .int (1000 * (n : Int))]))
theorem sc__law_generator : FnScope (["script", "index", "seed"] : List Str) (["script", "index"] : List Str) (defScope sLawGenerator) := ⟨rfl, rfl, rfl, by decide +kernel, rfl, by decide +kernel, by decide +kernel⟩
theorem ok_law_generator (D : Def K mg "_law_generator" sLawGenerator ["script", "index"]) (B : Bl mg) (C__law_cell : Cal P w K mg base "_law_cell" ["script", "index"] 1 (spCell K)) : Cal P w K mg base "_law_generator" ["script", "index"] 2 (spGen K) := by
  refine cal_mk D sc__law_generator (fun vs H Q E h => ?_) (fun f cdv A outer s H vs Q E hr h => ?_)
  · obtain ⟨a, ns, n, rfl, _⟩ := h
    rfl
  obtain ⟨a, ns, n, rfl, hn, hS, hl, q⟩ := h
  have hr1 : RoomG 1 _ := hr.mono (by decide)
  refine ⟨_, pss_cons (ps_set (i := 2) sc__law_generator.nd rfl (.inl rfl) (pe_callC C__law_cell hr1 (pa_cons (pv 0) (pa_cons (pv 1) pa_nil))))
      (pss_one (ps_ret (pe_lst (pa_cons (pe_op op_modN (pe_callTy call_int1 (by rfl) B.int (by decide +kernel) (pa_cons (pe_callB (call_max2 rfl) (by rfl) B.max (by decide +kernel) (pa_cons (pe_op op_sub (pv 2) (pe_op op_pow pe_int pe_int)) (pa_cons pe_int pa_nil))) pa_nil)) (pe_op op_powW (pe_op op_pow pe_int pe_int) pe_int))
        (pa_cons (pe_op op_mod (pe_callTy call_int1 (by rfl) B.int (by decide +kernel) (pa_cons (pv 2) pa_nil)) pe_int)
        (pa_cons (pe_op op_mul pe_int (pv 1)) pa_nil)))))), ?_⟩
  refine ⟨_, rfl, _, rfl, a, ns, n, rfl, hn, hS, hl, fun z H1 s1 => ?_⟩
  refine ⟨_, rfl, _, _, rfl, rfl, ⟨by decide, by decide, by decide⟩, _, _, rfl, rfl, _, _, rfl, .inl ⟨_, rfl, ?_⟩⟩
  refine ⟨_, _, rfl, rfl, ⟨by decide, by decide, by decide⟩, ?_⟩
  refine ⟨_, _, rfl, rfl, ⟨by decide, by decide +kernel⟩, ?_⟩
  refine ⟨_, _, rfl, rfl, (by show (_ : Int) ≠ 0; decide +kernel), ?_⟩
  refine ⟨_, rfl, .inl ⟨_, rfl, _, _, rfl, rfl, (by show (0 : Int) < _; decide), ?_⟩⟩
  refine ⟨_, rfl, _, _, rfl, rfl, .inl ⟨by decide, by decide⟩, (by show 3 ≤ sizeLine; decide), fun p hp => ?_⟩
  exact q p _ _ _ s1 hp (Int.fmod_nonneg_of_pos _ (by decide +kernel)) (Int.emod_nonneg _ (by decide)) (Int.emod_lt_of_pos _ (by decide))
end
end R3

set_option Elab.async false
set_option linter.all false
set_option maxHeartbeats 400000
namespace Dv
open PySem PySem.Spec PyProof.Rows L2 Evl
/-! ### what grows, one object (the generator) excepted -/
/-- the heap without g -/
def er (g : Addr) (H : Hp) : Hp := fun b => if b = g then none else H b
theorem er_same {g : Addr} {H : Hp} : er g H g = none := by unfold er; rw [if_pos rfl]
theorem er_ne {g a : Addr} {H : Hp} (h : a ≠ g) : er g H a = H a := by unfold er; rw [if_neg h]
theorem er_upd {g : Addr} {H : Hp} {o : HO} : er g (upd H g o) = er g H := by
  funext b
  by_cases h : b = g
  · subst h; rw [er_same, er_same]
  · rw [er_ne h, er_ne h, upd_ne h]
/-- as Gr, g excepted -/
def GrG (g : Addr) (F H F' H' : Hp) : Prop := Gr F (er g H) F' (er g H')
theorem ex_er {g : Addr} {F H : Hp} (e : Ex F H) (f : F g = none) : Ex F (er g H) := fun a u ha => by
  have h : a ≠ g := fun q => by rw [q, f] at ha; exact nomatch ha
  rw [er_ne h]
  exact e a u ha
theorem ex_unerr {g : Addr} {F H : Hp} (e : Ex F (er g H)) : Ex F H ∧ F g = none := by
  constructor
  · intro a u ha
    have h := e a u ha
    by_cases q : a = g
    · rw [q, er_same] at h; exact nomatch h
    · rw [er_ne q] at h; exact h
  · cases h : F g with
    | none => rfl
    | some u =>
      have := e g u h
      rw [er_same] at this
      exact nomatch this
theorem GrG.fg {g : Addr} {F H F' H' : Hp} (x : GrG g F H F' H') : F' g = none := (ex_unerr x.fh).2
theorem GrG.fh {g : Addr} {F H F' H' : Hp} (x : GrG g F H F' H') : Ex F' H' := (ex_unerr (Gr.fh x)).1
theorem GrG.fx {g : Addr} {F H F' H' : Hp} (x : GrG g F H F' H') : Ex F F' := Gr.fx x
theorem GrG.refl {g : Addr} {F H : Hp} (e : Ex F H) (f : F g = none) : GrG g F H F H := Gr.refl (ex_er e f)
theorem GrG.trans {g : Addr} {F H F1 H1 F2 H2 : Hp} (a : GrG g F H F1 H1) (b : GrG g F1 H1 F2 H2) : GrG g F H F2 H2 := Gr.trans a b
/-- the draw itself -/
theorem GrG.draw {g : Addr} {F H F' H' : Hp} {o : HO} (x : GrG g F H F' H') : GrG g F H F' (upd H' g o) := by
  unfold GrG
  rw [er_upd]
  exact x
/-- a step that draws nothing -/
theorem GrG.of {g : Addr} {F H F' H' : Hp} {o : HO} (x : Gr F H F' H') (hg : H g = some o) (f : F g = none) : GrG g F H F' H' ∧ H' g = some o := by
  have k := x.keep hg f
  refine ⟨⟨x.fx, ex_er x.fh k.2, fun a u ha => ?_, fun a h1 h2 => ?_⟩, k.1⟩
  · by_cases q : a = g
    · rw [q, er_same] at ha; exact nomatch ha
    · rw [er_ne q] at ha ⊢; exact x.hx a u ha
  · by_cases q : a = g
    · rw [q, k.2] at h2
      exact absurd rfl h2
    · have := x.fr a h1 h2
      rw [er_ne q]
      exact this
/-- any other object out of F stays as it is -/
theorem GrG.keep {g p : Addr} {F H F' H' : Hp} {o : HO} (x : GrG g F H F' H') (h : H p = some o) (hf : F p = none) (hp : p ≠ g) : H' p = some o ∧ F' p = none := by
  have k := Gr.keep x (p := p) (o := o) (by rw [er_ne hp]; exact h) hf
  rw [er_ne hp] at k
  exact k
end Dv

set_option Elab.async false
set_option linter.all false
set_option maxRecDepth 100000
set_option maxHeartbeats 4000000
namespace R3
open PySem PySem.Spec PyProof.Rows L2 Evl Dv
section
variable {P : Program} {w : World} {K : PySem.W.Frag} {mg : Str → Option Value} {base : Heap}
/-- the generator stands well, its count at most c -/
def GenAt (H : Hp) (g : Addr) (c : Nat) : Prop := ∃ a s n : Int, G3 H g a s n ∧ 0 ≤ a ∧ 0 ≤ s ∧ s < 2147483647 ∧ 0 ≤ n ∧ n ≤ c
/-- te draws at most k times and gives something that stands for a d with Pd d -/
def DrD (K : PySem.W.Frag) (g : Addr) (k : Nat) (te : TE) (σ : L2.St) (F : Hp) (Pd : PyData → Prop) : Prop := ∀ (H : Hp) (c : Nat), Ex F H → F g = none → GenAt H g c → c + k < 999000 → ∀ Q : V → Hp → Prop,
  (∀ v F' H' d, GrG g F H F' H' → GenAt H' g (c + k) → Pd d → Dp K F' v d → Q v H') → te σ H Q
/-- a number is drawn -/
theorem dr_random {g : Addr} {σ : L2.St} {F : Hp} {i : Nat} {b : Int} (hi : σ[i]? = some (some (.ref g))) (b0 : 1 ≤ b) (b1 : b < 1000) (eb : Builtin.Int.intBits b < 30) :
    DrD K g 1 (tCall spRandom [] E0 (tCons (tVar i) (tCons (tC (.int b)) tNil))) σ F fun d => ∃ r : Int, d = .int r ∧ 0 ≤ r ∧ r < b := by
  intro H c e f hg hc Q q
  obtain ⟨a, s, n, h3, a0, s0, s1, n0, n1⟩ := hg
  refine ⟨_, hi, g, a, s, n, b, rfl, h3, a0, s0, s1, n0, by omega, b0, b1, eb, fun r a' c' r0 r1 a0' c0' c1' => ?_⟩
  exact q _ F _ (.int r) (GrG.refl e f).draw ⟨a', s, c', upd_same, a0', s0, s1, by omega, by omega⟩ ⟨r, rfl, r0, r1⟩ (.int r)
/-- what draws nothing -/
theorem dr_of {g : Addr} {te : TE} {σ : L2.St} {F : Hp} {d : PyData} {Pd : PyData → Prop} (h : EvD K te σ F d) (p : Pd d) : DrD K g 0 te σ F Pd := by
  intro H c e f hg hc Q q
  obtain ⟨a, s, n, h3, r⟩ := hg
  refine h H e _ fun v F' H' x hv => ?_
  have k := GrG.of x h3 f
  exact q v F' H' d k.1 ⟨a, s, n, k.2, r⟩ p hv
end
end R3

set_option Elab.async false
set_option linter.all false
set_option maxRecDepth 100000
set_option maxHeartbeats 4000000
namespace R3
open PySem PySem.Spec PyProof.Rows L2 Evl Dv
section
variable {P : Program} {w : World} {K : PySem.W.Frag} {mg : Str → Option Value} {base : Heap}
/-- one of a list, drawn -/
theorem dr_ixL {g : Addr} {k : Nat} {ta tb : TE} {σ : L2.St} {F : Hp} {ds : List PyData} (ha : EvD K ta σ F (.list ds)) (hb : ∀ F', Ex F F' → DrD K g k tb σ F' fun d => ∃ r : Int, d = .int r ∧ 0 ≤ r ∧ r < ds.length) :
    DrD K g k (tOp (rIxL K) ta tb) σ F fun d => d ∈ ds := by
  intro H c e f hg hc Q q
  obtain ⟨a, s, n, h3, rest⟩ := hg
  refine ha H e _ fun v F1 H1 x1 hv => ?_
  have k1 := GrG.of x1 h3 f
  refine hb F1 x1.fx H1 c x1.fh k1.1.fg ⟨a, s, n, k1.2, rest⟩ hc _ fun u F2 H2 d g2 hc2 hd hu => ?_
  obtain ⟨r, rfl, r0, r1⟩ := hd
  cases hu
  cases (dp_ex g2.fx hv) with
  | lst hs hd =>
    obtain ⟨j, rfl⟩ := Int.eq_ofNat_of_zero_le r0
    have hj : j < ds.length := by omega
    obtain ⟨v', hv', hd'⟩ := dps_at hd (List.getElem?_eq_getElem hj)
    exact ⟨_, _, _, v', rfl, rfl, ex_l g2.fh hs, atI_nat hv', q v' F2 H2 ds[j] (k1.1.trans g2) hc2 (List.getElem_mem hj) hd'⟩
/-- `x = (drawn)` -/
theorem sr_asg {g : Addr} {k c : Nat} {te : TE} {σ : L2.St} {F H : Hp} {Pd : PyData → Prop} {i : Nat} {D : Ends} (h : DrD K g k te σ F Pd) (e : Ex F H) (f : F g = none) (hg : GenAt H g c) (hc : c + k < 999000)
    (q : ∀ v F' H' d, GrG g F H F' H' → GenAt H' g (c + k) → Pd d → Dp K F' v d → D.nx (σ.set i (some v)) H') : tAsg te (gName i) D σ H := h H c e f hg hc _ q
end
end R3

set_option Elab.async false
set_option linter.all false
set_option maxHeartbeats 400000
namespace Dv
open PySem PySem.Spec PyProof.Rows L2 Evl
theorem er_upd_ne {g p : Addr} {H : Hp} {o : HO} (h : p ≠ g) : er g (upd H p o) = upd (er g H) p o := by
  funext b
  by_cases q : b = g
  · subst q
    rw [er_same, upd_ne (fun z => h z.symm), er_same]
  · rw [er_ne q]
    by_cases r : b = p
    · rw [r, upd_same, upd_same]
    · rw [upd_ne r, upd_ne r, er_ne q]
/-- an object that is new since H, not of F' and not the generator, may change -/
theorem GrG.mut {g p : Addr} {F H F' H' : Hp} {o : HO} (x : GrG g F H F' H') (h : H p = none) (hf : F' p = none) (hp : p ≠ g) : GrG g F H F' (upd H' p o) := by
  unfold GrG
  rw [er_upd_ne hp]
  exact Gr.mut x (by rw [er_ne hp]; exact h) hf
/-- and be taken into F' as it stands -/
theorem GrG.take {g p : Addr} {F H F' H' : Hp} {o : HO} (x : GrG g F H F' H') (h : H p = none) (hf : F' p = none) (hp : p ≠ g) (ho : H' p = some o) : GrG g F H (upd F' p o) H' :=
  Gr.take x (by rw [er_ne hp]; exact h) hf (by rw [er_ne hp]; exact ho)
end Dv

set_option Elab.async false
set_option linter.all false
set_option maxRecDepth 100000
set_option maxHeartbeats 4000000
namespace R3
open PySem PySem.Spec PyProof.Rows L2 Evl Dv
section
variable {P : Program} {w : World} {K : PySem.W.Frag} {mg : Str → Option Value} {base : Heap}
structure SideOk (names : List Str) (s : List (Str × Int)) : Prop where
  few : s.length ≤ 2
  sub : (s.map (·.1)).Sublist names
  num : ∀ z ∈ s, 1 ≤ z.2 ∧ z.2 ≤ 3
def spSides (K : PySem.W.Frag) : Sp := fun vs H Q _ => ∃ (F : Hp) (g : Addr) (c : Nat) (v : V) (names : List Str), vs = [.ref g, v, .int 2] ∧ Ex F H ∧ F g = none ∧ GenAt H g c ∧ c + names.length < 999000 ∧ Dp K F v (.list (names.map .str)) ∧
  ∀ x F' H' s, GrG g F H F' H' → GenAt H' g (c + names.length) → SideOk names s → Dp K F' x (.list (s.map encPart)) → Q x H'
theorem sc__law_parts_drawn : FnScope (["generator", "stuffs", "most", "found", "name", "number"] : List Str) (["generator", "stuffs", "most"] : List Str) (defScope sLawPartsDrawn) := ⟨rfl, rfl, rfl, by decide +kernel, rfl, by decide +kernel, by decide +kernel⟩
theorem ok_law_parts_drawn (D : Def K mg "_law_parts_drawn" sLawPartsDrawn ["generator", "stuffs", "most"]) (B : Bl mg) (C__law_random : Cal P w K mg base "_law_random" ["generator", "bound"] 2 spRandom) : Cal P w K mg base "_law_parts_drawn" ["generator", "stuffs", "most"] 3 (spSides K) := by
  refine cal_mk D sc__law_parts_drawn (fun vs H Q E h => ?_) (fun f cdv A outer s H vs Q E hr h => ?_)
  · obtain ⟨F, g, c, v, names, rfl, _⟩ := h
    rfl
  obtain ⟨F, g, c, v, names, rfl, e, fg, hg, hc, hv, q⟩ := h
  refine ⟨_, (pss_cons (ps_set (i := 3) sc__law_parts_drawn.nd rfl (.inl rfl) (pe_lst pa_nil))
      (pss_cons (ps_for PassesOwn.never rfl (pi_list (pv 1)) (pg_name (i := 4) sc__law_parts_drawn.nd rfl (.inl rfl)) (pss_cons (ps_set (i := 5) sc__law_parts_drawn.nd rfl (.inl rfl) (pe_ix ix_list (pe_lst (pa_cons pe_int (pa_cons pe_int (pa_cons pe_int (pa_cons pe_int (pa_cons pe_int (pa_cons pe_int pa_nil))))))) (pe_callC C__law_random hr (pa_cons (pv 0) (pa_cons pe_int pa_nil))) (fun _ _ => rfl)))
      (pss_one (ps_if (PW.pt (pw_and (pt_cmpR op_gt (pv 5) pe_int (nomark _)) (pw_and1 (pt_cmpR op_lt (pe_callB call_len (by rfl) B.len (by decide +kernel) (pa_cons (pv 3) pa_nil)) (pv 2) (nomark _))))) (pss_one (ps_expr (pe_bm PySem.F.plainAttrs_list PySem.F.slot_list_append PySem.F.type_list_append mt_append (pv 3) (pa_cons (pe_tup (pa_cons (pv 4) (pa_cons (pv 5) pa_nil))) pa_nil)))) pss_nil))))
      (pss_one (ps_ret (pv 3))))), ?_⟩
  have st : start ["generator", "stuffs", "most", "found", "name", "number"] [.ref g, v, .int 2] = [some (.ref g), some v, some (.int 2), none, none, none] := rfl
  rw [st]
  refine Dv.s_asgL (K := K) (Dv.el_lst Dv.ea_nil (by simp)) e fun p vs0 F1 H1 g1 p1 p2 p3 p4 => ?_
  cases p4
  obtain ⟨ga, gs, gn, g3, grest⟩ := hg
  have pg : p ≠ g := fun z => by rw [z, g3] at p1; exact nomatch p1
  have k1 := GrG.of g1 g3 fg
  refine Dv.s_for (K := K) (it_list (Dv.ev_var (i := 1) rfl (dp_ex g1.fx hv))) g1.fh (fun n σ' F' H' => (∃ y z, σ' = [some (.ref g), some v, some (.int 2), some (.ref p), y, z]) ∧ GrG g F H F' H' ∧ GenAt H' g (c + n) ∧ F' p = none ∧ ∃ vs s, H' p = some (.lst vs) ∧ SideOk (names.take n) s ∧ DpAll K F' vs (s.map encPart))
    (fun F' H' g2 => ?_) ?_ (fun σ' F' H' e1 e2 pv => ?_)
  · have k2 := GrG.of (g1.trans g2) g3 fg
    have k3 := g2.keep p3 p2
    exact ⟨⟨none, none, rfl⟩, k2.1, ⟨ga, gs, gn, k2.2, grest⟩, k3.2, [], [], k3.1, ⟨by decide, .slnil, fun z hz => nomatch hz⟩, .nil⟩
  · intro Fb eb n σ' F' H' nv d F2 H2 hd' e1 e2 pv g2 hv2
    obtain ⟨⟨y, z, rfl⟩, k2, hg2, fp, vs, s, hp, so, hds⟩ := pv
    obtain ⟨ga', gs', gn', g3', grest'⟩ := hg2
    have k3 := GrG.of g2 g3' k2.fg
    have k4 := k2.trans k3.1
    have kp := g2.keep hp fp
    have hn : n < names.length := by
      have := (List.getElem?_eq_some_iff.mp hd').1
      rwa [List.length_map] at this
    refine sr_asg (K := K) (g := g) (k := 1) (c := c + n) (dr_ixL (ds := [.int 0, .int 0, .int 1, .int 1, .int 2, .int 3]) (EvL.ev (Dv.el_lst (Dv.ea_cons (Dv.ev_int 0) (Dv.ea_cons (Dv.ev_int 0) (Dv.ea_cons (Dv.ev_int 1) (Dv.ea_cons (Dv.ev_int 1) (Dv.ea_cons (Dv.ev_int 2) (Dv.ea_cons (Dv.ev_int 3) Dv.ea_nil)))))) (by simp))) (fun F3 _ => dr_random (i := 0) rfl (by decide) (by decide) (by decide +kernel))) k4.fh k4.fg ⟨ga', gs', gn', k3.2, grest'⟩ (by omega) fun u F3 H3 d3 k5 hg5 hm hu => ?_
    have k6 := k4.trans k5
    have kp5 := k5.keep kp.1 kp.2 pg
    obtain ⟨m, rfl, m0, m3⟩ : ∃ m : Int, d3 = .int m ∧ 0 ≤ m ∧ m ≤ 3 := by
      simp only [List.mem_cons, List.not_mem_nil, or_false] at hm
      rcases hm with rfl | rfl | rfl | rfl | rfl | rfl <;> exact ⟨_, rfl, by decide, by decide⟩
    cases hu
    have en : c + n + 1 = c + (n + 1) := by omega
    rw [en] at hg5
    have en2 : names.take (n + 1) = names.take n ++ [names[n]] := by rw [List.take_succ_eq_append_getElem hn]
    have skip : SideOk (names.take (n + 1)) s := ⟨so.few, so.sub.trans (by rw [en2]; exact List.sublist_append_left _ _), so.num⟩
    refine ⟨_, rfl, _, _, rfl, rfl, _, rfl, ?_⟩
    refine ite2 (fun hpos => ?_) (fun hneg => ?_)
    · refine ⟨_, rfl, _, vs.length, rfl, .inl ⟨_, SqL.of kp5.1, rfl⟩, _, rfl, _, _, rfl, rfl, _, rfl, ?_⟩
      have hlen : vs.length = s.length := by
        have := dps_len hds
        rwa [List.length_map] at this
      have hname : d = .str names[n] := by
        rw [List.getElem?_map, List.getElem?_eq_getElem hn] at hd'
        exact (Option.some.inj hd').symm
      subst hname
      refine ite2 (fun h2 => ?_) (fun h2 => ?_)
      · have h2' : vs.length < 2 := by
          have := of_decide_eq_true h2
          omega
        have hp' : 0 < m := of_decide_eq_true hpos
        obtain ⟨ga5, gs5, gn5, g53, g5rest⟩ := hg5
        refine Dv.s_app (K := K) (F := F3) (l := p) (xs := vs) (i := 3) kp5.1 kp5.2 rfl (Dv.ev_tup (Dv.ea_cons (Dv.ev_var (i := 4) rfl (dp_ex k5.fx hv2)) (Dv.ea_cons (Dv.ev_var (i := 5) rfl (.int m)) Dv.ea_nil)) (by simp)) k5.fh (by omega) fun v2 F4 H4 k7 hv7 p7 h7 => ?_
        have k8 := GrG.of k7 g53 k5.fg
        refine ⟨F4, ((e1.trans g2.fx).trans k5.fx).trans k7.fx, Ex.mut k7.fh p7, ⟨_, _, rfl⟩, (k6.trans k8.1).mut p1 p7 pg, ⟨ga5, gs5, gn5, ?_, g5rest⟩, p7, _, s ++ [(names[n], m)], upd_same, ⟨?_, ?_, ?_⟩, ?_⟩
        · unfold G3
          rw [upd_ne (fun z => pg z.symm)]
          exact k8.2
        · rw [List.length_append]; simp; omega
        · rw [List.map_append, en2]
          exact so.sub.append (List.Sublist.refl _)
        · intro z hz
          rcases List.mem_append.mp hz with h | h
          · exact so.num z h
          · rw [List.mem_singleton.mp h]
            exact ⟨by show 1 ≤ m; omega, m3⟩
        · rw [List.map_append]
          exact dps_app (dps_ex ((g2.fx.trans k5.fx).trans k7.fx) hds) (.cons hv7 .nil)
      · exact ⟨_, (e1.trans g2.fx).trans k5.fx, k5.fh, ⟨_, _, rfl⟩, k6, hg5, kp5.2, vs, s, kp5.1, skip, dps_ex (g2.fx.trans k5.fx) hds⟩
    · exact ⟨_, (e1.trans g2.fx).trans k5.fx, k5.fh, ⟨_, _, rfl⟩, k6, hg5, kp5.2, vs, s, kp5.1, skip, dps_ex (g2.fx.trans k5.fx) hds⟩
  · obtain ⟨⟨y, z, rfl⟩, k2, hg2, fp, vs, s, hp, so, hd⟩ := pv
    rw [List.length_map] at hg2
    rw [List.length_map, List.take_length] at so
    exact ⟨_, rfl, q _ _ _ s (k2.take p1 fp pg hp) hg2 so (.lst (SqL.of upd_same) (dps_ex (Ex.new fp) hd))⟩
end
end R3

set_option Elab.async false
set_option linter.all false
set_option maxRecDepth 100000
set_option maxHeartbeats 4000000
namespace R3
open PySem PySem.Spec PyProof.Rows L2 Evl Dv
section
variable {K : PySem.W.Frag} {σ : L2.St} {F : Hp} {te : TE} {tt : TT}
/-- a comprehension that draws once an item -/
theorem dr_lc {α : Type} {g0 : Addr} {wi : TI} {g : TG} {vs : List Nat} {Pd : PyData → Prop} (xs : List α) (enc : α → PyData) (hi : ItD K wi σ F (xs.map enc)) (hz : xs.length ≤ 40000)
    (hb : ∀ x, x ∈ xs → ∀ v F1, Ex F F1 → Dp K F1 v (enc x) → ∃ σ2, (∀ H, Ex F1 H → ∀ Q : L2.St → Hp → Prop, Q σ2 H → g v (wipe σ vs) H Q) ∧ wipe σ2 vs = wipe σ vs ∧ EtD tt σ2 F1 true ∧ DrD K g0 1 te σ2 F1 Pd)
    {H : Hp} {c : Nat} (eH : Ex F H) (f : F g0 = none) (hg : GenAt H g0 c) (hc : c + xs.length < 999000) {Q : V → Hp → Prop}
    (q : ∀ p ws F' H' ds, GrG g0 F H F' H' → GenAt H' g0 (c + xs.length) → H p = none → F' p = none → p ≠ g0 → H' p = some (.lst ws) → ds.length = xs.length → (∀ d ∈ ds, Pd d) → DpAll K F' ws ds → Q (.ref p) H') :
    tLc wi g tt te vs σ H Q := hi H eH _ fun J F1 H1 g1 wd => by
  obtain ⟨ga, gs, gn, h3, rest⟩ := hg
  have k1 := GrG.of g1 h3 f
  obtain ⟨G, Y, W, hG, hY⟩ := wd
  rw [List.length_map] at W
  intro D hD
  have fD : F1 D = none := ex_none g1.fh hD
  have Dg : D ≠ g0 := fun z => by rw [z, k1.2] at hD; exact nomatch hD
  refine lc_it W (Pv := fun i H' => ∃ F' ws ds, GrG g0 F1 H1 F' H' ∧ GenAt H' g0 (c + i) ∧ F' D = none ∧ H' D = some (.lst ws) ∧ ds.length = i ∧ (∀ d ∈ ds, Pd d) ∧ DpAll K F' ws ds) ⟨F1, [], [], (GrG.refl g1.fh k1.1.fg).mut hD fD Dg, ⟨ga, gs, gn, by unfold G3; rw [upd_ne (fun z => Dg z.symm)]; exact k1.2, rest⟩, fD, upd_same, rfl, (fun d h => nomatch h), .nil⟩
    (fun i H' _ p => ?_) (fun i v H2 H3 hin p y => ?_) (fun H' p => ?_)
  · obtain ⟨F', ws, ds, g2, _⟩ := p
    exact hG _ (g2.fx.trans g2.fh)
  · obtain ⟨F2, ws, ds, g2, hg2, f2, h2, hl, hp, hw⟩ := p
    obtain ⟨F3, d, hd, g3, hv⟩ := hY F2 i H2 v H3 (by rw [List.length_map]; exact hin) g2.fx g2.fh y
    rw [List.getElem?_map, List.getElem?_eq_getElem hin] at hd
    cases hd
    obtain ⟨σ2, hgt, hwp, ht, he⟩ := hb xs[i] (List.getElem_mem hin) v F3 (g1.fx.trans (g2.fx.trans g3.fx)) hv
    refine hgt H3 g3.fh _ ⟨hwp, ht H3 g3.fh _ fun F4 H4 g4 => ?_⟩
    obtain ⟨ga2, gs2, gn2, h32, rest2⟩ := hg2
    have g4' : Gr F3 H3 F3 H4 := ⟨Ex.refl _, g4.fx.trans g4.fh, g4.hx, fun a h1 h2 => absurd h1 h2⟩
    have k34 := GrG.of (g3.trans g4') h32 g2.fg
    have kD := (g3.trans g4').keep h2 f2
    show te σ2 H4 _
    refine he H4 (c + i) (g4.fx.trans g4.fh) k34.1.fg ⟨ga2, gs2, gn2, k34.2, rest2⟩ (by omega) _ fun v' F5 H5 d5 g5 hg5 hp5 hv' => ?_
    have k5 := g5.keep kD.1 kD.2 Dg
    have wl : ws.length ≤ 40000 := by
      rw [dps_len hw, hl]
      omega
    have k6 := ((g2.trans k34.1).trans g5).mut hD k5.2 Dg (o := .lst (ws ++ [v']))
    obtain ⟨ga5, gs5, gn5, h35, rest5⟩ := hg5
    refine ⟨ws, k5.1, sz_lt (by omega), F5, ws ++ [v'], ds ++ [d5], k6, ⟨ga5, gs5, gn5, by unfold G3; rw [upd_ne (fun z => Dg z.symm)]; exact h35, rest5⟩, k5.2, upd_same, by rw [List.length_append, hl]; rfl, fun d h => ?_, dps_app (dps_ex (g3.fx.trans g5.fx) hw) (.cons hv' .nil)⟩
    rcases List.mem_append.mp h with h | h
    · exact hp d h
    · rw [List.mem_singleton.mp h]
      exact hp5
  · obtain ⟨F', ws, ds, g2, hg2, fd, hd, hl, hp, hw⟩ := p
    exact q D ws F' H' ds (k1.1.trans g2) hg2 (ex_none g1.hx hD) fd Dg hd hl hp hw
end
end R3

set_option Elab.async false
set_option linter.all false
set_option maxRecDepth 100000
set_option maxHeartbeats 4000000
namespace R3
open PySem PySem.Spec PyProof.Rows L2 Evl Dv
/-! ### the drawn mill, plain -/
def chr (s : Str) (i : Nat) : Str := ⟨#[(s.cps.toList)[i]?.getD 0]⟩
def stuffsOf (rs : List (Option Int)) : List (Str × Option Int) := (List.range rs.length).map fun i => (chr "abcd" i, rs[i]?.getD none)
theorem rooms_of : ∀ {ds : List PyData}, (∀ d ∈ ds, d ∈ [PyData.none, .none, .int 1, .int 2, .int 3, .int 0]) → ∃ rs : List (Option Int), ds = rs.map encRoom ∧ ∀ r ∈ rs, r ∈ [none, some 1, some 2, some 3, some 0]
  | [], _ => ⟨[], rfl, fun r h => nomatch h⟩
  | d :: ds, h => by
    obtain ⟨rs, e, p⟩ := rooms_of (ds := ds) fun z hz => h z (List.mem_cons_of_mem _ hz)
    have hd := h d (List.mem_cons_self ..)
    simp only [List.mem_cons, List.not_mem_nil, or_false] at hd
    have : ∃ r : Option Int, d = encRoom r ∧ r ∈ [none, some 1, some 2, some 3, some 0] := by
      rcases hd with rfl | rfl | rfl | rfl | rfl | rfl
      · exact ⟨none, rfl, by simp⟩
      · exact ⟨none, rfl, by simp⟩
      · exact ⟨some 1, rfl, by simp⟩
      · exact ⟨some 2, rfl, by simp⟩
      · exact ⟨some 3, rfl, by simp⟩
      · exact ⟨some 0, rfl, by simp⟩
    obtain ⟨r, rfl, hr⟩ := this
    refine ⟨r :: rs, by rw [e]; rfl, fun z hz => ?_⟩
    rcases List.mem_cons.mp hz with h | h
    · rw [h]; exact hr
    · exact p z h
theorem GenAt.mono {H : Hp} {g : Addr} {c d : Nat} (h : GenAt H g c) (l : c ≤ d) : GenAt H g d := by
  obtain ⟨a, s, n, h3, a0, s0, s1, n0, n1⟩ := h
  exact ⟨a, s, n, h3, a0, s0, s1, n0, by omega⟩
end R3

set_option Elab.async false
set_option linter.all false
set_option maxRecDepth 100000
set_option maxHeartbeats 4000000
namespace Dv
open PySem PySem.Spec PyProof.Rows L2 Evl
theorem GrG.weak {g : Addr} {F F1 H F' H' : Hp} (e : Ex F F1) (e1 : Ex F1 H) (f : F1 g = none) (x : GrG g F H F' H') : GrG g F1 H (uni F1 F') H' := Gr.weak e (ex_er e1 f) x
theorem filt_true {α : Type} (xs : List α) : xs.filter (fun _ => true) = xs := List.filter_eq_self.mpr fun _ _ => rfl
/-- back to what was frozen ahead -/
theorem Gr.back {F H F1 H1 F2 H2 : Hp} (a : Gr F H F1 H1) (h : Ex H1 H2) : Gr F H F1 H2 := ⟨a.fx, a.fh.trans h, a.hx.trans h, a.fr⟩
theorem par_of2 {ta tb : TE} {i j : Nat} {D : Ends} {σ : L2.St} {H : Hp} (h : ta σ H fun x H1 => tb σ H1 fun y H2 => ∃ v w, [x, y] = [v, w] ∧ D.nx ((σ.set i (some v)).set j (some w)) H2) : tPar i j (tCons ta (tCons tb tNil)) D σ H := h
theorem seq_of {t u : TS} {D : Ends} {σ : L2.St} {H : Hp} (h : t { D with nx := u D } σ H) : tSeq t u D σ H := h
end Dv
namespace R3
open PySem PySem.Spec PyProof.Rows L2 Evl Dv
/-! ### what draws: arguments, tuples, operators, calls -/
def DaD (K : PySem.W.Frag) (g : Addr) (k : Nat) (ta : TA) (σ : L2.St) (F : Hp) (Pd : List PyData → Prop) : Prop := ∀ (H : Hp) (c : Nat), Ex F H → F g = none → GenAt H g c → c + k < 999000 → ∀ Q : List V → Hp → Prop,
  (∀ vs F' H' ds, GrG g F H F' H' → GenAt H' g (c + k) → Pd ds → DpAll K F' vs ds → Q vs H') → ta σ H Q
section
variable {K : PySem.W.Frag} {g : Addr} {k j : Nat} {te tb : TE} {ta tr : TA} {σ : L2.St} {F F1 : Hp} {Pd Pb : PyData → Prop} {Ps : List PyData → Prop}
theorem DrD.mono (e : Ex F F1) (h : DrD K g k te σ F Pd) : DrD K g k te σ F1 Pd := fun H c eH f hg hc Q q => h H c (e.trans eH) (ex_none e f) hg hc Q fun v F' H' d x hg' p hv => q v _ H' d (x.weak e eH f) hg' p (dp_ex (ex_uni2 (ex_er (eH) f |>.trans (Gr.hx x)) (Gr.fh x)) hv)
theorem DaD.mono (e : Ex F F1) (h : DaD K g k ta σ F Ps) : DaD K g k ta σ F1 Ps := fun H c eH f hg hc Q q => h H c (e.trans eH) (ex_none e f) hg hc Q fun v F' H' d x hg' p hv => q v _ H' d (x.weak e eH f) hg' p (dps_ex (ex_uni2 (ex_er (eH) f |>.trans (Gr.hx x)) (Gr.fh x)) hv)
theorem DrD.imp {Pe : PyData → Prop} (h : DrD K g k te σ F Pd) (i : ∀ d, Pd d → Pe d) : DrD K g k te σ F Pe := fun H c eH f hg hc Q q => h H c eH f hg hc Q fun v F' H' d x hg' p hv => q v F' H' d x hg' (i d p) hv
theorem da_nil : DaD K g 0 tNil σ F (· = []) := fun H c eH f hg hc Q q => q [] F H [] (GrG.refl eH f) hg rfl .nil
theorem da_cons (h : DrD K g k te σ F Pd) (hr : DaD K g j tr σ F Ps) : DaD K g (k + j) (tCons te tr) σ F (fun ds => ∃ d r, ds = d :: r ∧ Pd d ∧ Ps r) := fun H c eH f hg hc Q q =>
  h H c eH f hg (by omega) _ fun v F1 H1 d x1 hg1 p1 hv => (hr.mono x1.fx) H1 (c + k) x1.fh x1.fg hg1 (by omega) _ fun vs F2 H2 r x2 hg2 p2 hvs =>
    q _ F2 H2 (d :: r) (x1.trans x2) (by rw [← Nat.add_assoc]; exact hg2) ⟨d, r, rfl, p1, p2⟩ (.cons (dp_ex x2.fx hv) hvs)
theorem dr_tup (h : DaD K g k ta σ F Ps) (hl : ∀ ds, Ps ds → ds.length ≤ 100000) : DrD K g k (tTup ta) σ F (fun d => ∃ ds, d = .tuple ds ∧ Ps ds) := fun H c eH f hg hc Q q =>
  h H c eH f hg hc _ fun vs F1 H1 ds x1 hg1 p1 hvs => ⟨by rw [dps_len hvs]; exact sz_of (hl _ p1), fun p hp => by
    obtain ⟨ga, gs, gn, g3, grest⟩ := hg1
    have pg : p ≠ g := fun z => by rw [z, g3] at hp; exact nomatch hp
    have x2 : Gr F1 H1 (upd F1 p (.tup vs)) (upd H1 p (.tup vs)) := Gr.new x1.fh hp
    have k2 := GrG.of x2 g3 x1.fg
    exact q _ _ _ (.tuple ds) (x1.trans k2.1) ⟨ga, gs, gn, k2.2, grest⟩ ⟨ds, rfl, p1⟩ (.tup (st_of upd_same) (dps_ex (Ex.new (ex_none x1.fh hp)) hvs))⟩
theorem dr_op {r : R2} {Pe : PyData → Prop} (ha : DrD K g k te σ F Pd) (hb : DrD K g j tb σ F Pb)
    (hr : ∀ v u F1 H1 a b, Ex F F1 → Ex F1 H1 → Pd a → Pb b → Dp K F1 v a → Dp K F1 u b → ∀ Q : VK, (∀ x F' H' d, Gr F1 H1 F' H' → Pe d → Dp K F' x d → Q x H') → r v u H1 Q) : DrD K g (k + j) (tOp r te tb) σ F Pe := fun H c eH f hg hc Q q =>
  ha H c eH f hg (by omega) _ fun v F1 H1 d x1 hg1 p1 hv => (hb.mono x1.fx) H1 (c + k) x1.fh x1.fg hg1 (by omega) _ fun u F2 H2 e x2 hg2 p2 hu =>
    hr v u F2 H2 d e (x1.fx.trans x2.fx) x2.fh p1 p2 (dp_ex x2.fx hv) hu Q fun y F3 H3 dd x3 p3 hy => by
      obtain ⟨ga, gs, gn, g3, grest⟩ := hg2
      have k3 := GrG.of x3 g3 x2.fg
      exact q y F3 H3 dd ((x1.trans x2).trans k3.1) ⟨ga, gs, gn, k3.2, by rw [← Nat.add_assoc]; exact grest⟩ p3 hy
/-- a + b, one or both drawn -/
theorem dr_add {m n m' n' : Int} (ha : DrD K g k te σ F fun d => ∃ i : Int, d = .int i ∧ m ≤ i ∧ i < n) (hb : DrD K g j tb σ F fun d => ∃ i : Int, d = .int i ∧ m' ≤ i ∧ i < n') :
    DrD K g (k + j) (tOp (rI0 fun i j => .int (i + j)) te tb) σ F fun d => ∃ i : Int, d = .int i ∧ m + m' ≤ i ∧ i < n + n' - 1 := dr_op ha hb fun v u F1 H1 a b _ e pa pb hv hu Q q => by
  obtain ⟨i, rfl, i0, i1⟩ := pa
  obtain ⟨j, rfl, j0, j1⟩ := pb
  cases hv
  cases hu
  exact ⟨i, j, rfl, rfl, q _ F1 H1 (.int (i + j)) (Gr.refl e) ⟨i + j, rfl, by omega, by omega⟩ (.int _)⟩
theorem dr_call {f : List PyData → PyData → Prop} {E : XK} {Pe : PyData → Prop} (h : DaD K g k ta σ F Ps) (hf : ∀ ds, Ps ds → ∃ d, f ds d ∧ Pe d) : DrD K g k (tCall (spD K f) [] E ta) σ F Pe := fun H c eH f' hg hc Q q =>
  h H c eH f' hg hc _ fun vs F1 H1 ds x1 hg1 p1 hvs => by
    obtain ⟨d, h1, h2⟩ := hf _ p1
    refine ⟨F1, ds, d, x1.fh, by rw [List.append_nil]; exact hvs, h1, fun v F2 H2 x2 hv => ?_⟩
    obtain ⟨ga, gs, gn, g3, grest⟩ := hg1
    have k2 := GrG.of x2 g3 x1.fg
    exact q v F2 H2 d (x1.trans k2.1) ⟨ga, gs, gn, k2.2, grest⟩ h2 hv
/-- xs.append(e), e drawn, xs a list of H alone -/
theorem sr_app {l : Addr} {xs : List V} {i c : Nat} {D : Ends} {H : Hp} (hl : H l = some (.lst xs)) (fl : F l = none) (lg : l ≠ g) (hi : σ[i]? = some (some (.ref l))) (h : DrD K g k te σ F Pd) (e : Ex F H) (f : F g = none) (hg : GenAt H g c) (hc : c + k < 999000) (hz : xs.length < 100000)
    (q : ∀ v F' H' d, GrG g F H F' H' → GenAt (upd H' l (.lst (xs ++ [v]))) g (c + k) → Pd d → Dp K F' v d → F' l = none → H' l = some (.lst xs) → D.nx σ (upd H' l (.lst (xs ++ [v])))) : tDrop (tBM K "list" rAppend (tVar i) (tCons te tNil)) D σ H :=
  ⟨_, hi, Or.inl ⟨rfl, xs, sq_of hl⟩, h H c e f hg hc _ fun v F' H' d x hg' p hv => ⟨l, xs, v, rfl, rfl, (x.keep hl fl lg).1, sz_lt hz, q v F' H' d x (by
    obtain ⟨ga, gs, gn, g3, grest⟩ := hg'
    exact ⟨ga, gs, gn, by unfold G3; rw [upd_ne (Ne.symm lg)]; exact g3, grest⟩) p hv (x.keep hl fl lg).2 (x.keep hl fl lg).1⟩⟩
/-- the sides of a recipe -/
theorem dr_sides {E : XK} {i j : Nat} {names : List Str} {v : V} (hi : σ[i]? = some (some (.ref g))) (hj : σ[j]? = some (some v)) (hv : Dp K F v (.list (names.map .str))) :
    DrD K g names.length (tCall (spSides K) [] E (tCons (tVar i) (tCons (tVar j) (tCons (tC (.int 2)) tNil)))) σ F fun d => ∃ s, SideOk names s ∧ d = .list (s.map encPart) := fun H c eH f hg hc Q q =>
  ⟨_, hi, _, hj, F, g, c, v, names, rfl, eH, f, hg, hc, hv, fun x F' H' s x1 hg1 so hd => q x F' H' _ x1 hg1 ⟨s, so, rfl⟩ hd⟩
end
end R3

set_option Elab.async false
set_option linter.all false
set_option maxRecDepth 100000
set_option maxHeartbeats 4000000
namespace R3
open PySem PySem.Spec PyProof.Rows L2 Evl Dv

abbrev RecD := Str × List (Str × Int) × List (Str × Int)
structure Drawn (m : MillD) (wide many : Nat) : Prop where
  st : ∃ rs : List (Option Int), rs.length = wide ∧ (∀ r ∈ rs, r ∈ [none, some 1, some 2, some 3, some 0]) ∧ m.stuffs = stuffsOf rs
  rl : m.recipes.length = many
  rn : m.recipes.map (·.1) = (List.range many).map (chr "rstu")
  ro : ∀ r ∈ m.recipes, SideOk m.names r.2.1 ∧ SideOk m.names r.2.2
def encPartsT (m : MillD) : PyData := .tuple [.list (m.stuffs.map encStuff), .list (m.recipes.map encRecipe)]
def spMillDrawn (K : PySem.W.Frag) : Sp := fun vs H Q _ => ∃ (F : Hp) (g : Addr) (c wide many : Nat), vs = [.ref g, .int wide, .int many] ∧ 1 ≤ wide ∧ wide ≤ 3 ∧ many ≤ 3 ∧ Ex F H ∧ F g = none ∧ GenAt H g c ∧ c < 990000 ∧
  ∀ x F' H' m, GrG g F H F' H' → GenAt H' g (c + 21) → Drawn m wide many → Dp K F' x (encPartsT m) → Q x H'
section
variable {P : Program} {w : World} {K : PySem.W.Frag} {mg : Str → Option Value} {base : Heap}
theorem asg_of {te : TE} {σ : L2.St} {H : Hp} {i : Nat} {D : Ends} (h : te σ H fun v H' => D.nx (σ.set i (some v)) H') : tAsg te (gName i) D σ H := h
theorem GenAt.upd {H : Hp} {g p : Addr} {c : Nat} {o : HO} (h : GenAt H g c) (n : p ≠ g) : GenAt (upd H p o) g c := by
  obtain ⟨a, s, k, h3, r⟩ := h
  exact ⟨a, s, k, by unfold G3; rw [upd_ne (Ne.symm n)]; exact h3, r⟩
theorem GenAt.of {H H' F F' : Hp} {g : Addr} {c : Nat} (h : GenAt H g c) (x : Gr F H F' H') (f : F g = none) : GrG g F H F' H' ∧ GenAt H' g c := by
  obtain ⟨a, s, k, h3, r⟩ := h
  have z := GrG.of x h3 f
  exact ⟨z.1, a, s, k, z.2, r⟩
theorem GenAt.ne {H : Hp} {g p : Addr} {c : Nat} (h : GenAt H g c) (hp : H p = none) : p ≠ g := by
  obtain ⟨a, s, k, h3, r⟩ := h
  exact fun z => by rw [z, h3] at hp; exact nomatch hp
theorem sc__law_mill_drawn : FnScope (["generator", "wide", "many", "rooms", "at", "stuffs", "names", "recipes", "name", "room", "takes", "gives"] : List Str) (["generator", "wide", "many"] : List Str) (defScope sLawMillDrawn) := ⟨rfl, rfl, rfl, by decide +kernel, rfl, by decide +kernel, by decide +kernel⟩
theorem ok_law_mill_drawn (D : Def K mg "_law_mill_drawn" sLawMillDrawn ["generator", "wide", "many"]) (B : Bl mg) (C__law_random : Cal P w K mg base "_law_random" ["generator", "bound"] 2 spRandom) (C__law_parts_drawn : Cal P w K mg base "_law_parts_drawn" ["generator", "stuffs", "most"] 3 (spSides K)) : Cal P w K mg base "_law_mill_drawn" ["generator", "wide", "many"] 4 (spMillDrawn K) := by
  refine cal_mk D sc__law_mill_drawn (fun vs H Q E h => ?_) (fun f cdv A outer s H vs Q E hr h => ?_)
  · obtain ⟨F, g, c, a, b, rfl, _⟩ := h
    rfl
  obtain ⟨F, g, c, wide, many, rfl, w1, w2, m2, e, fg, hg, hc, q⟩ := h
  refine ⟨_, (pss_cons (ps_set (i := 3) sc__law_mill_drawn.nd rfl (.inr rfl) (pe_lc (own := [("at", 4)]) (g := gName 4) rfl sc__law_mill_drawn.nd (pi_range1 rfl B.range (pa_cons (pv 1) pa_nil)) (blkOk_by (own := [("at", 4)]) (N := ["generator", "wide", "many", "rooms", "at", "stuffs", "names", "recipes", "name", "room", "takes", "gives"]) (sc := defScope sLawMillDrawn) (by decide +kernel)) (fun _ _ _ _ _ => (pg_name (i := 4) sc__law_mill_drawn.nd rfl (.inl rfl)))  (fun _ _ _ _ _ => pts_nil) (fun _ _ _ _ _ => (pe_ix (r := rIxL K) ix_list (pe_lst (pa_cons pe_non (pa_cons pe_non (pa_cons pe_int (pa_cons pe_int (pa_cons pe_int (pa_cons pe_int pa_nil))))))) (pe_callC C__law_random hr (pa_cons (pv 0) (pa_cons pe_int pa_nil))) (fun _ _ => rfl)))))
      (pss_cons (ps_setLc (i := 5) (own := [("at", 4)]) (g := gName 4) rfl sc__law_mill_drawn.nd rfl rfl rfl (pi_range1 rfl B.range (pa_cons (pv 1) pa_nil)) (blkOk_by (own := [("at", 4)]) (N := ["generator", "wide", "many", "rooms", "at", "stuffs", "names", "recipes", "name", "room", "takes", "gives"]) (sc := defScope sLawMillDrawn) (by decide +kernel)) (fun _ _ _ _ _ => (pg_name (i := 4) sc__law_mill_drawn.nd rfl (.inl rfl)))  (fun _ _ _ _ _ => pts_nil) (fun _ _ _ _ _ => (pe_tup (pa_cons (pe_ix ix_str pe_str (pv 4) (fun _ _ => rfl)) (pa_cons (pe_ix (r := rIxL K) ix_list (pv 3) (pv 4) (fun _ _ => rfl)) pa_nil)))))
      (pss_cons (ps_par (i := 6) (j := 7) (by rfl) sc__law_mill_drawn.nd rfl rfl (by decide) rfl rfl (pa_cons (pe_lc (own := [("name", 8), ("room", 9)]) (g := gTup K 2 (gCons (gName 8) (gCons (gName 9) gNil))) rfl sc__law_mill_drawn.nd (pi_list (pv 5)) (blkOk_by (own := [("name", 8), ("room", 9)]) (N := ["generator", "wide", "many", "rooms", "at", "stuffs", "names", "recipes", "name", "room", "takes", "gives"]) (sc := defScope sLawMillDrawn) (by decide +kernel)) (fun _ _ _ _ _ => (pg_tup (by rfl) (pgs_cons (pg_name (i := 8) sc__law_mill_drawn.nd rfl (.inl rfl)) (pgs_cons (pg_name (i := 9) sc__law_mill_drawn.nd rfl (.inl rfl)) pgs_nil))))  (fun _ _ _ _ _ => pts_nil) (fun _ _ _ _ _ => (pv 8))) (pa_cons (pe_lst pa_nil) pa_nil)) (by rfl))
      (pss_cons (ps_for PassesOwn.never rfl (pi_range1 rfl B.range (pa_cons (pv 2) pa_nil)) (pg_name (i := 4) sc__law_mill_drawn.nd rfl (.inl rfl)) (pss_cons (ps_par (i := 10) (j := 11) (by rfl) sc__law_mill_drawn.nd rfl rfl (by decide) rfl rfl (pa_cons (pe_callC C__law_parts_drawn hr (pa_cons (pv 0) (pa_cons (pv 6) (pa_cons pe_int pa_nil)))) (pa_cons (pe_callC C__law_parts_drawn hr (pa_cons (pv 0) (pa_cons (pv 6) (pa_cons pe_int pa_nil)))) pa_nil)) (by rfl))
      (pss_one (ps_expr (pe_bm PySem.F.plainAttrs_list PySem.F.slot_list_append PySem.F.type_list_append mt_append (pv 7) (pa_cons (pe_tup (pa_cons (pe_ix ix_str pe_str (pv 4) (fun _ _ => rfl)) (pa_cons (pv 10) (pa_cons (pv 11) pa_nil)))) pa_nil))))))
      (pss_one (ps_ret (pe_tup (pa_cons (pv 5) (pa_cons (pv 7) pa_nil))))))))), ?_⟩
  have st : start ["generator", "wide", "many", "rooms", "at", "stuffs", "names", "recipes", "name", "room", "takes", "gives"] [.ref g, .int wide, .int many] = [some (.ref g), some (.int wide), some (.int many), none, none, none, none, none, none, none, none, none] := rfl
  rw [st]
  have rl : (List.range ((wide : Int)).toNat).length = wide := by rw [List.length_range]; rfl
  refine asg_of (dr_lc (K := K) (F := F) (g0 := g) (c := c) (Pd := fun d => d ∈ [PyData.none, .none, .int 1, .int 2, .int 3, .int 0]) (List.range ((wide : Int)).toNat) (fun i : Nat => PyData.int (i : Int)) (it_rng1 (σ := [some (.ref g), some (.int wide), some (.int many), none, none, none, none, none, none, none, none, none]) (Dv.ea_cons (Dv.ev_var (i := 1) rfl (.int (wide : Int))) Dv.ea_nil) (by omega) (by omega)) (by omega) (fun x hx v F1 e1 hv => ?_) e fg hg (by omega) (fun p1 ws1 F1 H1 ds1 k1 hg1 hp1 f1 n1 h1 l1 a1 d1 => ?_))
  · exact ⟨[some (.ref g), some (.int wide), some (.int many), none, some v, none, none, none, none, none, none, none], fun H e Q q => q, rfl, fun H e Q q => q F1 H (Gr.refl e), dr_ixL (ds := [.none, .none, .int 1, .int 2, .int 3, .int 0]) (EvL.ev (Dv.el_lst (Dv.ea_cons Dv.ev_non (Dv.ea_cons Dv.ev_non (Dv.ea_cons (Dv.ev_int 1) (Dv.ea_cons (Dv.ev_int 2) (Dv.ea_cons (Dv.ev_int 3) (Dv.ea_cons (Dv.ev_int 0) Dv.ea_nil)))))) (by simp))) (fun F3 _ => dr_random (i := 0) rfl (by decide) (by decide) (by decide +kernel))⟩
  rw [rl] at l1 hg1
  obtain ⟨rs, rfl, hrs⟩ := rooms_of a1
  rw [List.length_map] at l1
  have x1 := k1.take hp1 f1 n1 h1
  have dr : Dp K (upd F1 p1 (.lst ws1)) (.ref p1) (.list (rs.map encRoom)) := .lst (SqL.of upd_same) (dps_ex (Ex.new f1) d1)
  generalize upd F1 p1 (.lst ws1) = F1' at *
  have ew : (((List.range ((wide : Int)).toNat).filter fun _ => true).map fun i : Nat => encStuff (chr "abcd" i, rs[i]?.getD none)) = (stuffsOf rs).map encStuff := by
    rw [filt_true]
    unfold stuffsOf
    rw [l1, List.map_map] <;> rfl
  have lcS := lc_rule (K := K) (F := F1') (wi := iRng1 (tCons (tVar 1) tNil)) (g := gName 4) (tt := tYes) (te := tTup (tCons (tOp rIxS (tC (.str "abcd")) (tVar 4)) (tCons (tOp (rIxL K) (tVar 3) (tVar 4)) tNil))) (vs := [4]) (σ := [some (.ref g), some (.int wide), some (.int many), some (.ref p1), none, none, none, none, none, none, none, none])
    (List.range ((wide : Int)).toNat) (fun i : Nat => PyData.int (i : Int)) (fun i : Nat => encStuff (chr "abcd" i, rs[i]?.getD none)) (fun _ => true) (it_rng1 (Dv.ea_cons (Dv.ev_var (i := 1) rfl (.int (wide : Int))) Dv.ea_nil) (by omega) (by omega)) (by omega) (fun x hx v F1 e1 hv => by
      have hx3 : x < wide := by
        have := List.mem_range.mp hx
        omega
      refine ⟨[some (.ref g), some (.int wide), some (.int many), some (.ref p1), some v, none, none, none, none, none, none, none], fun H e Q q => q, rfl, fun H e Q q => q F1 H (Gr.refl e), fun _ => ?_⟩
      have hr : (rs.map encRoom)[x]? = some (encRoom (rs[x]?.getD none)) := by
        rw [List.getElem?_map, List.getElem?_eq_getElem (by omega)] <;> rfl
      refine Dv.ev_tup (Dv.ea_cons (Dv.ev_ixS (x := ("abcd" : Str)) (c := (("abcd" : Str).cps.toList)[x]?.getD 0) (Dv.ev_str _) (Dv.ev_var rfl hv) (by decide +kernel) ?_) (Dv.ea_cons (Dv.ev_ixL (Dv.ev_var (i := 3) rfl (dp_ex e1 dr)) (Dv.ev_var rfl hv) (atI_nat hr)) Dv.ea_nil)) (by simp)
      have h4 : x < (("abcd" : Str).cps.toList).length := Nat.lt_of_lt_of_le (show x < 4 by omega) (by decide +kernel)
      exact atI_nat (by rw [List.getElem?_eq_getElem h4] <;> rfl))
  rw [ew] at lcS
  dsimp only
  show tSeq _ _ _ [some (.ref g), some (.int wide), some (.int many), some (.ref p1), none, none, none, none, none, none, none, none] H1
  refine seq_of (Dv.s_asg (K := K) (EvL.ev lcS) x1.fh fun sv F2 H2 g2 hsv => ?_)
  have k2 := hg1.of g2 x1.fg
  dsimp only
  show tSeq _ _ _ [some (.ref g), some (.int wide), some (.int many), some (.ref p1), none, some sv, none, none, none, none, none, none] H2
  have ln : (stuffsOf rs).length = wide := by unfold stuffsOf; rw [List.length_map, List.length_range, l1]
  have lcN := lc_rule (K := K) (F := F2) (te := tVar 8) (vs := [8, 9]) (tt := tYes) (g := gTup K 2 (gCons (gName 8) (gCons (gName 9) gNil))) (σ := [some (.ref g), some (.int wide), some (.int many), some (.ref p1), none, some sv, none, none, none, none, none, none]) (stuffsOf rs) encStuff (fun z => PyData.str z.1) (fun _ => true) (it_list (Dv.ev_var (i := 5) rfl hsv)) (by omega)
    (fun z hz v F4 e4 hv4 => by
      obtain ⟨y1, y2, hy1, hy2, ht⟩ := tup2 hv4
      exact ⟨[some (.ref g), some (.int wide), some (.int many), some (.ref p1), none, some sv, none, none, some y1, some y2, none, none], fun H e Q q => ht 8 9 _ H e _ q, rfl, fun H e Q q => q F4 H (Gr.refl e), fun _ => Dv.ev_var (i := 8) rfl hy1⟩)
  rw [filt_true] at lcN
  refine seq_of (par_of2 ((EvL.ev lcN) H2 g2.fh _ fun nv F3 H3 g3 hnv => ?_))
  have k3 := k2.2.of g3 k2.1.fg
  refine (Dv.el_lst (K := K) Dv.ea_nil (by simp)) H3 g3.fh _ fun p vs0 F4 H4 g4 p1n p2 p3 p4 => ?_
  cases p4
  have k4 := k3.2.of g4 k3.1.fg
  have pg : p ≠ g := k3.2.ne p1n
  refine ⟨_, _, rfl, ?_⟩
  dsimp only
  show tSeq _ _ _ [some (.ref g), some (.int wide), some (.int many), some (.ref p1), none, some sv, some nv, some (.ref p), none, none, none, none] H4
  have k14 := ((x1.trans k2.1).trans k3.1).trans k4.1
  have pH : H p = none := er_ne (H := H) pg ▸ ex_none (Gr.hx ((x1.trans k2.1).trans k3.1)) (by rw [er_ne pg]; exact p1n)
  obtain ⟨names, hnames⟩ : ∃ names, names = (stuffsOf rs).map (·.1) := ⟨_, rfl⟩
  have hnv' : Dp K F4 nv (.list (names.map .str)) := by rw [hnames, List.map_map]; exact dp_ex g4.fx hnv
  have lnm : names.length = wide := by rw [hnames, List.length_map, ln]
  refine seq_of (Dv.s_for (K := K) (F := F4) (it_rng1 (σ := [some (.ref g), some (.int wide), some (.int many), some (.ref p1), none, some sv, some nv, some (.ref p), none, none, none, none]) (Dv.ea_cons (Dv.ev_var (i := 2) rfl (.int (many : Int))) Dv.ea_nil) (by omega) (by omega)) k14.fh
    (fun n σ' F' H' => (∃ y z1 z2, σ' = [some (.ref g), some (.int wide), some (.int many), some (.ref p1), y, some sv, some nv, some (.ref p), none, none, z1, z2]) ∧ GrG g F H F' H' ∧ Ex F4 F' ∧ GenAt H' g (c + 3 + 6 * n) ∧ F' p = none ∧ ∃ (vs : List V) (rc : List RecD), H' p = some (.lst vs) ∧ DpAll K F' vs (rc.map encRecipe) ∧ rc.map (·.1) = (List.range n).map (chr "rstu") ∧ ∀ r ∈ rc, SideOk names r.2.1 ∧ SideOk names r.2.2)
    (fun F' H' g5 => ?_) ?_ (fun σ' F' H' e1 e2 pv => ?_))
  · have k5 := k4.2.of g5 k4.1.fg
    have kp5 := g5.keep p3 p2
    exact ⟨⟨none, none, none, rfl⟩, k14.trans k5.1, g5.fx, k5.2.mono (by omega), kp5.2, [], [], kp5.1, .nil, rfl, fun r hr => nomatch hr⟩
  · intro Fb eb n σ' F' H' av d F5 H5 hd' e1 e2 pv g5 hav
    obtain ⟨⟨y, z1, z2, rfl⟩, kk, e4', hg5, fp, vs, rc, hp, hds, hrn, hso⟩ := pv
    have k5 := hg5.of g5 kk.fg
    have kp5 := g5.keep hp fp
    obtain ⟨hn, hdn⟩ := List.getElem?_eq_some_iff.mp hd'
    rw [List.length_map, List.length_range] at hn
    have hdn' : d = .int (n : Int) := by rw [← hdn, List.getElem_map, List.getElem_range]
    subst hdn'
    have hn3 : n < many := by omega
    have rl2 : rc.length = n := by
      have := congrArg List.length hrn
      rwa [List.length_map, List.length_map, List.length_range] at this
    have vl : vs.length = n := by rw [dps_len hds, List.length_map, rl2]
    have h4 : n < (("rstu" : Str).cps.toList).length := Nat.lt_of_lt_of_le (show n < 4 by omega) (by decide +kernel)
    have nv5 := dp_ex (e4'.trans g5.fx) hnv'
    show tSeq _ _ _ [some (.ref g), some (.int wide), some (.int many), some (.ref p1), some av, some sv, some nv, some (.ref p), none, none, z1, z2] H5
    refine seq_of (par_of2 (dr_sides (K := K) (E := E0) (σ := [some (.ref g), some (.int wide), some (.int many), some (.ref p1), some av, some sv, some nv, some (.ref p), none, none, z1, z2]) (i := 0) (j := 6) rfl rfl nv5 H5 (c + 3 + 6 * n) g5.fh k5.1.fg k5.2 (by omega) _ fun tv F6 H6 td k6 hg6 ptd htv => ?_))
    obtain ⟨s1, so1, rfl⟩ := ptd
    refine dr_sides (K := K) (E := E0) (σ := [some (.ref g), some (.int wide), some (.int many), some (.ref p1), some av, some sv, some nv, some (.ref p), none, none, z1, z2]) (i := 0) (j := 6) rfl rfl (dp_ex k6.fx nv5) H6 _ k6.fh k6.fg hg6 (by omega) _ fun gv F7 H7 gd k7 hg7 pgd hgv => ?_
    obtain ⟨s2, so2, rfl⟩ := pgd
    refine ⟨_, _, rfl, ?_⟩
    dsimp only
    show tDrop _ _ [some (.ref g), some (.int wide), some (.int many), some (.ref p1), some av, some sv, some nv, some (.ref p), none, none, some tv, some gv] H7
    have kp7 := (k6.trans k7).keep kp5.1 kp5.2 pg
    have t1 := Dv.ev_ixS (K := K) (F := F7) (σ := [some (.ref g), some (.int wide), some (.int many), some (.ref p1), some av, some sv, some nv, some (.ref p), none, none, some tv, some gv]) (x := ("rstu" : Str)) (c := (("rstu" : Str).cps.toList)[n]?.getD 0) (Dv.ev_str _) (Dv.ev_var (i := 4) rfl (dp_ex (k6.trans k7).fx hav)) (by decide +kernel) (atI_nat (by rw [List.getElem?_eq_getElem h4] <;> rfl))
    have tr : EvD K (tTup (tCons (tOp rIxS (tC (.str "rstu")) (tVar 4)) (tCons (tVar 10) (tCons (tVar 11) tNil)))) [some (.ref g), some (.int wide), some (.int many), some (.ref p1), some av, some sv, some nv, some (.ref p), none, none, some tv, some gv] F7 (encRecipe (chr "rstu" n, s1, s2)) :=
      Dv.ev_tup (Dv.ea_cons t1 (Dv.ea_cons (Dv.ev_var rfl (dp_ex k7.fx htv)) (Dv.ea_cons (Dv.ev_var rfl hgv) Dv.ea_nil))) (by simp)
    refine Dv.s_app (K := K) (F := F7) (l := p) (xs := vs) (i := 7) kp7.1 kp7.2 rfl tr k7.fh (by omega) fun v2 F8 H8 g8 hv8 f8 h8 => ?_
    have k8 := hg7.of g8 k7.fg
    have ka := (((kk.trans k5.1).trans k6).trans k7).trans k8.1
    have xx : Ex F' F8 := (g5.fx.trans (k6.trans k7).fx).trans g8.fx
    refine ⟨F8, e1.trans xx, Ex.mut k8.1.fh f8, ⟨_, _, _, rfl⟩, ka.mut pH f8 pg, e4'.trans xx, (k8.2.upd pg).mono (by omega), f8, _, rc ++ [(chr "rstu" n, s1, s2)], upd_same, ?_, ?_, fun r hr => ?_⟩
    · rw [List.map_append]
      exact dps_app (dps_ex xx hds) (.cons hv8 .nil)
    · rw [List.map_append, hrn, List.range_succ, List.map_append] <;> rfl
    · rcases List.mem_append.mp hr with h | h
      · exact hso r h
      · rw [List.mem_singleton.mp h]
        exact ⟨so1, so2⟩
  · obtain ⟨⟨y, z1, z2, rfl⟩, kk, e4', hg5, fp, vs, rc, hp, hds, hrn, hso⟩ := pv
    rw [List.length_map, List.length_range] at hg5 hrn
    have em : ((many : Int)).toNat = many := rfl
    rw [em] at hg5 hrn
    have kt := kk.take pH fp pg hp
    have lr : rc.length = many := by
      have := congrArg List.length hrn
      rwa [List.length_map, List.length_map, List.length_range] at this
    have hrec : Dp K (upd F' p (.lst vs)) (.ref p) (.list (rc.map encRecipe)) := .lst (SqL.of upd_same) (dps_ex (Ex.new fp) hds)
    have tr : EvD K (tTup (tCons (tVar 5) (tCons (tVar 7) tNil))) [some (.ref g), some (.int wide), some (.int many), some (.ref p1), y, some sv, some nv, some (.ref p), none, none, z1, z2] (upd F' p (.lst vs)) (encPartsT ⟨stuffsOf rs, rc⟩) :=
      Dv.ev_tup (Dv.ea_cons (Dv.ev_var rfl (dp_ex ((g3.fx.trans g4.fx).trans (e4'.trans (Ex.new fp))) hsv)) (Dv.ea_cons (Dv.ev_var rfl hrec) Dv.ea_nil)) (by simp)
    refine tr H' kt.fh _ fun x F7 H7 g7 hx => ?_
    have k7 := hg5.of g7 kt.fg
    exact q x F7 H7 ⟨stuffsOf rs, rc⟩ (kt.trans k7.1) (k7.2.mono (by omega)) ⟨⟨rs, l1, hrs, rfl⟩, lr, hrn, fun r hr => by
      have := hso r hr
      rw [hnames] at this
      exact this⟩ hx
end
end R3

set_option Elab.async false
set_option linter.all false
/-! GENERAL: fractions in lowest terms are the rationals (plain). -/
namespace Qa
abbrev Fr := Int × Int
def frac (t : Int) (u : Int) : Int × Int := (t / (Nat.gcd t.natAbs u.natAbs : Int), u / (Nat.gcd t.natAbs u.natAbs : Int))
def toF (q : Rat) : Fr := (q.num, (q.den : Int))
theorem frac_rat (t : Int) {d : Nat} (h : d ≠ 0) : frac t (d : Int) = toF (mkRat t d) := by
  unfold frac toF
  rw [Rat.num_mkRat, Rat.den_mkRat, if_neg h, if_neg h, Int.natAbs_natCast, Nat.gcd_comm]
  rw [Int.natCast_ediv]
theorem frac_rat' {t u : Int} (h : 0 < u) : frac t u = toF (mkRat t u.toNat) := by
  have := frac_rat t (d := u.toNat) (by omega)
  rwa [Int.toNat_of_nonneg (by omega)] at this
def fplus (x y : Fr) : Fr := frac (x.1 * y.2 + y.1 * x.2) (x.2 * y.2)
def fminus (x y : Fr) : Fr := frac (x.1 * y.2 - y.1 * x.2) (x.2 * y.2)
def fscaled (x : Fr) (n : Int) : Fr := frac (x.1 * n) x.2
theorem fplus_rat (a b : Rat) : fplus (toF a) (toF b) = toF (a + b) := by
  unfold fplus
  show frac (a.num * (b.den : Int) + b.num * (a.den : Int)) ((a.den : Int) * (b.den : Int)) = _
  rw [← Int.natCast_mul, frac_rat _ (Nat.mul_ne_zero a.den_nz b.den_nz), Rat.add_def']
theorem fminus_rat (a b : Rat) : fminus (toF a) (toF b) = toF (a - b) := by
  unfold fminus
  show frac (a.num * (b.den : Int) - b.num * (a.den : Int)) ((a.den : Int) * (b.den : Int)) = _
  rw [← Int.natCast_mul, frac_rat _ (Nat.mul_ne_zero a.den_nz b.den_nz), Rat.sub_def']
theorem fscaled_rat (a : Rat) (n : Int) : fscaled (toF a) n = toF (a * (n : Rat)) := by
  unfold fscaled
  show frac (a.num * n) (a.den : Int) = _
  rw [frac_rat _ a.den_nz, Rat.mul_def']
  show toF (mkRat (a.num * n) a.den) = toF (mkRat (a.num * n) (a.den * 1))
  rw [Nat.mul_one]
theorem below_rat (a b : Rat) : decide ((toF a).1 * (toF b).2 < (toF b).1 * (toF a).2) = decide (a < b) := decide_eq_decide.mpr (Rat.lt_iff a b).symm
theorem toF_int (n : Int) : toF (n : Rat) = (n, 1) := rfl
theorem toF_inj {a b : Rat} (h : toF a = toF b) : a = b := by
  have h1 : a.num = b.num := congrArg Prod.fst h
  have h2 : (a.den : Int) = b.den := congrArg Prod.snd h
  exact Rat.ext h1 (Int.ofNat_inj.mp h2)
theorem neg_rat (a : Rat) : decide ((toF a).1 < 0) = decide (a < 0) := decide_eq_decide.mpr (by
  show a.num < 0 ↔ a < 0
  rw [← Rat.not_le, ← Rat.num_nonneg]
  omega)
/-- sixtieths, at most B of them -/
def Sx (B : Nat) (q : Rat) : Prop := ∃ n : Int, q = mkRat n 60 ∧ n.natAbs ≤ B
theorem Sx.add {B C : Nat} {a b : Rat} (h : Sx B a) (h' : Sx C b) : Sx (B + C) (a + b) := by
  obtain ⟨n, rfl, hn⟩ := h
  obtain ⟨m, rfl, hm⟩ := h'
  refine ⟨n + m, ?_, by omega⟩
  rw [Rat.mkRat_eq_div, Rat.mkRat_eq_div, Rat.mkRat_eq_div, Rat.intCast_add, Rat.div_def, Rat.div_def, Rat.div_def, Rat.add_mul]
theorem Sx.mul {B : Nat} {a : Rat} (h : Sx B a) (k : Int) : Sx (B * k.natAbs) (a * (k : Rat)) := by
  obtain ⟨n, rfl, hn⟩ := h
  refine ⟨n * k, ?_, by rw [Int.natAbs_mul]; exact Nat.mul_le_mul_right _ hn⟩
  rw [Rat.mkRat_eq_div, Rat.mkRat_eq_div, Rat.intCast_mul, Rat.div_def, Rat.div_def, Rat.mul_assoc, Rat.mul_assoc, Rat.mul_comm (k : Rat)]
theorem Sx.neg {B : Nat} {a : Rat} (h : Sx B a) : Sx B (-a) := by
  obtain ⟨n, rfl, hn⟩ := h
  exact ⟨-n, by rw [Rat.neg_mkRat], by omega⟩
theorem Sx.sub {B C : Nat} {a b : Rat} (h : Sx B a) (h' : Sx C b) : Sx (B + C) (a - b) := by
  rw [Rat.sub_eq_add_neg]
  exact h.add h'.neg
theorem Sx.mono {B C : Nat} {a : Rat} (h : Sx B a) (l : B ≤ C) : Sx C a := by
  obtain ⟨n, e, hn⟩ := h
  exact ⟨n, e, by omega⟩
theorem Sx.int (n : Int) : Sx (60 * n.natAbs) (n : Rat) := by
  refine ⟨60 * n, ?_, by rw [Int.natAbs_mul]; exact Nat.le_refl _⟩
  have : mkRat (60 * n) 60 = mkRat n 1 := Rat.mkRat_mul_left (a := 60) (n := n) (d := 1) (by decide)
  rw [this]
  exact (Rat.mkRat_self (n : Rat)).symm
theorem Sx.bd {B : Nat} {a : Rat} (h : Sx B a) : a.num.natAbs ≤ B ∧ a.den ≤ 60 ∧ 0 < a.den := by
  obtain ⟨n, rfl, hn⟩ := h
  refine ⟨?_, ?_, Rat.den_pos _⟩
  · rw [Rat.num_mkRat, if_neg (by decide)]
    exact Nat.le_trans (by rw [Int.natAbs_ediv_of_dvd (Int.ofNat_dvd_left.mpr (Nat.gcd_dvd_right _ _))]; exact Nat.div_le_self _ _) hn
  · rw [Rat.den_mkRat, if_neg (by decide)]
    exact Nat.div_le_self _ _
end Qa

set_option Elab.async false
set_option linter.all false
set_option maxRecDepth 100000
set_option maxHeartbeats 4000000
namespace R3
open PySem PySem.Spec PyProof.Rows L2 Dv
open Qa (toF Sx fplus_rat fminus_rat fscaled_rat below_rat)
/-- a fraction in lowest terms as datum -/
def encR (q : Rat) : PyData := encF (toF q)
def fminus (x y : Int × Int) : Int × Int := frac (x.1 * y.2 - y.1 * x.2) (x.2 * y.2)
def fMinus : List PyData → PyData → Prop := fun ds d => ∃ x y : Int × Int, ds = [encF x, encF y] ∧ Sm x ∧ Sm y ∧ d = encF (fminus x y)
def fBelow : List PyData → PyData → Prop := fun ds d => ∃ x y : Int × Int, ds = [encF x, encF y] ∧ Sm x ∧ Sm y ∧ d = .bool (decide (x.1 * y.2 < y.1 * x.2))
def fLesser : List PyData → PyData → Prop := fun ds d => ∃ x y : Int × Int, ds = [encF x, encF y] ∧ Sm x ∧ Sm y ∧ d = if decide (y.1 * x.2 < x.1 * y.2) then encF y else encF x
def fGreater : List PyData → PyData → Prop := fun ds d => ∃ x y : Int × Int, ds = [encF x, encF y] ∧ Sm x ∧ Sm y ∧ d = if decide (y.1 * x.2 < x.1 * y.2) then encF x else encF y
section
variable {P : Program} {w : World} {K : PySem.W.Frag} {mg : Str → Option Value} {base : Heap}
theorem sc_minus : FnScope (["one", "other"] : List Str) (["one", "other"] : List Str) (defScope sMinus) := ⟨rfl, rfl, rfl, by decide +kernel, rfl, by decide +kernel, by decide +kernel⟩
theorem ok_minus (D : Def K mg "minus" sMinus ["one", "other"]) (C_fraction : Cal P w K mg base "fraction" ["top", "under"] 2 (spD K fFrac)) : Cal P w K mg base "minus" ["one", "other"] 3 (spD K fMinus) := by
  refine cal_mk D sc_minus (len_D (by rintro _ _ ⟨t, u, rfl, _⟩; rfl)) (fun f cdv A outer s H vs Q E hr h => ?_)
  obtain ⟨F, ds, d, e, hv, ⟨⟨a, b⟩, ⟨c, d⟩, rfl, ⟨s1, s2, s3, s4⟩, ⟨t1, t2, t3, t4⟩, rfl⟩, q⟩ := h
  obtain ⟨x, y, rfl, h1, h2⟩ := Dv.two hv
  dsimp only at s1 s2 s3 s4 t1 t2 t3 t4
  refine ⟨_, (pss_one (ps_ret (pe_callC C_fraction hr (pa_cons (pe_op op_sub (pe_op op_mul (pe_ix ix_tup (pv 0) pe_int (fun _ _ => rfl)) (pe_ix ix_tup (pv 1) pe_int (fun _ _ => rfl))) (pe_op op_mul (pe_ix ix_tup (pv 1) pe_int (fun _ _ => rfl)) (pe_ix ix_tup (pv 0) pe_int (fun _ _ => rfl)))) (pa_cons (pe_op op_mul (pe_ix ix_tup (pv 0) pe_int (fun _ _ => rfl)) (pe_ix ix_tup (pv 1) pe_int (fun _ _ => rfl))) pa_nil))))), ?_⟩
  have p1 : 0 < b * d := Int.mul_pos s1 t1
  have p2 : b * d < 1073741824 := by
    have : b * d ≤ 32767 * 32767 := Int.mul_le_mul (by omega) (by omega) (by omega) (by omega)
    omega
  have o0 := Dv.ev_ixT (K := K) (F := F) (σ := [some x, some y]) (i := 0) (d := .int a) (Dv.ev_var (i := 0) rfl h1) (Dv.ev_int 0) rfl
  have o1 := Dv.ev_ixT (K := K) (F := F) (σ := [some x, some y]) (i := 1) (d := .int b) (Dv.ev_var (i := 0) rfl h1) (Dv.ev_int 1) rfl
  have t0 := Dv.ev_ixT (K := K) (F := F) (σ := [some x, some y]) (i := 0) (d := .int c) (Dv.ev_var (i := 1) rfl h2) (Dv.ev_int 0) rfl
  have u1 := Dv.ev_ixT (K := K) (F := F) (σ := [some x, some y]) (i := 1) (d := .int d) (Dv.ev_var (i := 1) rfl h2) (Dv.ev_int 1) rfl
  refine Dv.s_ret (K := K) (d := encF (fminus (a, b) (c, d))) (ev_callD (Dv.ea_cons (Dv.ev_I0 (fun _ => .int _) (Dv.ev_I (.inl ⟨by omega, by omega⟩) (fun _ => .int _) o0 u1) (Dv.ev_I (.inl ⟨by omega, by omega⟩) (fun _ => .int _) t0 o1))
    (Dv.ea_cons (Dv.ev_I (.inl ⟨by omega, by omega⟩) (fun _ => .int _) o1 u1) Dv.ea_nil)) ⟨_, _, rfl, p1, p2, rfl⟩) e ?_
  exact fun v F2 H2 g2 hv => q v F2 H2 g2 hv
theorem sc_below : FnScope (["one", "other"] : List Str) (["one", "other"] : List Str) (defScope sBelow) := ⟨rfl, rfl, rfl, by decide +kernel, rfl, by decide +kernel, by decide +kernel⟩
theorem ok_below (D : Def K mg "below" sBelow ["one", "other"]) : Cal P w K mg base "below" ["one", "other"] 1 (spD K fBelow) := by
  refine cal_mk D sc_below (len_D (by rintro _ _ ⟨t, u, rfl, _⟩; rfl)) (fun f cdv A outer s H vs Q E hr h => ?_)
  obtain ⟨F, ds, d, e, hv, ⟨⟨a, b⟩, ⟨c, d⟩, rfl, ⟨s1, s2, s3, s4⟩, ⟨t1, t2, t3, t4⟩, rfl⟩, q⟩ := h
  obtain ⟨x, y, rfl, h1, h2⟩ := Dv.two hv
  dsimp only at s1 s2 s3 s4 t1 t2 t3 t4
  refine ⟨_, (pss_one (ps_ret (pe_cmpR op_lt (pe_op op_mul (pe_ix ix_tup (pv 0) pe_int (fun _ _ => rfl)) (pe_ix ix_tup (pv 1) pe_int (fun _ _ => rfl))) (pe_op op_mul (pe_ix ix_tup (pv 1) pe_int (fun _ _ => rfl)) (pe_ix ix_tup (pv 0) pe_int (fun _ _ => rfl))) (nomark _)))), ?_⟩
  have o0 := Dv.ev_ixT (K := K) (F := F) (σ := [some x, some y]) (i := 0) (d := .int a) (Dv.ev_var (i := 0) rfl h1) (Dv.ev_int 0) rfl
  have o1 := Dv.ev_ixT (K := K) (F := F) (σ := [some x, some y]) (i := 1) (d := .int b) (Dv.ev_var (i := 0) rfl h1) (Dv.ev_int 1) rfl
  have t0 := Dv.ev_ixT (K := K) (F := F) (σ := [some x, some y]) (i := 0) (d := .int c) (Dv.ev_var (i := 1) rfl h2) (Dv.ev_int 0) rfl
  have u1 := Dv.ev_ixT (K := K) (F := F) (σ := [some x, some y]) (i := 1) (d := .int d) (Dv.ev_var (i := 1) rfl h2) (Dv.ev_int 1) rfl
  refine Dv.s_ret (K := K) (d := .bool (decide (a * d < c * b))) (Dv.ev_I0 (fun _ => .bl _) (Dv.ev_I (.inl ⟨by omega, by omega⟩) (fun _ => .int _) o0 u1) (Dv.ev_I (.inl ⟨by omega, by omega⟩) (fun _ => .int _) t0 o1)) e ?_
  exact fun v F2 H2 g2 hv => q v F2 H2 g2 hv
theorem sc_lesser : FnScope (["one", "other"] : List Str) (["one", "other"] : List Str) (defScope sLesser) := ⟨rfl, rfl, rfl, by decide +kernel, rfl, by decide +kernel, by decide +kernel⟩
theorem ok_lesser (D : Def K mg "lesser" sLesser ["one", "other"]) (C_below : Cal P w K mg base "below" ["one", "other"] 1 (spD K fBelow)) : Cal P w K mg base "lesser" ["one", "other"] 2 (spD K fLesser) := by
  refine cal_mk D sc_lesser (len_D (by rintro _ _ ⟨t, u, rfl, _⟩; rfl)) (fun f cdv A outer s H vs Q E hr h => ?_)
  obtain ⟨F, ds, d, e, hv, ⟨a, b, rfl, s, t, rfl⟩, q⟩ := h
  obtain ⟨x, y, rfl, h1, h2⟩ := Dv.two hv
  refine ⟨_, (pss_one (ps_ret (pe_ifExp (pt_val (pe_callC C_below hr (pa_cons (pv 1) (pa_cons (pv 0) pa_nil)))) (pv 1) (pv 0)))), ?_⟩
  refine Dv.s_ret (K := K) (Dv.ev_if (et_test (ev_callD (Dv.ea_cons (Dv.ev_var (i := 1) rfl h2) (Dv.ea_cons (Dv.ev_var (i := 0) rfl h1) Dv.ea_nil)) ⟨_, _, rfl, t, s, rfl⟩)) (fun z => ?_) (fun z => ?_)) e (fun v F2 H2 g2 hv => q v F2 H2 g2 hv)
  · rw [if_pos z]
    exact Dv.ev_var rfl h2
  · rw [if_neg (by rw [z]; decide)]
    exact Dv.ev_var rfl h1
theorem sc_greater : FnScope (["one", "other"] : List Str) (["one", "other"] : List Str) (defScope sGreater) := ⟨rfl, rfl, rfl, by decide +kernel, rfl, by decide +kernel, by decide +kernel⟩
theorem ok_greater (D : Def K mg "greater" sGreater ["one", "other"]) (C_below : Cal P w K mg base "below" ["one", "other"] 1 (spD K fBelow)) : Cal P w K mg base "greater" ["one", "other"] 2 (spD K fGreater) := by
  refine cal_mk D sc_greater (len_D (by rintro _ _ ⟨t, u, rfl, _⟩; rfl)) (fun f cdv A outer s H vs Q E hr h => ?_)
  obtain ⟨F, ds, d, e, hv, ⟨a, b, rfl, s, t, rfl⟩, q⟩ := h
  obtain ⟨x, y, rfl, h1, h2⟩ := Dv.two hv
  refine ⟨_, (pss_one (ps_ret (pe_ifExp (pt_val (pe_callC C_below hr (pa_cons (pv 1) (pa_cons (pv 0) pa_nil)))) (pv 0) (pv 1)))), ?_⟩
  refine Dv.s_ret (K := K) (Dv.ev_if (et_test (ev_callD (Dv.ea_cons (Dv.ev_var (i := 1) rfl h2) (Dv.ea_cons (Dv.ev_var (i := 0) rfl h1) Dv.ea_nil)) ⟨_, _, rfl, t, s, rfl⟩)) (fun z => ?_) (fun z => ?_)) e (fun v F2 H2 g2 hv => q v F2 H2 g2 hv)
  · rw [if_pos z]
    exact Dv.ev_var rfl h1
  · rw [if_neg (by rw [z]; decide)]
    exact Dv.ev_var rfl h2
/-! ### as rational numbers -/
theorem sm_of {B : Nat} {a : Rat} (h : Sx B a) (hB : B < 1000000000000) : Sm (toF a) := by
  obtain ⟨h1, h2, h3⟩ := h.bd
  refine ⟨?_, ?_, ?_, ?_⟩ <;> simp only [toF] <;> omega
variable {σ : L2.St} {F : Hp} {ta tb : TE} {a b : Rat} {B C : Nat} {E : XK}
theorem ev_plus (ha : EvD K ta σ F (encR a)) (hb : EvD K tb σ F (encR b)) (sa : Sx B a) (sb : Sx C b) (hB : B < 1000000000000 := by omega) (hC : C < 1000000000000 := by omega) : EvD K (tCall (spD K fPlus) [] E (tCons ta (tCons tb tNil))) σ F (encR (a + b)) :=
  ev_callD (Dv.ea_cons ha (Dv.ea_cons hb Dv.ea_nil)) ⟨_, _, rfl, sm_of sa hB, sm_of sb hC, congrArg encF (fplus_rat a b).symm⟩
theorem ev_minus (ha : EvD K ta σ F (encR a)) (hb : EvD K tb σ F (encR b)) (sa : Sx B a) (sb : Sx C b) (hB : B < 1000000000000 := by omega) (hC : C < 1000000000000 := by omega) : EvD K (tCall (spD K fMinus) [] E (tCons ta (tCons tb tNil))) σ F (encR (a - b)) :=
  ev_callD (Dv.ea_cons ha (Dv.ea_cons hb Dv.ea_nil)) ⟨_, _, rfl, sm_of sa hB, sm_of sb hC, congrArg encF (fminus_rat a b).symm⟩
theorem ev_scaled {n : Int} (ha : EvD K ta σ F (encR a)) (hb : EvD K tb σ F (.int n)) (sa : Sx B a) (hn : -1000000000000 < n ∧ n < 1000000000000) (hB : B < 1000000000000 := by omega) : EvD K (tCall (spD K fScaled) [] E (tCons ta (tCons tb tNil))) σ F (encR (a * (n : Rat))) := by
  have s := sm_of sa hB
  exact ev_callD (Dv.ea_cons ha (Dv.ea_cons hb Dv.ea_nil)) ⟨_, _, rfl, s.1, Int.lt_trans s.2.1 (by omega), hn, congrArg encF (fscaled_rat a n).symm⟩
theorem ev_below (ha : EvD K ta σ F (encR a)) (hb : EvD K tb σ F (encR b)) (sa : Sx B a) (sb : Sx C b) (hB : B < 1000000000000 := by omega) (hC : C < 1000000000000 := by omega) : EvD K (tCall (spD K fBelow) [] E (tCons ta (tCons tb tNil))) σ F (.bool (decide (a < b))) :=
  ev_callD (Dv.ea_cons ha (Dv.ea_cons hb Dv.ea_nil)) ⟨_, _, rfl, sm_of sa hB, sm_of sb hC, congrArg PyData.bool (below_rat a b).symm⟩
theorem ev_lesser (ha : EvD K ta σ F (encR a)) (hb : EvD K tb σ F (encR b)) (sa : Sx B a) (sb : Sx C b) (hB : B < 1000000000000 := by omega) (hC : C < 1000000000000 := by omega) : EvD K (tCall (spD K fLesser) [] E (tCons ta (tCons tb tNil))) σ F (encR (if b < a then b else a)) :=
  ev_callD (Dv.ea_cons ha (Dv.ea_cons hb Dv.ea_nil)) ⟨_, _, rfl, sm_of sa hB, sm_of sb hC, by rw [below_rat]; by_cases h : b < a <;> simp [h, encR]⟩
theorem ev_greater (ha : EvD K ta σ F (encR a)) (hb : EvD K tb σ F (encR b)) (sa : Sx B a) (sb : Sx C b) (hB : B < 1000000000000 := by omega) (hC : C < 1000000000000 := by omega) : EvD K (tCall (spD K fGreater) [] E (tCons ta (tCons tb tNil))) σ F (encR (if b < a then a else b)) :=
  ev_callD (Dv.ea_cons ha (Dv.ea_cons hb Dv.ea_nil)) ⟨_, _, rfl, sm_of sa hB, sm_of sb hC, by rw [below_rat]; by_cases h : b < a <;> simp [h, encR]⟩
end
end R3

set_option Elab.async false
set_option linter.all false
set_option maxRecDepth 100000
set_option maxHeartbeats 4000000
/-! GENERAL: try: .. except X as n: suite, where the suite keeps the error (caught = n): behind it the error stands in H. -/
namespace L2
open PySem PySem.Spec PyProof.Rows
/-- an exception object of the class at C, its own dict at d, at a, raised or not -/
def ExJ (C d a : Addr) : HO := .ext fun h => ∃ oe vs, h.get? a = some oe ∧ oe.cls = .ref C ∧ oe.dict = some d ∧ oe.data = .fields vs
theorem exJ_ok {P : Program} {w : World} {H : Hp} {h : Heap} {C d a : Addr} {oe : Obj} {vs : Array Value} (e : h.get? a = some oe) (hz : Zc (.ref C) (some d) oe) (hd : oe.data = .fields vs) : ObjOk P w H h a (ExJ C d a) :=
  ⟨⟨oe, vs, e, hz.1, hz.2, hd⟩, ⟨_, e⟩, fun _ _ ⟨o, v, q, r⟩ k => ⟨o, v, k _ q, r⟩⟩
theorem Un.lay {fs ex : List Addr} {H H' : Hp} {h h' : Heap} {a : Addr} {o : HO} (u : Un fs ex H H' h h') (h0 : h.get? a = none) (hn : H' a = none) : Un fs ex H (upd H' a o) h h' where
  keep := u.keep
  slot := u.slot
  free := fun b ob e n hx => by
    rw [upd_ne (fun z => by rw [z, h0] at e; exact nomatch e)]
    exact u.free b ob e n hx
  there := u.there
  tups := fun b xs e => by
    have := u.tups b xs e
    rw [upd_ne (ne_of_none this hn)]
    exact this
  frzs := fun b ob x e => by
    have := u.frzs b ob x e
    rw [upd_ne (ne_of_none this hn)]
    exact this
  tbls := fun b ps e => by
    obtain ⟨m, this⟩ := u.tbls b ps e
    exact ⟨m, by
      rw [upd_ne (ne_of_none this hn)]
      exact this⟩
section
variable {X : Cx} {pins : List (Addr × Obj)} {σ : St} {H : Hp} {s : Shared} {a : Addr} {oe : Obj} {o : HO}
theorem Inv.layPin (I : Inv X ((a, oe) :: pins) σ H s) (h0 : X.s_0.heap.get? a = none) (hp : ∀ p ∈ X.pn ++ pins, p.1 ≠ a) (new : ObjOk X.prog X.w (upd H a o) s.heap a o) : Inv X pins σ (upd H a o) s := by
  obtain ⟨e, n, nl, nf, nc⟩ := I.pin (a, oe) (List.mem_append_right _ (List.mem_cons_self ..))
  refine ⟨I.ok, I.os, I.bare, I.base.lay h0 n, I.loc, I.cell, ?_, fun x c hc => ?_, fun p hp' => ?_, I.hok.laidN (fun _ _ z => z) n new, I.len⟩
  · rw [upd_ne (fun z => nl z.symm)]
    exact I.free
  · rw [upd_ne (fun z => ?_)]
    · exact I.freeC x c hc
    · obtain ⟨v, d, hv, hd⟩ := I.cell x c hc
      rw [z] at hv
      have e' : s.heap.get? a = some oe := e
      rw [e'] at hv
      cases hv
      exact nc v hd
  · have := I.pin p (by
      rcases List.mem_append.mp hp' with h | h
      · exact List.mem_append_left _ h
      · exact List.mem_append_right _ (List.mem_cons_of_mem _ h))
    exact ⟨this.1, by rw [upd_ne (hp p hp')]; exact this.2.1, this.2.2⟩
theorem Inv.unsuiteP {q : Addr × Obj} {pn' : List (Addr × Obj)} (I : Inv (X.suite a (q :: (X.pn ++ pins))) pn' σ H s) (ok : X.Ok) : Inv X (q :: pins) σ H s :=
  ⟨ok, I.os, I.bare, I.base, I.loc, I.cell, I.free, I.freeC, fun p hp => I.pin p (List.mem_append_left _ (by
    rcases List.mem_append.mp hp with h | h
    · exact List.mem_cons_of_mem _ (List.mem_append_left _ h)
    · rcases List.mem_cons.mp h with h | h
      · rw [h]; exact List.mem_cons_self ..
      · exact List.mem_cons_of_mem _ (List.mem_append_right _ h))), I.hok, I.len⟩
end
/-- what the clause 'except x as n' wishes, where the error is kept -/
def wKeep (K : PySem.W.Frag) (c : Value) (i : Nat) (ts : Addr → Value → Option Addr → TS) (Wout : WX) (D : Ends) : WX := fun cls d σ H =>
  ∃ b, PySem.W.exmOne K cls c = some b ∧ (b = true → ∀ a, H a = none → ts a cls d { nx := fun σ' H' => ∃ C dd, cls = .ref C ∧ d = some dd ∧ (H' a = none → D.nx (σ'.set i none) (upd H' a (ExJ C dd a))), rt := fun _ _ => False } (σ.set i (some (.ref a))) H) ∧
    (b = false → Wout cls d σ H)
section
variable {X : Cx} {x n : Str} {c : Value} {i : Nat} {body suite : List Stmt} {b₀ : Stmt} {np pos pos' : Pos} {tb : WX → TS} {ts : Addr → Value → Option Addr → TS} {Wout : WX}
theorem ps_try_keep (hs : X.stack = X.env :: X.outer) (hf : X.env.frame = some X.env.locals) (hex : X.ex = []) (hN : X.N.Nodup) (hi : X.N[i]? = some n) (hln : X.env.kindOf n = some .local) (hc : Names X x c) (tk : Takes X Wout)
    (hb : ∀ (W : WX) (pn : List (Addr × Obj)) (xe : Value → Shared → Prop), Takes (X.tr pn xe) W → PassesOwn (model X.prog X.w) X.A X.env xe → PSs (X.tr pn xe) body (tb W))
    (hsu : ∀ (a : Addr) (oe : Obj) (cls : Value) (d : Option Addr) (pn : List (Addr × Obj)), Zc cls d oe → (∃ vs, oe.data = .fields vs) → PSs (X.suite a ((a, oe) :: pn)) (b₀ :: suite) (ts a cls d)) :
    PS X (.Try body [.ExceptHandler (some (.Name x np)) (some n) (b₀ :: suite) pos'] [] [] pos) (fun D σ H => tb (wKeep X.K c i ts Wout D) D σ H) := by
  refine ⟨fun pins s σ H D I h => ?_⟩
  have ok := I.ok
  have hfr : X.A.frames = some (X.env :: X.outer) := by rw [ok.frames, hs]
  have hloc : Loc X.env.scope n := .inl hln
  refine wpAny_Try_except ?_
  refine wpAny_mono ((hb (wKeep X.K c i ts Wout D) (X.pn ++ pins) (fun e s₁ => wpAny (model X.prog X.w) X.A (noteFrame e X.env) (fun _ s₂ => wpAny (model X.prog X.w) X.A (setFlight e none) (fun _ s₃ =>
    wpAny (model X.prog X.w) X.A (handleBy e X.env [.ExceptHandler (some (.Name x np)) (some n) (b₀ :: suite) pos']) (SP X pins D) X.xe s₃) X.xe s₂) X.xe s₁) (fun u s' xx => ?_) PassesOwn.looking).run [] s σ H D (I.toTry _) h) (fun f s1 hsp => ?_) (fun e s1 he => he)
  · -- the catch
    obtain ⟨a, B, sI, pins', σ', H', cls, d, rfl, J', nb, up, sky, na, os, ag, b, hb1, hyes, hno⟩ := xx
    have J : Inv X pins σ' H' sI := J'.ofTry ok
    have sky' : Sky B (X.env :: X.outer) a (Zc cls d) X.env.locals s'.heap := by rw [← hs]; exact sky
    show wpAny (model X.prog X.w) X.A (noteFrame (.ref a) X.env) _ _ _
    refine Sky.land Zc.steady hfr hf sky' fun h3 fl3 up3 => ?_
    have J3 : Inv X pins σ' H' { s' with heap := h3 } := J.landed nb fl3.1 (up.trans up3) os ag
    obtain ⟨oe3, vs3, he3, hz3, hd3⟩ := fl3.there
    have notFr : ∀ {h : Heap} {o : Obj} {vs : Array Value}, h.FunFrames B (X.env :: X.outer) → h.get? a = some o → o.data = .fields vs → a ∉ frs (X.env :: X.outer) := fun {h o vs} ff e dd hm => by
      obtain ⟨_, o', e', hnf⟩ := ff.mem hm
      rw [e] at e'; cases e'
      exact hnf _ dd
    have nfr := notFr fl3.2.2.1 he3 hd3
    have nL : a ≠ X.env.locals := fun z => nfr (List.mem_filterMap.mpr ⟨X.env, List.mem_cons_self, by rw [hf, z]⟩)
    have nF : a ∉ X.fs := fun hm => by
      obtain ⟨e, he, q⟩ := List.mem_filterMap.mp hm
      exact nfr (List.mem_filterMap.mpr ⟨e, List.mem_cons_of_mem _ he, q⟩)
    have nI : sI.heap.get? a = none := by
      cases q : sI.heap.get? a with
      | none => rfl
      | some o =>
        have z := nb a o q (by rw [hs]; exact nfr)
        rw [fl3.2.1] at z
        cases z
    have n0 : X.s_0.heap.get? a = none := by
      cases q : X.s_0.heap.get? a with
      | none => rfl
      | some o =>
        obtain ⟨o', z⟩ := J.base.there a o q (by rw [hex]; exact fun z => nomatch z)
        rw [nI] at z
        cases z
    have nP : ∀ p ∈ X.pn ++ pins, p.1 ≠ a := fun p hp z => by
      have := (J.pin p hp).1
      rw [z, nI] at this
      cases this
    have S3 := J3.suite he3 hd3 na nL nF
    refine wpAny_handleBy_cons (codeAny_handlers_test ?_) (by intro q; cases q)
    have LT : PySem.W.Looks (model X.prog X.w) h3 (typeOf (.ref a)) cls := fun A Q E s k q => wpAny_typeOf_ref (k _ _ he3) (by rw [hz3.1]; exact q)
    have LM := PySem.W.exm_one (M := model X.prog X.w) (J3.kIn) LT hb1
    have test : ∀ {Q : Value → Shared → Prop} {E : Value → Shared → Prop}, Q c { s' with heap := h3 } → wpAny (model X.prog X.w) (X.A.mark (some (.ref a))) (eval (.Name x np) X.env) Q E { s' with heap := h3 } := fun {Q E} q => by
      obtain ⟨hg, hdbg, hm | ⟨hm, hv, hnn⟩⟩ := hc
      · exact ld_glob (X := X.suite a ((a, oe3) :: (X.pn ++ pins))) S3 hg hm q hdbg
      · exact ld_blt (X := X.suite a ((a, oe3) :: (X.pn ++ pins))) S3 hg hm hv q hnn hdbg
    refine test (LM.here ?_)
    cases b with
    | true =>
      refine codeAny_handlers_suite_as ?_
      refine HandSPX.lands_againZ fl3 fun h4 fl4 up4 => ?_
      have J4 : Inv X pins σ' H' { s' with heap := h4 } := J.landed nb fl4.1 ((up.trans up3).trans up4) os ag
      obtain ⟨oe4, vs4, he4, hz4, hd4⟩ := fl4.there
      have S4 := J4.suite he4 hd4 na nL nF
      refine store_ok (X := X.suite a ((a, oe4) :: (X.pn ++ pins))) (v := .ref a) S4 hN hi hloc rfl (fun s5 S5 => ?_) (.inr hln)
      refine wpAny_mono ((hsu a oe4 cls d (X.pn ++ pins) hz4 ⟨_, hd4⟩).run [] s5 _ H' _ S5 (hyes rfl a na)) (fun f s6 hsp => ?_) (fun _ _ z => False.elim z)
      cases f with
      | next =>
        obtain ⟨σ6, H6, S6, C, dd, rfl, rfl, q6⟩ := hsp
        refine gone_ok (S6.unsuiteP ok) hN hi hln fun s7 J7 => ?_
        obtain ⟨e7, n7, _⟩ := J7.pin (a, oe4) (List.mem_append_right _ (List.mem_cons_self ..))
        exact ⟨_, _, J7.layPin (o := ExJ C dd a) n0 nP (exJ_ok e7 hz4 hd4), q6 n7⟩
      | brk =>
        obtain ⟨σ6, H6, S6, q6⟩ := hsp
        exact q6.elim
      | cont =>
        obtain ⟨σ6, H6, S6, q6⟩ := hsp
        exact q6.elim
      | ret u =>
        obtain ⟨v6, σ6, H6, S6, r6, q6⟩ := hsp
        exact q6.elim
    | false =>
      show wpAny _ X.A (handleBy (.ref a) X.env []) _ _ _
      refine wpAny_handleBy_nil ?_
      obtain ⟨k1, k2, k3, oe, vs, T, oT, ts', he, hz, hd, h1, hr⟩ := id fl3
      unfold PySem.passOn
      refine wpAny_bind (wpAny_field he hd h1 ?_)
      rw [if_neg (show ¬ ((Value.ref T == Value.none) = true) from by simp)]
      have fin : wpAny (model X.prog X.w) X.A (setFlight (.ref a) X.env.frame) (fun _ s4 => wpAny (model X.prog X.w) X.A (throw (.ref a) : Sem Flow) (SP X pins D) X.xe s4) X.xe { s' with heap := h3 } := by
        rw [hf]
        refine HandSPX.setFlight_upZ fl3 fun h4 hh4 up4 => wpAny_throw (tk _ _ ?_)
        exact ⟨a, B, sI, pins, σ', H', cls, d, rfl, J, nb, (up.trans up3).trans up4, .inr (.inr (by rw [hs]; exact hh4)), na, os, ag, hno rfl⟩
      first
        | exact wpAny_bind (wpAny_pure (wpAny_bind fin))
        | exact wpAny_bind fin
  · cases f with
    | next =>
      obtain ⟨σ', H', J', q⟩ := hsp
      exact wpAny_execs_nil ⟨σ', H', J'.ofTry ok, q⟩
    | brk =>
      obtain ⟨σ', H', J', q⟩ := hsp
      exact ⟨σ', H', J'.ofTry ok, q⟩
    | cont =>
      obtain ⟨σ', H', J', q⟩ := hsp
      exact ⟨σ', H', J'.ofTry ok, q⟩
    | ret u =>
      obtain ⟨v, σ', H', J', r, q⟩ := hsp
      exact ⟨v, σ', H', J'.ofTry ok, r, q⟩
end
/-! ### e.f and isinstance of a kept error -/
def tXjF (K : PySem.W.Frag) (f : Str) (te : TE) : TE := fun σ H Q => te σ H fun x H1 => ∃ (a C d : Addr) (fs : List (Str × V)) (v : V), x = .ref a ∧ H1 a = some (ExJ C d a) ∧ H1 d = some (.xd fs) ∧ fs.lookup f = some v ∧ XfC K C ∧ PySem.W.findIn K (.ref C) f = some none ∧ Q v H1
theorem pe_xjF {X : Cx} {e : Expr} {te : TE} {pos : Pos} {n : Str} (he : PE X e te) (hb : attributeBase e n X.env (eval e X.env) = eval e X.env := by rfl) : PE X (.Attribute e n pos) (tXjF X.K n te) := by
  refine ⟨fun pins s σ H Q I h => ?_⟩
  refine attr_of hb (thn (he.run pins s σ H _ I h) fun u s1 hh => ?_)
  obtain ⟨x, H1, I1, rx, a, C, dd, fs, v, ex, ha, ea, l, T, hno, q⟩ := hh
  subst ex
  obtain rfl : u = Value.ref a := rx
  obtain ⟨⟨oe, vs, hoa, hc, hdi, hda⟩, _, _⟩ := I1.hok a _ ha
  have hx : ObjOk X.prog X.w H1 s1.heap dd (.xd fs) := I1.hok dd _ ea
  obtain ⟨mA, hns, hr⟩ := hx
  obtain ⟨od, ho, hl⟩ := lookIn_ns hns
  obtain ⟨u, hu, ru⟩ := RelO.some_of (v := v) (o := mA n) (by rw [← l]; exact hr n)
  have J : PySem.W.InstAt s1.heap a oe C (some od) := ⟨hoa, hc, by unfold PySem.W.notCls; rw [hda] <;> rfl, by rw [hdi]; exact ho⟩
  exact HandSPX.exc_get I1.kIn J T.ga T.gg T.exC (PySem.W.findObj_own T.hdC hno rfl (by rw [hl, hu])) (handed_of ru) ⟨v, H1, I1.tok _, ru, q⟩
def rIsJ (K : PySem.W.Frag) : List V → Hp → VK → Prop := fun xs H Q => ∃ (a C d : Addr) (c : V) (cv : Value) (b : Bool), xs = [.ref a, c] ∧ H a = some (ExJ C d a) ∧ (∃ fs, H d = some (.xd fs)) ∧ ClsV c cv ∧ ExC K C ∧ PySem.W.kitOne K (.ref C) cv = some b ∧ Q (.bl b) H
theorem call_isJ {X : Cx} : CallR X (.builtin "isinstance") (rIsJ X.K) := by
  intro pins s σ H xs us Q I r h
  obtain ⟨a, C, d, c, cv, b, rfl, ha, ⟨fs, hd⟩, hcv, T, e, q⟩ := h
  obtain ⟨u1, u2, rfl, r1, r2⟩ := vals2 r
  have e2 := hcv.eq r2
  subst e2
  obtain rfl : u1 = Value.ref a := r1
  obtain ⟨⟨oe, vs, hoa, hc, hdi, hda⟩, _, _⟩ := I.hok a _ ha
  obtain ⟨mA, hns, _⟩ : ObjOk X.prog X.w H s.heap d (.xd fs) := I.hok d _ hd
  obtain ⟨od, hod, _⟩ := lookIn_ns hns
  have J : PySem.W.InstAt s.heap a oe C (some od) := ⟨hoa, hc, by unfold PySem.W.notCls; rw [hda] <;> rfl, by rw [hdi]; exact hod⟩
  exact PySem.W.kia_one (PySem.W.kitx_exc T.hcl T.hg T.hk T.hs T.ha T.hn T.ht T.hm) I.kIn J e (fun z => nomatch z) fun tk => ⟨.bl b, H, I.tok tk, rfl, q⟩
/-! ### C(e), to be raised -/
section
variable {X : Cx} {cn fld : Str} {C fI : Addr} {k : Nat}
theorem xn_mk (T : PySem.Xn.ExT X.prog X.K X.mg cn fld C fI) (hR : Raises X (.ref C)) {pins : List (Addr × Obj)} {σ : St} {H : Hp} {s : Shared} {Q : XK} {v : V} {v' : Value} {h' : Heap} {tk : Nat} {e d : Addr} (I : Inv X pins σ H s) (rv : RelV v v') (M : PySem.Xn.OwnMade s.heap h' e C d fld v')
    (q : ∀ d, H d = none → Q (.ref C) (some d) (upd H d (.xd [(fld, v)]))) : MkP X pins σ Q (.ref e) { s with heap := h', toks := tk } := by
  obtain ⟨t1, hoe⟩ := M.obj
  have hns := M.ns
  obtain ⟨hp, g, dr, tk0, os⟩ := s
  obtain ⟨G', g1, g2⟩ := restrict h' fun b => decide (b ≠ e)
  have gk : ∀ b, b ≠ e → G'.get? b = h'.get? b := fun b hb => g1 b (decide_eq_true hb)
  have ge : G'.get? e = none := g2 e (by simp)
  have old : ∀ b o, hp.get? b = some o → G'.get? b = some o := fun b o q => (gk b (Nat.ne_of_lt (Nat.lt_of_lt_of_le (Heap.lt_size q) M.new))).trans (M.keep b o q)
  have ob : ObjOk X.prog X.w (upd H d (.xd [(fld, v)])) G' d (.xd [(fld, v)]) :=
    ⟨_, hns.at (fun o q => (gk d M.dne).trans q), fun f => relO_one rv f⟩
  have J : Inv X pins σ (upd H d (.xd [(fld, v)])) ⟨G', g, dr, tk, os⟩ := I.laid (t' := tk) old M.dbig ob
  have hne : (upd H d (.xd [(fld, v)])) e = none := by
    rw [upd_ne (Ne.symm M.dne)]
    exact I.hok.fresh M.new
  exact ⟨e, _, _, ⟨G', g, dr, tk, os⟩, _, .ref C, some d, rfl, J, fun b o qq => by
    by_cases hb : b = e
    · have q' : G'.get? b = some o := qq
      rw [hb, ge] at q'; cases q'
    · exact (gk b hb).symm.trans qq, ge, hoe, ⟨rfl, rfl⟩, rfl, rfl, hne, rfl, I.bare, hR, q d (I.hok.fresh M.dbig)⟩
/-- C(e) -/
def tMkX (C : Addr) (fld : Str) (ta : TA) : St → Hp → XK → Prop := fun σ H Q => ta σ H fun vs H1 => ∃ v, vs = [v] ∧ ∀ d, H1 d = none → Q (.ref C) (some d) (upd H1 d (.xd [(fld, v)]))
theorem pmk_xn1 {a : Expr} {ta : TA} {p pos : Pos} (T : PySem.Xn.ExT X.prog X.K X.mg cn fld C fI) (hR : Raises X (.ref C)) (hr : RoomG k X.A) (ht : (X.prog.main.scope.names.lookup ("super" : Str)).isSome = false) (ha : PA X [a] ta) (hg : Gl X cn := by rfl) (hdb : (cn == ("__debug__" : Str)) = false := by decide)
    (he : starEach (a :: []) X.env = (false, eval a X.env) :: starEach [] X.env := by rfl) (hpl : (backTo pos (starEach [] X.env)).any (·.1) = false := by rfl) :
    PMk X (.Call (.Name cn p) [a] [] pos) (tMkX C fld ta) := by
  intro pins s σ H Q I h
  refine wpAny_Call_Name_kw (ld_glob I hg T.gC ?_ hdb)
  refine PySem.W.callWith_K (h₀ := X.base) I.ok.mod.kin T.kC (thn (ha.run pos pins s σ H _ I h) fun us s1 hh => ?_) he hpl
  obtain ⟨vs, H1, I1, r1, v, ev, q1⟩ := hh
  subst ev
  refine ⟨I1.kIn, ?_⟩
  cases r1 with
  | cons rv rn =>
    rename_i v' us'
    cases rn
    show wpAny _ _ (call (.ref C) [v']) _ _ _
    exact wpAny_call (PySem.Xn.xn_made T (.inl ⟨rfl, rfl⟩) I1.kIn I1.nms I1.nolimit (by have := hr.1.dp; omega) ht fun h' tk' e d M => xn_mk T hR I1 rv M q1)
end
/-! ### calls of defs that may raise -/
section
variable {X : Cx} {CX : CXT} {k : Nat} {f : Addr} {fd : FuncData} {ps : List Str} {sp : Sp} {dvs : List V} {ds : List Value} {E : St → XK} {x : Str} {p pos : Pos} {e : Expr} {es : List Expr} {t : TA}
theorem run_fnSG {pins : List (Addr × Obj)} {σ : St} {H : Hp} {s : Shared} {Q : VK} {us : List Value} {vs : List V} (F : FnOkG X.prog X.w X.K X.mg X.base CX k f fd ps sp) (hr : RoomG k X.A) (hb : Binds X.K fd ps ds) (hd : Vals dvs ds) (hx : PassesAt CX X σ (E σ))
    (I : Inv X pins σ H s) (r : Vals vs us) (h : sp (vs ++ dvs) H Q (E σ)) : wpAny (model X.prog X.w) X.A (call (.ref f) us) (EP X pins σ Q) X.xe s := by
  have r2 : Vals (vs ++ dvs) (us ++ ds) := r.append hd
  have hl : (us ++ ds).length = ps.length := by rw [← r2.length]; exact F.len _ _ _ _ h
  refine wpAny_call (codeAny_mono (F.run X.A X.stack s H ⟨us, []⟩ (us ++ ds) (vs ++ dvs) Q (E σ) hr I.env0 (hb s us I.kIn hl) r2 h) fun r s' hq => ?_)
  cases r with
  | error e => exact hx pins H s e s' I hq
  | ok fl =>
    cases fl with
    | ret u => exact I.after hq
    | next => exact False.elim hq
    | brk => exact False.elim hq
    | cont => exact False.elim hq
theorem pe_callSG (F : FnOkG X.prog X.w X.K X.mg X.base CX k f fd ps sp) (hr : RoomG k X.A) (hg : Gl X x) (hm : X.mg x = some (.ref f)) (hk : PySem.W.keepIn X.K (.ref f) = true) (hb : Binds X.K fd ps ds) (hd : Vals dvs ds) (hx : ∀ σ, PassesAt CX X σ (E σ))
    (ha : PA X (e :: es) t) (hdb : (x == ("__debug__" : Str)) = false := by decide) (he : starEach (e :: es) X.env = (false, eval e X.env) :: starEach es X.env := by rfl) (hpl : (backTo pos (starEach es X.env)).any (·.1) = false := by rfl) :
    PE X (.Call (.Name x p) (e :: es) [] pos) (tCallSD sp dvs E t) := by
  refine ⟨fun pins s σ H Q I h => ?_⟩
  refine wpAny_Call_Name_kw (ld_glob I hg hm ?_ hdb)
  refine PySem.W.callWith_K (h₀ := X.base) I.ok.mod.kin hk (thn (ha.run pos pins s σ H _ I h) fun us s1 ⟨vs, H1, I1, r, q⟩ => ⟨I1.kIn, ?_⟩) he hpl
  exact run_fnSG F hr hb hd (hx σ) I1 r q
end
end L2

set_option Elab.async false
set_option linter.all false
set_option maxRecDepth 100000
set_option maxHeartbeats 4000000
namespace L2
open PySem PySem.Spec PyProof.Rows
section
variable {P : Program} {w : World} {K : PySem.W.Frag} {mg : Str → Option Value} {base : Heap} {CX : CXT} {k j : Nat} {f : Addr} {fd : FuncData} {ps : List Str} {sp sp' : Sp}
theorem FnOkG.or (A : FnOkG P w K mg base CX k f fd ps sp) (B : FnOkG P w K mg base CX j f fd ps sp') : FnOkG P w K mg base CX (max k j) f fd ps (fun vs H Q E => sp vs H Q E ∨ sp' vs H Q E) :=
  ⟨fun vs H Q E h => h.elim (A.len vs H Q E) (B.len vs H Q E), fun A' outer s H args us vs Q E hr e0 hb r h => h.elim (A.run A' outer s H args us vs Q E (hr.mono (Nat.le_max_left _ _)) e0 hb r) (B.run A' outer s H args us vs Q E (hr.mono (Nat.le_max_right _ _)) e0 hb r)⟩
/-- what lets nothing out may be called where things are let out -/
theorem FnOkG.up (A : FnOkG P w K mg base CX0 k f fd ps sp) : FnOkG P w K mg base CX k f fd ps sp :=
  ⟨A.len, fun A' outer s H args us vs Q E hr e0 hb r h => codeAny_mono (A.run A' outer s H args us vs Q E hr e0 hb r h) fun x s' hx => by
    cases x with
    | ok fl => cases fl <;> exact hx
    | error e => exact False.elim hx⟩
end
end L2
namespace Dv
open PySem PySem.Spec PyProof.Rows L2 Evl
/-! ### defs that may raise -/
structure CalX (P : Program) (w : World) (K : PySem.W.Frag) (mg : Str → Option Value) (base : Heap) (nm : Str) (ps : List Str) (k : Nat) (sp : Sp) : Prop where
  ex : ∃ f fd, mg nm = some (.ref f) ∧ PySem.W.keepIn K (.ref f) = true ∧ Binds K fd ps [] ∧ FnOkG P w K mg base (L2.CX P w) k f fd ps sp ∧ ∃ oc od osl, K.lookup f = some ⟨oc, od, .func fd, osl⟩
section
variable {P : Program} {w : World} {K : PySem.W.Frag} {mg : Str → Option Value} {base : Heap} {nm : Str} {st : Stmt} {N ps : List Str} {k j : Nat} {sp sp' : Sp}
theorem calX_mk (D : Def K mg nm st ps) (S : FnScope N ps (defScope st)) (len : ∀ vs H Q E, sp vs H Q E → vs.length = ps.length)
    (hbody : ∀ (f : Addr) (cdv : Value) (A : Around) (outer : List Env) (s : Shared) (H : Hp) (vs : List V) (Q : VK) (E : XK), RoomG k (A.deeper (envOfC nm (defScope st) s.heap.objs.size f cdv)) → sp vs H Q E →
      ∃ t, PSs (cxOf (L2.CX P w) P w K mg base N nm (defScope st) f cdv A outer s H E) (defBody st) t ∧ t { nx := fun _ H' => Q .non H', rt := Q } (start N vs) H) : CalX P w K mg base nm ps (k + 1) sp := by
  obtain ⟨f, fd, g, F, b⟩ := D.ex
  obtain ⟨oc, od, kV, doc, pm, an, cdv, ct, osl, e, lk, hcd⟩ := F.ex
  exact ⟨f, fd, g, F.kp, b, F.okXG S len (hbody f), oc, od, osl, lk⟩
theorem Cal.imp (A : Cal P w K mg base nm ps k sp) (h : ∀ vs H Q E, sp' vs H Q E → sp vs H Q E) : Cal P w K mg base nm ps k sp' := by
  obtain ⟨f, fd, g, kp, b, G, l⟩ := A.ex
  exact ⟨f, fd, g, kp, b, G.imp h, l⟩
theorem CalX.imp (A : CalX P w K mg base nm ps k sp) (h : ∀ vs H Q E, sp' vs H Q E → sp vs H Q E) : CalX P w K mg base nm ps k sp' := by
  obtain ⟨f, fd, g, kp, b, G, l⟩ := A.ex
  exact ⟨f, fd, g, kp, b, G.imp h, l⟩
theorem Cal.up (A : Cal P w K mg base nm ps k sp) : CalX P w K mg base nm ps k sp := by
  obtain ⟨f, fd, g, kp, b, G, l⟩ := A.ex
  exact ⟨f, fd, g, kp, b, G.up, l⟩
theorem Cal.or (A : Cal P w K mg base nm ps k sp) (B : Cal P w K mg base nm ps j sp') : Cal P w K mg base nm ps (max k j) (fun vs H Q E => sp vs H Q E ∨ sp' vs H Q E) := by
  obtain ⟨f, fd, g, kp, b, G, oc, od, osl, l⟩ := A.ex
  obtain ⟨f', fd', g', kp', b', G', oc', od', osl', l'⟩ := B.ex
  rw [g] at g'
  cases g'
  rw [l] at l'
  cases l'
  exact ⟨f, fd, g, kp, b, G.or G', oc, od, osl, l⟩
theorem CalX.or (A : CalX P w K mg base nm ps k sp) (B : CalX P w K mg base nm ps j sp') : CalX P w K mg base nm ps (max k j) (fun vs H Q E => sp vs H Q E ∨ sp' vs H Q E) := by
  obtain ⟨f, fd, g, kp, b, G, oc, od, osl, l⟩ := A.ex
  obtain ⟨f', fd', g', kp', b', G', oc', od', osl', l'⟩ := B.ex
  rw [g] at g'
  cases g'
  rw [l] at l'
  cases l'
  exact ⟨f, fd, g, kp, b, G.or G', oc, od, osl, l⟩
end
section
variable {X : Cx} {W : WX} {x : Str} {p pos : Pos} {e : Expr} {es : List Expr} {t : TA} {k j : Nat} {ps : List Str} {sp : Sp}
theorem pe_callXC (C : CalX X.prog X.w X.K X.mg X.base x ps k sp) (hr : RoomG j X.A) (tk : Takes X W) (ha : PA X (e :: es) t) (hg : Gl X x := by rfl) (hj : k ≤ j := by decide) (hdb : (x == ("__debug__" : Str)) = false := by decide)
    (he : starEach (e :: es) X.env = (false, eval e X.env) :: starEach es X.env := by rfl) (hpl : (backTo pos (starEach es X.env)).any (·.1) = false := by rfl) : PE X (.Call (.Name x p) (e :: es) [] pos) (tCallSD sp [] (WE W) t) := by
  obtain ⟨f, fd, g, kp, b, G, _⟩ := C.ex
  exact pe_callSG G (hr.mono hj) hg g kp b .nil (fun σ => passAt tk σ) ha hdb he hpl
end
/-! ### data, or an empty dict -/
inductive Dq (K : PySem.W.Frag) (F : Hp) : V → PyData → Prop
  | dat {v : V} {d : PyData} (h : Dp K F v d) : Dq K F v d
  | mt {p : Addr} (h : F p = some (.dK [])) : Dq K F (.ref p) (.dict [])
inductive DqAll (K : PySem.W.Frag) (F : Hp) : List V → List PyData → Prop
  | nil : DqAll K F [] []
  | cons {v : V} {d : PyData} {vs : List V} {ds : List PyData} (h : Dq K F v d) (t : DqAll K F vs ds) : DqAll K F (v :: vs) (d :: ds)
section
variable {K : PySem.W.Frag} {σ : L2.St} {F F1 H H1 : Hp} {te ta tb : TE} {d a b : PyData} {ds es : List PyData}
theorem dq_ex (e : Ex F F1) {v : V} (h : Dq K F v d) : Dq K F1 v d := by
  cases h with
  | dat h => exact .dat (dp_ex e h)
  | mt h => exact .mt (e _ _ h)
theorem dqs_ex (e : Ex F F1) : ∀ {ds : List PyData} {vs : List V}, DqAll K F vs ds → DqAll K F1 vs ds
  | _, _, .nil => .nil
  | _, _, .cons h t => .cons (dq_ex e h) (dqs_ex e t)
theorem dqs_of : ∀ {ds : List PyData} {vs : List V}, DpAll K F vs ds → DqAll K F vs ds
  | _, _, .nil => .nil
  | _, _, .cons h t => .cons (.dat h) (dqs_of t)
theorem dqs_len : ∀ {ds : List PyData} {vs : List V}, DqAll K F vs ds → vs.length = ds.length
  | _, _, .nil => rfl
  | _, _, .cons _ t => by rw [List.length_cons, List.length_cons, dqs_len t]
theorem dqs_app : ∀ {ds es : List PyData} {vs ws : List V}, DqAll K F vs ds → DqAll K F ws es → DqAll K F (vs ++ ws) (ds ++ es)
  | _, _, _, _, .nil, h => h
  | _, _, _, _, .cons h t, h' => .cons h (dqs_app t h')
theorem dqs_get : ∀ {ds : List PyData} {vs : List V} {i : Nat} {v : V}, DqAll K F vs ds → vs[i]? = some v → ∃ d, ds[i]? = some d ∧ Dq K F v d
  | _, _, _, _, .nil, e => by cases e
  | _, _, 0, _, .cons h t, e => by cases e; exact ⟨_, rfl, h⟩
  | _, _, i + 1, _, .cons h t, e => dqs_get (i := i) t e
theorem tyq_of {v : V} (h : Dq K H v d) : TyX K H v (.type (tyD d)) := by
  cases h with
  | dat h => exact tyx_of h
  | mt h => exact .base (.dK h)
theorem dq_int {v : V} {i : Int} (h : Dq K F v (.int i)) : v = .int i := by
  cases h with
  | dat h => cases h; rfl
variable (K) in
def EvQ (te : TE) (σ : L2.St) (F : Hp) (d : PyData) : Prop := ∀ H, Ex F H → ∀ Q : VK, (∀ v F' H', Gr F H F' H' → Dq K F' v d → Q v H') → te σ H Q
variable (K) in
/-- a new list of such, not yet of F' -/
def ElQ (te : TE) (σ : L2.St) (F : Hp) (ds : List PyData) : Prop := ∀ H, Ex F H → ∀ Q : VK, (∀ p vs F' H', Gr F H F' H' → H p = none → F' p = none → H' p = some (.lst vs) → DqAll K F' vs ds → Q (.ref p) H') → te σ H Q
variable (K) in
def EaQ (ta : TA) (σ : L2.St) (F : Hp) (ds : List PyData) : Prop := ∀ H, Ex F H → ∀ Q : List V → Hp → Prop, (∀ vs F' H', Gr F H F' H' → DqAll K F' vs ds → Q vs H') → ta σ H Q
theorem EvD.q (h : EvD K te σ F d) : EvQ K te σ F d := fun H e Q q => h H e Q fun v F' H' g hv => q v F' H' g (.dat hv)
theorem EvL.q (h : EvL K te σ F ds) : ElQ K te σ F ds := fun H e Q q => h H e Q fun p vs F' H' g h1 h2 h3 h4 => q p vs F' H' g h1 h2 h3 (dqs_of h4)
theorem EvQ.mono (e : Ex F F1) (h : EvQ K te σ F d) : EvQ K te σ F1 d := fun H eH Q q => h H (e.trans eH) Q fun v F' H' g hv => q v _ H' (g.weak e eH) (dq_ex (ex_uni2 (eH.trans g.hx) g.fh) hv)
theorem EaQ.mono {ta : TA} (e : Ex F F1) (h : EaQ K ta σ F ds) : EaQ K ta σ F1 ds := fun H eH Q q => h H (e.trans eH) Q fun v F' H' g hv => q v _ H' (g.weak e eH) (dqs_ex (ex_uni2 (eH.trans g.hx) g.fh) hv)
theorem ElQ.mono (e : Ex F F1) (h : ElQ K te σ F ds) : ElQ K te σ F1 ds := fun H eH Q q => h H (e.trans eH) Q fun p vs F' H' g h1 h2 h3 h4 => q p vs _ H' (g.weak e eH) h1 (by
  unfold uni
  rw [ex_none eH h1]
  exact h2) h3 (dqs_ex (ex_uni2 (eH.trans g.hx) g.fh) h4)
theorem eq_var {i : Nat} {v : V} (h : σ[i]? = some (some v)) (hv : Dq K F v d) : EvQ K (tVar i) σ F d := fun H eH Q q => ⟨v, h, q v F H (Gr.refl eH) hv⟩
/-- {} -/
theorem eq_mt : EvQ K tDNewK σ F (.dict []) := fun H e Q q d hd => q _ _ _ (Gr.new e hd) (.mt upd_same)
theorem eaq_nil : EaQ K tNil σ F [] := fun H eH Q q => q [] F H (Gr.refl eH) .nil
theorem eaq_cons {tr : TA} (ha : EvQ K ta σ F a) (hr : EaQ K tr σ F ds) : EaQ K (tCons ta tr) σ F (a :: ds) := fun H eH Q q =>
  ha H eH _ fun v F1 H1 g1 hv => (hr.mono g1.fx) H1 g1.fh _ fun vs F2 H2 g2 hvs => q _ F2 H2 (g1.trans g2) (.cons (dq_ex g2.fx hv) hvs)
theorem elq_lst {ta : TA} (h : EaQ K ta σ F ds) (hl : ds.length ≤ 100000) : ElQ K (tLst ta) σ F ds := fun H eH Q q =>
  h H eH _ fun vs F1 H1 g1 hv => ⟨by rw [dqs_len hv]; exact sz_of hl, fun p hp => q p vs F1 _ (g1.trans (Gr.only g1.fh hp)) (ex_none g1.hx hp) (ex_none g1.fh hp) upd_same hv⟩
/-- isinstance for the built-in types -/
theorem kitq_ty {v : V} {T : String} (hT : T ∈ tys) (hd : Dq K H v d) : PySem.W.kitOne K (.type (tyD d)) (.type T) = some (isD d T) := by
  cases hd with
  | dat h => exact kit_ty hT (dp_nodict h)
  | mt h =>
    have e : ∀ T ∈ tys, PySem.W.kitOne ([] : PySem.W.Frag) (.type "dict") (.type T) = some ("dict" == T || (T == "int" && "dict" == "bool")) := by decide +kernel
    exact e T hT
theorem eq_isi {T : String} (h : EvQ K ta σ F d) (hT : T ∈ tys) : EvD K (tCB (rIsi K) (tCons ta (tCons (tC (.ty T)) tNil))) σ F (.bool (isD d T)) := fun H e Q q =>
  h H e _ fun v F' H' g hv => ⟨v, .ty T, _, _, _, rfl, .ty T, tyq_of (dq_ex g.fh hv), kitq_ty hT (dq_ex g.fh hv), q _ F' H' g (.bl _)⟩
/-! walks over lists of such -/
variable (K) in
def WQ (J : It) (F : Hp) (ds : List PyData) : Prop := ∃ G Y, Walk J ds.length G Y ∧ (∀ H, Ex F H → G H) ∧ ∀ F1 i H x H', i < ds.length → Ex F F1 → Ex F1 H → Y i H x H' → ∃ F2 d, ds[i]? = some d ∧ Gr F1 H F2 H' ∧ Dq K F2 x d
variable (K) in
def ItQ (wi : TI) (σ : L2.St) (F : Hp) (ds : List PyData) : Prop := ∀ H, Ex F H → ∀ R : It → Hp → Prop, (∀ J F' H', Gr F H F' H' → WQ K J F' ds → R J H') → wi σ H R
theorem ItD.q {wi : TI} (h : ItD K wi σ F ds) : ItQ K wi σ F ds := fun H e R r => h H e R fun J F' H' g ⟨G, Y, w, hG, hY⟩ => r J F' H' g ⟨G, Y, w, hG, fun F1 i H x H' hi e1 e2 y => by
  obtain ⟨F2, d, h1, h2, h3⟩ := hY F1 i H x H' hi e1 e2 y
  exact ⟨F2, d, h1, h2, .dat h3⟩⟩
/-- a list that is new: taken as it stands -/
theorem itq_list (h : ElQ K te σ F ds) : ItQ K (iList K te) σ F ds := fun H eH R q => h H eH _ fun p vs F1 H1 g1 h1 h2 h3 h4 => by
  have g2 := g1.take h1 h2 h3
  refine ⟨p, rfl, ⟨vs, sq_of h3⟩, q _ _ H1 g2 ⟨_, _, by rw [← dqs_len h4]; exact walk_list (xs := vs), fun H e => sq_of (e _ _ upd_same), fun F2 i H2 x H3 _ e1 e2 y => ?_⟩⟩
  obtain ⟨rfl, hx⟩ := y
  obtain ⟨d, h1, h2⟩ := dqs_get h4 hx
  exact ⟨F2, d, h1, Gr.refl e2, dq_ex ((Ex.new (by assumption)).trans e1) h2⟩
variable {D : Ends} {ts : TS} {g : TG}
theorem s_forQ {wi : TI} (h : ItQ K wi σ F ds) (e : Ex F H) (Pv : Nat → L2.St → Hp → Hp → Prop) (h0 : ∀ F' H', Gr F H F' H' → Pv 0 σ F' H')
    (hs : ∀ Fb, Ex F Fb → ∀ n σ' F' H' v d F2 H2, ds[n]? = some d → Ex Fb F' → Ex F' H' → Pv n σ' F' H' → Gr F' H' F2 H2 → Dq K F2 v d →
      g v σ' H2 fun σ2 H3 => ts { D with nx := NxP Fb (Pv (n + 1)), ct := NxP Fb (Pv (n + 1)), bk := D.nx } σ2 H3)
    (hd : ∀ σ' F' H', Ex F F' → Ex F' H' → Pv ds.length σ' F' H' → D.nx σ' H') : tFor wi g ts D σ H := h H e _ fun J F1 H1 g1 wd => by
  obtain ⟨G, Y, W, hG, hY⟩ := wd
  exact for_it W (fun n => NxP F1 (Pv n)) ⟨F1, Ex.refl _, g1.fh, h0 F1 H1 g1⟩ (fun n σ' H' _ p => by
    obtain ⟨F', e1, e2, p⟩ := p
    exact hG _ (e1.trans e2)) (fun n v σ' H' H2 hn p y => by
    obtain ⟨F', e1, e3, p⟩ := p
    obtain ⟨F2, d, hd, g2, hv⟩ := hY F' n H' v H2 hn e1 e3 y
    exact hs F1 g1.fx n σ' F' H' v d F2 H2 hd e1 e3 p g2 hv) (fun σ' H' p => by
    obtain ⟨F', e1, e2, p⟩ := p
    exact hd σ' F' H' (g1.fx.trans e1) e2 p)
theorem s_asgLQ {i : Nat} (h : ElQ K te σ F ds) (e : Ex F H) (k : ∀ p vs F' H', Gr F H F' H' → H p = none → F' p = none → H' p = some (.lst vs) → DqAll K F' vs ds → D.nx (σ.set i (some (.ref p))) H') : tAsg te (gName i) D σ H :=
  h H e _ fun p vs F' H' g h1 h2 h3 h4 => k p vs F' H' g h1 h2 h3 h4
end
end Dv

set_option Elab.async false
set_option linter.all false
set_option maxRecDepth 100000
set_option maxHeartbeats 4000000
namespace R3
open PySem PySem.Spec PyProof.Rows L2 Dv
open Qa (toF Sx)
def isStep (names : List Str) : PyData → Bool
  | .tuple [.str n, a] => nameS n && decide (n ∈ names) && isAmt a && !PyData.eqv a (.tuple [.int 0, .int 1])
  | _ => false
section
variable {P : Program} {w : World} {K : PySem.W.Frag} {mg : Str → Option Value} {base : Heap}
def spStepQ (K : PySem.W.Frag) (C : Addr) : Sp := fun vs H Q _ => ∃ (F : Hp) (x : Addr) (v : V) (m : MillD) (d : PyData), vs = [.ref x, v] ∧ Evl.Ex F H ∧ MillAt K F C x m ∧ Dp K F v d ∧ gd d = true ∧ ∀ F' H', Gr F H F' H' → Q (.bl (isStep (m.recipes.map (·.1)) d)) H'
theorem MillAt.rulesAt {F : Hp} {C ml : Addr} {m : MillD} (h : MillAt K F C ml m) : ∃ (dx ro sp ru : Addr) (kvs : List (Key × V)), F ml = some (.ins C dx [("rooms", .ref ro), ("spots", .ref sp), ("rules", .ref ru)]) ∧ F ru = some (.dK kvs) ∧
    kvs.map Prod.fst = m.recipes.map (fun z => (Sum.inr z.1 : Key)) ∧ DpAll K F (kvs.map Prod.snd) (m.recipes.map encRule) ∧ ∀ x : Str, (valV kvs (.inr x)).isSome = decide (x ∈ m.recipes.map (·.1)) := by
  obtain ⟨dx, ro, sp, ru, v1, v3, hml, hro, hv1, hru, hv3, hlk⟩ := h.rules
  have l3 : v3.length = (m.recipes.map fun z => (Sum.inr z.1 : Key)).length := by rw [dps_len hv3, List.length_map, List.length_map]
  refine ⟨dx, ro, sp, ru, _, hml, hru, zip_fst l3, by rw [zip_snd l3]; exact hv3, fun x => ?_⟩
  have := names_spots (names := m.recipes.map (·.1)) (vs := v3) (by rw [dps_len hv3, List.length_map, List.length_map]) x
  rw [← this]
  congr 2
  congr 1
  apply List.ext_getElem
  · rw [List.length_map, List.length_map, List.length_zipIdx, List.length_map]
  · intro i h1 h2
    simp
theorem sc_is_step : FnScope (["mill", "value"] : List Str) (["mill", "value"] : List Str) (defScope sIsStep) := ⟨rfl, rfl, rfl, by decide +kernel, rfl, by decide +kernel, by decide +kernel⟩
theorem isAmt_shaped {d : PyData} (h : isAmt d = true) : SeqAt.shaped d = true := by
  unfold isAmt at h
  rw [Bool.and_eq_true] at h
  obtain ⟨a, b, rfl, _⟩ := frac_shape h.1
  simp [SeqAt.shaped, PyData.canLay0, PyData.canLayAll0, PyData.depth, PyData.depthAll]
theorem ok_is_step (D : Def K mg "is_step" sIsStep ["mill", "value"]) (B : Bl mg) (NN : Noth K mg) {C : Addr} (MC : MillC K C) (C_is_name : Cal P w K mg base "is_name" ["value"] 1 (spD K fIsName)) (C_is_amount : Cal P w K mg base "is_amount" ["value"] 3 (spD K fIsAmt)) :
    Cal P w K mg base "is_step" ["mill", "value"] 4 (spStepQ K C) := by
  refine cal_mk D sc_is_step (fun vs H Q E h => ?_) (fun f cdv A outer s H vs Q E hr h => ?_)
  · obtain ⟨F, x, v, m, d, rfl, _⟩ := h
    rfl
  obtain ⟨F, ml, v, m, d, rfl, e, hm, hv, hg, q⟩ := h
  obtain ⟨aN, gN, dN⟩ := NN.ex
  have hu := hu_of hr.1
  refine ⟨_, (pss_cons (ps_if (PW.pt (pw_or (pt_not (pt_val (pe_callB call_isi (by rfl) B.isi (by decide +kernel) (pa_cons (pv 1) (pa_cons (pe_bltn (v := .ty "tuple") (by rfl) B.tuple (by decide +kernel) rfl) pa_nil))))) (pw_or (pt_cmpR op_ne (pe_callB call_len (by rfl) B.len (by decide +kernel) (pa_cons (pv 1) pa_nil)) pe_int (nomark _)) (pw_or (pt_not (pt_val (pe_callC C_is_name hr (pa_cons (pe_ix ix_tup (pv 1) pe_int (fun _ _ => rfl)) pa_nil)))) (pw_or1 (pt_cmp (pc_dnotin hu (pe_ix ix_tup (pv 1) pe_int (fun _ _ => rfl)) (pe_fld (pv 0) rfl)) (by rfl))))))) (pss_one (ps_ret pe_bl)) pss_nil)
      (pss_one (ps_ret (pe_and (pe_callC C_is_amount hr (pa_cons (pe_ix ix_tup (pv 1) pe_int (fun _ _ => rfl)) pa_nil)) (pe_one (pe_cmpR (op_neD hr.1.units) (pe_ix ix_tup (pv 1) pe_int (fun _ _ => rfl)) (pe_glob (v := .ref aN) rfl gN rfl) (nomark _))))))), ?_⟩
  have vx := Dv.ev_var (K := K) (σ := [some (.ref ml), some v]) (i := 1) rfl hv
  have hlen : ∀ es, d = .tuple es → es.length ≤ 100000 := fun es he => by
    subst he
    exact Nat.le_trans (gd_tup hg).1 (by decide)
  obtain ⟨dx, ro, sp, ru, kvs, hml, hru, hkv, hkd, hin⟩ := hm.rulesAt
  have nm : ∀ a t, d = .tuple [a, t] → EvD K (tCall (spD K fIsName) [] E0 (tCons (tOp (rIxT K) (tVar 1) (tC (.int 0))) tNil)) [some (.ref ml), some v] F (.bool (isName a)) := by
    intro a t hd
    subst hd
    have ga : gd a = true := gds_mem (gd_tup hg).2 (by simp)
    exact ev_callD (Dv.ea_cons (Dv.ev_ixT (d := a) vx (Dv.ev_int 0) rfl) Dv.ea_nil) ⟨a, rfl, fun y hy => gd_str (by rw [← hy]; exact ga), rfl⟩
  have inn : ∀ a t, d = .tuple [.str a, t] → EtD (tB (tDNotIn (tOp (rIxT K) (tVar 1) (tC (.int 0))) (tFld K (tVar 0) "rules"))) [some (.ref ml), some v] F (!decide (a ∈ m.recipes.map (·.1))) := by
    intro a t hd
    subst hd
    rw [← hin a]
    exact et_dnotin (kvs := kvs) (Dv.ev_ixT (d := .str a) vx (Dv.ev_int 0) rfl) (fun F1 H1 e1 e2 Q q => fld_ref rfl (e1 _ _ hml) MC.cl MC.rules fl3 H1 e2 Q q) hru
  by_cases hs : ∃ n a, d = .tuple [.str n, a] ∧ nameS n = true ∧ n ∈ m.recipes.map (·.1)
  · obtain ⟨n, a, rfl, hn, hmem⟩ := hs
    have ga : gd a = true := gds_mem (gd_tup hg).2 (by simp)
    refine s_ifF (et_tupn (n := 2) vx hlen (fun es he _ => et_orF (et_v (nm _ _ rfl) (by
      show PyData.bool (nameS n) = _
      rw [hn]) |> et_notT) (et_is (inn n a rfl) (by rw [decide_eq_true hmem] <;> rfl))) fun no => absurd ⟨_, rfl, rfl⟩ no) e fun F1 H1 g1 => ?_
    refine Dv.s_ret (K := K) (d := .bool (isStep (m.recipes.map (·.1)) (.tuple [.str n, a]))) (Dv.ev_is (Dv.ev_andV (ev_callD (Dv.ea_cons (Dv.ev_ixT (d := a) (vx.mono g1.fx) (Dv.ev_int 1) rfl) Dv.ea_nil) ⟨a, rfl, fun es he => by
      subst he
      exact Nat.le_trans (gd_tup ga).1 (by decide), rfl⟩) fun ha => ev_neD (Dv.ev_ixT (d := a) (vx.mono g1.fx) (Dv.ev_int 1) rfl) (fun H' e' Q q => q _ F1 H' (Gr.refl e') (dN F1)) (isAmt_shaped ha) (by decide +kernel)) (by
      show _ = PyData.bool (nameS n && decide (n ∈ m.recipes.map (·.1)) && isAmt a && !PyData.eqv a (.tuple [.int 0, .int 1]))
      rw [hn, decide_eq_true hmem, Bool.true_and, Bool.true_and])) g1.fh fun y F2 H2 g2 hy => ?_
    cases hy
    exact q F2 H2 (g1.trans g2)
  · have e0 : isStep (m.recipes.map (·.1)) d = false := by
      unfold isStep
      split
      · rename_i n a
        cases hn : nameS n with
        | true =>
          have : decide (n ∈ m.recipes.map (·.1)) = false := decide_eq_false fun hm => hs ⟨n, a, rfl, hn, hm⟩
          rw [this]
          rfl
        | false => rfl
      · rfl
    refine s_ifT (et_tupn (n := 2) vx hlen (fun es he hl => ?_) fun _ => rfl) e fun F1 H1 g1 => ?_
    · obtain ⟨a, t, rfl⟩ := len2 hl
      cases hn : isName a with
      | true =>
        cases a <;> first | (cases hn; done) | skip
        rename_i n
        refine et_orF (et_notT (et_v (nm _ t he) (by rw [hn]))) (et_is (inn n t he) ?_)
        rw [decide_eq_false fun hmem => hs ⟨n, t, he, hn, hmem⟩]
        rfl
      | false => exact et_orT (et_notF (et_v (nm a t he) (by rw [hn])))
    · have := q F1 H1 g1
      rw [e0] at this
      exact this
end
end R3

set_option Elab.async false
set_option linter.all false
set_option maxRecDepth 100000
set_option maxHeartbeats 4000000
namespace R3
open PySem PySem.Spec PyProof.Rows L2 Dv
open Qa (toF Sx)
theorem layAll_iff : ∀ {xs : List PyData}, PyData.canLayAll0 xs = true ↔ ∀ x ∈ xs, x.canLay0 = true
  | [] => by simp [PyData.canLayAll0]
  | x :: xs => by simp [PyData.canLayAll0, layAll_iff (xs := xs)]
theorem depAll_iff {n : Nat} : ∀ {xs : List PyData}, PyData.depthAll xs ≤ n ↔ ∀ x ∈ xs, x.depth ≤ n
  | [] => by simp [PyData.depthAll]
  | x :: xs => by simp [PyData.depthAll, depAll_iff (xs := xs), Nat.max_le]
theorem shaped_iff (d : PyData) : SeqAt.shaped d = true ↔ d.canLay0 = true ∧ d.depth ≤ 64 := by
  show (d.canLay0 && decide (d.depth ≤ 64)) = true ↔ _
  rw [Bool.and_eq_true, decide_eq_true_eq]
theorem shaped_list {xs : List PyData} : SeqAt.shaped (.list xs) = true ↔ (∀ x ∈ xs, x.canLay0 = true) ∧ ∀ x ∈ xs, x.depth ≤ 63 := by
  rw [shaped_iff]
  simp only [PyData.canLay0, PyData.depth]
  rw [layAll_iff, ← depAll_iff]
  exact and_congr Iff.rfl ⟨fun h => by omega, fun h => by omega⟩
theorem shaped_tup {xs : List PyData} : SeqAt.shaped (.tuple xs) = true ↔ (∀ x ∈ xs, x.canLay0 = true) ∧ ∀ x ∈ xs, x.depth ≤ 63 := by
  rw [shaped_iff]
  simp only [PyData.canLay0, PyData.depth]
  rw [layAll_iff, ← depAll_iff]
  exact and_congr Iff.rfl ⟨fun h => by omega, fun h => by omega⟩
theorem shaped_sub {xs ys : List PyData} (h : SeqAt.shaped (.list xs) = true) (hs : ∀ y ∈ ys, y ∈ xs) : SeqAt.shaped (.list ys) = true := by
  rw [shaped_list] at h ⊢
  exact ⟨fun y hy => h.1 y (hs y hy), fun y hy => h.2 y (hs y hy)⟩
theorem shaped_memL {xs : List PyData} {x : PyData} (h : SeqAt.shaped (.list xs) = true) (hx : x ∈ xs) : SeqAt.shaped x = true := by
  rw [shaped_list] at h
  rw [shaped_iff]
  exact ⟨h.1 x hx, Nat.le_succ_of_le (h.2 x hx)⟩
theorem shaped_memT {xs : List PyData} {x : PyData} (h : SeqAt.shaped (.tuple xs) = true) (hx : x ∈ xs) : SeqAt.shaped x = true := by
  rw [shaped_tup] at h
  rw [shaped_iff]
  exact ⟨h.1 x hx, Nat.le_succ_of_le (h.2 x hx)⟩
/-- a list is shaped -/
def shL (d : PyData) : Prop := ∀ bs, d = .list bs → SeqAt.shaped d = true
def isBlock (names : List Str) : PyData → Bool
  | .tuple [.int n, .list ss] => decide (1 ≤ n) && !ss.isEmpty && ss.all (isStep names)
  | _ => false
def areBlocks (names : List Str) : PyData → Bool
  | .list bs => bs.all (isBlock names)
  | _ => false
theorem filter_none {α : Type} (f : α → Bool) (xs : List α) : (xs.filter fun x => !f x).isEmpty = xs.all f := by
  induction xs with
  | nil => rfl
  | cons x xs ih =>
    rw [List.filter_cons, List.all_cons]
    cases h : f x with
    | true => simpa using ih
    | false => rfl
section
variable {P : Program} {w : World} {K : PySem.W.Frag} {mg : Str → Option Value} {base : Heap}
theorem ev_step {σ : L2.St} {F : Hp} {te : TE} {d : PyData} {C ml : Addr} {m : MillD} {j : Nat} {E : XK} (h : EvD K te σ F d) (hj : σ[j]? = some (some (.ref ml))) (hm : MillAt K F C ml m) (hg : gd d = true) :
    EvD K (tCall (spStepQ K C) [] E (tCons (tVar j) (tCons te tNil))) σ F (.bool (isStep (m.recipes.map (·.1)) d)) := fun H e Q q =>
  ⟨_, hj, h H e _ fun v F1 H1 g1 hv => ⟨F1, ml, v, m, d, rfl, g1.fh, hm.mono g1.fx, hv, hg, fun F' H' g => q _ F' H' (g1.trans g) (.bl _)⟩⟩
def spBlockQ (K : PySem.W.Frag) (C : Addr) : Sp := fun vs H Q _ => ∃ (F : Hp) (x : Addr) (v : V) (m : MillD) (d : PyData), vs = [.ref x, v] ∧ Evl.Ex F H ∧ MillAt K F C x m ∧ Dp K F v d ∧ gd d = true ∧ SeqAt.shaped d = true ∧ ∀ F' H', Gr F H F' H' → Q (.bl (isBlock (m.recipes.map (·.1)) d)) H'
theorem sc_is_block : FnScope (["mill", "value", "step"] : List Str) (["mill", "value"] : List Str) (defScope sIsBlock) := ⟨rfl, rfl, rfl, by decide +kernel, rfl, by decide +kernel, by decide +kernel⟩
theorem ok_is_block (D : Def K mg "is_block" sIsBlock ["mill", "value"]) (B : Bl mg) {C : Addr} (C_is_whole : Cal P w K mg base "is_whole" ["value"] 1 (spD K fWhole)) (C_is_step : Cal P w K mg base "is_step" ["mill", "value"] 4 (spStepQ K C)) :
    Cal P w K mg base "is_block" ["mill", "value"] 5 (spBlockQ K C) := by
  refine cal_mk D sc_is_block (fun vs H Q E h => ?_) (fun f cdv A outer s H vs Q E hr h => ?_)
  · obtain ⟨F, x, v, m, d, rfl, _⟩ := h
    rfl
  obtain ⟨F, ml, v, m, d, rfl, e, hm, hv, hg, hsh, q⟩ := h
  refine ⟨_, (pss_cons (ps_if (PW.pt (pw_or (pt_not (pt_val (pe_callB call_isi (by rfl) B.isi (by decide +kernel) (pa_cons (pv 1) (pa_cons (pe_bltn (v := .ty "tuple") (by rfl) B.tuple (by decide +kernel) rfl) pa_nil))))) (pw_or (pt_cmpR op_ne (pe_callB call_len (by rfl) B.len (by decide +kernel) (pa_cons (pv 1) pa_nil)) pe_int (nomark _)) (pw_or (pt_not (pt_val (pe_callC C_is_whole hr (pa_cons (pe_ix ix_tup (pv 1) pe_int (fun _ _ => rfl)) pa_nil)))) (pw_or1 (pt_cmpR op_lt (pe_ix ix_tup (pv 1) pe_int (fun _ _ => rfl)) pe_int (nomark _))))))) (pss_one (ps_ret pe_bl)) pss_nil)
      (pss_cons (ps_if (PW.pt (pw_or (pt_not (pt_val (pe_callB call_isi (by rfl) B.isi (by decide +kernel) (pa_cons (pe_ix ix_tup (pv 1) pe_int (fun _ _ => rfl)) (pa_cons (pe_bltn (v := .ty "list") (by rfl) B.list (by decide +kernel) rfl) pa_nil))))) (pw_or1 (pt_cmpR (op_eqD hr.1.units) (pe_ix ix_tup (pv 1) pe_int (fun _ _ => rfl)) (pe_lst pa_nil) (nomark _))))) (pss_one (ps_ret pe_bl)) pss_nil)
      (pss_one (ps_ret (pe_cmpR (op_eqD hr.1.units) (pe_lc (own := [("step", 2)]) (g := gName 2) rfl sc_is_block.nd (pi_list (pe_ix ix_tup (pv 1) pe_int (fun _ _ => rfl))) (blkOk_by (own := [("step", 2)]) (N := ["mill", "value", "step"]) (sc := defScope sIsBlock) (by decide +kernel)) (fun _ _ _ _ _ => (pg_name (i := 2) sc_is_block.nd rfl (.inl rfl)))  (fun _ _ _ _ _ => (pts_one (pt_not (pt_val (pe_callC C_is_step hr (pa_cons (pv 0) (pa_cons (pv 2) pa_nil))))))) (fun _ _ _ _ _ => (pv 2))) (pe_lst pa_nil) (nomark _)))))), ?_⟩
  have st : start ["mill", "value", "step"] [V.ref ml, v] = [some (.ref ml), some v, none] := rfl
  rw [st]
  have vx := Dv.ev_var (K := K) (σ := [some (.ref ml), some v, none]) (i := 1) rfl hv
  have hlen : ∀ es, d = .tuple es → es.length ≤ 100000 := fun es he => by
    subst he
    exact Nat.le_trans (gd_tup hg).1 (by decide)
  have wh : ∀ a t, d = .tuple [a, t] → EvD K (tCall (spD K fWhole) [] E0 (tCons (tOp (rIxT K) (tVar 1) (tC (.int 0))) tNil)) [some (.ref ml), some v, none] F (.bool (isWhole a)) := by
    intro a t hd
    subst hd
    exact ev_callD (Dv.ea_cons (Dv.ev_ixT (d := a) vx (Dv.ev_int 0) rfl) Dv.ea_nil) ⟨a, rfl, rfl⟩
  by_cases hs : ∃ n b, d = .tuple [.int n, b] ∧ 1 ≤ n
  · obtain ⟨n, b, rfl, hn⟩ := hs
    have gb : gd b = true := gds_mem (gd_tup hg).2 (by simp)
    have sb : SeqAt.shaped b = true := shaped_memT hsh (by simp)
    refine seq_of (s_ifF (et_tupn (n := 2) vx hlen (fun es he _ => et_orF (et_notT (et_v (wh _ _ rfl) rfl)) (et_v (Dv.ev_I0 (fun _ => .bl _) (Dv.ev_ixT (d := .int n) vx (Dv.ev_int 0) rfl) (Dv.ev_int 1)) (by rw [decide_eq_false (by omega)]))) fun no => absurd ⟨_, rfl, rfl⟩ no) e fun F1 H1 g1 => ?_)
    dsimp only
    have vx1 := vx.mono g1.fx
    have vb := Dv.ev_ixT (d := b) vx1 (Dv.ev_int 1) rfl
    by_cases hb : ∃ ss, b = .list ss ∧ ss ≠ []
    · obtain ⟨ss, rfl, hss⟩ := hb
      have he1 : ss.isEmpty = false := by
        cases ss with
        | nil => exact absurd rfl hss
        | cons => rfl
      refine seq_of (s_ifF (et_orF (et_notT (et_v (p := true) (ev_isi (T := "list") vb (by decide)) rfl)) (et_v (ev_eqD vb (EvL.ev (Dv.el_lst Dv.ea_nil (by simp))) sb shaped_nil) (by rw [eqv_nil, he1]))) g1.fh fun F2 H2 g2 => ?_)
      dsimp only
      have vx2 := vx1.mono g2.fx
      have g12 := g1.trans g2
      have hgs := gd_list gb
      have lc := lc_rule (K := K) (F := F2) (te := tVar 2) (vs := [2]) (g := gName 2) (tt := tNot (tTest (tCall (spStepQ K C) [] E0 (tCons (tVar 0) (tCons (tVar 2) tNil))))) (σ := [some (.ref ml), some v, none]) ss id id (fun x => !isStep (m.recipes.map (·.1)) x) (it_list (by rw [List.map_id]; exact Dv.ev_ixT (d := .list ss) vx2 (Dv.ev_int 1) rfl)) (by omega) (fun x hx u F3 e3 hu => ⟨[some (.ref ml), some v, some u], fun H e Q q => q, rfl, et_not (et_test (ev_step (j := 0) (Dv.ev_var rfl hu) rfl (hm.mono (g12.fx.trans e3)) (gds_mem hgs.2 hx))), fun _ => Dv.ev_var rfl hu⟩)
      rw [List.map_id] at lc
      refine Dv.s_ret (K := K) (d := .bool (isBlock (m.recipes.map (·.1)) (.tuple [.int n, .list ss]))) (Dv.ev_is (ev_eqD (EvL.ev lc) (EvL.ev (Dv.el_lst Dv.ea_nil (by simp))) (shaped_sub sb fun y hy => (List.mem_filter.mp hy).1) shaped_nil) (by
        rw [eqv_nil, filter_none]
        show _ = PyData.bool (decide (1 ≤ n) && !ss.isEmpty && ss.all (isStep _))
        rw [decide_eq_true hn, he1] <;> rfl)) g2.fh fun y F3 H3 g3 hy => ?_
      cases hy
      exact q F3 H3 (g12.trans g3)
    · have e0 : isBlock (m.recipes.map (·.1)) (.tuple [.int n, b]) = false := by
        unfold isBlock
        split
        · rename_i n' ss heq
          cases heq
          have : ss = [] := Classical.byContradiction fun h => hb ⟨ss, rfl, h⟩
          subst this
          simp
        · rfl
      unfold tNext
      dsimp only
      show tSeq (tIfS _ _ _) _ _ _ _
      refine seq_of (s_ifT ?_ g1.fh fun F2 H2 g2 => ?_)
      · by_cases hl : ∃ ss, b = .list ss
        · obtain ⟨ss, rfl⟩ := hl
          have : ss = [] := Classical.byContradiction fun h => hb ⟨ss, rfl, h⟩
          subst this
          exact et_orF (et_notT (et_v (p := true) (ev_isi (T := "list") vb (by decide)) rfl)) (et_v (ev_eqD vb (EvL.ev (Dv.el_lst Dv.ea_nil (by simp))) sb shaped_nil) (by rw [eqv_nil] <;> rfl))
        · have e1 : isD b "list" = false := by
            cases b <;> first | rfl | exact absurd ⟨_, rfl⟩ hl
          exact et_orT (et_notF (et_v (ev_isi (T := "list") vb (by decide)) (by rw [e1])))
      · have := q F2 H2 (g1.trans g2)
        rw [e0] at this
        exact this
  · have e0 : isBlock (m.recipes.map (·.1)) d = false := by
      unfold isBlock
      split
      · rename_i n ss
        have : decide (1 ≤ n) = false := decide_eq_false fun h => hs ⟨n, _, rfl, h⟩
        rw [this]
        rfl
      · rfl
    refine seq_of (s_ifT (et_tupn (n := 2) vx hlen (fun es he hl => ?_) fun _ => rfl) e fun F1 H1 g1 => ?_)
    · obtain ⟨a, t, rfl⟩ := len2 hl
      cases hw : isWhole a with
      | true =>
        obtain ⟨i, rfl⟩ := whole_int hw
        subst he
        exact et_orF (et_notT (et_v (wh _ t rfl) rfl)) (et_v (Dv.ev_I0 (fun _ => .bl _) (Dv.ev_ixT (d := .int i) vx (Dv.ev_int 0) rfl) (Dv.ev_int 1)) (by
          rw [decide_eq_true]
          exact Classical.byContradiction fun h => hs ⟨i, t, rfl, by omega⟩))
      | false => exact et_orT (et_notF (et_v (wh a t he) (by rw [hw])))
    · have := q F1 H1 g1
      rw [e0] at this
      exact this
theorem ev_block {σ : L2.St} {F : Hp} {te : TE} {d : PyData} {C ml : Addr} {m : MillD} {j : Nat} {E : XK} (h : EvD K te σ F d) (hj : σ[j]? = some (some (.ref ml))) (hm : MillAt K F C ml m) (hg : gd d = true) (hs : SeqAt.shaped d = true) :
    EvD K (tCall (spBlockQ K C) [] E (tCons (tVar j) (tCons te tNil))) σ F (.bool (isBlock (m.recipes.map (·.1)) d)) := fun H e Q q =>
  ⟨_, hj, h H e _ fun v F1 H1 g1 hv => ⟨F1, ml, v, m, d, rfl, g1.fh, hm.mono g1.fx, hv, hg, hs, fun F' H' g => q _ F' H' (g1.trans g) (.bl _)⟩⟩
def spBlocksQ (K : PySem.W.Frag) (C : Addr) : Sp := fun vs H Q _ => ∃ (F : Hp) (x : Addr) (v : V) (m : MillD) (d : PyData), vs = [.ref x, v] ∧ Evl.Ex F H ∧ MillAt K F C x m ∧ Dq K F v d ∧ gd d = true ∧ shL d ∧ ∀ F' H', Gr F H F' H' → Q (.bl (areBlocks (m.recipes.map (·.1)) d)) H'
theorem sc_are_blocks : FnScope (["mill", "value", "block"] : List Str) (["mill", "value"] : List Str) (defScope sAreBlocks) := ⟨rfl, rfl, rfl, by decide +kernel, rfl, by decide +kernel, by decide +kernel⟩
theorem ok_are_blocks (D : Def K mg "are_blocks" sAreBlocks ["mill", "value"]) (B : Bl mg) {C : Addr} (C_is_block : Cal P w K mg base "is_block" ["mill", "value"] 5 (spBlockQ K C)) :
    Cal P w K mg base "are_blocks" ["mill", "value"] 6 (spBlocksQ K C) := by
  refine cal_mk D sc_are_blocks (fun vs H Q E h => ?_) (fun f cdv A outer s H vs Q E hr h => ?_)
  · obtain ⟨F, x, v, m, d, rfl, _⟩ := h
    rfl
  obtain ⟨F, ml, v, m, d, rfl, e, hm, hv, hg, hsh, q⟩ := h
  refine ⟨_, (pss_one (ps_ret (pe_and (pe_callB call_isi (by rfl) B.isi (by decide +kernel) (pa_cons (pv 1) (pa_cons (pe_bltn (v := .ty "list") (by rfl) B.list (by decide +kernel) rfl) pa_nil))) (pe_one (pe_cmpR (op_eqD hr.1.units) (pe_lc (own := [("block", 2)]) (g := gName 2) rfl sc_are_blocks.nd (pi_list (pv 1)) (blkOk_by (own := [("block", 2)]) (N := ["mill", "value", "block"]) (sc := defScope sAreBlocks) (by decide +kernel)) (fun _ _ _ _ _ => (pg_name (i := 2) sc_are_blocks.nd rfl (.inl rfl)))  (fun _ _ _ _ _ => (pts_one (pt_not (pt_val (pe_callC C_is_block hr (pa_cons (pv 0) (pa_cons (pv 2) pa_nil))))))) (fun _ _ _ _ _ => (pv 2))) (pe_lst pa_nil) (nomark _)))))), ?_⟩
  have st : start ["mill", "value", "block"] [V.ref ml, v] = [some (.ref ml), some v, none] := rfl
  rw [st]
  have vq := Dv.eq_var (K := K) (σ := [some (.ref ml), some v, none]) (i := 1) rfl hv
  refine Dv.s_ret (K := K) (d := .bool (areBlocks (m.recipes.map (·.1)) d)) ?_ e fun y F3 H3 g3 hy => ?_
  · by_cases hl : ∃ bs, d = .list bs
    · obtain ⟨bs, rfl⟩ := hl
      have hvd : Dp K F v (.list bs) := by
        cases hv with
        | dat h => exact h
      have hgs := gd_list hg
      have lc := lc_rule (K := K) (F := F) (te := tVar 2) (vs := [2]) (g := gName 2) (tt := tNot (tTest (tCall (spBlockQ K C) [] E0 (tCons (tVar 0) (tCons (tVar 2) tNil))))) (σ := [some (.ref ml), some v, none]) bs id id (fun x => !isBlock (m.recipes.map (·.1)) x) (it_list (by rw [List.map_id]; exact Dv.ev_var (i := 1) rfl hvd)) (by omega) (fun x hx u F3 e3 hu => ⟨[some (.ref ml), some v, some u], fun H e Q q => q, rfl, et_not (et_test (ev_block (j := 0) (Dv.ev_var rfl hu) rfl (hm.mono e3) (gds_mem hgs.2 hx) (shaped_memL (hsh _ rfl) hx))), fun _ => Dv.ev_var rfl hu⟩)
      rw [List.map_id] at lc
      exact Dv.ev_is (Dv.ev_andV (eq_isi (T := "list") vq (by decide)) fun _ => ev_eqD (EvL.ev lc) (EvL.ev (Dv.el_lst Dv.ea_nil (by simp))) (shaped_sub (hsh _ rfl) fun y hy => (List.mem_filter.mp hy).1) shaped_nil) (by
        rw [eqv_nil, filter_none]
        show PyData.bool (true && _) = PyData.bool (bs.all _)
        rw [Bool.true_and])
    · have e1 : isD d "list" = false := by
        cases d <;> first | rfl | exact absurd ⟨_, rfl⟩ hl
      have e0 : areBlocks (m.recipes.map (·.1)) d = false := by
        cases d <;> first | rfl | exact absurd ⟨_, rfl⟩ hl
      rw [e0]
      exact ev_andF (Dv.ev_is (eq_isi (T := "list") vq (by decide)) (by rw [e1]))
  · cases hy
    exact q F3 H3 g3
end
end R3

set_option Elab.async false
set_option linter.all false
set_option maxRecDepth 100000
set_option maxHeartbeats 4000000
/-! zip(a, d.values(), strict=True) of a list and a locked dict of the same length: the second iterator as Draws. -/
namespace PySem
namespace ZV
open Sem (wp)
open ZS
section
variable {prog : Program} {w : World} {A : Around} {E : Value → Shared → Prop} {s : Shared}
theorem nextOf_val_item {it d : Addr} {i n ep : Nat} {od : Obj} {es : Array DictEntry} {en : DictEntry} {Q : Value → Shared → Prop} (hit : s.heap.IsValIter it d i n ep) (hod : s.heap.get? d = some od) (hdd : od.data = .dict es ep)
    (hsz : es.size = n) (hx : es[i]? = some en) (hQ : ∀ h', h'.IsValIter it d (i + 1) n ep → Heap.SameBut it s.heap h' → Q en.val { s with heap := h' }) : wpAny (model prog w) A (Builtin.SmallTypes.nextOf (.ref it)) Q E s := by
  obtain ⟨o, ho, hc, hd⟩ := id hit
  unfold Builtin.SmallTypes.nextOf
  refine wpAny_bind (wpAny_callSpecial?_slot (name := Str.ofString "__next__") hit.typeIs F.slot_dict_valueiterator_next
    (wpAny_call_entry F.slot_dict_valueiterator_next hit.typeIs F.entry_dict_valueiterator_next ?_ (F.args_dict_valueiterator_next_1 _)))
  refine wpAny_bind (wpAny_pure ?_)
  refine wpAny_bind ?_
  refine wpAny_bind ?_
  first | refine wpAny_bind (wpAny_typeNameOfWhole_valiter hit.typeIs (wpAny_pure ?_)) | refine wpAny_bind (wpAny_typeNameOf_valiter hit.typeIs (wpAny_pure ?_))
  refine wpAny_bind (wpAny_fieldsOf ho hd ?_)
  have hown : Builtin.Dict_items.ownsTuple "dict_valueiterator" = false := by decide
  simp only [hown, Bool.false_eq_true, if_false]
  show wpAny _ _ (if (Value.ref d == Value.none) = true then _ else _) _ _ s
  rw [if_neg (show ¬ ((Value.ref d == Value.none) = true) from Bool.false_ne_true)]
  refine wpAny_bind (wpAny_pure ?_)
  refine wpAny_bind (wpAny_dictEntries hod hdd ?_)
  rw [if_neg (by rw [hsz]; simp)]
  refine wpAny_bind (wpAny_pure ?_)
  refine wpAny_bind (wpAny_dictEpoch hod hdd ?_)
  rw [if_neg (by simp)]
  refine wpAny_pure ?_
  obtain ⟨hlt', hen⟩ := Array.getElem?_eq_some_iff.mp hx
  simp only [show ¬ ((i : Int) < 0) from by omega, if_false, Int.toNat_natCast, Array.getElem?_eq_getElem hlt']
  refine wpAny_bind ?_
  first | refine wpAny_bind (wpAny_typeNameOfWhole_valiter hit.typeIs (wpAny_pure ?_)) | refine wpAny_bind (wpAny_typeNameOf_valiter hit.typeIs (wpAny_pure ?_))
  refine wpAny_bind (wpAny_isOneOf_valiter hit.typeIs ?_)
  show wpAny _ _ (setField (.ref it) 1 (rawInt ((i : Int) + 1)) >>= _) _ _ s
  refine wpAny_bind (wpAny_setField ho hd (by simp) ?_)
  have hit' : (s.heap.update it (Obj.mapFields (·.setIfInBounds 1 (rawInt ((i : Int) + 1))))).IsValIter it d (i + 1) n ep :=
    ⟨_, Heap.get?_update_self _ ho (Obj.isFreed_of_fields (Obj.data_mapFields hd _)), (Obj.cls_mapFields ..).trans hc, by rw [Obj.data_mapFields hd]; simp [rawInt]⟩
  refine wpAny_bind (wpAny_holding ?_)
  refine wpAny_bind (wpAny_isOneOf_valiter (s := { s with heap := s.heap.update it (Obj.mapFields (·.setIfInBounds 1 (rawInt ((i : Int) + 1)))) }) hit'.typeIs ?_)
  refine wpAny_bind (wpAny_isOneOf_valiter (s := { s with heap := s.heap.update it (Obj.mapFields (·.setIfInBounds 1 (rawInt ((i : Int) + 1)))) }) hit'.typeIs ?_)
  show wpAny _ _ (pure es[i].val) _ _ _
  rw [hen]
  exact wpAny_pure (wpAny_pure ⟨_, rfl, wpAny_pure (hQ _ hit' (Heap.SameBut.update ..))⟩)
theorem nextOf_val_end {it d : Addr} {i n ep : Nat} {od : Obj} {es : Array DictEntry} {Q : Value → Shared → Prop} (hh : A.handled = none) (hit : s.heap.IsValIter it d i n ep) (hod : s.heap.get? d = some od) (hdd : od.data = .dict es ep)
    (hsz : es.size = n) (hge : n ≤ i) (hE : ∀ h' e, Heap.ExtBut it s.heap h' → (∃ o, h'.get? e = some o ∧ o.cls = .type "StopIteration") → E (.ref e) { s with heap := h' }) : wpAny (model prog w) A (Builtin.SmallTypes.nextOf (.ref it)) Q E s := by
  obtain ⟨o, ho, hc, hd⟩ := id hit
  unfold Builtin.SmallTypes.nextOf
  refine wpAny_bind (wpAny_callSpecial?_slot (name := Str.ofString "__next__") hit.typeIs F.slot_dict_valueiterator_next
    (wpAny_call_entry F.slot_dict_valueiterator_next hit.typeIs F.entry_dict_valueiterator_next ?_ (F.args_dict_valueiterator_next_1 _)))
  refine wpAny_bind (wpAny_pure ?_)
  refine wpAny_bind ?_
  refine wpAny_bind ?_
  first | refine wpAny_bind (wpAny_typeNameOfWhole_valiter hit.typeIs (wpAny_pure ?_)) | refine wpAny_bind (wpAny_typeNameOf_valiter hit.typeIs (wpAny_pure ?_))
  refine wpAny_bind (wpAny_fieldsOf ho hd ?_)
  have hown : Builtin.Dict_items.ownsTuple "dict_valueiterator" = false := by decide
  simp only [hown, Bool.false_eq_true, if_false]
  show wpAny _ _ (if (Value.ref d == Value.none) = true then _ else _) _ _ s
  rw [if_neg (show ¬ ((Value.ref d == Value.none) = true) from Bool.false_ne_true)]
  refine wpAny_bind (wpAny_pure ?_)
  refine wpAny_bind (wpAny_dictEntries hod hdd ?_)
  rw [if_neg (by rw [hsz]; simp)]
  refine wpAny_bind (wpAny_pure ?_)
  refine wpAny_bind (wpAny_dictEpoch hod hdd ?_)
  rw [if_neg (by simp)]
  refine wpAny_pure ?_
  have hge' : es.size ≤ i := by rw [hsz]; exact hge
  simp only [show ¬ ((i : Int) < 0) from by omega, if_false, Int.toNat_natCast, Array.getElem?_eq_none hge']
  refine wpAny_bind ?_
  first | refine wpAny_bind (wpAny_typeNameOfWhole_valiter hit.typeIs (wpAny_pure ?_)) | refine wpAny_bind (wpAny_typeNameOf_valiter hit.typeIs (wpAny_pure ?_))
  show wpAny _ _ (setField (.ref it) 0 .none >>= _) _ _ s
  refine wpAny_bind (wpAny_setField ho hd (by simp) ?_)
  show wpAny _ _ (newExc (.type "StopIteration") [] >>= _) _ _ _
  refine wpAny_bind ?_
  simp only [newExc, newTuple]
  refine wpAny_bind (wpAny_newObj_type ?_ (by size_fits))
  refine wpAny_bind (m := firstArgMember _ _) (wpAny_of_eq (a := Value.none) (by first | rfl | (simp only [firstArgMember]; rfl)) ?_)
  refine wpAny_newObj_type ?_ (by size_fits)
  simp only [raiseNew]
  refine wpAny_bind (wpAny_handled ?_)
  rw [show A.in1.handled = none from hh]
  refine wpAny_bind (wpAny_pure (wpAny_throw ?_))
  exact hE _ _ (((Heap.SameBut.update ..).extBut.push _).push _) ⟨_, Heap.get?_push_size _ rfl, rfl⟩
end
def _root_.PySem.Heap.IsAt (h : Heap) (a : Addr) (od : Obj) : Prop := h.get? a = some od
theorem _root_.PySem.Heap.IsAt.extBut {h h' : Heap} {a c : Addr} {od : Obj} (x : h.IsAt a od) (e : Heap.ExtBut c h h') (hn : a ≠ c) : h'.IsAt a od := e a od hn x
theorem _root_.PySem.Heap.IsAt.at {h h' : Heap} {a : Addr} {od : Obj} (x : h.IsAt a od) (e : ∀ o, h.get? a = some o → h'.get? a = some o) : h'.IsAt a od := e od x
section
variable {prog : Program} {w : World} {A : Around} {E : Value → Shared → Prop} {s : Shared}
theorem nextOrEndV_item {it d : Addr} {i n ep : Nat} {od : Obj} {es : Array DictEntry} {en : DictEntry} {Q : Option Value → Shared → Prop} (hit : s.heap.IsValIter it d i n ep) (hod : s.heap.IsAt d od) (hdd : od.data = .dict es ep)
    (hsz : es.size = n) (hx : es[i]? = some en) (hQ : ∀ h', h'.IsValIter it d (i + 1) n ep → Heap.SameBut it s.heap h' → Q (some en.val) { s with heap := h' }) :
    wpAny (model prog w) A (Builtin.SmallTypes.nextOrEnd (.ref it)) Q E s := by
  unfold Builtin.SmallTypes.nextOrEnd
  refine wpAny_bind (wpAny_attempt ?_)
  exact nextOf_val_item hit hod hdd hsz hx fun h' a b => wpAny_pure (hQ h' a b)
theorem nextOrEndV_end {it d : Addr} {i n ep : Nat} {od : Obj} {es : Array DictEntry} {Q : Option Value → Shared → Prop} (hh : A.handled = none)
    (hit : s.heap.IsValIter it d i n ep) (hod : s.heap.IsAt d od) (hdd : od.data = .dict es ep) (hsz : es.size = n) (hge : n ≤ i)
    (hQ : ∀ h', Heap.ExtBut it s.heap h' → Q none { s with heap := h' }) :
    wpAny (model prog w) A (Builtin.SmallTypes.nextOrEnd (.ref it)) Q E s := by
  unfold Builtin.SmallTypes.nextOrEnd
  refine wpAny_bind (wpAny_attempt ?_)
  refine nextOf_val_end hh hit hod hdd hsz hge fun h' e hk he => ?_
  obtain ⟨o, ho, hc⟩ := he
  refine wpAny_bind (wpAny_isInstance (T := "StopIteration") (b := true) ⟨o, ho, hc⟩ isSubtype_stop ?_)
  exact wpAny_pure (hQ _ hk)
theorem next_item {z TI TO i1 i2 l1 l2 : Addr} {k1 k2 : Nat} {xs : Array Value} {n ep : Nat} {od : Obj} {es : Array DictEntry} {en : DictEntry} {x a b : Value} {Q : Value → Shared → Prop} (D : ZipApart z TI TO i1 i2 l1 l2)
    (hz : IsZipS s.heap z TI TO .none) (hTI : IsPair s.heap TI (.ref i1) (.ref i2)) (hTO : IsPair s.heap TO a b)
    (h1 : s.heap.IsListIter i1 l1 k1) (h2 : s.heap.IsValIter i2 l2 k2 n ep) (hl1 : s.heap.IsList l1 xs) (hl2 : s.heap.IsAt l2 od) (hx : xs[k1]? = some x) (hy : es[k2]? = some en) (hdd : od.data = .dict es ep) (hsz : es.size = n)
    (hQ : ∀ h', IsZipS h' z TI TO (rawInt s.heap.objs.size) → IsPair h' TO x en.val → h'.IsListIter i1 l1 (k1 + 1) → h'.IsValIter i2 l2 (k2 + 1) n ep → IsPair h' s.heap.objs.size x en.val → h'.objs.size = s.heap.objs.size + 1 →
      (∀ c o, c ≠ z → c ≠ TO → c ≠ i1 → c ≠ i2 → s.heap.get? c = some o → h'.get? c = some o) → Q (.ref s.heap.objs.size) { s with heap := h' }) :
    wpAny (model prog w) A (Builtin.«zip.__next__» ⟨[.ref z], []⟩) (fun fin s' => ∃ v, fin = .done (.ret v) ∧ Q v s') E s := by
  show wpAny _ _ (field (.ref z) 2 >>= _) _ _ _
  refine wpAny_bind (wpAny_field hz rfl (x := .bool true) rfl ?_)
  show wpAny _ _ (field (.ref z) 3 >>= _) _ _ _
  refine wpAny_bind (wpAny_field hz rfl (x := .ref TI) rfl ?_)
  refine wpAny_bind (wpAny_seqItems hTI rfl ?_)
  show wpAny _ _ (Builtin.SmallTypes.ownedTupleIsFree (.ref z) >>= _) _ _ _
  refine wpAny_bind ?_
  unfold Builtin.SmallTypes.ownedTupleIsFree
  refine wpAny_bind (wpAny_field hz rfl (x := .none) rfl (wpAny_pure ?_))
  simp only [if_true]
  refine wpAny_bind (wpAny_rule ?_)
  refine wpAny_bind (wpAny_field hz rfl (x := .ref TO) rfl ?_)
  refine wpAny_bind (wpAny_setField_rec hz (by simp) fun h₁ hz₁ hs₁ => ?_)
  replace hz₁ : IsZipS h₁ z TI TO .ellipsis := hz₁
  refine wpAny_bind ?_
  simp only [List.zipIdx_cons, List.zipIdx_nil, List.forIn_cons, List.forIn_nil]
  refine wpAny_bind (wpAny_bind (wpAny_onRaise ?_))
  show wpAny _ _ (Builtin.SmallTypes.nextOrEnd (.ref i1)) _ _ _
  refine nextOrEnd_item (h1.extBut hs₁.extBut D.i1z) (hl1.extBut hs₁.extBut D.l1z) hx fun h₂ h1₂ hs₂ => ?_
  have hTO₂ : IsPair h₂ TO a b := hs₂.extBut _ _ D.TOi1 (hs₁.extBut _ _ D.TOz hTO)
  refine wpAny_bind (wpAny_seqItems hTO₂ rfl ?_)
  refine wpAny_bind (wpAny_updateSeq_pair hTO₂ fun h₃ hTO₃ hs₃ => ?_)
  replace hTO₃ : IsPair h₃ TO x b := hTO₃
  refine wpAny_bind (wpAny_letGo (wpAny_pure ?_))
  refine wpAny_bind (wpAny_bind (wpAny_onRaise ?_))
  show wpAny _ _ (Builtin.SmallTypes.nextOrEnd (.ref i2)) _ _ _
  refine nextOrEndV_item (((h2.extBut hs₁.extBut D.i2z).extBut hs₂.extBut D.i12.symm).extBut hs₃.extBut D.TOi2.symm)
    (((hl2.extBut hs₁.extBut D.l2z).extBut hs₂.extBut D.l2i1).extBut hs₃.extBut D.l2TO) hdd hsz hy fun h₄ h2₄ hs₄ => ?_
  have hTO₄ : IsPair h₄ TO x b := hs₄.extBut _ _ D.TOi2 hTO₃
  refine wpAny_bind (wpAny_seqItems hTO₄ rfl ?_)
  refine wpAny_bind (wpAny_updateSeq_pair hTO₄ fun h₅ hTO₅ hs₅ => ?_)
  replace hTO₅ : IsPair h₅ TO x en.val := hTO₅
  refine wpAny_bind (wpAny_letGo (wpAny_pure (wpAny_pure ?_)))
  refine wpAny_bind (wpAny_seqItems hTO₅ rfl ?_)
  refine wpAny_bind (wpAny_newTuple ?_)
  have hsz5 : h₅.objs.size = s.heap.objs.size := by rw [hs₅.1, hs₄.1, hs₃.1, hs₂.1, hs₁.1]
  have hz₅ : IsZipS h₅ z TI TO .ellipsis := hs₅.extBut _ _ D.TOz.symm (hs₄.extBut _ _ D.i2z.symm (hs₃.extBut _ _ D.TOz.symm (hs₂.extBut _ _ D.i1z.symm hz₁)))
  have hk₅ : ∀ c o, c ≠ z → c ≠ TO → c ≠ i1 → c ≠ i2 → s.heap.get? c = some o → h₅.get? c = some o := fun c o c1 c2 c3 c4 e =>
    hs₅.extBut _ _ c2 (hs₄.extBut _ _ c4 (hs₃.extBut _ _ c2 (hs₂.extBut _ _ c3 (hs₁.extBut _ _ c1 e))))
  have h1₅ : h₅.IsListIter i1 l1 (k1 + 1) := ((h1₂.extBut hs₃.extBut D.TOi1.symm).extBut hs₄.extBut D.i12).extBut hs₅.extBut D.TOi1.symm
  have h2₅ : h₅.IsValIter i2 l2 (k2 + 1) n ep := h2₄.extBut hs₅.extBut D.TOi2.symm
  have hzlt : z < h₅.objs.size := Heap.lt_size hz₅
  have hTOlt : TO < h₅.objs.size := Heap.lt_size hTO₅
  have hi1lt : i1 < h₅.objs.size := by obtain ⟨_, e, _⟩ := h1₅; exact Heap.lt_size e
  have hi2lt : i2 < h₅.objs.size := by obtain ⟨_, e, _⟩ := h2₅; exact Heap.lt_size e
  show wpAny _ _ (Builtin.SmallTypes.ownedTupleHandOut (.ref z) (.ref h₅.objs.size) >>= _) _ _ _
  refine wpAny_bind ?_
  unfold Builtin.SmallTypes.ownedTupleHandOut
  have hz₆ : IsZipS (h₅.push { cls := .type "tuple", data := .seq #[x, en.val] }) z TI TO .ellipsis := Heap.get?_push_of_some _ hz₅
  refine wpAny_bind (wpAny_setField_rec hz₆ (by simp) fun h₇ hz₇ hs₇ => ?_)
  replace hz₇ : IsZipS h₇ z TI TO (rawInt h₅.objs.size) := hz₇
  refine wpAny_setField_rec hz₇ (by simp) fun h₈ hz₈ hs₈ => ?_
  replace hz₈ : IsZipS h₈ z TI TO (rawInt h₅.objs.size) := hz₈
  have up : ∀ c o, c ≠ z → h₅.get? c = some o → h₈.get? c = some o := fun c o c1 e => hs₈.extBut _ _ c1 (hs₇.extBut _ _ c1 (Heap.get?_push_of_some _ e))
  have hT₈ : IsPair h₈ h₅.objs.size x en.val := hs₈.extBut _ _ (Nat.ne_of_gt hzlt) (hs₇.extBut _ _ (Nat.ne_of_gt hzlt) (Heap.get?_push_size _ rfl))
  have hz8 : h₈.objs.size = h₅.objs.size + 1 := by rw [hs₈.1, hs₇.1, Heap.size_push]
  rw [hsz5] at hz₈ hT₈ hz8
  refine wpAny_pure ⟨_, rfl, ?_⟩
  show Q (.ref h₅.objs.size) _
  rw [hsz5]
  exact hQ h₈ hz₈ (up _ _ D.TOz hTO₅) (h1₅.at fun o e => up _ o D.i1z e) (h2₅.at fun o e => up _ o D.i2z e) hT₈ hz8 fun c o c1 c2 c3 c4 e => up c o c1 (hk₅ c o c1 c2 c3 c4 e)

theorem next_end {z TI TO i1 i2 l1 l2 : Addr} {k1 k2 : Nat} {xs : Array Value} {n ep : Nat} {od : Obj} {es : Array DictEntry} {a b : Value} {Q : Fin → Shared → Prop} (hh : A.handled = none) (D : ZipApart z TI TO i1 i2 l1 l2)
    (hz : IsZipS s.heap z TI TO .none) (hTI : IsPair s.heap TI (.ref i1) (.ref i2)) (hTO : IsPair s.heap TO a b)
    (h1 : s.heap.IsListIter i1 l1 k1) (h2 : s.heap.IsValIter i2 l2 k2 n ep) (hl1 : s.heap.IsList l1 xs) (hl2 : s.heap.IsAt l2 od) (hx : xs[k1]? = none) (hy : n ≤ k2) (hdd : od.data = .dict es ep) (hsz : es.size = n)
    (hE : ∀ h' e, (∀ c o, c ≠ z → c ≠ TO → c ≠ i1 → c ≠ i2 → s.heap.get? c = some o → h'.get? c = some o) → (∃ o, h'.get? e = some o ∧ o.cls = .type "StopIteration") → E (.ref e) { s with heap := h' }) :
    wpAny (model prog w) A (Builtin.«zip.__next__» ⟨[.ref z], []⟩) Q E s := by
  show wpAny _ _ (field (.ref z) 2 >>= _) _ _ _
  refine wpAny_bind (wpAny_field hz rfl (x := .bool true) rfl ?_)
  show wpAny _ _ (field (.ref z) 3 >>= _) _ _ _
  refine wpAny_bind (wpAny_field hz rfl (x := .ref TI) rfl ?_)
  refine wpAny_bind (wpAny_seqItems hTI rfl ?_)
  show wpAny _ _ (Builtin.SmallTypes.ownedTupleIsFree (.ref z) >>= _) _ _ _
  refine wpAny_bind ?_
  unfold Builtin.SmallTypes.ownedTupleIsFree
  refine wpAny_bind (wpAny_field hz rfl (x := .none) rfl (wpAny_pure ?_))
  simp only [if_true]
  refine wpAny_bind (wpAny_rule ?_)
  refine wpAny_bind (wpAny_field hz rfl (x := .ref TO) rfl ?_)
  refine wpAny_bind (wpAny_setField_rec hz (by simp) fun h₁ hz₁ hs₁ => ?_)
  replace hz₁ : IsZipS h₁ z TI TO .ellipsis := hz₁
  refine wpAny_bind ?_
  simp only [List.zipIdx_cons, List.zipIdx_nil, List.forIn_cons, List.forIn_nil]
  refine wpAny_bind (wpAny_bind (wpAny_onRaise ?_))
  show wpAny _ _ (Builtin.SmallTypes.nextOrEnd (.ref i1)) _ _ _
  refine nextOrEnd_end hh (h1.extBut hs₁.extBut D.i1z) (hl1.extBut hs₁.extBut D.l1z) hx fun h₂ hs₂ => ?_
  have hz₂ : IsZipS h₂ z TI TO .ellipsis := hs₂ _ _ D.i1z.symm hz₁
  refine wpAny_bind (wpAny_setField_rec hz₂ (by simp) fun h₃ hz₃ hs₃ => ?_)
  have k₃ : ∀ c o, c ≠ z → c ≠ i1 → s.heap.get? c = some o → h₃.get? c = some o := fun c o c1 c3 x => hs₃.extBut _ _ c1 (hs₂ _ _ c3 (hs₁.extBut _ _ c1 x))
  have hi2z : h₃.IsValIter i2 l2 k2 n ep := h2.at fun o q => k₃ _ o D.i2z D.i12.symm q
  have hl2z : h₃.IsAt l2 od := hl2.at fun o q => k₃ _ o D.l2z D.l2i1 q
  refine wpAny_bind ?_
  refine wpAny_bind ?_
  simp only [List.drop_succ_cons, List.drop_zero, List.zipIdx_cons, List.zipIdx_nil]
  simp only [List.forIn_cons, List.forIn_nil]
  refine wpAny_bind (wpAny_bind ?_)
  refine nextOrEndV_end hh hi2z hl2z hdd hsz hy fun h₄ hs₄ => ?_
  refine wpAny_pure ?_
  refine wpAny_pure ?_
  refine wpAny_bind (wpAny_rule ?_)
  refine stop_it hh fun h₅ e k₅ he => ?_
  exact hE h₅ e (fun c o c1 _ c3 c4 x => k₅ _ _ (hs₄ _ _ c4 (k₃ _ _ c1 c3 x))) he
theorem pyNext_item {z TI TO i1 i2 l1 l2 : Addr} {k1 k2 : Nat} {xs : Array Value} {n ep : Nat} {od : Obj} {es : Array DictEntry} {en : DictEntry} {x a b : Value} {Q : Option Value → Shared → Prop} (D : ZipApart z TI TO i1 i2 l1 l2)
    (hz : IsZipS s.heap z TI TO .none) (hTI : IsPair s.heap TI (.ref i1) (.ref i2)) (hTO : IsPair s.heap TO a b)
    (h1 : s.heap.IsListIter i1 l1 k1) (h2 : s.heap.IsValIter i2 l2 k2 n ep) (hl1 : s.heap.IsList l1 xs) (hl2 : s.heap.IsAt l2 od) (hx : xs[k1]? = some x) (hy : es[k2]? = some en) (hdd : od.data = .dict es ep) (hsz : es.size = n)
    (hQ : ∀ h', IsZipS h' z TI TO (rawInt s.heap.objs.size) → IsPair h' TO x en.val → h'.IsListIter i1 l1 (k1 + 1) → h'.IsValIter i2 l2 (k2 + 1) n ep → IsPair h' s.heap.objs.size x en.val → h'.objs.size = s.heap.objs.size + 1 →
      (∀ c o, c ≠ z → c ≠ TO → c ≠ i1 → c ≠ i2 → s.heap.get? c = some o → h'.get? c = some o) → Q (some (.ref s.heap.objs.size)) { s with heap := h' }) :
    wpAny (model prog w) A (pyNext (.ref z)) Q E s := by
  have hT : s.TypeIs (.ref z) "zip" := ⟨_, hz, rfl⟩
  unfold pyNext
  exact wpAny_bind (wpAny_attempt (wpAny_callSpecial?_slot (name := Str.ofString "__next__") hT F.slot_zip_next
    (wpAny_call_entry F.slot_zip_next hT F.entry_zip_next
      (next_item D hz hTI hTO h1 h2 hl1 hl2 hx hy hdd hsz fun h' a1 a2 a3 a4 a5 a6 a7 => wpAny_pure (hQ h' a1 a2 a3 a4 a5 a6 a7)) (F.args_zip_next_1 _))))
theorem pyNext_end {z TI TO i1 i2 l1 l2 : Addr} {k1 k2 : Nat} {xs : Array Value} {n ep : Nat} {od : Obj} {es : Array DictEntry} {a b : Value} {Q : Option Value → Shared → Prop} (hh : A.handled = none) (D : ZipApart z TI TO i1 i2 l1 l2)
    (hz : IsZipS s.heap z TI TO .none) (hTI : IsPair s.heap TI (.ref i1) (.ref i2)) (hTO : IsPair s.heap TO a b)
    (h1 : s.heap.IsListIter i1 l1 k1) (h2 : s.heap.IsValIter i2 l2 k2 n ep) (hl1 : s.heap.IsList l1 xs) (hl2 : s.heap.IsAt l2 od) (hx : xs[k1]? = none) (hy : n ≤ k2) (hdd : od.data = .dict es ep) (hsz : es.size = n)
    (hQ : ∀ h', (∀ c o, c ≠ z → c ≠ TO → c ≠ i1 → c ≠ i2 → s.heap.get? c = some o → h'.get? c = some o) → Q none { s with heap := h' }) : wpAny (model prog w) A (pyNext (.ref z)) Q E s := by
  have hT : s.TypeIs (.ref z) "zip" := ⟨_, hz, rfl⟩
  unfold pyNext
  refine wpAny_bind (wpAny_attempt (wpAny_callSpecial?_slot (name := Str.ofString "__next__") hT F.slot_zip_next
    (wpAny_call_entry F.slot_zip_next hT F.entry_zip_next (next_end hh D hz hTI hTO h1 h2 hl1 hl2 hx hy hdd hsz fun h' e hk he => ?_) (F.args_zip_next_1 _))))
  obtain ⟨o, ho, hc⟩ := he
  refine wpAny_bind (wpAny_isInstance (T := "StopIteration") (b := true) ⟨o, ho, hc⟩ isSubtype_stop ?_)
  exact wpAny_pure (hQ _ hk)
end
end ZV
end PySem

set_option Elab.async false
set_option linter.all false
set_option maxRecDepth 100000
set_option maxHeartbeats 4000000
namespace PySem
namespace ZV
open ZS
abbrev vI2 (d : Addr) (n ep : Nat) : Obj := { cls := .type "dict_valueiterator", data := .fields #[.ref d, .int 0 0, .int n 0, .int ep 0] }
abbrev vH1 (h : Heap) (l1 : Addr) : Heap := h.push { cls := .type "list_iterator", data := .fields #[.ref l1, .int 0 0] }
abbrev vH2 (h : Heap) (l1 d : Addr) (n ep : Nat) : Heap := (vH1 h l1).push (vI2 d n ep)
abbrev vH3 (h : Heap) (l1 d : Addr) (n ep : Nat) : Heap := (vH2 h l1 d n ep).push { cls := .type "tuple", data := .seq #[.ref h.objs.size, .ref (vH1 h l1).objs.size] }
abbrev vH4 (h : Heap) (l1 d : Addr) (n ep : Nat) : Heap := (vH3 h l1 d n ep).push { cls := .type "tuple", data := .seq #[.none, .none] }
abbrev vH5 (h : Heap) (l1 d : Addr) (n ep : Nat) : Heap := (vH4 h l1 d n ep).push { cls := .type "zip", data := .fields #[.none, .bool false, .bool true, .ref (vH2 h l1 d n ep).objs.size, .ref (vH3 h l1 d n ep).objs.size] }
theorem meets_newV (l1 v d : Addr) (xs : Array Value) (es : Array DictEntry) (ep : Nat) :
    Meets (Builtin.«zip.__new__» ⟨[.type "zip", .ref l1, .ref v], kwS⟩) (fun _ R s => (s.heap.IsList l1 xs ∧ s.heap.IsValuesView v d ∧ s.heap.DictRaw d es ep) ∧
      R (.ok (.ret (.ref (vH4 s.heap l1 d es.size ep).objs.size))) { s with heap := vH5 s.heap l1 d es.size ep }) :=
  .of_wp fun prog w A R s h => by
    obtain ⟨hp, g, dd, tk, os⟩ := s; obtain ⟨⟨hl1, hv, hm⟩, h⟩ := h
    have hsub := sub_zip
    have hL1 : Heap.IsList (Shared.heap ⟨hp, g, dd, tk, os⟩) l1 xs := hl1
    have hV : Heap.IsValuesView (Shared.heap ⟨vH1 hp l1, g, dd, tk, os⟩) v d := let ⟨o, ho, r⟩ := hv; ⟨o, Heap.get?_push_of_some _ ho, r⟩
    have hM : Heap.DictRaw (Shared.heap ⟨vH1 hp l1, g, dd, tk, os⟩) d es ep := let ⟨o, ho, r⟩ := hm; ⟨o, Heap.get?_push_of_some _ ho, r⟩
    wp_walk using wpAny_pyIter_list hL1, wpAny_pyIter_values_raw hV hM
    exact ⟨_, rfl, h⟩
end ZV
end PySem

set_option Elab.async false
set_option linter.all false
set_option maxRecDepth 100000
set_option maxHeartbeats 4000000
namespace PySem
namespace ZV
open ZS
section
variable {prog : Program} {w : World} {A : Around} {E : Value → Shared → Prop} {s : Shared}
theorem call_zipV {l1 v d : Addr} {xs : Array Value} {es : Array DictEntry} {ep : Nat} {Q : Value → Shared → Prop} (hl1 : s.heap.IsList l1 xs) (hv : s.heap.IsValuesView v d) (hm : s.heap.DictRaw d es ep)
    (h : ∀ h', IsZipS h' (s.heap.objs.size + 4) (s.heap.objs.size + 2) (s.heap.objs.size + 3) .none → IsPair h' (s.heap.objs.size + 2) (.ref s.heap.objs.size) (.ref (s.heap.objs.size + 1)) →
      IsPair h' (s.heap.objs.size + 3) .none .none → h'.IsListIter s.heap.objs.size l1 0 → h'.IsValIter (s.heap.objs.size + 1) d 0 es.size ep → h'.objs.size = s.heap.objs.size + 5 →
      (∀ c o, s.heap.get? c = some o → h'.get? c = some o) → Q (.ref (s.heap.objs.size + 4)) { s with heap := h' }) :
    wpAny (model prog w) A (call (.type "zip") [.ref l1, .ref v] kwS) Q E s := by
  refine ZS.callType_meets F.called_zip (typeCall_zip (.ref l1) (.ref v)) (newCall_zip (.ref l1) (.ref v)) F.entry_zip_new F.entry_object_init (meets_newV l1 v d xs es ep) (Q₁ := fun obj s₁ => s₁.TypeIs obj "zip" ∧ Q obj s₁) ⟨⟨hl1, hv, hm⟩, ?_⟩ fun obj _ hq =>
    ⟨hq.1, ZS.args_init obj _ _, _, ZS.object_init_meets F.called_zip.init.lookup F.called_zip.made (by decide), hq.1, rfl, hq.2⟩
  have z1 : (vH1 s.heap l1).objs.size = s.heap.objs.size + 1 := Heap.size_push ..
  have z2 : (vH2 s.heap l1 d es.size ep).objs.size = s.heap.objs.size + 2 := by rw [Heap.size_push, z1]
  have z3 : (vH3 s.heap l1 d es.size ep).objs.size = s.heap.objs.size + 3 := by rw [Heap.size_push, z2]
  have z4 : (vH4 s.heap l1 d es.size ep).objs.size = s.heap.objs.size + 4 := by rw [Heap.size_push, z3]
  have z5 : (vH5 s.heap l1 d es.size ep).objs.size = s.heap.objs.size + 5 := by rw [Heap.size_push, z4]
  have g5 : (vH5 s.heap l1 d es.size ep).get? (vH4 s.heap l1 d es.size ep).objs.size = some _ := Heap.get?_push_size _ rfl
  have g4 : (vH5 s.heap l1 d es.size ep).get? (vH3 s.heap l1 d es.size ep).objs.size = some _ := Heap.get?_push_of_some _ (Heap.get?_push_size _ rfl)
  have g3 : (vH5 s.heap l1 d es.size ep).get? (vH2 s.heap l1 d es.size ep).objs.size = some _ := Heap.get?_push_of_some _ (Heap.get?_push_of_some _ (Heap.get?_push_size _ rfl))
  have g2 : (vH5 s.heap l1 d es.size ep).get? (vH1 s.heap l1).objs.size = some _ := Heap.get?_push_of_some _ (Heap.get?_push_of_some _ (Heap.get?_push_of_some _ (Heap.get?_push_size _ rfl)))
  have g1 : (vH5 s.heap l1 d es.size ep).get? s.heap.objs.size = some _ := Heap.get?_push_of_some _ (Heap.get?_push_of_some _ (Heap.get?_push_of_some _ (Heap.get?_push_of_some _ (Heap.get?_push_size _ rfl))))
  show _ ∧ _
  rw [z2, z3, z4] at g5
  rw [z1, z2] at g3
  rw [z3] at g4
  rw [z1] at g2
  rw [z4]
  exact ⟨⟨_, g5, rfl⟩, h _ g5 g3 g4 ⟨_, g1, rfl, rfl⟩ ⟨_, g2, rfl, rfl⟩ z5 fun c o x =>
    Heap.get?_push_of_some _ (Heap.get?_push_of_some _ (Heap.get?_push_of_some _ (Heap.get?_push_of_some _ (Heap.get?_push_of_some _ x))))⟩
end
end ZV
end PySem
namespace L2
open PySem PySem.Spec PyProof.Rows
/-- the list at a and the values of the locked dict d, of one length -/
def Itzv (K : PySem.W.Frag) (a d : Addr) (o : Obj) (kvs : List (Key × V)) : It :=
  ⟨fun i H => ∃ (xs : List V) (x : V), SqL K H a xs ∧ xs[i]? = some x ∧ H d = some (.frz o (.dK kvs)) ∧ i < kvs.length,
    fun i H v H' => ∃ T x y, v = .ref T ∧ H T = none ∧ H' = upd H T (.tup [x, y]) ∧ (∀ xs, SqL K H a xs → xs[i]? = some x) ∧ ∃ k, kvs[i]? = some (k, y),
    fun i H => ∃ xs : List V, SqL K H a xs ∧ xs.length ≤ i ∧ H d = some (.frz o (.dK kvs)) ∧ kvs.length ≤ i⟩
theorem turn_zipV {P : Program} {w : World} {K : PySem.W.Frag} {elts : List Expr} {kk : Nat} {tpos : Pos} {a d z TI TO i1 i2 : Addr} {o : Obj} {kvs : List (Key × V)} {es : Array DictEntry} {ep : Nat} (D : ZipApart z TI TO i1 i2 a d) (hod : o.data = .dict es ep) (hsz : es.size = kvs.length) :
    Turn P w K (.Tuple elts kk tpos) (Itzv K a d o kvs) [z, TI, TO, i1, i2] z (fun i h => ZS.IsZipS h z TI TO .none ∧ IsPair h TI (.ref i1) (.ref i2) ∧ (∃ x y, IsPair h TO x y) ∧ h.IsListIter i1 a i ∧ h.IsValIter i2 d i kvs.length ep) where
  mem := by simp
  obj := fun i h st c hc => by
    obtain ⟨hz, hTI, ⟨x, y, hTO⟩, ⟨o1, e1, _, d1⟩, ⟨o2, e2, _, d2⟩⟩ := st
    have e' : c = z ∨ c = TI ∨ c = TO ∨ c = i1 ∨ c = i2 := by simpa using hc
    rcases e' with q | q | q | q | q
    · rw [q]; exact ⟨_, hz, fun v q => nomatch q⟩
    · rw [q]; exact ⟨_, hTI, fun v q => nomatch q⟩
    · rw [q]; exact ⟨_, hTO, fun v q => nomatch q⟩
    · rw [q]; exact ⟨o1, e1, fun v q => by rw [d1] at q; cases q⟩
    · rw [q]; exact ⟨o2, e2, fun v q => by rw [d2] at q; cases q⟩
  keep := fun i h h' st k => by
    obtain ⟨hz, hTI, ⟨x, y, hTO⟩, h1, h2⟩ := st
    exact ⟨k z (by simp) _ hz, k TI (by simp) _ hTI, ⟨x, y, k TO (by simp) _ hTO⟩, h1.at fun o q => k i1 (by simp) o q, h2.at fun o q => k i2 (by simp) o q⟩
  item := by
    intro X hP hw hK hc i pins s σ H E I hf st hg
    subst hP hw hK
    obtain ⟨hz, hTI, ⟨x0, y0, hTO⟩, h1, h2⟩ := st
    obtain ⟨xs, x, hqx, hx, hd, hi⟩ := hg
    obtain ⟨its, rv, p, _⟩ := I.list hqx
    obtain ⟨u, hu, ru⟩ := rv.get hx
    obtain ⟨hs, hgd, hxd, es', ep', vs, hdt, hsz', kv, hm⟩ := I.frzK hd
    obtain ⟨⟨k, y⟩, hkv⟩ : ∃ p, kvs[i]? = some p := ⟨kvs[i], List.getElem?_eq_getElem hi⟩
    obtain ⟨u2, hu2, ru2⟩ := kv_get kv hkv
    obtain ⟨en, hen, hev⟩ : ∃ en, es[i]? = some en ∧ en.val = u2 := by
      obtain ⟨od, es2, hod2, hcd, hdd, hk, hp, hn⟩ := id hm
      rw [hgd] at hod2
      cases hod2
      obtain ⟨q1, q2⟩ := dict_ep hod hdd
      subst q1
      have hlt : i < es2.size := by rw [hsz]; exact hi
      exact ⟨es2[i], Array.getElem?_eq_getElem hlt, (hp.get? (e := es2[i]) (by simp [hlt]) hu2).2⟩
    subst hev
    have hzl : z < s.heap.objs.size := Heap.lt_size hz
    refine ZV.pyNext_item D hz hTI hTO h1 h2 p.isList hgd (x := u) (by simpa using hu) hen hod hsz fun h' z' TO' h1' h2' hT hsz2 hk => ?_
    refine ⟨_, rfl, ZS.letGo_zip (s := { s with heap := h' }) z' fun h'' z'' sb => ?_⟩
    have hT2 : h''.get? s.heap.objs.size = some { cls := .type "tuple", data := .seq #[u, en.val] } := (sb.2 _ (Nat.ne_of_gt hzl)).trans hT
    have new : ObjOk X.prog X.w (upd H s.heap.objs.size (.tup [x, y])) h'' s.heap.objs.size (.tup [x, y]) :=
      ⟨by show 2 ≤ sizeLine; decide, [u, en.val], .cons ru (.cons ru2 .nil), ⟨_, hT2, rfl, _, rfl⟩⟩
    have I1 : Inv X pins σ (upd H s.heap.objs.size (.tup [x, y])) { s with heap := h'' } :=
      I.turnedNew (t' := s.toks) (ch := [z, TI, TO, i1, i2]) (fun c o hb q => (sb.2 c (fun q' => hb (by simp [q']))).trans (hk c o (fun q' => hb (by simp [q'])) (fun q' => hb (by simp [q'])) (fun q' => hb (by simp [q'])) (fun q' => hb (by simp [q'])) q)) hf (Nat.le_refl _) new
    refine ⟨.ref s.heap.objs.size, _, I1, rfl, ⟨_, x, y, rfl, I.hok.fresh (Nat.le_refl _), rfl, fun l hl => by rw [I.list_inj hl hqx]; exact hx, k, hkv⟩, ⟨z'', ?_, ⟨u, en.val, ?_⟩, ?_, ?_⟩, fun c hcm => ?_⟩
    · exact (sb.2 _ D.TIz).trans (hk _ _ D.TIz D.TITO D.TIi1 D.TIi2 hTI)
    · exact (sb.2 _ D.TOz).trans TO'
    · exact h1'.at fun o q => (sb.2 _ D.i1z).trans q
    · exact h2'.at fun o q => (sb.2 _ D.i2z).trans q
    · have hlt : c < s.heap.objs.size := by
        have e' : c = z ∨ c = TI ∨ c = TO ∨ c = i1 ∨ c = i2 := by simpa using hcm
        rcases e' with q | q | q | q | q
        · rw [q]; exact hzl
        · rw [q]; exact Heap.lt_size hTI
        · rw [q]; exact Heap.lt_size hTO
        · rw [q]; obtain ⟨_, e1, _⟩ := h1; exact Heap.lt_size e1
        · rw [q]; obtain ⟨_, e2, _⟩ := h2; exact Heap.lt_size e2
      rw [upd_ne (Nat.ne_of_lt hlt)]
      exact (hf c hcm).1
  done := by
    intro X hP hw hK hc i pins s σ H E I hf st hg
    subst hP hw hK
    obtain ⟨hz, hTI, ⟨x0, y0, hTO⟩, h1, h2⟩ := st
    obtain ⟨xs, hqx, hend, hd, hend2⟩ := hg
    obtain ⟨its, rv, p, _⟩ := I.list hqx
    obtain ⟨hs, hgd, hxd, es', ep', vs, hdt, hsz', kv, hm⟩ := I.frzK hd
    have l1 := rv.length
    have e1 : its.toArray[i]? = none := by simp; omega
    exact ZV.pyNext_end (I.ok.hd hc) D hz hTI hTO h1 h2 p.isList hgd e1 hend2 hod hsz fun h' hk => ⟨rfl, I.turnedL (t' := s.toks) (ch := [z, TI, TO, i1, i2]) (fun c o hb q =>
      hk c o (fun q' => hb (by simp [q'])) (fun q' => hb (by simp [q'])) (fun q' => hb (by simp [q'])) (fun q' => hb (by simp [q'])) q) hf⟩
  self := fun A i s Q E st h => ZS.pyIter_zip st.1 h
/-- zip(xs, d.values(), strict=True), d locked -/
def iZipV (K : PySem.W.Frag) (te td : TE) : TI := fun σ H R => te σ H fun x H1 => td σ H1 fun y H2 => ∃ a d o xs kvs, x = .ref a ∧ y = .ref d ∧ SqL K H2 a xs ∧ H2 d = some (.frz o (.dK kvs)) ∧ R (Itzv K a d o kvs) H2
theorem pi_zipV {X : Cx} {e o : Expr} {te td : TE} {p pos tpos cp kp mpos apos : Pos} {elts : List Expr} {kk ck : Nat} (hg : Gl X "zip") (hm : X.mg "zip" = none) (he : PE X e te) (ho : PE X o td)
    (hbase : attributeBase o "values" X.env (eval o X.env) = eval o X.env := by rfl) (hline : (apos.endLine == mpos.line) = true := by rfl)
    (hs0 : starEach [e, .Call (.Attribute o "values" apos) [] [] mpos] X.env = [(false, eval e X.env), (false, eval (.Call (.Attribute o "values" apos) [] [] mpos) X.env)] := by rfl)
    (hs : backTo pos (starEach [e, .Call (.Attribute o "values" apos) [] [] mpos] X.env) = (false, eval e X.env) :: backTo pos (starEach [.Call (.Attribute o "values" apos) [] [] mpos] X.env) := by rfl) (hpl : (backTo pos (starEach [e, .Call (.Attribute o "values" apos) [] [] mpos] X.env)).any (·.1) = false := by rfl) :
    PI X (.Tuple elts kk tpos) (.Call (.Name "zip" p) [e, .Call (.Attribute o "values" apos) [] [] mpos] [⟨some "strict", .Constant (.bool true) ck cp, kp⟩] pos) (iZipV X.K te td) := by
  refine ⟨fun pins s σ H R I h => ?_⟩
  refine wpAny_Call_Name_kw (ld_blt I hg hm PyProof.Rows.boot_zip (ZS.callWith_kwT ?_ hs hpl))
  rw [hs]
  refine Calls.spliced_cons (thn (he.run pins s σ H _ I h) fun u s1 ⟨x, H1, I1, rx, q1⟩ => ?_)
  show wpAny _ _ (spliced [(false, eval (Expr.Call (.Attribute o "values" apos) [] [] mpos) X.env)]) _ _ s1
  refine Calls.spliced_cons (wpAny_Call_method0_late hbase hline (thn (ho.run pins s1 σ H1 _ I1 q1) fun u2 s2 ⟨y, H2, I2, ry, a, d, od, xs, kvs, ex, ey, hqx, hd, q⟩ => ?_))
  subst ex ey
  obtain rfl : u = Value.ref a := rx
  obtain rfl : u2 = Value.ref d := ry
  obtain ⟨hs2, hgd, hxd, es, ep, vs, hdt, hsz, kv, hmd⟩ := I2.frzK hd
  refine ⟨"dict", "dict.values", F.plainAttrs_dict, F.slot_dict_values, F.type_dict_values, ⟨od, hgd, hxd.1⟩, fun b e => ?_, Calls.callWith_builtin rfl (PySem.evalArgs_none ?_)⟩
  · cases e
    exact ⟨od, hgd, hxd.2.1⟩
  refine call_meetsIn F.slot_dict_values ⟨od, hgd, hxd.1⟩ F.entry_dict_values (F.args_dict_values_1 _) (meets_dict_values (mixKind X.prog X.w) d hs2) ⟨⟨vs, hmd.dictOf⟩, ?_⟩
  refine Calls.spliced_nil ?_
  refine PyProof.Rows.kws_cons ?_
  refine wpAny_pure (PyProof.Rows.kws_nil ?_)
  have I3 : Inv X pins σ H2 { s2 with heap := s2.heap.push { cls := .type "dict_values", data := .fields #[.ref d] } } := I2.kept (t' := s2.toks) fun b ob q => Heap.get?_push_of_some _ q
  obtain ⟨its, rv, p1, _⟩ := I3.list hqx
  have hl : es.size = kvs.length := hsz
  have hgd3 : (s2.heap.push { cls := .type "dict_values", data := .fields #[.ref d] }).get? d = some od := Heap.get?_push_of_some _ hgd
  have la := p1.lt
  have lb : d < (s2.heap.push { cls := .type "dict_values", data := .fields #[.ref d] }).objs.size := Heap.lt_size hgd3
  refine ZV.call_zipV (s := { s2 with heap := s2.heap.push { cls := .type "dict_values", data := .fields #[.ref d] } }) (es := es) (ep := ep) p1.isList ⟨_, Heap.get?_push_size _ rfl, rfl, rfl⟩ ⟨od, hgd3, hxd, hdt⟩ fun h' hz hTI hTO h1 h2 hsz2 hk => ZS.pyIter_zip hz ?_
  have I4 : Inv X pins σ H2 { s2 with heap := h' } := I3.kept (t' := s2.toks) hk
  refine ⟨_, [_, _, _, _, _], _, _, H2, rfl, I4, turn_zipV (PySem.W.ktu_apart _ a d la lb) hdt hl, ⟨hz, hTI, ⟨_, _, hTO⟩, h1, by rw [hl] at h2; exact h2⟩, fun c hcm => ?_, q⟩
  generalize hS : (s2.heap.push { cls := .type "dict_values", data := .fields #[.ref d] }).objs.size = S at *
  have e' : c = S + 4 ∨ c = S + 2 ∨ c = S + 3 ∨ c = S ∨ c = S + 1 := by simpa using hcm
  have hle : S ≤ c := by
    rcases e' with z | z | z | z | z
    · rw [z]; exact Nat.le_add_right _ _
    · rw [z]; exact Nat.le_add_right _ _
    · rw [z]; exact Nat.le_add_right _ _
    · rw [z]; exact Nat.le_refl _
    · rw [z]; exact Nat.le_add_right _ _
  rw [← hS] at hle
  exact I3.fpOk hle (I3.hok.fresh hle)
end L2

set_option Elab.async false
set_option linter.all false
set_option maxRecDepth 100000
set_option maxHeartbeats 4000000
namespace Dv
open PySem PySem.Spec PyProof.Rows L2 Evl
section
variable {K : PySem.W.Frag} {σ : L2.St} {F F1 H H1 : Hp} {te td : TE} {ds es : List PyData} {ad : Addr} {kvs : List (Key × V)} {o : Obj}
theorem walk_zipV {a d : Addr} {o : Obj} {kvs : List (Key × V)} {xs : List V} (hl : xs.length = kvs.length) : Walk (Itzv K a d o kvs) xs.length (fun H => SqL K H a xs ∧ H d = some (.frz o (.dK kvs))) (YPair (fun i => xs[i]?) (fun i => (kvs.map Prod.snd)[i]?)) :=
  ⟨fun i H hi q => ⟨xs, xs[i], q.1, List.getElem?_eq_getElem hi, q.2, by omega⟩, fun H q => ⟨xs, q.1, Nat.le_refl _, q.2, by omega⟩, fun i H x H' hi q y => by
    obtain ⟨T, x, y, rfl, hT, rfl, f1, k, f2⟩ := y
    exact ⟨T, x, y, rfl, hT, rfl, f1 xs q.1, by
      show (kvs.map Prod.snd)[i]? = some y
      rw [List.getElem?_map, f2] <;> rfl⟩⟩
/-- zip(xs, d.values(), strict=True), d locked -/
theorem it_zipV (h : EvD K te σ F (.list ds)) (ht : ∀ F1 H1, Ex F F1 → Ex F1 H1 → ∀ Q : VK, Q (.ref ad) H1 → td σ H1 Q) (hd : F ad = some (.frz o (.dK kvs))) (hv : DpAll K F (kvs.map Prod.snd) es) (hl : ds.length = es.length) :
    ItD K (iZipV K te td) σ F ((ds.zip es).map fun z => .tuple [z.1, z.2]) := fun H eH R q => h H eH _ fun v F1 H1 g1 hv1 => by
  cases hv1 with
  | lst hs hds =>
    rename_i a xs
    have l1 := dps_len hds
    have l2 := dps_len hv
    rw [List.length_map] at l2
    have hd1 := g1.fx _ _ hd
    refine ht F1 H1 g1.fx g1.fh _ ⟨a, ad, o, xs, kvs, rfl, rfl, ex_l g1.fh hs, g1.fh _ _ hd1, q _ F1 H1 g1 (pair_wd (walk_zipV (by omega)) (fun H e => ⟨ex_l e hs, e _ _ hd1⟩) hds (dps_ex g1.fx hv) (by omega))⟩
/-- a statement over a dict of F: within, the dict is locked -/
theorem s_lock {t : TS} {D : Ends} (hd : F ad = some (.dK kvs)) (e : Ex F H) (h : ∀ od, t ⟨fun σ' H' => H' ad = some (.frz od (.dK kvs)) ∧ D.nx σ' (upd H' ad (.dK kvs)), fun v H' => H' ad = some (.frz od (.dK kvs)) ∧ D.rt v (upd H' ad (.dK kvs)),
    fun σ' H' => H' ad = some (.frz od (.dK kvs)) ∧ D.bk σ' (upd H' ad (.dK kvs)), fun σ' H' => H' ad = some (.frz od (.dK kvs)) ∧ D.ct σ' (upd H' ad (.dK kvs))⟩ σ (upd H ad (.frz od (.dK kvs)))) : tLock t D σ H := ⟨ad, _, e _ _ hd, trivial, h⟩
end
end Dv

set_option Elab.async false
set_option linter.all false
set_option maxRecDepth 100000
set_option maxHeartbeats 4000000
namespace R3
open PySem PySem.Spec PyProof.Rows L2 Dv
open Qa (toF Sx)
theorem isAmt_R {h : Rat} (p : 0 ≤ h) : isAmt (encR h) = true := by
  have p1 := h.den_nz
  have p2 : Nat.gcd h.num.natAbs h.den = 1 := h.reduced
  have p3 : 0 ≤ h.num := Rat.num_nonneg.mpr p
  show ((decide (1 ≤ (h.den : Int)) && (Nat.gcd h.num.natAbs ((h.den : Int)).natAbs == 1)) && decide (0 ≤ h.num)) = true
  rw [Int.natAbs_natCast, p2, decide_eq_true p3, decide_eq_true (by omega)]
  rfl
theorem ev_notNR {K : PySem.W.Frag} {σ : L2.St} {F : Hp} {ta : TE} {d : PyData} (ha : EvD K ta σ F d) : EvD K (tOp rNotN ta (tC .non)) σ F (.bool (!nonB d)) := fun H e Q q => ha H e _ fun v F1 H1 g1 hv => by
  refine ⟨rfl, q _ F1 H1 g1 ?_⟩
  rw [dec_non hv]
  exact .bl _
def roomOk : Option Int → Rat → Bool
  | none, _ => true
  | some k, h => !decide ((k : Rat) < h)
structure HoldOk (m : MillD) (hs : List Rat) : Prop where
  len : hs.length = m.stuffs.length
  le8 : m.stuffs.length ≤ 8
  rm : ∀ z ∈ m.stuffs, ∀ r, z.2 = some r → 0 ≤ r ∧ r ≤ 1000000
  bd : ∀ h ∈ hs, Sx 1000000000 h
  ps : ∀ h ∈ hs, 0 ≤ h
  ro : ∀ z ∈ m.stuffs.zip hs, roomOk z.1.2 z.2 = true
section
variable {P : Program} {w : World} {K : PySem.W.Frag} {mg : Str → Option Value} {base : Heap}
theorem MillAt.roomsAt {F : Hp} {C ml : Addr} {m : MillD} (h : MillAt K F C ml m) : ∃ (dx ro sp ru : Addr) (kvs : List (Key × V)), F ml = some (.ins C dx [("rooms", .ref ro), ("spots", .ref sp), ("rules", .ref ru)]) ∧ F ro = some (.dK kvs) ∧
    DpAll K F (kvs.map Prod.snd) (m.stuffs.map fun z => encRoom z.2) := by
  obtain ⟨dx, ro, sp, ru, v1, v2, v3, h1, h2, h3, h4⟩ := h.ex
  exact ⟨dx, ro, sp, ru, _, h1, h2, by rw [zip_snd (by rw [dps_len h3, List.length_map, List.length_map])]; exact h3⟩
def spHold (K : PySem.W.Frag) (C : Addr) : Sp := fun vs H Q _ => ∃ (F : Hp) (x : Addr) (v : V) (m : MillD) (hs : List Rat), vs = [.ref x, v] ∧ Evl.Ex F H ∧ MillAt K F C x m ∧ Dp K F v (.list (hs.map encR)) ∧ HoldOk m hs ∧ ∀ F' H', Gr F H F' H' → Q (.bl true) H'
theorem ev_lenD {σ : L2.St} {F : Hp} {td : TE} {ad : Addr} {kvs : List (Key × V)} (ht : ∀ H1, Evl.Ex F H1 → ∀ Q : VK, Q (.ref ad) H1 → td σ H1 Q) (hd : F ad = some (.dK kvs)) :
    EvD K (tCB (fun xs H Q => ∃ a kvs, xs = [V.ref a] ∧ H a = some (.dK kvs) ∧ Q (.int kvs.length) H) (tCons td tNil)) σ F (.int kvs.length) := fun H e Q q => ht H e _ ⟨ad, kvs, rfl, e _ _ hd, q _ F H (Gr.refl e) (.int _)⟩
theorem sc_are_holdings : FnScope (["mill", "value", "one", "room"] : List Str) (["mill", "value"] : List Str) (defScope sAreHoldings) := ⟨rfl, rfl, rfl, by decide +kernel, rfl, by decide +kernel, by decide +kernel⟩
theorem ok_are_holdings (D : Def K mg "are_holdings" sAreHoldings ["mill", "value"]) (B : Bl mg) {C : Addr} (MC : MillC K C) (C_is_amount : Cal P w K mg base "is_amount" ["value"] 3 (spD K fIsAmt)) (C_below : Cal P w K mg base "below" ["one", "other"] 1 (spD K fBelow)) :
    Cal P w K mg base "are_holdings" ["mill", "value"] 4 (spHold K C) := by
  refine cal_mk D sc_are_holdings (fun vs H Q E h => ?_) (fun f cdv A outer s H vs Q E hr h => ?_)
  · obtain ⟨F, x, v, m, hs, rfl, _⟩ := h
    rfl
  obtain ⟨F, ml, v, m, hs, rfl, e, hm, hv, ok, q⟩ := h
  refine ⟨_, (pss_cons (ps_if (PW.pt (pw_or (pt_not (pt_val (pe_callB call_isi (by rfl) B.isi (by decide +kernel) (pa_cons (pv 1) (pa_cons (pe_bltn (v := .ty "list") (by rfl) B.list (by decide +kernel) rfl) pa_nil))))) (pw_or1 (pt_cmpR op_ne (pe_callB call_len (by rfl) B.len (by decide +kernel) (pa_cons (pv 1) pa_nil)) (pe_callB call_lenD (by rfl) B.len (by decide +kernel) (pa_cons (pe_fld (pv 0) rfl) pa_nil)) (nomark _))))) (pss_one (ps_ret pe_bl)) pss_nil)
      (pss_cons (ps_lock (ps_for PassesOwn.never rfl (pi_zipV (by rfl) B.zip (pv 1) (pe_fld (pv 0) rfl)) (pg_tup (by rfl) (pgs_cons (pg_name (i := 2) sc_are_holdings.nd rfl (.inl rfl)) (pgs_cons (pg_name (i := 3) sc_are_holdings.nd rfl (.inl rfl)) pgs_nil))) (pss_one (ps_if (PW.pt (pw_or (pt_not (pt_val (pe_callC C_is_amount hr (pa_cons (pv 2) pa_nil)))) (pw_or1 (PW.pt (pw_and (pt_cmpR op_notN (pv 3) pe_non (nomark _)) (pw_and1 (pt_val (pe_callC C_below hr (pa_cons (pe_tup (pa_cons (pv 3) (pa_cons pe_int pa_nil))) (pa_cons (pv 2) pa_nil)))))))))) (pss_one (ps_ret pe_bl)) pss_nil))))
      (pss_one (ps_ret pe_bl)))), ?_⟩
  have st : start ["mill", "value", "one", "room"] [V.ref ml, v] = [some (.ref ml), some v, none, none] := rfl
  rw [st]
  obtain ⟨dx, ro, sp, ru, kvs, hml, hro, hkd⟩ := hm.roomsAt
  have kl : kvs.length = m.stuffs.length := by
    have := dps_len hkd
    rwa [List.length_map, List.length_map] at this
  have l8 := ok.le8
  have vx := Dv.ev_var (K := K) (σ := [some (.ref ml), some v, none, none]) (i := 1) rfl hv
  have ln := ev_lenD (K := K) (σ := [some (.ref ml), some v, none, none]) (F := F) (td := tFld K (tVar 0) "rooms") (fun H1 e1 Q q => fld_ref rfl hml MC.cl MC.rooms fl1 H1 e1 Q q) hro
  refine seq_of (s_ifF (et_orF (et_notT (et_v (p := true) (ev_isi (T := "list") vx (by decide)) rfl)) (et_v (Dv.ev_neI (ev_len (n := hs.length) vx (show some (hs.map encR).length = _ by rw [List.length_map]) (by rw [ok.len]; omega)) ln) (by rw [ok.len, kl]; simp))) e fun F1 H1 g1 => ?_)
  dsimp only
  have hro1 := g1.fx _ _ hro
  refine seq_of (s_lock hro1 g1.fh fun od => ?_)
  have hmr : ml ≠ ro := fun z => by rw [z, hro] at hml; cases hml
  have hml1 : upd F1 ro (.frz od (.dK kvs)) ml = some (.ins C dx [("rooms", .ref ro), ("spots", .ref sp), ("rules", .ref ru)]) := by rw [upd_ne hmr]; exact g1.fx _ _ hml
  have nq : NoSq (F1 ro) := by rw [hro1]; exact noSq_dK
  have hv1 : Dp K (upd F1 ro (.frz od (.dK kvs))) v (.list (hs.map encR)) := dp_put nq (dp_ex g1.fx hv)
  have hk1 : DpAll K (upd F1 ro (.frz od (.dK kvs))) (kvs.map Prod.snd) (m.stuffs.map fun z => encRoom z.2) := dps_put nq (dps_ex g1.fx hkd)
  have eL : Evl.Ex (upd F1 ro (.frz od (.dK kvs))) (upd H1 ro (.frz od (.dK kvs))) := ex_upd g1.fh
  refine Dv.s_for (K := K) (it_is (it_zipV (σ := [some (.ref ml), some v, none, none]) (Dv.ev_var (i := 1) rfl hv1) (fun F2 H2 e1 e2 Q q => fld_ref rfl (e1 _ _ hml1) MC.cl MC.rooms fl1 H2 e2 Q q) upd_same hk1 (by rw [List.length_map, List.length_map, ok.len])) (show _ = (m.stuffs.zip hs).map fun z => PyData.tuple [encR z.2, encRoom z.1.2] from ?_)) eL
    (fun n σ F' H' => ∃ (s2 s3 : Option V), σ = [some (.ref ml), some v, s2, s3] ∧ Gr (upd F1 ro (.frz od (.dK kvs))) (upd H1 ro (.frz od (.dK kvs))) F' H') (fun F8 H8 g8 => ⟨none, none, rfl, g8⟩) ?_ (fun σ' F8 H8 e8 e9 p8 => ?_)
  · rw [List.zip_map, List.map_map]
    apply List.ext_getElem
    · simp [ok.len]
    · intro i h1 h2
      simp
  · rintro Fb eb n σ F8 H8 u du F9 H9 hdu e8 e9 ⟨s2, s3, rfl, g8⟩ g9 hu9
    obtain ⟨hn, hdn⟩ := List.getElem?_eq_some_iff.mp hdu
    rw [List.length_map] at hn
    rw [List.getElem_map] at hdn
    have hmem : (m.stuffs.zip hs)[n] ∈ m.stuffs.zip hs := List.getElem_mem _
    generalize (m.stuffs.zip hs)[n] = z at *
    subst hdn
    obtain ⟨y1, y2, hy1, hy2, ht⟩ := tup2 hu9
    refine ht 2 3 _ H9 g9.fh _ ?_
    dsimp only
    have mh := (List.of_mem_zip hmem).2
    have ms := (List.of_mem_zip hmem).1
    refine s_ifF (et_orF (et_notT (et_v (p := true) (ev_callD (Dv.ea_cons (Dv.ev_var (i := 2) rfl hy1) Dv.ea_nil) ⟨_, rfl, fun es he => by cases he; simp, rfl⟩) (by rw [isAmt_R (ok.ps _ mh)]))) ?_) g9.fh fun F10 H10 g10 => ?_
    · have hr := ok.ro _ hmem
      obtain ⟨⟨nm, r⟩, h⟩ := z
      cases r with
      | none => exact et_andF (et_v (ev_notNR (Dv.ev_var (i := 3) rfl hy2)) rfl)
      | some k =>
        have hk := ok.rm _ ms k rfl
        have hlt : decide ((k : Rat) < h) = false := by
          have : (!decide ((k : Rat) < h)) = true := hr
          simpa using this
        exact et_andT (et_v (ev_notNR (Dv.ev_var (i := 3) rfl hy2)) rfl) (et_v (ev_below (a := (k : Rat)) (b := h) (Dv.ev_tup (Dv.ea_cons (Dv.ev_var (i := 3) rfl hy2) (Dv.ea_cons (Dv.ev_int 1) Dv.ea_nil)) (by simp)) (Dv.ev_var (i := 2) rfl hy1) (Sx.mono (Sx.int k) (show 60 * k.natAbs ≤ 60000000 by omega)) (ok.bd _ mh)) (by rw [hlt]))
    · exact ⟨F10, e8.trans (g9.fx.trans g10.fx), g10.fh, _, _, rfl, (g8.trans g9).trans g10⟩
  · obtain ⟨s2, s3, rfl, g8⟩ := p8
    obtain ⟨f1, f2, gg⟩ := Gr.unlock hro1 g1.fh g8
    refine ⟨f2, ?_⟩
    dsimp only
    refine Dv.s_ret (K := K) (Dv.ev_bl true) gg.fh fun y F9 H9 g9 hy => ?_
    cases hy
    exact q F9 H9 ((g1.trans gg).trans g9)
end
end R3

set_option Elab.async false
set_option linter.all false
set_option maxRecDepth 100000
set_option maxHeartbeats 4000000
namespace Dv
open PySem PySem.Spec PyProof.Rows L2 Evl
/-! ### an object x out of F that is read and set: entered into F for one evaluation -/
section
variable {K : PySem.W.Frag} {x : Addr} {F F' H H' : Hp} {o : HO} {C dx : Addr} {fs : List (Str × V)}
theorem ex_enter (e : Ex F H) (h : H x = some o) : Ex (upd F x o) H := fun a u ha => by
  by_cases q : a = x
  · rw [q] at ha ⊢
    rw [upd_same] at ha
    cases ha
    exact h
  · rw [upd_ne q] at ha
    exact e a u ha
theorem ex_upd_of (f : F x = none) : Ex F (upd F x o) := Ex.new f
theorem ex_erm (e : Ex F F') (f : F x = none) : Ex F (er x F') := ex_er e f
theorem Gr.exit (f : F x = none) (hx : H x = some o) (g : Gr (upd F x o) H F' H') : GrG x F H (er x F') H' ∧ H' x = some o ∧ F' x = some o := by
  have f1 : F' x = some o := g.fx x o upd_same
  refine ⟨⟨?_, ?_, ?_, ?_⟩, g.fh x o f1, f1⟩
  · exact ex_er ((ex_upd_of f).trans g.fx) f
  · intro a u h
    by_cases q : a = x
    · rw [q, er_same] at h; cases h
    · rw [er_ne q] at h ⊢
      exact g.fh a u h
  · intro a u h
    by_cases q : a = x
    · rw [q, er_same] at h; cases h
    · rw [er_ne q] at h ⊢
      exact g.hx a u h
  · intro a h1 h2
    by_cases q : a = x
    · rw [q, er_same]
    · rw [er_ne q] at h2 ⊢
      exact g.fr a (by rw [upd_ne q]; exact h1) h2
theorem rd_er {u : HO} {a : Addr} (n : ∀ z, z = u ∨ (∃ ob, z = HO.frz ob u) → F x ≠ some z) (r : Rd F a u) : Rd (er x F) a u := by
  have q : a ≠ x := fun q => by
    rcases r with r | ⟨ob, r⟩
    · exact n u (.inl rfl) (q ▸ r)
    · exact n _ (.inr ⟨ob, rfl⟩) (q ▸ r)
  rcases r with r | ⟨ob, r⟩
  · exact .inl (by rw [er_ne q]; exact r)
  · exact .inr ⟨ob, by rw [er_ne q]; exact r⟩
theorem sqL_er {a : Addr} {xs : List V} (n : NoSq (F x)) (r : SqL K F a xs) : SqL K (er x F) a xs := by
  rcases r with r | r
  · exact .inl (rd_er (fun z hz => by
      rcases hz with rfl | ⟨ob, rfl⟩
      · exact (n xs).1
      · exact ((n xs).2.2 ob).1) r)
  · exact .inr r
theorem sqT_er {a : Addr} {xs : List V} (n : NoSq (F x)) (r : SqT K F a xs) : SqT K (er x F) a xs := by
  rcases r with r | r
  · exact .inl (rd_er (fun z hz => by
      rcases hz with rfl | ⟨ob, rfl⟩
      · exact (n xs).2.1
      · exact ((n xs).2.2 ob).2) r)
  · exact .inr r
mutual
theorem dp_er (n : NoSq (F x)) : ∀ {d : PyData} {v : V}, Dp K F v d → Dp K (er x F) v d
  | .none, _, h => by cases h; exact .non
  | .bool b, _, h => by cases h; exact .bl b
  | .int i, _, h => by cases h; exact .int i
  | .str y, _, h => by cases h; exact .str y
  | .list ds, _, h => by
    cases h with
    | lst hs ha =>
      exact .lst (sqL_er n hs) (dps_er n ha)
  | .tuple ds, _, h => by
    cases h with
    | tup hs ha => exact .tup (sqT_er n hs) (dps_er n ha)
  | .dict _, _, h => by cases h
theorem dps_er (n : NoSq (F x)) : ∀ {ds : List PyData} {vs : List V}, DpAll K F vs ds → DpAll K (er x F) vs ds
  | [], _, h => by cases h; exact .nil
  | d :: ds, _, h => by
    cases h with
    | cons h1 h2 => exact .cons (dp_er n h1) (dps_er n h2)
end
theorem noSq_insW : NoSq (some (HO.ins C dx fs)) := fun xs => ⟨(fun z => by cases z), (fun z => by cases z), fun ob => ⟨(fun z => by cases z), (fun z => by cases z)⟩⟩
end
section
variable {K : PySem.W.Frag} {σ : L2.St} {x : Addr} {F H : Hp} {C dx : Addr} {fs : List (Str × V)} {te tv : TE} {d : PyData} {ds : List PyData} {tt : TT} {p : Bool} {D : Ends} {i : Nat} {f : Str}
theorem ex_insn (h : EvD K te σ (upd F x (.ins C dx fs)) d) (fx : F x = none) (hx : H x = some (.ins C dx fs)) (e : Ex F H) (Q : VK) (q : ∀ v F' H', GrG x F H F' H' → H' x = some (.ins C dx fs) → Dp K F' v d → Q v H') : te σ H Q :=
  h H (ex_enter e hx) Q fun v F' H' g hv => by
    obtain ⟨g1, g2, g3⟩ := Gr.exit fx hx g
    exact q v _ H' g1 g2 (dp_er (by rw [g3]; exact noSq_insW) hv)
theorem ex_insL (h : EvL K te σ (upd F x (.ins C dx fs)) ds) (fx : F x = none) (hx : H x = some (.ins C dx fs)) (e : Ex F H) (Q : VK)
    (q : ∀ p vs F' H', GrG x F H F' H' → H' x = some (.ins C dx fs) → H p = none → F' p = none → p ≠ x → H' p = some (.lst vs) → DpAll K F' vs ds → Q (.ref p) H') : te σ H Q :=
  h H (ex_enter e hx) Q fun p vs F' H' g h1 h2 h3 h4 => by
    obtain ⟨g1, g2, g3⟩ := Gr.exit fx hx g
    have hp : p ≠ x := fun z => by rw [z, hx] at h1; cases h1
    exact q p vs _ H' g1 g2 h1 (by rw [er_ne hp]; exact h2) hp h3 (dps_er (by rw [g3]; exact noSq_insW) h4)
theorem ex_insT (h : EtD tt σ (upd F x (.ins C dx fs)) p) (fx : F x = none) (hx : H x = some (.ins C dx fs)) (e : Ex F H) (Q : Bool → Hp → Prop) (q : ∀ F' H', GrG x F H F' H' → H' x = some (.ins C dx fs) → Q p H') : tt σ H Q :=
  h H (ex_enter e hx) Q fun F' H' g => by
    obtain ⟨g1, g2, g3⟩ := Gr.exit fx hx g
    exact q _ H' g1 g2
/-- self.f = a new list, x out of F; the list is taken into F -/
theorem s_fldX (h : EvL K tv σ (upd F x (.ins C dx fs)) ds) (fx : F x = none) (hx : H x = some (.ins C dx fs)) (e : Ex F H) (hi : σ[i]? = some (some (.ref x))) (c : Cls K C) (n : NoAttr K C f) (hl : fs.length < 1000)
    (k : ∀ p vs F' H', GrG x F H F' H' → H p = none → p ≠ x → F' p = some (.lst vs) → DpAll K F' vs ds → H' x = some (.ins C dx (putF f (.ref p) fs)) → D.nx σ H') : sFld K (tVar i) tv f D σ H :=
  ex_insL h fx hx e _ fun p vs F' H' g h1 h2 h3 h4 h5 h6 => ⟨_, hi, x, C, dx, fs, rfl, h1, c, n, hl, by
    refine k p vs (upd F' p (.lst vs)) _ ((g.take ?_ h3 h4 h5).draw) h2 h4 upd_same (dps_ex (Ex.new h3) h6) upd_same
    exact h2⟩
end
end Dv

set_option Elab.async false
set_option linter.all false
set_option maxRecDepth 100000
set_option maxHeartbeats 4000000
namespace Dv
open PySem PySem.Spec PyProof.Rows L2 Evl
/-- a method that can be called: what the class holds under its name, and what it does -/
structure CalM (P : Program) (w : World) (K : PySem.W.Frag) (mg : Str → Option Value) (base : Heap) (C : Addr) (m : Str) (ps : List Str) (k : Nat) (sp : Sp) : Prop where
  ex : ∃ f fd, Meth K C m f ∧ Binds K fd ("self" :: ps) [] ∧ FnOkG P w K mg base CX0 k f fd ("self" :: ps) sp
/-- what the class says of a method -/
structure DefM (K : PySem.W.Frag) (C : Addr) (m qual : Str) (st : Stmt) (ps : List Str) : Prop where
  ex : ∃ f fd, Meth K C m f ∧ Fun K m qual st f fd ∧ Binds K fd ("self" :: ps) []
section
variable {P : Program} {w : World} {K : PySem.W.Frag} {mg : Str → Option Value} {base : Heap} {C : Addr} {m qual : Str} {st : Stmt} {N ps : List Str} {k : Nat} {sp : Sp}
theorem calM_mk (D : DefM K C m qual st ps) (S : FnScope N ("self" :: ps) (defScope st)) (len : ∀ vs H Q E, sp vs H Q E → vs.length = (("self" : Str) :: ps).length)
    (hbody : ∀ (f : Addr) (cdv : Value) (A : Around) (outer : List Env) (s : Shared) (H : Hp) (vs : List V) (Q : VK) (E : XK), RoomG k (A.deeper (envOfC qual (defScope st) s.heap.objs.size f cdv)) → sp vs H Q E →
      ∃ t, PSs (cxOf CX0 P w K mg base N qual (defScope st) f cdv A outer s H E).nox (defBody st) t ∧ t { nx := fun _ H' => Q .non H', rt := Q } (start N vs) H) : CalM P w K mg base C m ps (k + 1) sp := by
  obtain ⟨f, fd, g, F, b⟩ := D.ex
  exact ⟨f, fd, g, b, F.okG S len (hbody f)⟩
end
section
variable {X : Cx} {o e : Expr} {es : List Expr} {m : Str} {pos apos : Pos} {ta : TE} {t : TA} {k j : Nat} {ps : List Str} {sp : Sp} {C : Addr} {pl : Sem Bool}
theorem pe_methC (M : CalM X.prog X.w X.K X.mg X.base C m ps k sp) (c : Cls X.K C) (hr : RoomG j X.A) (he : PE X o ta) (ha : PA X (e :: es) t) (hj : k ≤ j := by decide)
    (hst : starEach (e :: es) X.env = (false, eval e X.env) :: starEach es X.env := by rfl) (hpl : (backTo pos (starEach es X.env)).any (·.1) = false := by rfl)
    (ht : eval (.Call (.Attribute o m apos) (e :: es) [] pos) X.env = (do
      let ov ← eval o X.env
      standAt apos.atName
      let (f, first) ← holding [ov] (getMethod ov m pl)
      callWith pos f first (backTo pos (starEach (e :: es) X.env)) (backToKw pos (keywordEach [] X.env))) := by rfl) : PE X (.Call (.Attribute o m apos) (e :: es) [] pos) (tMeth C m sp [] E0 ta t) := by
  obtain ⟨f, fd, hm, b, G⟩ := M.ex
  exact pe_methG he c hm G (hr.mono hj) b .nil pass0 ha hst hpl ht
theorem pe_meth0C (M : CalM X.prog X.w X.K X.mg X.base C m ps k sp) (c : Cls X.K C) (hr : RoomG j X.A) (he : PE X o ta) (hj : k ≤ j := by decide)
    (ht : eval (.Call (.Attribute o m apos) [] [] pos) X.env = (do
      let ov ← eval o X.env
      standAt apos.atName
      let (f, first) ← holding [ov] (getMethod ov m pl)
      callWith pos f first (backTo pos (starEach [] X.env)) (backToKw pos (keywordEach [] X.env))) := by rfl) : PE X (.Call (.Attribute o m apos) [] [] pos) (tMeth C m sp [] E0 ta tNil) := by
  obtain ⟨f, fd, hm, b, G⟩ := M.ex
  exact pe_meth0G he c hm G (hr.mono hj) b .nil pass0 ht
end
end Dv

set_option Elab.async false
set_option linter.all false
set_option maxRecDepth 100000
set_option maxHeartbeats 4000000
namespace R3
open PySem PySem.Spec PyProof.Rows L2 Dv
open Qa (toF Sx)
abbrev sWalkInit : Stmt := inClass (top 45) 0
abbrev sWalkFits : Stmt := inClass (top 45) 1
abbrev sWalkLooked : Stmt := inClass (top 45) 2
abbrev sWalkDone : Stmt := inClass (top 45) 3
abbrev sWalkOnce : Stmt := inClass (top 45) 4
abbrev sWalkLed : Stmt := inClass (top 45) 5
/-! ### a walk, plain -/
def minR (a b : Rat) : Rat := if b < a then b else a
def maxR (a b : Rat) : Rat := if b < a then a else b
structure Wk where
  held : List Rat
  least : List Rat
  most : List Rat
def Wk.looked (s : Wk) : Wk := ⟨s.held, (s.least.zip s.held).map fun z => minR z.1 z.2, (s.most.zip s.held).map fun z => maxR z.1 z.2⟩
def mvd (hs : List Rat) (a : Rat) (ns : List Int) : List Rat := (hs.zip ns).map fun z => z.1 + a * (z.2 : Rat)
def Wk.done (s : Wk) (a : Rat) (tk gv : List Int) : Wk :=
  let s1 := Wk.looked ⟨mvd s.held a (tk.map fun n => 0 - n), s.least, s.most⟩
  Wk.looked ⟨mvd s1.held a gv, s1.least, s1.most⟩
structure Wk.Bd (s : Wk) (B : Nat) (n : Nat) : Prop where
  h : ∀ q ∈ s.held, Sx B q
  l : ∀ q ∈ s.least, Sx B q
  u : ∀ q ∈ s.most, Sx B q
  hn : s.held.length = n
  ln : s.least.length = n
  un : s.most.length = n
theorem Wk.Bd.mono {s : Wk} {B C n : Nat} (h : s.Bd B n) (e : B ≤ C) : s.Bd C n := ⟨fun q hq => (h.h q hq).mono e, fun q hq => (h.l q hq).mono e, fun q hq => (h.u q hq).mono e, h.hn, h.ln, h.un⟩
theorem Wk.Bd.looked {s : Wk} {B n : Nat} (h : s.Bd B n) : s.looked.Bd B n := by
  refine ⟨h.h, fun q hq => ?_, fun q hq => ?_, h.hn, ?_, ?_⟩
  · obtain ⟨z, hz, rfl⟩ := List.mem_map.mp hq
    have := List.of_mem_zip hz
    show Sx B (if z.2 < z.1 then z.2 else z.1)
    split
    · exact h.h _ this.2
    · exact h.l _ this.1
  · obtain ⟨z, hz, rfl⟩ := List.mem_map.mp hq
    have := List.of_mem_zip hz
    show Sx B (if z.2 < z.1 then z.1 else z.2)
    split
    · exact h.u _ this.1
    · exact h.h _ this.2
  · show ((s.least.zip s.held).map _).length = n
    rw [List.length_map, List.length_zip, h.ln, h.hn, Nat.min_self]
  · show ((s.most.zip s.held).map _).length = n
    rw [List.length_map, List.length_zip, h.un, h.hn, Nat.min_self]
theorem mvd_len {hs : List Rat} {a : Rat} {ns : List Int} (h : hs.length = ns.length) : (mvd hs a ns).length = hs.length := by
  unfold mvd
  rw [List.length_map, List.length_zip, h, Nat.min_self]
theorem mvd_bd {hs : List Rat} {a : Rat} {ns : List Int} {B A M : Nat} (h : ∀ q ∈ hs, Sx B q) (ha : Sx A a) (hn : ∀ n ∈ ns, n.natAbs ≤ M) : ∀ q ∈ mvd hs a ns, Sx (B + A * M) q := fun q hq => by
  obtain ⟨z, hz, rfl⟩ := List.mem_map.mp hq
  have := List.of_mem_zip hz
  exact (h _ this.1).add ((ha.mul z.2).mono (Nat.mul_le_mul_left _ (hn _ this.2)))
theorem Wk.Bd.set {s : Wk} {B C n : Nat} (h : s.Bd B n) {hs : List Rat} (hh : ∀ q ∈ hs, Sx C q) (hl : hs.length = n) (e : B ≤ C) : Wk.Bd ⟨hs, s.least, s.most⟩ C n :=
  ⟨hh, (h.mono e).l, (h.mono e).u, hl, h.ln, h.un⟩
theorem Wk.Bd.done {s : Wk} {a : Rat} {tk gv : List Int} {B A M n : Nat} (h : s.Bd B n) (ha : Sx A a) (ht : ∀ n ∈ tk, n.natAbs ≤ M) (hg : ∀ n ∈ gv, n.natAbs ≤ M) (lt : tk.length = n) (lg : gv.length = n) : (s.done a tk gv).Bd (B + A * M + A * M) n := by
  have b1 : Wk.Bd ⟨mvd s.held a (tk.map fun n => 0 - n), s.least, s.most⟩ (B + A * M) n := h.set (mvd_bd h.h ha fun k hk => by
    obtain ⟨j, hj, rfl⟩ := List.mem_map.mp hk
    have := ht j hj
    omega) (by rw [mvd_len (by rw [List.length_map, h.hn, lt]), h.hn]) (by omega)
  exact (b1.looked.set (mvd_bd b1.looked.h ha hg) (by rw [mvd_len (by rw [b1.looked.hn, lg]), b1.looked.hn]) (by omega)).looked
/-! ### moved -/
def fMoved : List PyData → List PyData → Prop := fun ds es => ∃ (hs : List Rat) (a : Rat) (ns : List Int) (B A M : Nat), ds = [.list (hs.map encR), encR a, .list (ns.map .int)] ∧ hs.length = ns.length ∧ hs.length ≤ 8 ∧ (∀ q ∈ hs, Sx B q) ∧ Sx A a ∧ (∀ n ∈ ns, n.natAbs ≤ M) ∧ M < 1000000000000 ∧ B + A * M < 1000000000000 ∧ A < 1000000000000 ∧ es = (mvd hs a ns).map encR
section
variable {P : Program} {w : World} {K : PySem.W.Frag} {mg : Str → Option Value} {base : Heap}
theorem sc_moved : FnScope (["holdings", "amount", "numbers", "held", "number"] : List Str) (["holdings", "amount", "numbers"] : List Str) (defScope sMoved) := ⟨rfl, rfl, rfl, by decide +kernel, rfl, by decide +kernel, by decide +kernel⟩
theorem ok_moved (D : Def K mg "moved" sMoved ["holdings", "amount", "numbers"]) (B : Bl mg) (C_plus : Cal P w K mg base "plus" ["one", "other"] 3 (spD K fPlus)) (C_scaled : Cal P w K mg base "scaled" ["one", "number"] 3 (spD K fScaled)) : Cal P w K mg base "moved" ["holdings", "amount", "numbers"] 4 (spN K fMoved) := by
  refine cal_mk D sc_moved (len_N (by rintro _ _ ⟨hs, a, ns, B, A, M, rfl, _⟩; rfl)) (fun f cdv A outer s H vs Q E hr h => ?_)
  obtain ⟨F, ds, es, e, hv, ⟨hs, a, ns, Bb, Aa, Mm, rfl, hl, h8, hB, hA, hM, hm, hm2, hm3, rfl⟩, q⟩ := h
  obtain ⟨x, y, z, rfl, h1, h2, h3⟩ := Dv.three hv
  refine ⟨_, (pss_one (ps_ret (pe_lc (own := [("held", 3), ("number", 4)]) (g := gTup K 2 (gCons (gName 3) (gCons (gName 4) gNil))) rfl sc_moved.nd (pi_zipS (by rfl) B.zip (pa_cons (pv 0) (pa_cons (pv 2) pa_nil))) (blkOk_by (own := [("held", 3), ("number", 4)]) (N := ["holdings", "amount", "numbers", "held", "number"]) (sc := defScope sMoved) (by decide +kernel)) (fun _ _ _ _ _ => (pg_tup (by rfl) (pgs_cons (pg_name (i := 3) sc_moved.nd rfl (.inl rfl)) (pgs_cons (pg_name (i := 4) sc_moved.nd rfl (.inl rfl)) pgs_nil))))  (fun _ _ _ _ _ => pts_nil) (fun _ _ _ _ _ => (pe_callC C_plus hr (pa_cons (pv 3) (pa_cons (pe_callC C_scaled hr (pa_cons (pv 1) (pa_cons (pv 4) pa_nil))) pa_nil))))))), ?_⟩
  have st : start ["holdings", "amount", "numbers", "held", "number"] [x, y, z] = [some x, some y, some z, none, none] := rfl
  rw [st]
  have lc := lc_rule (K := K) (F := F) (te := tCall (spD K fPlus) [] E0 (tCons (tVar 3) (tCons (tCall (spD K fScaled) [] E0 (tCons (tVar 1) (tCons (tVar 4) tNil))) tNil))) (vs := [3, 4]) (tt := tYes) (g := gTup K 2 (gCons (gName 3) (gCons (gName 4) gNil))) (σ := [some x, some y, some z, none, none]) (hs.zip ns) (fun z => PyData.tuple [encR z.1, .int z.2]) (fun z => encR (z.1 + a * (z.2 : Rat))) (fun _ => true)
    (it_is (it_zipS (Dv.ea_cons (Dv.ev_var (i := 0) rfl h1) (Dv.ea_cons (Dv.ev_var (i := 2) rfl h3) Dv.ea_nil)) (by rw [List.length_map, List.length_map, hl])) (by rw [List.zip_map, List.map_map] <;> rfl)) (by rw [List.length_zip]; omega) fun p hp v F1 e1 hv => by
      obtain ⟨y1, y2, hy1, hy2, ht⟩ := tup2 hv
      have hpm := List.of_mem_zip hp
      have hn := hM _ hpm.2
      refine ⟨[some x, some y, some z, some y1, some y2], fun H e Q q => ht 3 4 _ H e Q q, rfl, fun H e Q q => q F1 H (Gr.refl e), fun _ => ?_⟩
      have hs1 : Sx (Aa * Mm) (a * (p.2 : Rat)) := (hA.mul p.2).mono (Nat.mul_le_mul_left _ hn)
      exact ev_plus (B := Bb) (C := Aa * Mm) (Dv.ev_var (i := 3) rfl hy1) (ev_scaled (B := Aa) (Dv.ev_var (i := 1) rfl (dp_ex e1 h2)) (Dv.ev_var (i := 4) rfl hy2) hA (by omega)) (hB _ hpm.1) hs1
  rw [List.filter_eq_self.mpr fun _ _ => rfl] at lc
  refine Dv.s_retL (K := K) lc e fun p vs F' H' g k1 k2 k3 k4 => q p vs F' H' g k1 k2 k3 ?_
  unfold mvd
  rw [List.map_map]
  exact k4
theorem el_moved {σ : L2.St} {F : Hp} {ta tb tc : TE} {E : XK} {hs : List Rat} {a : Rat} {ns : List Int} {B A M : Nat} (h1 : EvD K ta σ F (.list (hs.map encR))) (h2 : EvD K tb σ F (encR a)) (h3 : EvD K tc σ F (.list (ns.map .int))) (hl : hs.length = ns.length) (h8 : hs.length ≤ 8) (hB : ∀ q ∈ hs, Sx B q) (hA : Sx A a)
    (hM : ∀ n ∈ ns, n.natAbs ≤ M) (m1 : M < 1000000000000) (m2 : B + A * M < 1000000000000) (m3 : A < 1000000000000) : EvL K (tCall (spN K fMoved) [] E (tCons ta (tCons tb (tCons tc tNil)))) σ F ((mvd hs a ns).map encR) :=
  el_callN (Dv.ea_cons h1 (Dv.ea_cons h2 (Dv.ea_cons h3 Dv.ea_nil))) ⟨hs, a, ns, B, A, M, rfl, hl, h8, hB, hA, hM, m1, m2, m3, rfl⟩
/-! ### class Walk -/
structure WalkC (K : PySem.W.Frag) (W : Addr) : Prop where
  cl : Cls K W
  ground : NoAttr K W "ground"
  held : NoAttr K W "held"
  least : NoAttr K W "least"
  most : NoAttr K W "most"
/-- the fields of a walk, its lists at home in F -/
structure WkAt (K : PySem.W.Frag) (F : Hp) (G : Addr) (m : MillD) (gr p1 p2 p3 : Addr) (s : Wk) : Prop where
  g : GroundAt K F G gr m
  h : ∃ vs, F p1 = some (.lst vs) ∧ DpAll K F vs (s.held.map encR)
  l : Dp K F (.ref p2) (.list (s.least.map encR))
  u : Dp K F (.ref p3) (.list (s.most.map encR))
theorem WkAt.mono {F F1 : Hp} {G : Addr} {m : MillD} {gr p1 p2 p3 : Addr} {s : Wk} (e : Evl.Ex F F1) (h : WkAt K F G m gr p1 p2 p3 s) : WkAt K F1 G m gr p1 p2 p3 s :=
  ⟨h.g.mono e, let ⟨vs, a, b⟩ := h.h; ⟨vs, e _ _ a, dps_ex e b⟩, dp_ex e h.l, dp_ex e h.u⟩
def wkF (gr p1 p2 p3 : Addr) : List (Str × V) := [("ground", .ref gr), ("held", .ref p1), ("least", .ref p2), ("most", .ref p3)]
end
end R3

set_option Elab.async false
set_option linter.all false
set_option maxRecDepth 100000
set_option maxHeartbeats 4000000
namespace R3
open PySem PySem.Spec PyProof.Rows L2 Dv
open Qa (toF Sx)
section
variable {P : Program} {w : World} {K : PySem.W.Frag} {mg : Str → Option Value} {base : Heap}
theorem wk1 {gr p1 p2 p3 : Addr} : (wkF gr p1 p2 p3).lookup ("ground" : Str) = some (.ref gr) := by rfl
theorem wk2 {gr p1 p2 p3 : Addr} : (wkF gr p1 p2 p3).lookup ("held" : Str) = some (.ref p1) := by rfl
theorem wk3 {gr p1 p2 p3 : Addr} : (wkF gr p1 p2 p3).lookup ("least" : Str) = some (.ref p2) := by rfl
theorem wk4 {gr p1 p2 p3 : Addr} : (wkF gr p1 p2 p3).lookup ("most" : Str) = some (.ref p3) := by rfl
theorem wkp2 {gr p1 p2 p3 p : Addr} : putF "held" (.ref p) (wkF gr p1 p2 p3) = wkF gr p p2 p3 := by rfl
theorem wkp3 {gr p1 p2 p3 p : Addr} : putF "least" (.ref p) (wkF gr p1 p2 p3) = wkF gr p1 p p3 := by rfl
theorem wkp4 {gr p1 p2 p3 p : Addr} : putF "most" (.ref p) (wkF gr p1 p2 p3) = wkF gr p1 p2 p := by rfl
def spLooked (K : PySem.W.Frag) (W G : Addr) : Sp := fun vs H Q _ => ∃ (F : Hp) (x dx gr p1 p2 p3 : Addr) (m : MillD) (s : Wk) (B n : Nat), vs = [.ref x] ∧ Evl.Ex F H ∧ F x = none ∧ H x = some (.ins W dx (wkF gr p1 p2 p3)) ∧ WkAt K F G m gr p1 p2 p3 s ∧ s.Bd B n ∧ n ≤ 8 ∧ B < 1000000000000 ∧
  ∀ F' H' p2' p3', GrG x F H F' H' → H' x = some (.ins W dx (wkF gr p1 p2' p3')) → WkAt K F' G m gr p1 p2' p3' s.looked → Q .non H'
theorem el_pair {σ : L2.St} {F : Hp} {tas : TA} {te : TE} {xs ys : List Rat} {f : Rat → Rat → Rat} {i j : Nat} (hx : EaD K tas σ F [.list (xs.map encR), .list (ys.map encR)]) (hl : xs.length = ys.length) (h8 : xs.length ≤ 8)
    (hb : ∀ a b, a ∈ xs → b ∈ ys → ∀ F1 u v, Evl.Ex F F1 → Dp K F1 u (encR a) → Dp K F1 v (encR b) → EvD K te ((wipe σ [i, j]).set i (some u) |>.set j (some v)) F1 (encR (f a b))) (hw : ∀ u v, wipe ((wipe σ [i, j]).set i (some u) |>.set j (some v)) [i, j] = wipe σ [i, j]) :
    EvL K (tLc (iZipS K tas) (gTup K 2 (gCons (gName i) (gCons (gName j) gNil))) tYes te [i, j]) σ F (((xs.zip ys).map fun z => f z.1 z.2).map encR) := by
  have lc := lc_rule (K := K) (F := F) (te := te) (vs := [i, j]) (tt := tYes) (g := gTup K 2 (gCons (gName i) (gCons (gName j) gNil))) (σ := σ) (xs.zip ys) (fun z => PyData.tuple [encR z.1, encR z.2]) (fun z => encR (f z.1 z.2)) (fun _ => true)
    (it_is (it_zipS hx (by rw [List.length_map, List.length_map, hl])) (by rw [List.zip_map, List.map_map] <;> rfl)) (by rw [List.length_zip]; omega) fun p hp v F1 e1 hv => by
      obtain ⟨y1, y2, hy1, hy2, ht⟩ := tup2 hv
      have hpm := List.of_mem_zip hp
      exact ⟨_, fun H e Q q => ht i j _ H e Q q, hw y1 y2, fun H e Q q => q F1 H (Gr.refl e), fun _ => hb _ _ hpm.1 hpm.2 F1 _ _ e1 hy1 hy2⟩
  rw [List.filter_eq_self.mpr fun _ _ => rfl] at lc
  rw [List.map_map]
  exact lc
theorem sc_Walk_looked : FnScope (["self", "one", "other"] : List Str) (["self"] : List Str) (defScope sWalkLooked) := ⟨rfl, rfl, rfl, by decide +kernel, rfl, by decide +kernel, by decide +kernel⟩
theorem ok_looked {W G : Addr} (D : DefM K W "looked" "Walk.looked" sWalkLooked []) (B : Bl mg) (WC : WalkC K W) (C_lesser : Cal P w K mg base "lesser" ["one", "other"] 2 (spD K fLesser)) (C_greater : Cal P w K mg base "greater" ["one", "other"] 2 (spD K fGreater)) :
    CalM P w K mg base W "looked" [] 3 (spLooked K W G) := by
  refine calM_mk D sc_Walk_looked (fun vs H Q E h => ?_) (fun f cdv A outer s H vs Q E hr h => ?_)
  · obtain ⟨F, x, dx, gr, p1, p2, p3, m, s, B, n, rfl, _⟩ := h
    rfl
  obtain ⟨F, x, dx, gr, p1, p2, p3, m, s, Bb, n, rfl, e, fx, hx, hw, hB, hn8, hBb, q⟩ := h
  refine ⟨_, (pss_cons (ps_fld (pv 0) (pe_lc (own := [("one", 1), ("other", 2)]) (g := gTup K 2 (gCons (gName 1) (gCons (gName 2) gNil))) rfl sc_Walk_looked.nd (pi_zipS (by rfl) B.zip (pa_cons (pe_fld (pv 0) rfl) (pa_cons (pe_fld (pv 0) rfl) pa_nil))) (blkOk_by (own := [("one", 1), ("other", 2)]) (N := ["self", "one", "other"]) (sc := defScope sWalkLooked) (by decide +kernel)) (fun _ _ _ _ _ => (pg_tup (by rfl) (pgs_cons (pg_name (i := 1) sc_Walk_looked.nd rfl (.inl rfl)) (pgs_cons (pg_name (i := 2) sc_Walk_looked.nd rfl (.inl rfl)) pgs_nil))))  (fun _ _ _ _ _ => pts_nil) (fun _ _ _ _ _ => (pe_callC C_lesser hr (pa_cons (pv 1) (pa_cons (pv 2) pa_nil))))) rfl)
      (pss_one (ps_fld (pv 0) (pe_lc (own := [("one", 1), ("other", 2)]) (g := gTup K 2 (gCons (gName 1) (gCons (gName 2) gNil))) rfl sc_Walk_looked.nd (pi_zipS (by rfl) B.zip (pa_cons (pe_fld (pv 0) rfl) (pa_cons (pe_fld (pv 0) rfl) pa_nil))) (blkOk_by (own := [("one", 1), ("other", 2)]) (N := ["self", "one", "other"]) (sc := defScope sWalkLooked) (by decide +kernel)) (fun _ _ _ _ _ => (pg_tup (by rfl) (pgs_cons (pg_name (i := 1) sc_Walk_looked.nd rfl (.inl rfl)) (pgs_cons (pg_name (i := 2) sc_Walk_looked.nd rfl (.inl rfl)) pgs_nil))))  (fun _ _ _ _ _ => pts_nil) (fun _ _ _ _ _ => (pe_callC C_greater hr (pa_cons (pv 1) (pa_cons (pv 2) pa_nil))))) rfl))), ?_⟩
  have st : start ["self", "one", "other"] [V.ref x] = [some (.ref x), none, none] := rfl
  rw [st]
  have hwx := hw.mono (F1 := upd F x (.ins W dx (wkF gr p1 p2 p3))) (ex_upd_of fx)
  obtain ⟨hvs, hh1, hh2⟩ := hwx.h
  have hhx : Dp K (upd F x (.ins W dx (wkF gr p1 p2 p3))) (.ref p1) (.list (s.held.map encR)) := .lst (SqL.of hh1) hh2
  have lc := el_pair (K := K) (σ := [some (.ref x), none, none]) (F := upd F x (.ins W dx (wkF gr p1 p2 p3))) (te := tCall (spD K fLesser) [] E0 (tCons (tVar 1) (tCons (tVar 2) tNil))) (f := minR) (i := 1) (j := 2) (xs := s.least) (ys := s.held)
    (Dv.ea_cons (ev_fld (i := 0) rfl upd_same WC.cl WC.least wk3 hwx.l) (Dv.ea_cons (ev_fld (i := 0) rfl upd_same WC.cl WC.held wk2 hhx) Dv.ea_nil)) (by rw [hB.ln, hB.hn]) (by rw [hB.ln]; exact hn8)
    (fun a b ha hb F1 u v e1 hu hv => ev_lesser (B := Bb) (C := Bb) (Dv.ev_var (i := 1) rfl hu) (Dv.ev_var (i := 2) rfl hv) (hB.l a ha) (hB.h b hb)) (fun u v => rfl)
  refine seq_of (s_fldX (f := "least") lc fx hx e rfl WC.cl WC.least (show 4 < 1000 by decide) fun p vs F1 H1 g1 hp0 hpx hp hds hx1 => ?_)
  rw [wkp3] at hx1
  dsimp only
  have hw1 : WkAt K F1 G m gr p1 p p3 ⟨s.held, (s.least.zip s.held).map fun z => minR z.1 z.2, s.most⟩ := ⟨hw.g.mono g1.fx, (hw.mono g1.fx).h, .lst (SqL.of hp) hds, (hw.mono g1.fx).u⟩
  have fx1 := g1.fg
  have hwy := hw1.mono (F1 := upd F1 x (.ins W dx (wkF gr p1 p p3))) (ex_upd_of fx1)
  obtain ⟨hvs, hh1, hh2⟩ := hwy.h
  have hhy : Dp K (upd F1 x (.ins W dx (wkF gr p1 p p3))) (.ref p1) (.list (s.held.map encR)) := .lst (SqL.of hh1) hh2
  have lc2 := el_pair (K := K) (σ := [some (.ref x), none, none]) (F := upd F1 x (.ins W dx (wkF gr p1 p p3))) (te := tCall (spD K fGreater) [] E0 (tCons (tVar 1) (tCons (tVar 2) tNil))) (f := maxR) (i := 1) (j := 2) (xs := s.most) (ys := s.held)
    (Dv.ea_cons (ev_fld (i := 0) rfl upd_same WC.cl WC.most wk4 hwy.u) (Dv.ea_cons (ev_fld (i := 0) rfl upd_same WC.cl WC.held wk2 hhy) Dv.ea_nil)) (by rw [hB.un, hB.hn]) (by rw [hB.un]; exact hn8)
    (fun a b ha hb F1 u v e1 hu hv => ev_greater (B := Bb) (C := Bb) (Dv.ev_var (i := 1) rfl hu) (Dv.ev_var (i := 2) rfl hv) (hB.u a ha) (hB.h b hb)) (fun u v => rfl)
  refine s_fldX (f := "most") lc2 fx1 hx1 g1.fh rfl WC.cl WC.most (show 4 < 1000 by decide) fun p' vs' F2 H2 g2 hp0' hpx' hp' hds' hx2 => ?_
  rw [wkp4] at hx2
  exact q F2 H2 p p' (g1.trans g2) hx2 ⟨hw1.g.mono g2.fx, (hw1.mono g2.fx).h, (hw1.mono g2.fx).l, .lst (SqL.of hp') hds'⟩
/-- self.looked() -/
theorem s_looked {W G x dx gr p1 p2 p3 : Addr} {σ : L2.St} {F H : Hp} {D : Ends} {m : MillD} {s : Wk} {B n i : Nat} {E : XK} (hi : σ[i]? = some (some (.ref x))) (fx : F x = none) (hx : H x = some (.ins W dx (wkF gr p1 p2 p3))) (e : Evl.Ex F H) (hw : WkAt K F G m gr p1 p2 p3 s) (hB : s.Bd B n) (hn : n ≤ 8) (hb : B < 1000000000000)
    (k : ∀ F' H' p2' p3', GrG x F H F' H' → H' x = some (.ins W dx (wkF gr p1 p2' p3')) → WkAt K F' G m gr p1 p2' p3' s.looked → D.nx σ H') : tDrop (tMeth W "looked" (spLooked K W G) [] E (tVar i) tNil) D σ H :=
  ⟨_, hi, x, dx, _, rfl, hx, by rfl, F, x, dx, gr, p1, p2, p3, m, s, B, n, rfl, e, fx, hx, hw, hB, hn, hb, k⟩
end
end R3

set_option Elab.async false
set_option linter.all false
set_option maxRecDepth 100000
set_option maxHeartbeats 4000000
namespace R3
open PySem PySem.Spec PyProof.Rows L2 Dv
open Qa (toF Sx)
/-- what a recipe takes and gives, by its name -/
def MillD.col (m : MillD) (x : Str) : List Int × List Int := match m.recipes[m.titles.idxOf x]? with
  | some r => (numbersOf m.names r.2.1, numbersOf m.names r.2.2)
  | none => ([], [])
theorem col_mem {m : MillD} {x : Str} (h : x ∈ m.titles) : ∃ r, r ∈ m.recipes ∧ m.recipes[m.titles.idxOf x]? = some r ∧ r.1 = x ∧ m.col x = (numbersOf m.names r.2.1, numbersOf m.names r.2.2) := by
  have hl : m.titles.idxOf x < m.recipes.length := by
    have := List.idxOf_lt_length_of_mem h
    unfold MillD.titles at this ⊢
    rwa [List.length_map] at this
  refine ⟨m.recipes[m.titles.idxOf x], List.getElem_mem _, List.getElem?_eq_getElem hl, ?_, ?_⟩
  · have h2 : m.titles[m.titles.idxOf x]'(by unfold MillD.titles; rw [List.length_map]; exact hl) = x := List.getElem_idxOf _
    unfold MillD.titles at h2 ⊢
    rwa [List.getElem_map] at h2
  · unfold MillD.col
    rw [List.getElem?_eq_getElem hl]
/-- the numbers of a mill are at most M -/
def NumLe (m : MillD) (M : Nat) : Prop := ∀ r ∈ m.recipes, (∀ n ∈ numbersOf m.names r.2.1, n.natAbs ≤ M) ∧ ∀ n ∈ numbersOf m.names r.2.2, n.natAbs ≤ M
section
variable {P : Program} {w : World} {K : PySem.W.Frag} {mg : Str → Option Value} {base : Heap}
theorem ev_fldE {σ : L2.St} {F : Hp} {te : TE} {C dx gr : Addr} {fs : List (Str × V)} {f : Str} {v : V} {d : PyData} (ht : ∀ H1, Evl.Ex F H1 → ∀ Q : VK, Q (.ref gr) H1 → te σ H1 Q) (hx : F gr = some (.ins C dx fs)) (c : Cls K C) (n : NoAttr K C f) (hl : fs.lookup f = some v) (hv : Dp K F v d) : EvD K (tFld K te f) σ F d := fun H e Q q =>
  ht H e _ ⟨gr, C, dx, fs, v, rfl, e _ _ hx, c, n, hl, q v F H (Gr.refl e) hv⟩
theorem gr_flds {σ : L2.St} {F : Hp} {G gr : Addr} {m : MillD} {te : TE} (GC : GroundC K G) (ht : ∀ H1, Evl.Ex F H1 → ∀ Q : VK, Q (.ref gr) H1 → te σ H1 Q) (hg : GroundAt K F G gr m) :
    EvD K (tFld K te "rooms") σ F (.list (m.stuffs.map fun z => encRoom z.2)) ∧ EvD K (tFld K te "titles") σ F (.list (m.titles.map PyData.str)) ∧ EvD K (tFld K te "takes") σ F (.list (m.recipes.map fun r => numsD m.names r.2.1)) ∧ EvD K (tFld K te "gives") σ F (.list (m.recipes.map fun r => numsD m.names r.2.2)) := by
  obtain ⟨dx, a1, a2, a3, a4, a5, a6, hx, hd⟩ := hg.ex
  cases hd with
  | cons d1 hd =>
  cases hd with
  | cons d2 hd =>
  cases hd with
  | cons d3 hd =>
  cases hd with
  | cons d4 hd =>
  cases hd with
  | cons d5 hd =>
  refine ⟨ev_fldE ht hx GC.cl GC.rooms (by rfl) d1, ev_fldE ht hx GC.cl GC.titles (by rfl) ?_, ev_fldE ht hx GC.cl GC.takes (by rfl) d4, ev_fldE ht hx GC.cl GC.gives (by rfl) d5⟩
  rw [show m.titles.map PyData.str = m.recipes.map fun z => PyData.str z.1 from by unfold MillD.titles; rw [List.map_map] <;> rfl]
  exact d3
def spDoneS (K : PySem.W.Frag) (W G : Addr) : Sp := fun vs H Q _ => ∃ (F : Hp) (x dx gr p1 p2 p3 : Addr) (m : MillD) (s : Wk) (B A M : Nat) (v1 v2 : V) (nm : Str) (a : Rat), vs = [.ref x, v1, v2] ∧ Evl.Ex F H ∧ F x = none ∧ H x = some (.ins W dx (wkF gr p1 p2 p3)) ∧ WkAt K F G m gr p1 p2 p3 s ∧ s.Bd B m.names.length ∧ m.names.length ≤ 8 ∧ m.recipes.length ≤ 8 ∧ NumLe m M ∧
  Dp K F v1 (.str nm) ∧ nm ∈ m.titles ∧ Dp K F v2 (encR a) ∧ Sx A a ∧ B + A * M + A * M < 1000000000000 ∧ M < 1000000000000 ∧ A < 1000000000000 ∧
  ∀ F' H' p1' p2' p3', GrG x F H F' H' → H p1' = none → p1' ≠ x → H' x = some (.ins W dx (wkF gr p1' p2' p3')) → WkAt K F' G m gr p1' p2' p3' (s.done a (m.col nm).1 (m.col nm).2) → Q .non H'
theorem sc_Walk_done : FnScope (["self", "name", "amount", "at", "number"] : List Str) (["self", "name", "amount"] : List Str) (defScope sWalkDone) := ⟨rfl, rfl, rfl, by decide +kernel, rfl, by decide +kernel, by decide +kernel⟩
theorem ok_walk_done {W G : Addr} (D : DefM K W "done" "Walk.done" sWalkDone ["name", "amount"]) (B : Bl mg) (WC : WalkC K W) (GC : GroundC K G) (C_moved : Cal P w K mg base "moved" ["holdings", "amount", "numbers"] 4 (spN K fMoved)) (M_looked : CalM P w K mg base W "looked" [] 3 (spLooked K W G)) :
    CalM P w K mg base W "done" ["name", "amount"] 5 (spDoneS K W G) := by
  refine calM_mk D sc_Walk_done (fun vs H Q E h => ?_) (fun f cdv A outer s H vs Q E hr h => ?_)
  · obtain ⟨F, x, dx, gr, p1, p2, p3, m, s, B, A, M, v1, v2, nm, a, rfl, _⟩ := h
    rfl
  obtain ⟨F, x, dx, gr, p1, p2, p3, m, s, Bb, Aa, Mm, v1, v2, nm, a, rfl, e, fx, hx, hw, hB, hn8, hr8, hM, hv1, hnm, hv2, hA, hb, hMb, hAb, q⟩ := h
  refine ⟨_, (pss_cons (ps_set (i := 3) sc_Walk_done.nd rfl (.inl rfl) (pe_bm PySem.F.plainAttrs_list PySem.F.slot_list_index PySem.F.type_list_index mt_index (pe_fld (pe_fld (pv 0) rfl) rfl) (pa_cons (pv 1) pa_nil)))
      (pss_cons (ps_fld (pv 0) (pe_callC C_moved hr (pa_cons (pe_fld (pv 0) rfl) (pa_cons (pv 2) (pa_cons (pe_lc (own := [("number", 4)]) (g := gName 4) rfl sc_Walk_done.nd (pi_list (pe_ix ix_list (pe_fld (pe_fld (pv 0) rfl) rfl) (pv 3) (fun _ _ => rfl))) (blkOk_by (own := [("number", 4)]) (N := ["self", "name", "amount", "at", "number"]) (sc := defScope sWalkDone) (by decide +kernel)) (fun _ _ _ _ _ => (pg_name (i := 4) sc_Walk_done.nd rfl (.inl rfl)))  (fun _ _ _ _ _ => pts_nil) (fun _ _ _ _ _ => (pe_op op_sub pe_int (pv 4)))) pa_nil)))) rfl)
      (pss_cons (ps_expr (pe_meth0C M_looked WC.cl hr (pv 0)))
      (pss_cons (ps_fld (pv 0) (pe_callC C_moved hr (pa_cons (pe_fld (pv 0) rfl) (pa_cons (pv 2) (pa_cons (pe_ix ix_list (pe_fld (pe_fld (pv 0) rfl) rfl) (pv 3) (fun _ _ => rfl)) pa_nil)))) rfl)
      (pss_one (ps_expr (pe_meth0C M_looked WC.cl hr (pv 0)))))))), ?_⟩
  have st : start ["self", "name", "amount", "at", "number"] [V.ref x, v1, v2] = [some (.ref x), some v1, some v2, none, none] := rfl
  rw [st]
  obtain ⟨r, hr1, hr2, hr3, hcol⟩ := col_mem hnm
  rw [hcol] at q
  dsimp only at q
  have hMr := hM r hr1
  have l1 : (numbersOf m.names r.2.1).length = m.names.length := numbersOf_len _ _
  have l2 : (numbersOf m.names r.2.2).length = m.names.length := numbersOf_len _ _
  -- at
  have hw0 := hw.mono (F1 := upd F x (.ins W dx (wkF gr p1 p2 p3))) (ex_upd_of fx)
  have fl0 := gr_flds (K := K) (σ := [some (.ref x), some v1, some v2, none, none]) (te := tFld K (tVar 0) "ground") GC (fld_ref (i := 0) rfl (show upd F x (.ins W dx (wkF gr p1 p2 p3)) x = _ from upd_same) WC.cl WC.ground wk1) hw0.g
  refine seq_of (asg_of (ex_insn (ev_indexStrs fl0.2.1 (Dv.ev_var (i := 1) rfl (dp_ex (ex_upd_of fx) hv1)) hnm) fx hx e _ fun av F1 H1 g1 hx1 hav => ?_))
  dsimp only
  show tSeq _ _ _ [some (.ref x), some v1, some v2, some av, none] H1
  -- held
  have fx1 := g1.fg
  have hw1 := hw.mono g1.fx
  have ex1 : Evl.Ex F1 (upd F1 x (.ins W dx (wkF gr p1 p2 p3))) := ex_upd_of fx1
  have hw1x := hw1.mono ex1
  have fl1 := gr_flds (K := K) (σ := [some (.ref x), some v1, some v2, some av, none]) (te := tFld K (tVar 0) "ground") GC (fld_ref (i := 0) rfl (show upd F1 x (.ins W dx (wkF gr p1 p2 p3)) x = _ from upd_same) WC.cl WC.ground wk1) hw1x.g
  obtain ⟨hvs, hh1, hh2⟩ := hw1x.h
  have hhx : Dp K (upd F1 x (.ins W dx (wkF gr p1 p2 p3))) (.ref p1) (.list (s.held.map encR)) := .lst (SqL.of hh1) hh2
  have av1 := Dv.ev_var (K := K) (σ := [some (.ref x), some v1, some v2, some av, none]) (i := 3) rfl (dp_ex ex1 hav)
  have tk : EvD K (tOp (rIxL K) (tFld K (tFld K (tVar 0) "ground") "takes") (tVar 3)) [some (.ref x), some v1, some v2, some av, none] (upd F1 x (.ins W dx (wkF gr p1 p2 p3))) (numsD m.names r.2.1) :=
    Dv.ev_ixL fl1.2.2.1 av1 (atI_nat (by rw [List.getElem?_map, hr2] <;> rfl))
  have lc := lc_rule (K := K) (F := upd F1 x (.ins W dx (wkF gr p1 p2 p3))) (te := tOp (rI0 fun i j => V.int (i - j)) (tC (.int 0)) (tVar 4)) (vs := [4]) (tt := tYes) (g := gName 4) (σ := [some (.ref x), some v1, some v2, some av, none]) (numbersOf m.names r.2.1) (fun n => PyData.int n) (fun n => PyData.int (0 - n)) (fun _ => true)
    (it_list (by exact tk)) (by omega) fun n hn v F2 e2 hv => ⟨[some (.ref x), some v1, some v2, some av, some v], fun H e Q q => q, rfl, fun H e Q q => q F2 H (Gr.refl e), fun _ => Dv.ev_I0 (fun _ => .int _) (Dv.ev_int 0) (Dv.ev_var (i := 4) rfl hv)⟩
  rw [List.filter_eq_self.mpr fun _ _ => rfl] at lc
  have lc' := EvL.ev lc
  rw [show ((numbersOf m.names r.2.1).map fun n => PyData.int (0 - n)) = (((numbersOf m.names r.2.1).map fun n => 0 - n).map .int) from by rw [List.map_map] <;> rfl] at lc'
  refine seq_of (s_fldX (f := "held") (el_moved (B := Bb) (A := Aa) (M := Mm) (ev_fld (i := 0) rfl upd_same WC.cl WC.held wk2 hhx) (Dv.ev_var (i := 2) rfl (dp_ex (g1.fx.trans ex1) hv2)) lc' (by rw [List.length_map, l1, hB.hn]) (by rw [hB.hn]; exact hn8) hB.h hA (fun n hn => by
    obtain ⟨j, hj, rfl⟩ := List.mem_map.mp hn
    have := hMr.1 j hj
    omega) hMb (by omega) hAb) fx1 hx1 g1.fh rfl WC.cl WC.held (show 4 < 1000 by decide) fun p vs F2 H2 g2 hp0 hpx hp hds hx2 => ?_)
  rw [wkp2] at hx2
  dsimp only
  have fx2 := g2.fg
  have b1 : Wk.Bd ⟨mvd s.held a ((numbersOf m.names r.2.1).map fun n => 0 - n), s.least, s.most⟩ (Bb + Aa * Mm) m.names.length := hB.set (mvd_bd hB.h hA fun k hk => by
    obtain ⟨j, hj, rfl⟩ := List.mem_map.mp hk
    have := hMr.1 j hj
    omega) (by rw [mvd_len (by rw [List.length_map, hB.hn, l1]), hB.hn]) (by omega)
  have hw2 : WkAt K F2 G m gr p p2 p3 ⟨mvd s.held a ((numbersOf m.names r.2.1).map fun n => 0 - n), s.least, s.most⟩ := ⟨(hw1.mono g2.fx).g, ⟨vs, hp, hds⟩, (hw1.mono g2.fx).l, (hw1.mono g2.fx).u⟩
  refine seq_of (s_looked (i := 0) rfl fx2 hx2 g2.fh hw2 b1 hn8 (by omega) fun F3 H3 q2 q3 g3 hx3 hw3 => ?_)
  dsimp only
  have b2 := b1.looked
  have fx3 := g3.fg
  have g13 := (g1.trans g2).trans g3
  have ex3 : Evl.Ex F3 (upd F3 x (.ins W dx (wkF gr p q2 q3))) := ex_upd_of fx3
  have hw3x := hw3.mono ex3
  have fl3 := gr_flds (K := K) (σ := [some (.ref x), some v1, some v2, some av, none]) (te := tFld K (tVar 0) "ground") GC (fld_ref (i := 0) rfl (show upd F3 x (.ins W dx (wkF gr p q2 q3)) x = _ from upd_same) WC.cl WC.ground wk1) hw3x.g
  obtain ⟨hvs3, hh31, hh32⟩ := hw3x.h
  have hhx3 : Dp K (upd F3 x (.ins W dx (wkF gr p q2 q3))) (.ref p) (.list ((mvd s.held a ((numbersOf m.names r.2.1).map fun n => 0 - n)).map encR)) := .lst (SqL.of hh31) hh32
  have av3 := Dv.ev_var (K := K) (σ := [some (.ref x), some v1, some v2, some av, none]) (i := 3) rfl (dp_ex ((g2.fx.trans g3.fx).trans ex3) hav)
  have gv : EvD K (tOp (rIxL K) (tFld K (tFld K (tVar 0) "ground") "gives") (tVar 3)) [some (.ref x), some v1, some v2, some av, none] (upd F3 x (.ins W dx (wkF gr p q2 q3))) (.list ((numbersOf m.names r.2.2).map .int)) :=
    Dv.ev_ixL fl3.2.2.2 av3 (atI_nat (by rw [List.getElem?_map, hr2] <;> rfl))
  refine seq_of (s_fldX (f := "held") (el_moved (B := Bb + Aa * Mm) (A := Aa) (M := Mm) (ev_fld (i := 0) rfl upd_same WC.cl WC.held wk2 hhx3) (Dv.ev_var (i := 2) rfl (dp_ex (g13.fx.trans ex3) hv2)) gv (by rw [l2]; exact b2.hn) (by rw [show (mvd s.held a _).length = m.names.length from b2.hn]; exact hn8) b2.h hA hMr.2 hMb (by omega) hAb) fx3 hx3 g3.fh rfl WC.cl WC.held (show 4 < 1000 by decide) fun p' vs' F4 H4 g4 hp0' hpx' hp' hds' hx4 => ?_)
  rw [wkp2] at hx4
  dsimp only
  have fx4 := g4.fg
  have b3 := b2.set (mvd_bd b2.h hA hMr.2) (by rw [mvd_len (by rw [b2.hn, l2]), b2.hn]) (Nat.le_add_right _ (Aa * Mm))
  have hw4 : WkAt K F4 G m gr p' q2 q3 ⟨mvd (mvd s.held a ((numbersOf m.names r.2.1).map fun n => 0 - n)) a (numbersOf m.names r.2.2), _, _⟩ := ⟨(hw3.mono g4.fx).g, ⟨vs', hp', hds'⟩, (hw3.mono g4.fx).l, (hw3.mono g4.fx).u⟩
  refine s_looked (i := 0) rfl fx4 hx4 g4.fh hw4 b3 hn8 (by omega) fun F5 H5 r2 r3 g5 hx5 hw5 => ?_
  refine q F5 H5 p' r2 r3 ((g13.trans g4).trans g5) ?_ hpx' hx5 hw5
  have := Gr.hx g13
  cases z : H p' with
  | none => rfl
  | some u =>
    have := this p' u (by rw [er_ne hpx']; exact z)
    rw [er_ne hpx', hp0'] at this
    cases this
end
end R3

set_option Elab.async false
set_option linter.all false
set_option maxRecDepth 100000
set_option maxHeartbeats 4000000
namespace R3
open PySem PySem.Spec PyProof.Rows L2 Dv
open Qa (toF Sx)
def encStep (z : Str × Rat) : PyData := .tuple [.str z.1, encR z.2]
def Wk.once (m : MillD) (s : Wk) (steps : List (Str × Rat)) : Wk := steps.foldl (fun s st => s.done st.2 (m.col st.1).1 (m.col st.1).2) s
theorem once_take {m : MillD} {s : Wk} {steps : List (Str × Rat)} {n : Nat} (h : n < steps.length) : Wk.once m s (steps.take (n + 1)) = (Wk.once m s (steps.take n)).done steps[n].2 (m.col steps[n].1).1 (m.col steps[n].1).2 := by
  unfold Wk.once
  rw [List.take_succ_eq_append_getElem h, List.foldl_append]
  rfl
theorem col_bd {m : MillD} {x : Str} {M : Nat} (h : x ∈ m.titles) (hM : NumLe m M) : (∀ n ∈ (m.col x).1, n.natAbs ≤ M) ∧ (∀ n ∈ (m.col x).2, n.natAbs ≤ M) ∧ (m.col x).1.length = m.names.length ∧ (m.col x).2.length = m.names.length := by
  obtain ⟨r, h1, h2, h3, h4⟩ := col_mem h
  rw [h4]
  exact ⟨(hM r h1).1, (hM r h1).2, numbersOf_len _ _, numbersOf_len _ _⟩
theorem once_bd {m : MillD} {A M : Nat} (hM : NumLe m M) : ∀ {steps : List (Str × Rat)} {s : Wk} {B : Nat}, s.Bd B m.names.length → (∀ st ∈ steps, st.1 ∈ m.titles ∧ Sx A st.2) → (Wk.once m s steps).Bd (B + steps.length * (A * M + A * M)) m.names.length
  | [], s, B, h, _ => h.mono (Nat.le_add_right _ _)
  | st :: r, s, B, h, hs => by
    have h0 := hs st List.mem_cons_self
    obtain ⟨c1, c2, c3, c4⟩ := col_bd h0.1 hM
    have := once_bd hM (steps := r) (h.done h0.2 c1 c2 c3 c4) fun z hz => hs z (List.mem_cons_of_mem _ hz)
    refine Wk.Bd.mono this ?_
    rw [List.length_cons, Nat.add_mul, Nat.one_mul]
    omega
/-- what steps a walk is told -/
structure StepsOk (m : MillD) (A : Nat) (steps : List (Str × Rat)) : Prop where
  t : ∀ st ∈ steps, st.1 ∈ m.titles ∧ Sx A st.2
  l : steps.length ≤ 30000
section
variable {P : Program} {w : World} {K : PySem.W.Frag} {mg : Str → Option Value} {base : Heap}
/-- what stays the same all along a walk -/
structure WkB (m : MillD) (A M : Nat) : Prop where
  n8 : m.names.length ≤ 8
  r8 : m.recipes.length ≤ 8
  nl : NumLe m M
  ml : M < 1000000000000
  al : A < 1000000000000
theorem s_done {W G x dx gr p1 p2 p3 : Addr} {σ : L2.St} {F H : Hp} {D : Ends} {m : MillD} {s : Wk} {B A M i j k : Nat} {v1 v2 : V} {nm : Str} {a : Rat} {E : XK} (hi : σ[i]? = some (some (.ref x))) (hj : σ[j]? = some (some v1)) (hk : σ[k]? = some (some v2)) (fx : F x = none) (hx : H x = some (.ins W dx (wkF gr p1 p2 p3))) (e : Evl.Ex F H)
    (hw : WkAt K F G m gr p1 p2 p3 s) (hB : s.Bd B m.names.length) (wb : WkB m A M) (d1 : Dp K F v1 (.str nm)) (hnm : nm ∈ m.titles) (d2 : Dp K F v2 (encR a)) (hA : Sx A a) (hb : B + A * M + A * M < 1000000000000)
    (q : ∀ F' H' p1' p2' p3', GrG x F H F' H' → H p1' = none → p1' ≠ x → H' x = some (.ins W dx (wkF gr p1' p2' p3')) → WkAt K F' G m gr p1' p2' p3' (s.done a (m.col nm).1 (m.col nm).2) → D.nx σ H') : tDrop (tMeth W "done" (spDoneS K W G) [] E (tVar i) (tCons (tVar j) (tCons (tVar k) tNil))) D σ H :=
  ⟨_, hi, x, dx, _, rfl, hx, by rfl, _, hj, _, hk, F, x, dx, gr, p1, p2, p3, m, s, B, A, M, v1, v2, nm, a, rfl, e, fx, hx, hw, hB, wb.n8, wb.r8, wb.nl, d1, hnm, d2, hA, hb, wb.ml, wb.al, q⟩
def spOnce (K : PySem.W.Frag) (W G : Addr) : Sp := fun vs H Q _ => ∃ (F : Hp) (x dx gr p1 p2 p3 : Addr) (m : MillD) (s : Wk) (B A M : Nat) (v1 : V) (steps : List (Str × Rat)), vs = [.ref x, v1] ∧ Evl.Ex F H ∧ F x = none ∧ H x = some (.ins W dx (wkF gr p1 p2 p3)) ∧ WkAt K F G m gr p1 p2 p3 s ∧ s.Bd B m.names.length ∧ WkB m A M ∧
  Dp K F v1 (.list (steps.map encStep)) ∧ StepsOk m A steps ∧ B + steps.length * (A * M + A * M) < 1000000000000 ∧
  ∀ F' H' p1' p2' p3', GrG x F H F' H' → (p1' = p1 ∨ H p1' = none ∧ p1' ≠ x) → H' x = some (.ins W dx (wkF gr p1' p2' p3')) → WkAt K F' G m gr p1' p2' p3' (s.once m steps) → Q .non H'
theorem sc_Walk_once : FnScope (["self", "steps", "name", "amount"] : List Str) (["self", "steps"] : List Str) (defScope sWalkOnce) := ⟨rfl, rfl, rfl, by decide +kernel, rfl, by decide +kernel, by decide +kernel⟩
theorem ok_once {W G : Addr} (D : DefM K W "once" "Walk.once" sWalkOnce ["steps"]) (B : Bl mg) (WC : WalkC K W) (M_done : CalM P w K mg base W "done" ["name", "amount"] 5 (spDoneS K W G)) :
    CalM P w K mg base W "once" ["steps"] 6 (spOnce K W G) := by
  refine calM_mk D sc_Walk_once (fun vs H Q E h => ?_) (fun f cdv A outer s H vs Q E hr h => ?_)
  · obtain ⟨F, x, dx, gr, p1, p2, p3, m, s, B, A, M, v1, steps, rfl, _⟩ := h
    rfl
  obtain ⟨F, x, dx, gr, p1, p2, p3, m, s, Bb, Aa, Mm, v1, steps, rfl, e, fx, hx, hw, hB, wb, hv1, hst, hb, q⟩ := h
  refine ⟨_, (pss_one (ps_for PassesOwn.never rfl (pi_list (pv 1)) (pg_tup (by rfl) (pgs_cons (pg_name (i := 2) sc_Walk_once.nd rfl (.inl rfl)) (pgs_cons (pg_name (i := 3) sc_Walk_once.nd rfl (.inl rfl)) pgs_nil))) (pss_one (ps_expr (pe_methC M_done WC.cl hr (pv 0) (pa_cons (pv 2) (pa_cons (pv 3) pa_nil))))))), ?_⟩
  have st : start ["self", "steps", "name", "amount"] [V.ref x, v1] = [some (.ref x), some v1, none, none] := rfl
  rw [st]
  have hl := hst.l
  refine Dv.s_for (K := K) (it_list (σ := [some (.ref x), some v1, none, none]) (Dv.ev_var (i := 1) rfl hv1)) e
    (fun n σ' F' H' => ∃ (s2 s3 : Option V) (p1' p2' p3' : Addr), σ' = [some (.ref x), some v1, s2, s3] ∧ GrG x F H F' H' ∧ (p1' = p1 ∨ H p1' = none ∧ p1' ≠ x) ∧ H' x = some (.ins W dx (wkF gr p1' p2' p3')) ∧ WkAt K F' G m gr p1' p2' p3' (s.once m (steps.take n)))
    (fun F' H' g5 => ?_) ?_ (fun σ' F' H' e1 e2 pv => ?_)
  · have k := GrG.of g5 hx fx
    exact ⟨none, none, p1, p2, p3, rfl, k.1, .inl rfl, k.2, hw.mono k.1.fx⟩
  · rintro Fb eb n σ' F1 H1 u du F2 H2 hdu e1 e2 ⟨s2, s3, q1, q2, q3, rfl, gg, hq1, hx1, hw1⟩ g2 hu2
    obtain ⟨hn, hdn⟩ := List.getElem?_eq_some_iff.mp hdu
    rw [List.length_map] at hn
    rw [List.getElem_map] at hdn
    subst hdn
    obtain ⟨k2, hx2⟩ := GrG.of g2 hx1 gg.fg
    have hw2 := hw1.mono k2.fx
    obtain ⟨y1, y2, hy1, hy2, ht⟩ := tup2 hu2
    refine ht 2 3 _ H2 g2.fh _ ?_
    dsimp only
    have hmem := hst.t steps[n] (List.getElem_mem _)
    have b0 := once_bd wb.nl (A := Aa) (steps := steps.take n) hB fun z hz => hst.t z (List.mem_of_mem_take hz)
    rw [List.length_take, Nat.min_eq_left (by omega)] at b0
    have hbn : Bb + n * (Aa * Mm + Aa * Mm) + Aa * Mm + Aa * Mm < 1000000000000 := by
      have : (n + 1) * (Aa * Mm + Aa * Mm) ≤ steps.length * (Aa * Mm + Aa * Mm) := Nat.mul_le_mul_right _ (by omega)
      rw [Nat.add_mul, Nat.one_mul] at this
      omega
    refine s_done (i := 0) (j := 2) (k := 3) rfl rfl rfl k2.fg hx2 k2.fh hw2 b0 wb hy1 hmem.1 hy2 hmem.2 hbn fun F3 H3 r1 r2 r3 g3 hp hpx hx3 hw3 => ?_
    refine ⟨F3, e1.trans (k2.fx.trans g3.fx), g3.fh, some y1, some y2, r1, r2, r3, rfl, (gg.trans k2).trans g3, .inr ⟨?_, hpx⟩, hx3, by rw [once_take hn]; exact hw3⟩
    have := Gr.hx (gg.trans k2)
    cases z : H r1 with
    | none => rfl
    | some u =>
      have := this r1 u (by rw [er_ne hpx]; exact z)
      rw [er_ne hpx, hp] at this
      cases this
  · obtain ⟨s2, s3, q1, q2, q3, rfl, gg, hq1, hx1, hw1⟩ := pv
    rw [List.length_map, List.take_length] at hw1
    exact q F' H' q1 q2 q3 gg hq1 hx1 hw1
end
end R3

set_option Elab.async false
set_option linter.all false
set_option maxRecDepth 100000
set_option maxHeartbeats 4000000
namespace R3
open PySem PySem.Spec PyProof.Rows L2 Dv
open Qa (toF Sx)
def encBlock (z : Nat × List (Str × Rat)) : PyData := .tuple [.int z.1, .list (z.2.map encStep)]
def Wk.jump (s s1 : Wk) (k : Nat) : List Rat := (s.held.zip ((s1.held.zip s.held).map fun z => z.1 - z.2)).map fun z => z.1 + z.2 * (((k : Int) - 1 : Int) : Rat)
def Wk.led (m : MillD) (s : Wk) (b : Nat × List (Str × Rat)) : Wk :=
  let s1 := s.once m b.2
  if 1 < b.1 then Wk.once m ⟨s.jump s1 b.1, s1.least, s1.most⟩ b.2 else s1
def ledB (c B : Nat) (k : Nat) : Nat := B + (B + c + B) * k + c + c
theorem jump_bd {s s1 : Wk} {B c n k : Nat} (h : s.Bd B n) (h1 : s1.Bd (B + c) n) (hk : 1 ≤ k) : (∀ q ∈ s.jump s1 k, Sx (B + (B + c + B) * k) q) ∧ (s.jump s1 k).length = n := by
  unfold Wk.jump
  refine ⟨fun q hq => ?_, by rw [List.length_map, List.length_zip, List.length_map, List.length_zip, h.hn, h1.hn, Nat.min_self, Nat.min_self]⟩
  obtain ⟨z, hz, rfl⟩ := List.mem_map.mp hq
  have hz1 := List.of_mem_zip hz
  obtain ⟨y, hy, hyz⟩ := List.mem_map.mp hz1.2
  have hy1 := List.of_mem_zip hy
  have a1 : Sx (B + c + B) z.2 := hyz ▸ (h1.h _ hy1.1).sub (h.h _ hy1.2)
  exact (h.h _ hz1.1).add ((a1.mul _).mono (Nat.mul_le_mul_left _ (by omega)))
theorem led_bd {m : MillD} {s : Wk} {b : Nat × List (Str × Rat)} {B A M : Nat} (hM : NumLe m M) (h : s.Bd B m.names.length) (hs : ∀ st ∈ b.2, st.1 ∈ m.titles ∧ Sx A st.2) (h1 : 1 ≤ b.1) : (s.led m b).Bd (ledB (b.2.length * (A * M + A * M)) B b.1) m.names.length := by
  have b1 := once_bd hM h hs
  unfold Wk.led ledB
  dsimp only
  split
  · have j := jump_bd h b1 h1
    have b2 : Wk.Bd ⟨s.jump (s.once m b.2) b.1, (s.once m b.2).least, (s.once m b.2).most⟩ (B + (B + b.2.length * (A * M + A * M) + B) * b.1 + b.2.length * (A * M + A * M)) m.names.length :=
      b1.set (fun q hq => (j.1 q hq).mono (Nat.le_add_right _ _)) j.2 (by omega)
    exact once_bd hM b2 hs
  · exact b1.mono (by omega)
section
variable {P : Program} {w : World} {K : PySem.W.Frag} {mg : Str → Option Value} {base : Heap}
theorem s_once {W G x dx gr p1 p2 p3 : Addr} {σ : L2.St} {F H : Hp} {D : Ends} {m : MillD} {s : Wk} {B A M i j : Nat} {v1 : V} {steps : List (Str × Rat)} {E : XK} (hi : σ[i]? = some (some (.ref x))) (hj : σ[j]? = some (some v1)) (fx : F x = none) (hx : H x = some (.ins W dx (wkF gr p1 p2 p3))) (e : Evl.Ex F H)
    (hw : WkAt K F G m gr p1 p2 p3 s) (hB : s.Bd B m.names.length) (wb : WkB m A M) (d1 : Dp K F v1 (.list (steps.map encStep))) (hst : StepsOk m A steps) (hb : B + steps.length * (A * M + A * M) < 1000000000000)
    (q : ∀ F' H' p1' p2' p3', GrG x F H F' H' → (p1' = p1 ∨ H p1' = none ∧ p1' ≠ x) → H' x = some (.ins W dx (wkF gr p1' p2' p3')) → WkAt K F' G m gr p1' p2' p3' (s.once m steps) → D.nx σ H') : tDrop (tMeth W "once" (spOnce K W G) [] E (tVar i) (tCons (tVar j) tNil)) D σ H :=
  ⟨_, hi, x, dx, _, rfl, hx, by rfl, _, hj, F, x, dx, gr, p1, p2, p3, m, s, B, A, M, v1, steps, rfl, e, fx, hx, hw, hB, wb, d1, hst, hb, q⟩
theorem new_back {x p : Addr} {F H F' H' : Hp} (g : GrG x F H F' H') (hp : H' p = none) (hpx : p ≠ x) : H p = none := by
  cases z : H p with
  | none => rfl
  | some u =>
    have := Gr.hx g p u (by rw [er_ne hpx]; exact z)
    rw [er_ne hpx, hp] at this
    cases this
def spLedW (K : PySem.W.Frag) (W G : Addr) : Sp := fun vs H Q _ => ∃ (F : Hp) (x dx gr p1 p2 p3 : Addr) (m : MillD) (s : Wk) (B A M : Nat) (v1 : V) (b : Nat × List (Str × Rat)), vs = [.ref x, v1] ∧ Evl.Ex F H ∧ F x = none ∧ H x = some (.ins W dx (wkF gr p1 p2 p3)) ∧ WkAt K F G m gr p1 p2 p3 s ∧ s.Bd B m.names.length ∧ WkB m A M ∧
  Dp K F v1 (encBlock b) ∧ StepsOk m A b.2 ∧ 1 ≤ b.1 ∧ ledB (b.2.length * (A * M + A * M)) B b.1 < 1000000000000 ∧ b.1 < 1000000000000 ∧
  ∀ F' H' p1' p2' p3', GrG x F H F' H' → (p1' = p1 ∨ H p1' = none ∧ p1' ≠ x) → H' x = some (.ins W dx (wkF gr p1' p2' p3')) → WkAt K F' G m gr p1' p2' p3' (s.led m b) → Q .non H'
theorem sc_Walk_led : FnScope (["self", "block", "many", "steps", "ahead", "gains", "now", "then", "gain"] : List Str) (["self", "block"] : List Str) (defScope sWalkLed) := ⟨rfl, rfl, rfl, by decide +kernel, rfl, by decide +kernel, by decide +kernel⟩
theorem ok_walk_led {W G : Addr} (D : DefM K W "led" "Walk.led" sWalkLed ["block"]) (B : Bl mg) (WC : WalkC K W) (M_once : CalM P w K mg base W "once" ["steps"] 6 (spOnce K W G)) (C_plus : Cal P w K mg base "plus" ["one", "other"] 3 (spD K fPlus)) (C_minus : Cal P w K mg base "minus" ["one", "other"] 3 (spD K fMinus)) (C_scaled : Cal P w K mg base "scaled" ["one", "number"] 3 (spD K fScaled)) :
    CalM P w K mg base W "led" ["block"] 7 (spLedW K W G) := by
  refine calM_mk D sc_Walk_led (fun vs H Q E h => ?_) (fun f cdv A outer s H vs Q E hr h => ?_)
  · obtain ⟨F, x, dx, gr, p1, p2, p3, m, s, B, A, M, v1, b, rfl, _⟩ := h
    rfl
  obtain ⟨F, x, dx, gr, p1, p2, p3, m, s, Bb, Aa, Mm, v1, b, rfl, e, fx, hx, hw, hB, wb, hv1, hst, hb1, hbB, hbm, q⟩ := h
  refine ⟨_, (pss_cons (ps_asg (pv 1) (pg_tup (by rfl) (pgs_cons (pg_name (i := 2) sc_Walk_led.nd rfl (.inr rfl)) (pgs_cons (pg_name (i := 3) sc_Walk_led.nd rfl (.inl rfl)) pgs_nil))))
      (pss_cons (ps_set (i := 4) sc_Walk_led.nd rfl (.inl rfl) (pe_fld (pv 0) rfl))
      (pss_cons (ps_expr (pe_methC M_once WC.cl hr (pv 0) (pa_cons (pv 3) pa_nil)))
      (pss_one (ps_if (pt_cmpR op_gt (pv 2) pe_int (nomark _)) (pss_cons (ps_setLc (i := 5) (own := [("now", 6), ("then", 7)]) (g := gTup K 2 (gCons (gName 6) (gCons (gName 7) gNil))) rfl sc_Walk_led.nd rfl rfl rfl (pi_zipS (by rfl) B.zip (pa_cons (pe_fld (pv 0) rfl) (pa_cons (pv 4) pa_nil))) (blkOk_by (own := [("now", 6), ("then", 7)]) (N := ["self", "block", "many", "steps", "ahead", "gains", "now", "then", "gain"]) (sc := defScope sWalkLed) (by decide +kernel)) (fun _ _ _ _ _ => (pg_tup (by rfl) (pgs_cons (pg_name (i := 6) sc_Walk_led.nd rfl (.inl rfl)) (pgs_cons (pg_name (i := 7) sc_Walk_led.nd rfl (.inl rfl)) pgs_nil))))  (fun _ _ _ _ _ => pts_nil) (fun _ _ _ _ _ => (pe_callC C_minus hr (pa_cons (pv 6) (pa_cons (pv 7) pa_nil)))))
      (pss_cons (ps_fld (pv 0) (pe_lc (own := [("then", 7), ("gain", 8)]) (g := gTup K 2 (gCons (gName 7) (gCons (gName 8) gNil))) rfl sc_Walk_led.nd (pi_zipS (by rfl) B.zip (pa_cons (pv 4) (pa_cons (pv 5) pa_nil))) (blkOk_by (own := [("then", 7), ("gain", 8)]) (N := ["self", "block", "many", "steps", "ahead", "gains", "now", "then", "gain"]) (sc := defScope sWalkLed) (by decide +kernel)) (fun _ _ _ _ _ => (pg_tup (by rfl) (pgs_cons (pg_name (i := 7) sc_Walk_led.nd rfl (.inl rfl)) (pgs_cons (pg_name (i := 8) sc_Walk_led.nd rfl (.inl rfl)) pgs_nil))))  (fun _ _ _ _ _ => pts_nil) (fun _ _ _ _ _ => (pe_callC C_plus hr (pa_cons (pv 7) (pa_cons (pe_callC C_scaled hr (pa_cons (pv 8) (pa_cons (pe_op op_sub (pv 2) pe_int) pa_nil))) pa_nil))))) rfl)
      (pss_one (ps_expr (pe_methC M_once WC.cl hr (pv 0) (pa_cons (pv 3) pa_nil)))))) pss_nil))))), ?_⟩
  have st : start ["self", "block", "many", "steps", "ahead", "gains", "now", "then", "gain"] [V.ref x, v1] = [some (.ref x), some v1, none, none, none, none, none, none, none] := rfl
  rw [st]
  obtain ⟨many, steps⟩ := b
  dsimp only at hst hb1 hbB hbm
  obtain ⟨y1, y2, hy1, hy2, ht⟩ := tup2 hv1
  cases hy1
  refine seq_of ⟨_, rfl, ht 2 3 _ H e _ ?_⟩
  dsimp only
  have hwx := hw.mono (F1 := upd F x (.ins W dx (wkF gr p1 p2 p3))) (ex_upd_of fx)
  obtain ⟨hvs, hh1, hh2⟩ := hwx.h
  have hhx : Dp K (upd F x (.ins W dx (wkF gr p1 p2 p3))) (.ref p1) (.list (s.held.map encR)) := .lst (SqL.of hh1) hh2
  refine seq_of (asg_of (ex_insn (ev_fld (i := 0) (d := .list (s.held.map encR)) rfl upd_same WC.cl WC.held wk2 hhx) fx hx e _ fun av F1 H1 g1 hx1 hav => ?_))
  dsimp only
  show tSeq _ _ _ [some (.ref x), some v1, some (.int many), some y2, some av, none, none, none, none] H1
  have hbc : Bb + steps.length * (Aa * Mm + Aa * Mm) < 1000000000000 := by
    unfold ledB at hbB
    omega
  refine seq_of (s_once (i := 0) (j := 3) rfl rfl g1.fg hx1 g1.fh (hw.mono g1.fx) hB wb (dp_ex g1.fx hy2) hst hbc fun F2 H2 q1 q2 q3 g2 hq1 hx2 hw2 => ?_)
  dsimp only
  show tIfS _ _ _ _ [some (.ref x), some v1, some (.int many), some y2, some av, none, none, none, none] H2
  have g12 := g1.trans g2
  have hq1' : q1 = p1 ∨ H q1 = none ∧ q1 ≠ x := hq1.imp id fun h => ⟨new_back g1 h.1 h.2, h.2⟩
  have b1 := once_bd wb.nl hB hst.t
  by_cases h1 : 1 < many
  · refine s_ifT (et_v (K := K) (Dv.ev_I0 (fun _ => .bl _) (Dv.ev_var (i := 2) rfl (.int (many : Int))) (Dv.ev_int 1)) (by rw [decide_eq_true (by omega)])) g2.fh fun F3 H3 g3 => ?_
    obtain ⟨k3, hx3⟩ := GrG.of g3 hx2 g2.fg
    have g13 := g12.trans k3
    have hw3 := hw2.mono k3.fx
    have ex3 : Evl.Ex F3 (upd F3 x (.ins W dx (wkF gr q1 q2 q3))) := ex_upd_of k3.fg
    have hwx3 := hw3.mono ex3
    obtain ⟨hvs3, hh31, hh32⟩ := hwx3.h
    have hhx3 : Dp K (upd F3 x (.ins W dx (wkF gr q1 q2 q3))) (.ref q1) (.list ((s.once m steps).held.map encR)) := .lst (SqL.of hh31) hh32
    have av3 := dp_ex ((g2.fx.trans k3.fx).trans ex3) hav
    have lc := el_pair (K := K) (σ := [some (.ref x), some v1, some (.int many), some y2, some av, none, none, none, none]) (F := upd F3 x (.ins W dx (wkF gr q1 q2 q3))) (te := tCall (spD K fMinus) [] E0 (tCons (tVar 6) (tCons (tVar 7) tNil))) (f := fun a b => a - b) (i := 6) (j := 7) (xs := (s.once m steps).held) (ys := s.held)
      (Dv.ea_cons (ev_fld (i := 0) rfl upd_same WC.cl WC.held wk2 hhx3) (Dv.ea_cons (Dv.ev_var (i := 4) rfl av3) Dv.ea_nil)) (by rw [b1.hn, hB.hn]) (by rw [b1.hn]; exact wb.n8)
      (fun a b ha hb F1 u v e1 hu hv => ev_minus (B := Bb + steps.length * (Aa * Mm + Aa * Mm)) (C := Bb) (Dv.ev_var (i := 6) rfl hu) (Dv.ev_var (i := 7) rfl hv) (b1.h a ha) (hB.h b hb)) (fun u v => rfl)
    refine seq_of (asg_of (ex_insn (EvL.ev lc) k3.fg hx3 k3.fh _ fun gv F4 H4 g4 hx4 hgv => ?_))
    dsimp only
    show tSeq _ _ _ [some (.ref x), some v1, some (.int many), some y2, some av, some gv, none, none, none] H4
    have g14 := g13.trans g4
    have hw4 := hw3.mono g4.fx
    have ex4 : Evl.Ex F4 (upd F4 x (.ins W dx (wkF gr q1 q2 q3))) := ex_upd_of g4.fg
    have av4 := dp_ex (((g2.fx.trans k3.fx).trans g4.fx).trans ex4) hav
    have gv4 := dp_ex ex4 hgv
    have lz : ((s.once m steps).held.zip s.held).length = m.names.length := by rw [List.length_zip, b1.hn, hB.hn, Nat.min_self]
    have lc2 := el_pair (K := K) (σ := [some (.ref x), some v1, some (.int many), some y2, some av, some gv, none, none, none]) (F := upd F4 x (.ins W dx (wkF gr q1 q2 q3))) (te := tCall (spD K fPlus) [] E0 (tCons (tVar 7) (tCons (tCall (spD K fScaled) [] E0 (tCons (tVar 8) (tCons (tOp (rI0 fun i j => V.int (i - j)) (tVar 2) (tC (.int 1))) tNil))) tNil)))
      (f := fun a b => a + b * (((many : Int) - 1 : Int) : Rat)) (i := 7) (j := 8) (xs := s.held) (ys := ((s.once m steps).held.zip s.held).map fun z => z.1 - z.2)
      (Dv.ea_cons (Dv.ev_var (i := 4) rfl av4) (Dv.ea_cons (Dv.ev_var (i := 5) rfl gv4) Dv.ea_nil)) (by rw [List.length_map, lz, hB.hn]) (by rw [hB.hn]; exact wb.n8)
      (fun a b ha hb' F1 u v e1 hu hv => by
        obtain ⟨y, hy, hyz⟩ := List.mem_map.mp hb'
        have hy1 := List.of_mem_zip hy
        have a1 : Sx (Bb + steps.length * (Aa * Mm + Aa * Mm) + Bb) b := hyz ▸ (b1.h _ hy1.1).sub (hB.h _ hy1.2)
        have a2 : Sx ((Bb + steps.length * (Aa * Mm + Aa * Mm) + Bb) * many) (b * (((many : Int) - 1 : Int) : Rat)) := (a1.mul _).mono (Nat.mul_le_mul_left _ (by omega))
        unfold ledB at hbB
        have hsm : Bb + steps.length * (Aa * Mm + Aa * Mm) + Bb ≤ (Bb + steps.length * (Aa * Mm + Aa * Mm) + Bb) * many := Nat.le_mul_of_pos_right _ (by omega)
        exact ev_plus (Dv.ev_var (i := 7) rfl hu) (ev_scaled (Dv.ev_var (i := 8) rfl hv) (Dv.ev_I0 (fun _ => .int _) (Dv.ev_var (i := 2) rfl (.int (many : Int))) (Dv.ev_int 1)) a1 (by omega)) (hB.h a ha) a2) (fun u v => rfl)
    refine seq_of (s_fldX (f := "held") lc2 g4.fg hx4 g4.fh rfl WC.cl WC.held (show 4 < 1000 by decide) fun p vs F5 H5 g5 hp0 hpx hp hds hx5 => ?_)
    rw [wkp2] at hx5
    dsimp only
    have jb := jump_bd hB b1 hb1
    have b2 : Wk.Bd ⟨s.jump (s.once m steps) many, (s.once m steps).least, (s.once m steps).most⟩ (Bb + (Bb + steps.length * (Aa * Mm + Aa * Mm) + Bb) * many + steps.length * (Aa * Mm + Aa * Mm)) m.names.length :=
      b1.set (fun q hq => (jb.1 q hq).mono (Nat.le_add_right _ _)) jb.2 (by omega)
    have hw5 : WkAt K F5 G m gr p q2 q3 ⟨s.jump (s.once m steps) many, (s.once m steps).least, (s.once m steps).most⟩ := ⟨(hw4.mono g5.fx).g, ⟨vs, hp, hds⟩, (hw4.mono g5.fx).l, (hw4.mono g5.fx).u⟩
    have g15 := g14.trans g5
    refine s_once (i := 0) (j := 3) rfl rfl g5.fg hx5 g5.fh hw5 b2 wb (dp_ex g15.fx hy2) hst hbB fun F6 H6 r1 r2 r3 g6 hr1 hx6 hw6 => ?_
    refine q F6 H6 r1 r2 r3 (g15.trans g6) ?_ hx6 (by
      unfold Wk.led
      dsimp only
      rw [if_pos h1]
      exact hw6)
    rcases hr1 with rfl | ⟨h2, h3⟩
    · exact .inr ⟨new_back g14 hp0 hpx, hpx⟩
    · exact .inr ⟨new_back g15 h2 h3, h3⟩
  · refine s_ifF (et_v (K := K) (Dv.ev_I0 (fun _ => .bl _) (Dv.ev_var (i := 2) rfl (.int (many : Int))) (Dv.ev_int 1)) (by rw [decide_eq_false (by omega)])) g2.fh fun F3 H3 g3 => ?_
    obtain ⟨k3, hx3⟩ := GrG.of g3 hx2 g2.fg
    exact q F3 H3 q1 q2 q3 (g12.trans k3) hq1' hx3 (by
      unfold Wk.led
      dsimp only
      rw [if_neg h1]
      exact hw2.mono k3.fx)
end
end R3

set_option Elab.async false
set_option linter.all false
set_option maxRecDepth 100000
set_option maxHeartbeats 4000000
namespace R3
open PySem PySem.Spec PyProof.Rows L2 Dv
open Qa (toF Sx neg_rat)
def Wk.fits (m : MillD) (s : Wk) : Bool := (s.least.all fun q => !decide (q < 0)) && ((m.stuffs.zip s.most).all fun z => roomOk z.1.2 z.2)
theorem shaped_Rs (qs : List Rat) : SeqAt.shaped (.list (qs.map encR)) = true := by
  rw [shaped_list]
  refine ⟨fun d hd => ?_, fun d hd => ?_⟩
  · obtain ⟨q, _, rfl⟩ := List.mem_map.mp hd
    simp [encR, encF, PyData.canLay0, PyData.canLayAll0]
  · obtain ⟨q, _, rfl⟩ := List.mem_map.mp hd
    simp [encR, encF, PyData.depth, PyData.depthAll]
theorem filter_some {α : Type} (f : α → Bool) (xs : List α) : (!(xs.filter f).isEmpty) = xs.any f := by
  induction xs with
  | nil => rfl
  | cons x xs ih =>
    rw [List.filter_cons, List.any_cons]
    cases h : f x with
    | true => rfl
    | false => simpa using ih
section
variable {P : Program} {w : World} {K : PySem.W.Frag} {mg : Str → Option Value} {base : Heap}
def RoomBd (m : MillD) : Prop := ∀ z ∈ m.stuffs, ∀ r, z.2 = some r → 0 ≤ r ∧ r ≤ 1000000
def spFits (K : PySem.W.Frag) (W G : Addr) : Sp := fun vs H Q _ => ∃ (F : Hp) (x dx gr p1 p2 p3 : Addr) (m : MillD) (s : Wk) (B : Nat), vs = [.ref x] ∧ Evl.Ex F H ∧ F x = none ∧ H x = some (.ins W dx (wkF gr p1 p2 p3)) ∧ WkAt K F G m gr p1 p2 p3 s ∧ s.Bd B m.stuffs.length ∧ m.stuffs.length ≤ 8 ∧ RoomBd m ∧ B < 1000000000000 ∧
  ∀ F' H', GrG x F H F' H' → H' x = some (.ins W dx (wkF gr p1 p2 p3)) → Q (.bl (s.fits m)) H'
theorem sc_Walk_fits : FnScope (["self", "held", "room"] : List Str) (["self"] : List Str) (defScope sWalkFits) := ⟨rfl, rfl, rfl, by decide +kernel, rfl, by decide +kernel, by decide +kernel⟩
theorem ok_fits {W G : Addr} (D : DefM K W "fits" "Walk.fits" sWalkFits []) (B : Bl mg) (WC : WalkC K W) (GC : GroundC K G) (C_below : Cal P w K mg base "below" ["one", "other"] 1 (spD K fBelow)) :
    CalM P w K mg base W "fits" [] 2 (spFits K W G) := by
  refine calM_mk D sc_Walk_fits (fun vs H Q E h => ?_) (fun f cdv A outer s H vs Q E hr h => ?_)
  · obtain ⟨F, x, dx, gr, p1, p2, p3, m, s, B, rfl, _⟩ := h
    rfl
  obtain ⟨F, x, dx, gr, p1, p2, p3, m, s, Bb, rfl, e, fx, hx, hw, hB, hn8, hrb, hBb, q⟩ := h
  refine ⟨_, (pss_cons (ps_if (pt_cmpR (op_neD hr.1.units) (pe_lc (own := [("held", 1)]) (g := gName 1) rfl sc_Walk_fits.nd (pi_list (pe_fld (pv 0) rfl)) (blkOk_by (own := [("held", 1)]) (N := ["self", "held", "room"]) (sc := defScope sWalkFits) (by decide +kernel)) (fun _ _ _ _ _ => (pg_name (i := 1) sc_Walk_fits.nd rfl (.inl rfl)))  (fun _ _ _ _ _ => (pts_one (pt_cmpR op_lt (pe_ix (r := rIxT K) ix_tup (pv 1) pe_int (fun _ _ => rfl)) pe_int (nomark _)))) (fun _ _ _ _ _ => (pv 1))) (pe_lst pa_nil) (nomark _)) (pss_one (ps_ret pe_bl)) pss_nil)
      (pss_cons (ps_for PassesOwn.never rfl (pi_zipS (by rfl) B.zip (pa_cons (pe_fld (pv 0) rfl) (pa_cons (pe_fld (pe_fld (pv 0) rfl) rfl) pa_nil))) (pg_tup (by rfl) (pgs_cons (pg_name (i := 1) sc_Walk_fits.nd rfl (.inl rfl)) (pgs_cons (pg_name (i := 2) sc_Walk_fits.nd rfl (.inl rfl)) pgs_nil))) (pss_one (ps_if (PW.pt (pw_and (pt_cmpR op_notN (pv 2) pe_non (nomark _)) (pw_and1 (pt_val (pe_callC C_below hr (pa_cons (pe_tup (pa_cons (pv 2) (pa_cons pe_int pa_nil))) (pa_cons (pv 1) pa_nil))))))) (pss_one (ps_ret pe_bl)) pss_nil)))
      (pss_one (ps_ret pe_bl)))), ?_⟩
  have st : start ["self", "held", "room"] [V.ref x] = [some (.ref x), none, none] := rfl
  rw [st]
  have eX := ex_enter e hx
  have q' : ∀ F' H', Gr (upd F x (.ins W dx (wkF gr p1 p2 p3))) H F' H' → Q (.bl (s.fits m)) H' := fun F' H' g => by
    obtain ⟨g1, g2, g3⟩ := Gr.exit fx hx g
    exact q _ H' g1 g2
  have hwx := hw.mono (F1 := upd F x (.ins W dx (wkF gr p1 p2 p3))) (ex_upd_of fx)
  have hxx : upd F x (.ins W dx (wkF gr p1 p2 p3)) x = some (.ins W dx (wkF gr p1 p2 p3)) := upd_same
  generalize upd F x (.ins W dx (wkF gr p1 p2 p3)) = FX at *
  have lc := lc_rule (K := K) (F := FX) (te := tVar 1) (vs := [1]) (tt := tTest (tOp (rI0 fun i j => V.bl (decide (i < j))) (tOp (rIxT K) (tVar 1) (tC (.int 0))) (tC (.int 0)))) (g := gName 1) (σ := [some (.ref x), none, none]) s.least encR encR (fun q => decide (q < 0))
    (it_list (ev_fld (i := 0) rfl hxx WC.cl WC.least wk3 hwx.l)) (by rw [hB.ln]; omega) fun h hh v F1 e1 hv => ⟨[some (.ref x), some v, none], fun H e Q q => q, rfl, et_v (Dv.ev_I0 (fun _ => .bl _) (Dv.ev_ixT (d := .int h.num) (Dv.ev_var (i := 1) rfl hv) (Dv.ev_int 0) rfl) (Dv.ev_int 0)) (congrArg PyData.bool (neg_rat h)), fun _ => Dv.ev_var (i := 1) rfl hv⟩
  have tt := ev_neD (EvL.ev lc) (EvL.ev (Dv.el_lst (K := K) (σ := [some (.ref x), none, none]) (F := FX) Dv.ea_nil (by simp))) (shaped_Rs _) shaped_nil
  rw [eqv_nil, show ((s.least.filter fun q => decide (q < 0)).map encR).isEmpty = (s.least.filter fun q => decide (q < 0)).isEmpty from by
    rw [Bool.eq_iff_iff, List.isEmpty_iff, List.isEmpty_iff, List.map_eq_nil_iff], filter_some] at tt
  by_cases hneg : (s.least.any fun q => decide (q < 0)) = true
  · refine seq_of (s_ifT (et_v tt (by rw [hneg])) eX fun F1 H1 g1 => ?_)
    have e0 : s.fits m = false := by
      unfold Wk.fits
      have : (s.least.all fun q => !decide (q < 0)) = false := by
        rw [List.all_eq_not_any_not]
        simpa using hneg
      rw [this]
      rfl
    have := q' F1 H1 g1
    rw [e0] at this
    exact this
  · have hneg' := eq_false_of_ne_true hneg
    have e1 : s.fits m = (m.stuffs.zip s.most).all fun z => roomOk z.1.2 z.2 := by
      unfold Wk.fits
      have : (s.least.all fun q => !decide (q < 0)) = true := by
        rw [List.all_eq_not_any_not]
        simpa using hneg'
      rw [this, Bool.true_and]
    rw [e1] at q'
    refine seq_of (s_ifF (et_v tt (by rw [hneg'])) eX fun F1 H1 g1 => ?_)
    unfold tNext
    dsimp only
    have hw1 := hwx.mono g1.fx
    have hx1 := g1.fx _ _ hxx
    have fl := gr_flds (K := K) (σ := [some (.ref x), none, none]) (te := tFld K (tVar 0) "ground") GC (fld_ref (i := 0) rfl hx1 WC.cl WC.ground wk1) hw1.g
    refine seq_of (Dv.s_for (K := K) (it_is (it_zipS (σ := [some (.ref x), none, none]) (Dv.ea_cons (ev_fld (i := 0) rfl hx1 WC.cl WC.most wk4 hw1.u) (Dv.ea_cons fl.1 Dv.ea_nil)) (by rw [List.length_map, List.length_map, hB.un])) (show _ = (m.stuffs.zip s.most).map fun z => PyData.tuple [encR z.2, encRoom z.1.2] from ?_)) g1.fh
      (fun n σ' F' H' => (∃ (s2 s3 : Option V), σ' = [some (.ref x), s2, s3]) ∧ Gr FX H F' H' ∧ ∀ z ∈ (m.stuffs.zip s.most).take n, roomOk z.1.2 z.2 = true) (fun F8 H8 g8 => ⟨⟨none, none, rfl⟩, g1.trans g8, by simp⟩) ?_ (fun σ' F8 H8 e8 e9 p8 => ?_))
    · rw [List.zip_map, List.map_map]
      apply List.ext_getElem
      · simp [hB.un]
      · intro i h1 h2
        simp
    · rintro Fb eb n σ' F2 H2 u du F3 H3 hdu e2 e3 ⟨⟨s2, s3, rfl⟩, gg, hok⟩ g3 hu3
      obtain ⟨hn, hdn⟩ := List.getElem?_eq_some_iff.mp hdu
      rw [List.length_map] at hn
      rw [List.getElem_map] at hdn
      have hmem : (m.stuffs.zip s.most)[n] ∈ m.stuffs.zip s.most := List.getElem_mem _
      have htk : (m.stuffs.zip s.most).take (n + 1) = (m.stuffs.zip s.most).take n ++ [(m.stuffs.zip s.most)[n]] := List.take_succ_eq_append_getElem hn
      generalize (m.stuffs.zip s.most)[n] = z at *
      subst hdn
      obtain ⟨y1, y2, hy1, hy2, ht⟩ := tup2 hu3
      refine ht 1 2 _ H3 g3.fh _ ?_
      dsimp only
      have mh := (List.of_mem_zip hmem).2
      have ms := (List.of_mem_zip hmem).1
      have tst : EtD (tAnd (tTest (tOp rNotN (tVar 2) (tC .non))) (tTest (tCall (spD K fBelow) [] E0 (tCons (tTup (tCons (tVar 2) (tCons (tC (.int 1)) tNil))) (tCons (tVar 1) tNil))))) [some (.ref x), some y1, some y2] F3 (!roomOk z.1.2 z.2) := by
        obtain ⟨⟨nm, r⟩, h⟩ := z
        cases r with
        | none => exact et_andF (et_v (ev_notNR (Dv.ev_var (i := 2) rfl hy2)) rfl)
        | some k =>
          have hk := hrb _ ms k rfl
          refine et_is (et_andT (et_v (ev_notNR (Dv.ev_var (i := 2) rfl hy2)) rfl) (et_test (ev_below (a := (k : Rat)) (b := h) (Dv.ev_tup (Dv.ea_cons (Dv.ev_var (i := 2) rfl hy2) (Dv.ea_cons (Dv.ev_int 1) Dv.ea_nil)) (by simp)) (Dv.ev_var (i := 1) rfl hy1) (Sx.mono (Sx.int k) (show 60 * k.natAbs ≤ 60000000 by omega)) (hB.u _ mh)))) ?_
          show _ = !(!decide ((k : Rat) < h))
          rw [Bool.not_not]
      by_cases hr1 : roomOk z.1.2 z.2 = true
      · refine s_ifF (et_is tst (by rw [hr1] <;> rfl)) g3.fh fun F4 H4 g4 => ?_
        refine ⟨F4, e2.trans (g3.fx.trans g4.fx), g4.fh, ⟨_, _, rfl⟩, (gg.trans g3).trans g4, fun y hy => ?_⟩
        rw [htk] at hy
        rcases List.mem_append.mp hy with h | h
        · exact hok y h
        · rw [List.mem_singleton.mp h]; exact hr1
      · refine s_ifT (et_is tst (by rw [eq_false_of_ne_true hr1] <;> rfl)) g3.fh fun F4 H4 g4 => ?_
        have e0 : ((m.stuffs.zip s.most).all fun z => roomOk z.1.2 z.2) = false := by
          rw [List.all_eq_false]
          exact ⟨z, hmem, hr1⟩
        have := q' F4 H4 ((gg.trans g3).trans g4)
        rw [e0] at this
        exact this
    · obtain ⟨⟨s2, s3, rfl⟩, gg, hok⟩ := p8
      rw [List.length_map, List.take_length] at hok
      have e0 : ((m.stuffs.zip s.most).all fun z => roomOk z.1.2 z.2) = true := List.all_eq_true.mpr hok
      dsimp only
      refine Dv.s_ret (K := K) (Dv.ev_bl true) gg.fh fun y F9 H9 g9 hy => ?_
      cases hy
      have := q' F9 H9 (gg.trans g9)
      rw [e0] at this
      exact this
end
end R3

set_option Elab.async false
set_option linter.all false
set_option maxRecDepth 100000
set_option maxHeartbeats 4000000
namespace R3
open PySem PySem.Spec PyProof.Rows L2 Dv
open Qa (toF Sx)
section
variable {P : Program} {w : World} {K : PySem.W.Frag} {mg : Str → Option Value} {base : Heap}
/-- as it is before the first field -/
def spWalkInit (K : PySem.W.Frag) (C G W : Addr) : Sp := fun vs H Q _ => ∃ (F : Hp) (x dx ml : Addr) (v : V) (m : MillD) (hs : List Rat), vs = [.ref x, .ref ml, v] ∧ Evl.Ex F H ∧ F x = none ∧ H x = some (.ins W dx []) ∧ MillAt K F C ml m ∧ m.Ok ∧ Dp K F v (.list (hs.map encR)) ∧ hs.length ≤ 8 ∧
  ∀ F' H' gr p1 p2 p3, GrG x F H F' H' → H p1 = none → p1 ≠ x → H' x = some (.ins W dx (wkF gr p1 p2 p3)) → WkAt K F' G m gr p1 p2 p3 ⟨hs, hs, hs⟩ → Q .non H'
theorem sc_Walk___init__ : FnScope (["self", "mill", "have"] : List Str) (["self", "mill", "have"] : List Str) (defScope sWalkInit) := ⟨rfl, rfl, rfl, by decide +kernel, rfl, by decide +kernel, by decide +kernel⟩
theorem ok_walk_init {f : Addr} {fd : FuncData} {C G W : Addr} (D : Fun K "__init__" "Walk.__init__" sWalkInit f fd) (B : Bl mg) (WC : WalkC K W) (M_Ground : Mak P w K mg base "Ground" G ["mill"] 2 (spGround K C G)) :
    FnOkG P w K mg base CX0 4 f fd ["self", "mill", "have"] (spWalkInit K C G W) := by
  refine D.okG sc_Walk___init__ (fun vs H Q E h => ?_) (fun cdv A outer s H vs Q E hr h => ?_)
  · obtain ⟨F, x, dx, ml, v, m, hs, rfl, _⟩ := h
    rfl
  obtain ⟨F, x, dx, ml, v, m, hs, rfl, e, fx, hx, hm, ok, hv, h8, q⟩ := h
  refine ⟨_, (pss_cons (ps_fld (pv 0) (pe_makC M_Ground hr (pa_cons (pv 1) pa_nil)) rfl)
      (pss_cons (ps_fld (pv 0) (pe_callTy call_list_of (by rfl) B.list (by decide +kernel) (pa_cons (pv 2) pa_nil)) rfl)
      (pss_cons (ps_fld (pv 0) (pe_callTy call_list_of (by rfl) B.list (by decide +kernel) (pa_cons (pv 2) pa_nil)) rfl)
      (pss_one (ps_fld (pv 0) (pe_callTy call_list_of (by rfl) B.list (by decide +kernel) (pa_cons (pv 2) pa_nil)) rfl))))), ?_⟩
  have st : start ["self", "mill", "have"] [V.ref x, V.ref ml, v] = [some (.ref x), some (.ref ml), some v] := rfl
  rw [st]
  refine seq_of (ev_ground (i := 1) rfl hm ok H e _ fun gr F1 H1 g1 hg => ?_)
  obtain ⟨k1, hx1⟩ := GrG.of g1 hx fx
  refine ⟨_, rfl, x, W, dx, [], rfl, hx1, WC.cl, WC.ground, (show 0 < 1000 by decide), ?_⟩
  dsimp only
  have k1' := k1.draw (o := .ins W dx [("ground", .ref gr)])
  show tSeq _ _ _ _ (upd H1 x (.ins W dx [("ground", .ref gr)]))
  have hxn : upd H1 x (.ins W dx [("ground", .ref gr)]) x = some (.ins W dx [("ground", .ref gr)]) := upd_same
  generalize upd H1 x (.ins W dx [("ground", .ref gr)]) = H2 at *
  have lst : ∀ (F : Hp) (o : HO), F x = none → Dp K F v (.list (hs.map encR)) → EvL K (tCB (fun xs H Q => ∃ p ys, xs = [.ref p] ∧ (SqL K H p ys ∨ SqT K H p ys) ∧ ∀ l, H l = none → Q (.ref l) (upd H l (.lst ys))) (tCons (tVar 2) tNil)) [some (.ref x), some (.ref ml), some v] (upd F x o) (hs.map encR) :=
    fun F o fx hd => el_list (Dv.ev_var (i := 2) rfl (dp_ex (ex_upd_of fx) hd)) (.inl rfl)
  refine seq_of (s_fldX (f := "held") (lst F1 _ k1'.fg (dp_ex k1'.fx hv)) k1'.fg hxn k1'.fh rfl WC.cl WC.held (show 1 < 1000 by decide) fun p1 vs1 F3 H3 g3 hp1 hpx1 hq1 hd1 hx3 => ?_)
  rw [show putF "held" (.ref p1) [(("ground" : Str), V.ref gr)] = [(("ground" : Str), V.ref gr), (("held" : Str), .ref p1)] from rfl] at hx3
  dsimp only
  have k3 := k1'.trans g3
  refine seq_of (s_fldX (f := "least") (lst F3 _ k3.fg (dp_ex k3.fx hv)) k3.fg hx3 k3.fh rfl WC.cl WC.least (show 2 < 1000 by decide) fun p2 vs2 F4 H4 g4 hp2 hpx2 hq2 hd2 hx4 => ?_)
  rw [show putF "least" (.ref p2) [(("ground" : Str), V.ref gr), (("held" : Str), .ref p1)] = [(("ground" : Str), V.ref gr), (("held" : Str), .ref p1), (("least" : Str), .ref p2)] from rfl] at hx4
  dsimp only
  have k4 := k3.trans g4
  refine s_fldX (f := "most") (lst F4 _ k4.fg (dp_ex k4.fx hv)) k4.fg hx4 k4.fh rfl WC.cl WC.most (show 3 < 1000 by decide) fun p3 vs3 F5 H5 g5 hp3 hpx3 hq3 hd3 hx5 => ?_
  rw [show putF "most" (.ref p3) [(("ground" : Str), V.ref gr), (("held" : Str), .ref p1), (("least" : Str), .ref p2)] = wkF gr p1 p2 p3 from rfl] at hx5
  have k5 := k4.trans g5
  exact q F5 H5 gr p1 p2 p3 k5 (new_back k1' hp1 hpx1) hpx1 hx5 ⟨hg.mono ((g3.fx.trans g4.fx).trans g5.fx), ⟨vs1, (g4.fx.trans g5.fx) _ _ hq1, dps_ex (g4.fx.trans g5.fx) hd1⟩, .lst (SqL.of (g5.fx _ _ hq2)) (dps_ex g5.fx hd2), .lst (SqL.of hq3) hd3⟩
end
end R3

set_option Elab.async false
set_option linter.all false
set_option maxRecDepth 100000
set_option maxHeartbeats 4000000
namespace R3
open PySem PySem.Spec PyProof.Rows L2 Dv
open Qa (toF Sx)
abbrev BlkD := Nat × List (Str × Rat)
def encRow (bs : List BlkD) : PyData := .list (bs.map encBlock)
structure RowOk (m : MillD) (A : Nat) (bs : List BlkD) : Prop where
  st : ∀ b ∈ bs, StepsOk m A b.2 ∧ b.2 ≠ [] ∧ 1 ≤ b.1 ∧ b.1 < 1000000000000 ∧ ∀ st ∈ b.2, 0 < st.2
  len : bs.length ≤ 30000
theorem title_name {m : MillD} (ok : m.Ok) {x : Str} (h : x ∈ m.titles) : nameS x = true ∧ gd (.str x) = true := by
  unfold MillD.titles at h
  obtain ⟨r, hr, rfl⟩ := List.mem_map.mp h
  obtain ⟨h1, h2⟩ := ok.rs r hr
  have h3 : (isName (.str r.1) && areParts m.names _ && areParts m.names _) = true := h2
  rw [Bool.and_eq_true, Bool.and_eq_true] at h3
  exact ⟨h3.1.1, gds_mem (gd_tup h1).2 (by simp)⟩
theorem gds_iff : ∀ {xs : List PyData}, gds xs = true ↔ ∀ x ∈ xs, gd x = true
  | [] => by simp [gds]
  | x :: xs => by simp [gds, gds_iff (xs := xs)]
theorem gd_encR (q : Rat) : gd (encR q) = true := by simp [encR, encF, gd, gds]
theorem isStep_enc {m : MillD} (ok : m.Ok) {z : Str × Rat} (h : z.1 ∈ m.titles) (p : 0 < z.2) : isStep (m.recipes.map (·.1)) (encStep z) = true := by
  show (nameS z.1 && decide (z.1 ∈ m.recipes.map (·.1)) && isAmt (encR z.2) && !PyData.eqv (encR z.2) (.tuple [.int 0, .int 1])) = true
  rw [(title_name ok h).1, decide_eq_true (show z.1 ∈ m.recipes.map (·.1) from h), isAmt_R (Rat.le_of_lt p)]
  have : PyData.eqv (encR z.2) (.tuple [.int 0, .int 1]) = false := by
    have hn : z.2.num ≠ 0 := fun e => by
      have := Rat.num_eq_zero.mp e
      rw [this] at p
      exact absurd p (by decide)
    simp [encR, encF, Qa.toF, PyData.eqv, PyData.eqvAll, hn]
  rw [this]
  rfl
theorem row_blocks {m : MillD} {A : Nat} {bs : List BlkD} (ok : m.Ok) (h : RowOk m A bs) : areBlocks (m.recipes.map (·.1)) (encRow bs) = true := by
  show (bs.map encBlock).all _ = true
  rw [List.all_eq_true]
  intro d hd
  obtain ⟨b, hb, rfl⟩ := List.mem_map.mp hd
  obtain ⟨h1, h2, h3, h4, h5⟩ := h.st b hb
  show (decide ((1 : Int) ≤ b.1) && !(b.2.map encStep).isEmpty && (b.2.map encStep).all (isStep _)) = true
  rw [decide_eq_true (by omega)]
  have e1 : (b.2.map encStep).isEmpty = false := by
    cases hb2 : b.2 with
    | nil => exact absurd hb2 h2
    | cons => rfl
  rw [e1]
  show (true && (b.2.map encStep).all (isStep _)) = true
  rw [Bool.true_and, List.all_eq_true]
  intro d hd
  obtain ⟨z, hz, rfl⟩ := List.mem_map.mp hd
  exact isStep_enc ok (h1.t z hz).1 (h5 z hz)
theorem row_gd {m : MillD} {A : Nat} {bs : List BlkD} (ok : m.Ok) (h : RowOk m A bs) : gd (encRow bs) = true := by
  show (decide ((bs.map encBlock).length ≤ 30000) && gds (bs.map encBlock)) = true
  rw [decide_eq_true (by rw [List.length_map]; exact h.len), Bool.true_and, gds_iff]
  intro d hd
  obtain ⟨b, hb, rfl⟩ := List.mem_map.mp hd
  have hs := (h.st b hb).1
  have : gds (b.2.map encStep) = true := gds_iff.mpr fun d hd => by
    obtain ⟨z, hz, rfl⟩ := List.mem_map.mp hd
    have := (title_name ok (hs.t z hz).1).2
    simp only [encStep, gd, gds, this, gd_encR, List.length_cons, List.length_nil]
    rw [gd] at this
    rw [this]
    rfl
  simp only [encBlock, gd, gds, this, List.length_cons, List.length_nil, List.length_map]
  rw [decide_eq_true hs.l]
  rfl
theorem row_shaped {m : MillD} {A : Nat} {bs : List BlkD} (ok : m.Ok) (h : RowOk m A bs) : SeqAt.shaped (encRow bs) = true := by
  unfold encRow
  rw [shaped_list]
  have hz : ∀ b ∈ bs, (∀ d ∈ b.2.map encStep, d.canLay0 = true) ∧ ∀ d ∈ b.2.map encStep, d.depth ≤ 2 := fun b hb => by
    have hs := (h.st b hb).1
    refine ⟨fun d hd => ?_, fun d hd => ?_⟩
    · obtain ⟨z, hz, rfl⟩ := List.mem_map.mp hd
      have := gd_str (title_name ok (hs.t z hz).1).2
      simp [encStep, encR, encF, PyData.canLay0, PyData.canLayAll0, this.2]
    · obtain ⟨z, hz, rfl⟩ := List.mem_map.mp hd
      simp [encStep, encR, encF, PyData.depth, PyData.depthAll]
  refine ⟨fun d hd => ?_, fun d hd => ?_⟩
  · obtain ⟨b, hb, rfl⟩ := List.mem_map.mp hd
    have := layAll_iff.mpr (hz b hb).1
    simp [encBlock, PyData.canLay0, PyData.canLayAll0, this]
  · obtain ⟨b, hb, rfl⟩ := List.mem_map.mp hd
    have := depAll_iff.mpr (hz b hb).2
    simp only [encBlock, PyData.depth, PyData.depthAll]
    omega
/-- a row, block by block -/
def Wk.row (m : MillD) : Wk → List BlkD → Option Wk
  | s, [] => some s
  | s, b :: r => if (s.led m b).fits m then Wk.row m (s.led m b) r else none
def bdAt (A M : Nat) (B : Nat) (bs : List BlkD) : Nat := bs.foldl (fun B b => ledB (b.2.length * (A * M + A * M)) B b.1) B
theorem bdAt_ge {A M : Nat} : ∀ {bs : List BlkD} {B : Nat}, B ≤ bdAt A M B bs
  | [], B => Nat.le_refl _
  | b :: r, B => Nat.le_trans (by unfold ledB; omega) (bdAt_ge (bs := r) (B := ledB (b.2.length * (A * M + A * M)) B b.1))
end R3

set_option Elab.async false
set_option linter.all false
set_option maxRecDepth 100000
set_option maxHeartbeats 4000000
namespace R3
open PySem PySem.Spec PyProof.Rows L2 Dv
open Qa (toF Sx)
section
variable {P : Program} {w : World} {K : PySem.W.Frag} {mg : Str → Option Value} {base : Heap}
theorem s_walk_led {W G x dx gr p1 p2 p3 : Addr} {σ : L2.St} {F H : Hp} {D : Ends} {m : MillD} {s : Wk} {B A M i j : Nat} {v1 : V} {b : BlkD} {E : XK} (hi : σ[i]? = some (some (.ref x))) (hj : σ[j]? = some (some v1)) (fx : F x = none) (hx : H x = some (.ins W dx (wkF gr p1 p2 p3))) (e : Evl.Ex F H)
    (hw : WkAt K F G m gr p1 p2 p3 s) (hB : s.Bd B m.names.length) (wb : WkB m A M) (d1 : Dp K F v1 (encBlock b)) (hst : StepsOk m A b.2) (h1 : 1 ≤ b.1) (hb : ledB (b.2.length * (A * M + A * M)) B b.1 < 1000000000000) (hb2 : b.1 < 1000000000000)
    (q : ∀ F' H' p1' p2' p3', GrG x F H F' H' → (p1' = p1 ∨ H p1' = none ∧ p1' ≠ x) → H' x = some (.ins W dx (wkF gr p1' p2' p3')) → WkAt K F' G m gr p1' p2' p3' (s.led m b) → D.nx σ H') : tDrop (tMeth W "led" (spLedW K W G) [] E (tVar i) (tCons (tVar j) tNil)) D σ H :=
  ⟨_, hi, x, dx, _, rfl, hx, by rfl, _, hj, F, x, dx, gr, p1, p2, p3, m, s, B, A, M, v1, b, rfl, e, fx, hx, hw, hB, wb, d1, hst, h1, hb, hb2, q⟩
theorem s_ifX {σ : L2.St} {H : Hp} {D : Ends} {tt : TT} {ts tw : TS} {b : Bool} {Pd : Hp → Prop} (h : ∀ Q : Bool → Hp → Prop, (∀ H', Pd H' → Q b H') → tt σ H Q) (h1 : b = true → ∀ H', Pd H' → ts D σ H') (h2 : b = false → ∀ H', Pd H' → tw D σ H') : tIfS tt ts tw D σ H := h _ fun H' p => by
  cases b with
  | true => exact h1 rfl H' p
  | false => exact h2 rfl H' p
theorem grG_gr {x dx : Addr} {F H F' H' : Hp} {o o2 : HO} (hx : H x = none) (hd : H dx = none) (g : GrG x F (upd (upd H dx o) x o2) F' H') : Gr F H F' H' := by
  refine ⟨g.fx, g.fh, fun a u h => ?_, fun a h1 h2 => ?_⟩
  · have h1 := ne_of_none h hx
    have h2 := ne_of_none h hd
    have := Gr.hx g a u (by rw [er_ne h1, upd_ne h1, upd_ne h2]; exact h)
    rwa [er_ne h1] at this
  · have := Gr.fr g a h1 h2
    by_cases q : a = x
    · rw [q]; exact hx
    · rw [er_ne q, upd_ne q] at this
      by_cases q2 : a = dx
      · rw [q2]; exact hd
      · rwa [upd_ne q2] at this
theorem gr_of_new {x : Addr} {F H F1 H1 F' H' : Hp} (g : Gr F H F1 H1) (hx : H x = none) (g2 : GrG x F1 H1 F' H') : Gr F H F' H' := by
  refine ⟨g.fx.trans g2.fx, g2.fh, fun a u h => ?_, fun a h1 h2 => ?_⟩
  · have h1 := ne_of_none h hx
    have := Gr.hx g2 a u (by rw [er_ne h1]; exact g.hx _ _ h)
    rwa [er_ne h1] at this
  · by_cases q : a = x
    · rw [q]; exact hx
    · cases h3 : F1 a with
      | some o => exact g.fr a h1 (by rw [h3]; exact fun z => nomatch z)
      | none =>
        have := Gr.fr g2 a h3 h2
        rw [er_ne q] at this
        exact ex_none g.hx this
def spWalked (K : PySem.W.Frag) (C G W : Addr) : Sp := fun vs H Q _ => ∃ (F : Hp) (ml : Addr) (hv rv : V) (m : MillD) (hs : List Rat), vs = [.ref ml, hv, rv] ∧ Evl.Ex F H ∧ MillAt K F C ml m ∧ m.Ok ∧ Dp K F hv (.list (hs.map encR)) ∧ hs.length = m.stuffs.length ∧
  ((∃ d, Dq K F rv d ∧ gd d = true ∧ shL d ∧ areBlocks (m.recipes.map (·.1)) d = false ∧ ∀ F' H', Gr F H F' H' → Q .non H') ∨
   ∃ (bs : List BlkD) (A M B : Nat), Dp K F rv (encRow bs) ∧ RowOk m A bs ∧ WkB m A M ∧ RoomBd m ∧ (∀ q ∈ hs, Sx B q) ∧ bdAt A M B bs < 1000000000000 ∧
    (Wk.row m ⟨hs, hs, hs⟩ bs = none → ∀ F' H', Gr F H F' H' → Q .non H') ∧
    ∀ s, Wk.row m ⟨hs, hs, hs⟩ bs = some s → ∀ F' H' x dx gr p1 p2 p3, Gr F H F' H' → F' x = none → H' x = some (.ins W dx (wkF gr p1 p2 p3)) → WkAt K F' G m gr p1 p2 p3 s → s.Bd (bdAt A M B bs) m.names.length → H p1 = none → Q (.ref x) H')
theorem ev_blocks {σ : L2.St} {F : Hp} {d : PyData} {C ml : Addr} {m : MillD} {i j : Nat} {rv : V} {E : XK} (hi : σ[i]? = some (some (.ref ml))) (hj : σ[j]? = some (some rv)) (hm : MillAt K F C ml m) (hd : Dq K F rv d) (hg : gd d = true) (hs : shL d) :
    EvD K (tCall (spBlocksQ K C) [] E (tCons (tVar i) (tCons (tVar j) tNil))) σ F (.bool (areBlocks (m.recipes.map (·.1)) d)) := fun H e Q q =>
  ⟨_, hi, _, hj, F, ml, rv, m, d, rfl, e, hm, hd, hg, hs, fun F' H' g => q _ F' H' g (.bl _)⟩
theorem row_cons {m : MillD} {s : Wk} {b : BlkD} {r : List BlkD} : Wk.row m s (b :: r) = if (s.led m b).fits m then Wk.row m (s.led m b) r else none := rfl
theorem bdAt_take {A M B : Nat} {bs : List BlkD} {n : Nat} (h : n < bs.length) : bdAt A M B (bs.take (n + 1)) = ledB (bs[n].2.length * (A * M + A * M)) (bdAt A M B (bs.take n)) bs[n].1 := by
  unfold bdAt
  rw [List.take_succ_eq_append_getElem h, List.foldl_append]
  rfl
theorem bdAt_le {A M B : Nat} {bs : List BlkD} (n : Nat) : bdAt A M B (bs.take n) ≤ bdAt A M B bs := by
  have : bdAt A M B bs = bdAt A M (bdAt A M B (bs.take n)) (bs.drop n) := by
    unfold bdAt
    rw [← List.foldl_append, List.take_append_drop]
  rw [this]
  exact bdAt_ge
theorem sc_walked : FnScope (["mill", "have", "row", "walk", "block"] : List Str) (["mill", "have", "row"] : List Str) (defScope sWalked) := ⟨rfl, rfl, rfl, by decide +kernel, rfl, by decide +kernel, by decide +kernel⟩
theorem ok_walked {C G W : Addr} (D : Def K mg "walked" sWalked ["mill", "have", "row"]) (B : Bl mg) (WC : WalkC K W) (C_are_blocks : Cal P w K mg base "are_blocks" ["mill", "value"] 6 (spBlocksQ K C)) (M_Walk : Mak P w K mg base "Walk" W ["mill", "have"] 4 (spWalkInit K C G W))
    (M_led : CalM P w K mg base W "led" ["block"] 7 (spLedW K W G)) (M_fits : CalM P w K mg base W "fits" [] 2 (spFits K W G)) :
    Cal P w K mg base "walked" ["mill", "have", "row"] 8 (spWalked K C G W) := by
  refine cal_mk D sc_walked (fun vs H Q E h => ?_) (fun f cdv A outer s H vs Q E hr h => ?_)
  · obtain ⟨F, ml, hv, rv, m, hs, rfl, _⟩ := h
    rfl
  obtain ⟨F, ml, hv, rv, m, hs, rfl, e, hm, ok, hh, hl, q⟩ := h
  refine ⟨_, (pss_cons (ps_if (pt_not (pt_val (pe_callC C_are_blocks hr (pa_cons (pv 0) (pa_cons (pv 2) pa_nil))))) (pss_one (ps_ret pe_non)) pss_nil)
      (pss_cons (ps_set (i := 3) sc_walked.nd rfl (.inl rfl) (pe_makC M_Walk hr (pa_cons (pv 0) (pa_cons (pv 1) pa_nil))))
      (pss_cons (ps_for PassesOwn.never rfl (pi_list (pv 2)) (pg_name (i := 4) sc_walked.nd rfl (.inl rfl)) (pss_cons (ps_expr (pe_methC M_led WC.cl hr (pv 3) (pa_cons (pv 4) pa_nil)))
      (pss_one (ps_if (pt_not (pt_val (pe_meth0C M_fits WC.cl hr (pv 3)))) (pss_one (ps_ret pe_non)) pss_nil))))
      (pss_one (ps_ret (pv 3)))))), ?_⟩
  have st : start ["mill", "have", "row", "walk", "block"] [V.ref ml, hv, rv] = [some (.ref ml), some hv, some rv, none, none] := rfl
  rw [st]
  rcases q with ⟨d, hd, hg, hsh, hno, q⟩ | ⟨bs, A0, M0, B0, hrv, ro, wb, rb, hB, hbd, qn, qs⟩
  · refine seq_of (s_ifT (et_notF (et_v (ev_blocks (i := 0) (j := 2) rfl rfl hm hd hg hsh) (by rw [hno]))) e fun F1 H1 g1 => ?_)
    exact q F1 H1 g1
  refine seq_of (s_ifF (et_notT (et_v (ev_blocks (i := 0) (j := 2) rfl rfl hm (.dat hrv) (row_gd ok ro) (fun _ _ => row_shaped ok ro)) (by rw [row_blocks ok ro]))) e fun F1 H1 g1 => ?_)
  unfold tNext
  dsimp only
  have nl : m.names.length = m.stuffs.length := List.length_map ..
  have n8 := wb.n8
  refine seq_of (asg_of ⟨_, rfl, _, rfl, fun x dx hx hdx hne => ⟨F1, x, dx, ml, hv, m, hs, rfl, ex_new2 g1.fh hx hdx, ex_none g1.fh hx, upd_same, hm.mono g1.fx, ok, dp_ex g1.fx hh, by omega, fun F2 H2 gr p1 p2 p3 g2 hp1 hpx hx2 hw2 => ⟨rfl, ?_⟩⟩⟩)
  dsimp only
  show tSeq _ _ _ [some (.ref ml), some hv, some rv, some (.ref x), none] H2
  have G0 : Gr F H F2 H2 := g1.trans (grG_gr hx hdx g2)
  have hxH : H x = none := ex_none g1.hx hx
  have hp1H : H p1 = none := by
    refine ex_none g1.hx ?_
    rw [upd_ne hpx] at hp1
    by_cases z : p1 = dx
    · rw [z, upd_same] at hp1; cases hp1
    · rwa [upd_ne z] at hp1
  have b0 : Wk.Bd ⟨hs, hs, hs⟩ B0 m.names.length := ⟨hB, hB, hB, by rw [nl]; exact hl, by rw [nl]; exact hl, by rw [nl]; exact hl⟩
  refine seq_of (Dv.s_for (K := K) (it_list (σ := [some (.ref ml), some hv, some rv, some (.ref x), none]) (Dv.ev_var (i := 2) rfl (dp_ex G0.fx hrv))) G0.fh
    (fun n σ' F' H' => ∃ (s4 : Option V) (p1' p2' p3' : Addr) (sn : Wk), σ' = [some (.ref ml), some hv, some rv, some (.ref x), s4] ∧ GrG x F2 H2 F' H' ∧ H p1' = none ∧ H' x = some (.ins W dx (wkF gr p1' p2' p3')) ∧ WkAt K F' G m gr p1' p2' p3' sn ∧ sn.Bd (bdAt A0 M0 B0 (bs.take n)) m.names.length ∧ Wk.row m ⟨hs, hs, hs⟩ bs = Wk.row m sn (bs.drop n))
    (fun F' H' g5 => ?_) ?_ (fun σ' F' H' e1 e2 pv => ?_))
  · have k := GrG.of g5 hx2 g2.fg
    exact ⟨none, p1, p2, p3, _, rfl, k.1, hp1H, k.2, hw2.mono k.1.fx, b0, rfl⟩
  · rintro Fb eb n σ' F3 H3 u du F4 H4 hdu e1 e2 ⟨s4, q1, q2, q3, sn, rfl, gg, hq1, hx3, hw3, hbn, hrow⟩ g4 hu4
    obtain ⟨hn, hdn⟩ := List.getElem?_eq_some_iff.mp hdu
    rw [List.length_map] at hn
    rw [List.getElem_map] at hdn
    subst hdn
    obtain ⟨k4, hx4⟩ := GrG.of g4 hx3 gg.fg
    dsimp only
    show tSeq _ _ _ [some (.ref ml), some hv, some rv, some (.ref x), some u] H4
    obtain ⟨r1, r2, r3, r4, r5⟩ := ro.st bs[n] (List.getElem_mem _)
    have hbt := bdAt_take (A := A0) (M := M0) (B := B0) hn
    have hble := bdAt_le (A := A0) (M := M0) (B := B0) (bs := bs) (n + 1)
    have lb := led_bd wb.nl hbn r1.t r3
    rw [← hbt] at lb
    refine seq_of (s_walk_led (i := 3) (j := 4) rfl rfl k4.fg hx4 k4.fh (hw3.mono k4.fx) hbn wb hu4 r1 r3 (by rw [← hbt]; omega) r4 fun F5 H5 t1 t2 t3 g5 ht1 hx5 hw5 => ?_)
    dsimp only
    have g45 := (gg.trans k4).trans g5
    have Gt := gr_of_new G0 hxH g45
    have ht1' : H t1 = none := by
      rcases ht1 with h | ⟨h, h'⟩
      · rw [h]; exact hq1
      · exact ex_none (gr_of_new G0 hxH (gg.trans k4)).hx h
    rw [List.drop_eq_getElem_cons hn, row_cons] at hrow
    refine s_ifX (b := !(sn.led m bs[n]).fits m) (Pd := fun H' => ∃ F', GrG x F5 H5 F' H' ∧ H' x = some (.ins W dx (wkF gr t1 t2 t3))) (fun Q' q' => ?_) (fun hb H6 hp => ?_) (fun hb H6 hp => ?_)
    · exact ⟨_, rfl, x, dx, _, rfl, hx5, by rfl, F5, x, dx, gr, t1, t2, t3, m, _, _, rfl, g5.fh, g5.fg, hx5, hw5, by rw [← nl]; exact lb, by omega, rb, by omega, fun F' H' g hx' => ⟨_, rfl, q' H' ⟨F', g, hx'⟩⟩⟩
    · obtain ⟨F6, g6, hx6⟩ := hp
      rw [if_neg (by rw [Bool.not_eq_true'] at hb; rw [hb]; decide)] at hrow
      exact qn hrow F6 H6 (gr_of_new G0 hxH (g45.trans g6))
    · obtain ⟨F6, g6, hx6⟩ := hp
      have hft : (sn.led m bs[n]).fits m = true := by
        cases z : (sn.led m bs[n]).fits m with
        | true => rfl
        | false => rw [z] at hb; cases hb
      rw [if_pos hft] at hrow
      exact ⟨F6, e1.trans ((k4.fx.trans g5.fx).trans g6.fx), g6.fh, some u, t1, t2, t3, _, rfl, g45.trans g6, ht1', hx6, hw5.mono g6.fx, lb, hrow⟩
  · obtain ⟨s4, q1, q2, q3, sn, rfl, gg, hq1, hx3, hw3, hbn, hrow⟩ := pv
    rw [List.length_map] at hbn hrow
    rw [List.drop_length] at hrow
    rw [List.take_length] at hbn
    dsimp only
    exact ⟨_, rfl, qs sn hrow F' H' x dx gr q1 q2 q3 (gr_of_new G0 hxH gg) gg.fg hx3 hw3 hbn hq1⟩
end
end R3

set_option Elab.async false
set_option linter.all false
set_option maxRecDepth 100000
set_option maxHeartbeats 4000000
/-! GENERAL: e.f within 'except X as e:' -/
namespace L2
open PySem PySem.Spec PyProof.Rows
def tSxF (K : PySem.W.Frag) (f : Str) (a : Addr) (cls : Value) (d : Option Addr) (te : TE) : TE := fun σ H Q => te σ H fun x H1 => ∃ (C dd : Addr) (fs : List (Str × V)) (v : V), x = .ref a ∧ cls = .ref C ∧ d = some dd ∧ H1 dd = some (.xd fs) ∧ fs.lookup f = some v ∧ XfC K C ∧ PySem.W.findIn K (.ref C) f = some none ∧ Q v H1
theorem pe_sxF {X : Cx} {a : Addr} {oe : Obj} {cls : Value} {d : Option Addr} {pn : List (Addr × Obj)} (hz : Zc cls d oe) (hf : ∃ vs, oe.data = .fields vs) {e : Expr} {te : TE} {pos : Pos} {n : Str} (he : PE (X.suite a ((a, oe) :: pn)) e te)
    (hb : attributeBase e n (X.suite a ((a, oe) :: pn)).env (eval e (X.suite a ((a, oe) :: pn)).env) = eval e (X.suite a ((a, oe) :: pn)).env := by rfl) : PE (X.suite a ((a, oe) :: pn)) (.Attribute e n pos) (tSxF X.K n a cls d te) := by
  refine ⟨fun pins s σ H Q I h => ?_⟩
  refine attr_of hb (thn (he.run pins s σ H _ I h) fun u s1 hh => ?_)
  obtain ⟨x, H1, I1, rx, C, dd, fs, v, ex, rfl, rfl, ea, l, T, hno, q⟩ := hh
  subst ex
  obtain rfl : u = Value.ref a := rx
  obtain ⟨hoa, _⟩ := I1.pin (a, oe) (List.mem_append.mpr (.inl List.mem_cons_self))
  obtain ⟨vs, hda⟩ := hf
  obtain ⟨hc, hdi⟩ := hz
  have hx : ObjOk X.prog X.w H1 s1.heap dd (.xd fs) := I1.hok dd _ ea
  obtain ⟨mA, hns, hr⟩ := hx
  obtain ⟨od, ho, hl⟩ := lookIn_ns hns
  obtain ⟨u, hu, ru⟩ := RelO.some_of (v := v) (o := mA n) (by rw [← l]; exact hr n)
  have J : PySem.W.InstAt s1.heap a oe C (some od) := ⟨hoa, hc, by unfold PySem.W.notCls; rw [hda] <;> rfl, by rw [hdi]; exact ho⟩
  exact HandSPX.exc_get I1.kIn J T.ga T.gg T.exC (PySem.W.findObj_own T.hdC hno rfl (by rw [hl, hu])) (handed_of ru) ⟨v, H1, I1.tok _, ru, q⟩
end L2

set_option Elab.async false
set_option linter.all false
set_option maxRecDepth 100000
set_option maxHeartbeats 4000000
namespace R3
open PySem PySem.Spec PyProof.Rows L2 Evl Dv
open Qa (toF Sx)
section
variable {P : Program} {w : World} {K : PySem.W.Frag} {mg : Str → Option Value} {base : Heap}
theorem t_call3 {sp : Sp} {σ : L2.St} {H : Hp} {Q : VK} {E : XK} {i j k : Nat} {a b c : V} (hi : σ[i]? = some (some a)) (hj : σ[j]? = some (some b)) (hk : σ[k]? = some (some c)) (h : sp [a, b, c] H Q E) : tCall sp [] E (tCons (tVar i) (tCons (tVar j) (tCons (tVar k) tNil))) σ H Q := ⟨_, hi, _, hj, _, hk, h⟩
theorem t_callSD3 {sp : Sp} {σ : L2.St} {H : Hp} {Q : VK} {E : L2.St → XK} {i j k : Nat} {a b c : V} (hi : σ[i]? = some (some a)) (hj : σ[j]? = some (some b)) (hk : σ[k]? = some (some c)) (h : sp [a, b, c] H Q (E σ)) : tCallSD sp [] E (tCons (tVar i) (tCons (tVar j) (tCons (tVar k) tNil))) σ H Q := ⟨_, hi, _, hj, _, hk, h⟩
def spCheckHold (K : PySem.W.Frag) (C : Addr) : Sp := fun vs H Q _ => ∃ (F : Hp) (x : Addr) (v : V) (m : MillD) (hs : List Rat), vs = [.ref x, v] ∧ Ex F H ∧ MillAt K F C x m ∧ Dp K F v (.list (hs.map encR)) ∧ HoldOk m hs ∧ ∀ F' H', Gr F H F' H' → Q .non H'
theorem sc_check_holdings : FnScope (["mill", "value"] : List Str) (["mill", "value"] : List Str) (defScope sCheckHoldings) := ⟨rfl, rfl, rfl, by decide +kernel, rfl, by decide +kernel, by decide +kernel⟩
theorem ok_check_holdings (D : Def K mg "check_holdings" sCheckHoldings ["mill", "value"]) {C : Addr} (C_are_holdings : Cal P w K mg base "are_holdings" ["mill", "value"] 4 (spHold K C)) : Cal P w K mg base "check_holdings" ["mill", "value"] 5 (spCheckHold K C) := by
  refine cal_mk D sc_check_holdings (fun vs H Q E h => ?_) (fun f cdv A outer s H vs Q E hr h => ?_)
  · obtain ⟨F, x, v, m, hs, rfl, _⟩ := h
    rfl
  obtain ⟨F, ml, v, m, hs, rfl, e, hm, hv, ok, q⟩ := h
  refine ⟨_, (pss_one (ps_if (pt_not (pt_val (pe_callC C_are_holdings hr (pa_cons (pv 0) (pa_cons (pv 1) pa_nil))))) (pss_one ps_never) pss_nil)), ?_⟩
  refine s_ifX (b := false) (Pd := fun H' => ∃ F', Gr F H F' H') (fun Q' q' => ?_) (fun z => nomatch z) (fun _ H' ⟨F', g⟩ => q F' H' g)
  exact ⟨_, rfl, _, rfl, F, ml, v, m, hs, rfl, e, hm, hv, ok, fun F' H' g => ⟨true, rfl, q' H' ⟨F', g⟩⟩⟩
theorem s_hold {σ : L2.St} {F H : Hp} {D : Ends} {C ml : Addr} {v : V} {m : MillD} {hs : List Rat} {i j : Nat} {E : XK} (hi : σ[i]? = some (some (.ref ml))) (hj : σ[j]? = some (some v)) (hm : MillAt K F C ml m) (hv : Dp K F v (.list (hs.map encR))) (ok : HoldOk m hs) (e : Ex F H)
    (k : ∀ F' H', Gr F H F' H' → D.nx σ H') : tDrop (tCall (spCheckHold K C) [] E (tCons (tVar i) (tCons (tVar j) tNil))) D σ H := ⟨_, hi, _, hj, F, ml, v, m, hs, rfl, e, hm, hv, ok, k⟩
/-- a row that is drawn, with all that is known of it -/
structure RowIn (K : PySem.W.Frag) (F : Hp) (C ml : Addr) (hv rv : V) (m : MillD) (hs : List Rat) (bs : List BlkD) (A M B : Nat) : Prop where
  hm : MillAt K F C ml m
  ok : m.Ok
  hh : Dp K F hv (.list (hs.map encR))
  ho : HoldOk m hs
  hr : Dp K F rv (encRow bs)
  ro : RowOk m A bs
  wb : WkB m A M
  sx : ∀ q ∈ hs, Sx B q
  bd : bdAt A M B bs < 1000000000000
theorem RowIn.mono {F F1 : Hp} {C ml : Addr} {hv rv : V} {m : MillD} {hs : List Rat} {bs : List BlkD} {A M B : Nat} (h : RowIn K F C ml hv rv m hs bs A M B) (e : Ex F F1) : RowIn K F1 C ml hv rv m hs bs A M B :=
  ⟨h.hm.mono e, h.ok, dp_ex e h.hh, h.ho, dp_ex e h.hr, h.ro, h.wb, h.sx, h.bd⟩
theorem RowIn.walked {F H : Hp} {C G W ml : Addr} {hv rv : V} {m : MillD} {hs : List Rat} {bs : List BlkD} {A M B : Nat} {Q : VK} {E : XK} (h : RowIn K F C ml hv rv m hs bs A M B) (e : Ex F H)
    (qn : Wk.row m ⟨hs, hs, hs⟩ bs = none → ∀ F' H', Gr F H F' H' → Q .non H')
    (qs : ∀ s, Wk.row m ⟨hs, hs, hs⟩ bs = some s → ∀ F' H' x dx gr p1 p2 p3, Gr F H F' H' → F' x = none → H' x = some (.ins W dx (wkF gr p1 p2 p3)) → WkAt K F' G m gr p1 p2 p3 s → s.Bd (bdAt A M B bs) m.names.length → H p1 = none → Q (.ref x) H') : spWalked K C G W [.ref ml, hv, rv] H Q E :=
  ⟨F, ml, hv, rv, m, hs, rfl, e, h.hm, h.ok, h.hh, h.ho.len, .inr ⟨bs, A, M, B, h.hr, h.ro, h.wb, h.ho.rm, h.sx, h.bd, qn, qs⟩⟩
def spIsRow (K : PySem.W.Frag) (C : Addr) : Sp := fun vs H Q _ => ∃ (F : Hp) (ml : Addr) (hv rv : V) (m : MillD) (hs : List Rat), vs = [.ref ml, hv, rv] ∧ Ex F H ∧
  ((MillAt K F C ml m ∧ m.Ok ∧ Dp K F hv (.list (hs.map encR)) ∧ HoldOk m hs ∧ ∃ d, Dq K F rv d ∧ gd d = true ∧ shL d ∧ areBlocks (m.recipes.map (·.1)) d = false ∧ ∀ F' H', Gr F H F' H' → Q (.bl false) H') ∨
   ∃ (bs : List BlkD) (A M B : Nat), RowIn K F C ml hv rv m hs bs A M B ∧ ∀ F' H', Gr F H F' H' → Q (.bl (Wk.row m ⟨hs, hs, hs⟩ bs).isSome) H')
theorem sc_is_row : FnScope (["mill", "have", "value"] : List Str) (["mill", "have", "value"] : List Str) (defScope sIsRow) := ⟨rfl, rfl, rfl, by decide +kernel, rfl, by decide +kernel, by decide +kernel⟩
theorem ok_is_row (D : Def K mg "is_row" sIsRow ["mill", "have", "value"]) {C G W : Addr} (C_check_mill : Cal P w K mg base "check_mill" ["value"] 1 (spCheckMill C)) (C_check_holdings : Cal P w K mg base "check_holdings" ["mill", "value"] 5 (spCheckHold K C)) (C_walked : Cal P w K mg base "walked" ["mill", "have", "row"] 8 (spWalked K C G W)) :
    Cal P w K mg base "is_row" ["mill", "have", "value"] 9 (spIsRow K C) := by
  refine cal_mk D sc_is_row (fun vs H Q E h => ?_) (fun f cdv A outer s H vs Q E hr h => ?_)
  · obtain ⟨F, x, hv, rv, m, hs, rfl, _⟩ := h
    rfl
  obtain ⟨F, ml, hv, rv, m, hs, rfl, e, h⟩ := h
  refine ⟨_, (pss_cons (ps_expr (pe_callC C_check_mill hr (pa_cons (pv 0) pa_nil)))
      (pss_cons (ps_expr (pe_callC C_check_holdings hr (pa_cons (pv 0) (pa_cons (pv 1) pa_nil))))
      (pss_one (ps_ret (pe_cmpR op_notN (pe_callC C_walked hr (pa_cons (pv 0) (pa_cons (pv 1) (pa_cons (pv 2) pa_nil)))) pe_non (nomark _)))))), ?_⟩
  have st : start ["mill", "have", "value"] [V.ref ml, hv, rv] = [some (.ref ml), some hv, some rv] := rfl
  rw [st]
  rcases h with ⟨hm, ok, hh, ho, d, hd, hg, hs', hno, q⟩ | ⟨bs, A0, M0, B0, ri, q⟩
  · refine seq_of (s_check (i := 0) rfl hm e ?_)
    dsimp only
    refine seq_of (s_hold (i := 0) (j := 1) rfl rfl hm hh ho e fun F1 H1 g1 => ?_)
    dsimp only
    exact ⟨_, rfl, _, rfl, _, rfl, F1, ml, hv, rv, m, hs, rfl, g1.fh, hm.mono g1.fx, ok, dp_ex g1.fx hh, ho.len, .inl ⟨d, dq_ex g1.fx hd, hg, hs', hno, fun F2 H2 g2 => ⟨rfl, q F2 H2 (g1.trans g2)⟩⟩⟩
  · refine seq_of (s_check (i := 0) rfl ri.hm e ?_)
    dsimp only
    refine seq_of (s_hold (i := 0) (j := 1) rfl rfl ri.hm ri.hh ri.ho e fun F1 H1 g1 => ?_)
    dsimp only
    refine t_call3 (i := 0) (j := 1) (k := 2) rfl rfl rfl ?_
    refine (ri.mono g1.fx).walked g1.fh (fun hn F2 H2 g2 => ⟨rfl, ?_⟩) (fun s hs F2 H2 x dx gr p1 p2 p3 g2 _ _ _ _ _ => ⟨rfl, ?_⟩)
    · have := q F2 H2 (g1.trans g2)
      rw [hn] at this
      exact this
    · have := q F2 H2 (g1.trans g2)
      rw [hs] at this
      exact this
/-! ### check_row, led -/
/-- v is refused with the error at C -/
def Bad (C : Addr) (F H : Hp) (v : V) (E : XK) : Prop := ∀ F' H' dd, Gr F H F' H' → H' dd = none → E (.ref C) (some dd) (upd H' dd (.xd [("value", v)]))
/-- an error class with the field value -/
structure ErrC (P : Program) (K : PySem.W.Frag) (mg : Str → Option Value) (cn : Str) (C : Addr) : Prop where
  ex : ∃ fI, PySem.Xn.ExT P K mg cn "value" C fI
  hs : (P.main.scope.names.lookup ("super" : Str)).isSome = false
def spCheckRow (K : PySem.W.Frag) (C G W CR : Addr) : Sp := fun vs H Q E => ∃ (F : Hp) (ml : Addr) (hv rv : V) (m : MillD) (hs : List Rat) (bs : List BlkD) (A M B : Nat), vs = [.ref ml, hv, rv] ∧ Ex F H ∧ RowIn K F C ml hv rv m hs bs A M B ∧
  (Wk.row m ⟨hs, hs, hs⟩ bs = none → Bad CR F H rv E) ∧
  ∀ s, Wk.row m ⟨hs, hs, hs⟩ bs = some s → ∀ F' H' x dx gr p1 p2 p3, Gr F H F' H' → F' x = none → H' x = some (.ins W dx (wkF gr p1 p2 p3)) → WkAt K F' G m gr p1 p2 p3 s → s.Bd (bdAt A M B bs) m.names.length → H p1 = none → Q (.ref x) H'
theorem sc_check_row : FnScope (["mill", "have", "row", "walk"] : List Str) (["mill", "have", "row"] : List Str) (defScope sCheckRow) := ⟨rfl, rfl, rfl, by decide +kernel, rfl, by decide +kernel, by decide +kernel⟩
theorem ok_check_row (D : Def K mg "check_row" sCheckRow ["mill", "have", "row"]) {C G W CR : Addr} (ER : ErrC P K mg "InvalidRow" CR) (C_check_mill : Cal P w K mg base "check_mill" ["value"] 1 (spCheckMill C)) (C_check_holdings : Cal P w K mg base "check_holdings" ["mill", "value"] 5 (spCheckHold K C)) (C_walked : Cal P w K mg base "walked" ["mill", "have", "row"] 8 (spWalked K C G W)) :
    CalX P w K mg base "check_row" ["mill", "have", "row"] 9 (spCheckRow K C G W CR) := by
  refine calX_mk D sc_check_row (fun vs H Q E h => ?_) (fun f cdv A outer s H vs Q E hr h => ?_)
  · obtain ⟨F, x, hv, rv, m, hs, bs, A, M, B, rfl, _⟩ := h
    rfl
  obtain ⟨F, ml, hv, rv, m, hs, bs, A0, M0, B0, rfl, e, ri, qn, qs⟩ := h
  obtain ⟨fI, TB⟩ := ER.ex
  refine ⟨_, (pss_cons (ps_expr (pe_callC C_check_mill hr (pa_cons (pv 0) pa_nil)))
      (pss_cons (ps_expr (pe_callC C_check_holdings hr (pa_cons (pv 0) (pa_cons (pv 1) pa_nil))))
      (pss_cons (ps_set (i := 3) sc_check_row.nd rfl (.inl rfl) (pe_callC C_walked hr (pa_cons (pv 0) (pa_cons (pv 1) (pa_cons (pv 2) pa_nil)))))
      (pss_cons (ps_if (pt_cmpR op_isN (pv 3) pe_non (nomark _)) (pss_one (ps_raise rfl (takes_of rfl rfl rfl rfl) (pmk_xn1 TB (raises_own TB.exC TB.tyC) hr ER.hs (pa_cons (pv 2) pa_nil)))) pss_nil)
      (pss_one (ps_ret (pv 3))))))), ?_⟩
  have st : start ["mill", "have", "row", "walk"] [V.ref ml, hv, rv] = [some (.ref ml), some hv, some rv, none] := rfl
  rw [st]
  refine seq_of (s_check (i := 0) rfl ri.hm e ?_)
  dsimp only
  refine seq_of (s_hold (i := 0) (j := 1) rfl rfl ri.hm ri.hh ri.ho e fun F1 H1 g1 => ?_)
  dsimp only
  refine seq_of (asg_of (t_call3 (i := 0) (j := 1) (k := 2) rfl rfl rfl ?_))
  refine (ri.mono g1.fx).walked g1.fh (fun hn F2 H2 g2 => ?_) (fun s hs F2 H2 x dx gr p1 p2 p3 g2 k1 k2 k3 k4 k5 => ?_)
  · dsimp only
    refine seq_of ⟨_, rfl, rfl, _, rfl, iteT ?_⟩
    exact ⟨_, rfl, rv, rfl, fun dd hdd => qn hn F2 H2 dd (g1.trans g2) hdd⟩
  · dsimp only
    refine seq_of ⟨_, rfl, rfl, _, rfl, iteF ?_⟩
    exact ⟨_, rfl, qs s hs F2 H2 x dx gr p1 p2 p3 (g1.trans g2) k1 k2 k3 k4 (ex_none g1.hx k5)⟩
end
end R3

set_option Elab.async false
set_option linter.all false
set_option maxRecDepth 100000
set_option maxHeartbeats 4000000
namespace Dv
open PySem PySem.Spec PyProof.Rows L2 Evl
/-- an object that is new taken out of F again -/
theorem Gr.out {F H F' H' : Hp} {p : Addr} (g : Gr F H F' H') (h : H p = none) (e : Ex F H) : Gr F H (er p F') H' :=
  ⟨fun a u ha => by
    have : a ≠ p := fun z => by rw [z, ex_none e h] at ha; cases ha
    rw [er_ne this]
    exact g.fx a u ha, fun a u ha => by
    by_cases q : a = p
    · rw [q, er_same] at ha; cases ha
    · rw [er_ne q] at ha
      exact g.fh a u ha, g.hx, fun a h1 h2 => by
    by_cases q : a = p
    · rw [q]; exact h
    · rw [er_ne q] at h2
      exact g.fr a h1 h2⟩
end Dv
namespace R3
open PySem PySem.Spec PyProof.Rows L2 Evl Dv
open Qa (toF Sx)
section
variable {P : Program} {w : World} {K : PySem.W.Frag} {mg : Str → Option Value} {base : Heap}
theorem dpR_er {F : Hp} {p : Addr} {xs : List V} {v : V} {q : Rat} (hp : F p = some (.lst xs)) (h : Dp K F v (encR q)) : Dp K (er p F) v (encR q) := by
  cases h with
  | tup hs ha =>
    rename_i t ys
    refine .tup (xs := ys) ?_ ?_
    · rcases hs with r | r
      · exact .inl (rd_er (fun z hz => by
          rcases hz with rfl | ⟨ob, rfl⟩ <;> rw [hp] <;> simp) r)
      · exact .inr r
    · cases ha with
      | cons h1 hr =>
        cases hr with
        | cons h2 hr =>
          cases hr
          cases h1
          cases h2
          exact .cons (.int _) (.cons (.int _) .nil)
theorem dpRs_er {F : Hp} {p : Addr} {xs : List V} (hp : F p = some (.lst xs)) : ∀ {vs : List V} {qs : List Rat}, DpAll K F vs (qs.map encR) → DpAll K (er p F) vs (qs.map encR)
  | _, [], h => by cases h; exact .nil
  | _, q :: qs, h => by
    cases h with
    | cons h1 h2 => exact .cons (dpR_er hp h1) (dpRs_er hp h2)
/-- what is told of a row, or that it is refused -/
def spTold (K : PySem.W.Frag) (C CR : Addr) (f : Wk → List PyData) : Sp := fun vs H Q E => ∃ (F : Hp) (ml : Addr) (hv rv : V) (m : MillD) (hs : List Rat) (bs : List BlkD) (A M B : Nat), vs = [.ref ml, hv, rv] ∧ Ex F H ∧ RowIn K F C ml hv rv m hs bs A M B ∧
  (Wk.row m ⟨hs, hs, hs⟩ bs = none → Bad CR F H rv E) ∧
  ∀ s, Wk.row m ⟨hs, hs, hs⟩ bs = some s → ∀ p ws F' H', Gr F H F' H' → H p = none → F' p = none → H' p = some (.lst ws) → DpAll K F' ws (f s) → Q (.ref p) H'
theorem sc_led : FnScope (["mill", "have", "row"] : List Str) (["mill", "have", "row"] : List Str) (defScope sLed) := ⟨rfl, rfl, rfl, by decide +kernel, rfl, by decide +kernel, by decide +kernel⟩
theorem ok_led (D : Def K mg "led" sLed ["mill", "have", "row"]) {C G W CR : Addr} (WC : WalkC K W) (C_check_row : CalX P w K mg base "check_row" ["mill", "have", "row"] 9 (spCheckRow K C G W CR)) :
    CalX P w K mg base "led" ["mill", "have", "row"] 10 (spTold K C CR fun s => s.held.map encR) := by
  refine calX_mk D sc_led (fun vs H Q E h => ?_) (fun f cdv A outer s H vs Q E hr h => ?_)
  · obtain ⟨F, x, hv, rv, m, hs, bs, A, M, B, rfl, _⟩ := h
    rfl
  obtain ⟨F, ml, hv, rv, m, hs, bs, A0, M0, B0, rfl, e, ri, qn, qs⟩ := h
  refine ⟨_, (pss_one (ps_ret (pe_fld (pe_callXC C_check_row hr (takes_of rfl rfl rfl rfl) (pa_cons (pv 0) (pa_cons (pv 1) (pa_cons (pv 2) pa_nil)))) rfl))), ?_⟩
  have st : start ["mill", "have", "row"] [V.ref ml, hv, rv] = [some (.ref ml), some hv, some rv] := rfl
  rw [st]
  refine t_callSD3 (i := 0) (j := 1) (k := 2) rfl rfl rfl ⟨F, ml, hv, rv, m, hs, bs, A0, M0, B0, rfl, e, ri, qn, fun s hs F2 H2 x dx gr p1 p2 p3 g2 k1 k2 k3 k4 k5 => ?_⟩
  obtain ⟨vs, h1, h2⟩ := k3.h
  refine ⟨x, W, dx, _, _, rfl, k2, WC.cl, WC.held, wk2, ?_⟩
  exact qs s hs p1 vs (er p1 F2) H2 (g2.out k5 e) k5 er_same (g2.fh _ _ h1) (dpRs_er h1 h2)
end
end R3

set_option Elab.async false
set_option linter.all false
set_option maxRecDepth 100000
set_option maxHeartbeats 4000000
/-! list(zip(a, b, strict=True)) of two lists of one length: the zip while the tuple that it gave out is still there. -/
namespace PySem
namespace ZS
open Sem (wp)
open PySem.W (kdx_alive)
abbrev IsZipHeldS (h : Heap) (z TI TO T : Addr) (f : Bool) : Prop :=
  h.get? z = some { cls := .type "zip", dict := none, data := .fields #[rawInt T, .bool f, .bool true, .ref TI, .ref TO], slots := #[] }
section
variable {prog : Program} {w : World} {A : Around} {E : Value → Shared → Prop} {s : Shared}
theorem tupleHeld {z TI TO T : Addr} {f : Bool} {oT : Obj} {Q : Bool → Shared → Prop} (hz : IsZipHeldS s.heap z TI TO T f) (hT : s.heap.get? T = some oT)
    (h : ∀ h', IsZipHeldS h' z TI TO T true → Heap.SameBut z s.heap h' → Q false { s with heap := h' }) : wpAny (model prog w) A (Builtin.SmallTypes.ownedTupleIsFree (.ref z)) Q E s := by
  unfold Builtin.SmallTypes.ownedTupleIsFree
  refine wpAny_bind (wpAny_field hz rfl (x := rawInt T) rfl ?_)
  show wpAny _ _ (loadIfAlive ((T : Int).toNat) >>= _) _ _ _
  rw [Int.toNat_natCast]
  refine wpAny_bind (kdx_alive hT ?_)
  simp only [Option.isNone_some, Bool.false_eq_true, if_false]
  refine wpAny_bind (wpAny_field hz rfl (x := .bool f) rfl ?_)
  cases f with
  | true =>
    rw [if_neg (show ¬ ((Value.bool true != Value.bool true) = true) from Bool.false_ne_true)]
    exact wpAny_pure (h s.heap hz (Heap.SameBut.refl _ _))
  | false =>
    rw [if_pos (show (Value.bool false != Value.bool true) = true from rfl)]
    exact wpAny_bind (wpAny_setField_rec hz (by simp) fun h₁ hz₁ hs₁ => wpAny_pure (h h₁ hz₁ hs₁))
theorem next_item_held {z TI TO T i1 i2 l1 l2 : Addr} {f : Bool} {oT : Obj} {k1 k2 : Nat} {xs ys : Array Value} {x y : Value} {Q : Value → Shared → Prop} (D : ZipApart z TI TO i1 i2 l1 l2)
    (hz : IsZipHeldS s.heap z TI TO T f) (hT : s.heap.get? T = some oT) (hTI : IsPair s.heap TI (.ref i1) (.ref i2))
    (h1 : s.heap.IsListIter i1 l1 k1) (h2 : s.heap.IsListIter i2 l2 k2) (hl1 : s.heap.IsList l1 xs) (hl2 : s.heap.IsList l2 ys) (hx : xs[k1]? = some x) (hy : ys[k2]? = some y)
    (hQ : ∀ h', IsZipHeldS h' z TI TO T true → h'.IsListIter i1 l1 (k1 + 1) → h'.IsListIter i2 l2 (k2 + 1) → IsPair h' s.heap.objs.size x y → h'.objs.size = s.heap.objs.size + 1 →
      (∀ c o, c ≠ z → c ≠ i1 → c ≠ i2 → s.heap.get? c = some o → h'.get? c = some o) → Q (.ref s.heap.objs.size) { s with heap := h' }) :
    wpAny (model prog w) A (Builtin.«zip.__next__» ⟨[.ref z], []⟩) (fun fin s' => ∃ v, fin = .done (.ret v) ∧ Q v s') E s := by
  show wpAny _ _ (field (.ref z) 2 >>= _) _ _ _
  refine wpAny_bind (wpAny_field hz rfl (x := .bool true) rfl ?_)
  show wpAny _ _ (field (.ref z) 3 >>= _) _ _ _
  refine wpAny_bind (wpAny_field hz rfl (x := .ref TI) rfl ?_)
  refine wpAny_bind (wpAny_seqItems hTI rfl ?_)
  show wpAny _ _ (Builtin.SmallTypes.ownedTupleIsFree (.ref z) >>= _) _ _ _
  refine wpAny_bind (tupleHeld hz hT fun h₁ hz₁ hs₁ => ?_)
  simp only [Bool.false_eq_true, if_false]
  refine wpAny_bind ?_
  rw [← Array.forIn_toList]
  simp only [List.forIn_cons, List.forIn_nil]
  refine wpAny_bind (wpAny_bind (wpAny_holding ?_))
  show wpAny _ _ (Builtin.SmallTypes.nextOrEnd (.ref i1)) _ _ _
  refine nextOrEnd_item (s := { s with heap := h₁ }) (h1.extBut hs₁.extBut D.i1z) (hl1.extBut hs₁.extBut D.l1z) hx fun h₂ h1₂ hs₂ => ?_
  refine wpAny_pure ?_
  refine wpAny_bind (wpAny_bind (wpAny_holding ?_))
  show wpAny _ _ (Builtin.SmallTypes.nextOrEnd (.ref i2)) _ _ _
  refine nextOrEnd_item (s := { s with heap := h₂ }) ((h2.extBut hs₁.extBut D.i2z).extBut hs₂.extBut D.i12.symm) ((hl2.extBut hs₁.extBut D.l2z).extBut hs₂.extBut D.l2i1) hy fun h₃ h2₃ hs₃ => ?_
  refine wpAny_pure (wpAny_pure ?_)
  show wpAny _ _ (newTuple [x, y] >>= _) _ _ _
  refine wpAny_bind (wpAny_newTuple ?_)
  have hsz : h₃.objs.size = s.heap.objs.size := by rw [hs₃.1, hs₂.1, hs₁.1]
  have hz₃ : IsZipHeldS h₃ z TI TO T true := hs₃.extBut _ _ D.i2z.symm (hs₂.extBut _ _ D.i1z.symm hz₁)
  have hk : ∀ c o, c ≠ z → c ≠ i1 → c ≠ i2 → s.heap.get? c = some o → h₃.get? c = some o := fun c o c1 c2 c3 e => hs₃.extBut _ _ c3 (hs₂.extBut _ _ c2 (hs₁.extBut _ _ c1 e))
  have h1₃ : h₃.IsListIter i1 l1 (k1 + 1) := h1₂.extBut hs₃.extBut D.i12
  refine wpAny_pure ⟨_, rfl, ?_⟩
  show Q (.ref h₃.objs.size) _
  have hp : IsPair (h₃.push { cls := .type "tuple", data := .seq #[x, y] }) h₃.objs.size x y := Heap.get?_push_size _ rfl
  have hz4 : (h₃.push { cls := .type "tuple", data := .seq #[x, y] }).objs.size = h₃.objs.size + 1 := Heap.size_push ..
  rw [hsz] at hp hz4 ⊢
  exact hQ _ (Heap.get?_push_of_some _ hz₃) (h1₃.at fun o e => Heap.get?_push_of_some _ e) (h2₃.at fun o e => Heap.get?_push_of_some _ e) hp hz4 fun c o c1 c2 c3 e => Heap.get?_push_of_some _ (hk c o c1 c2 c3 e)
theorem next_end_held {z TI TO T i1 i2 l1 l2 : Addr} {f : Bool} {oT : Obj} {k1 k2 : Nat} {xs ys : Array Value} {Q : Fin → Shared → Prop} (hh : A.handled = none) (D : ZipApart z TI TO i1 i2 l1 l2)
    (hz : IsZipHeldS s.heap z TI TO T f) (hT : s.heap.get? T = some oT) (hTI : IsPair s.heap TI (.ref i1) (.ref i2))
    (h1 : s.heap.IsListIter i1 l1 k1) (h2 : s.heap.IsListIter i2 l2 k2) (hl1 : s.heap.IsList l1 xs) (hl2 : s.heap.IsList l2 ys) (hx : xs[k1]? = none) (hy : ys[k2]? = none)
    (hE : ∀ h' e, (∀ c o, c ≠ z → c ≠ i1 → c ≠ i2 → s.heap.get? c = some o → h'.get? c = some o) → (∃ o, h'.get? e = some o ∧ o.cls = .type "StopIteration") → E (.ref e) { s with heap := h' }) :
    wpAny (model prog w) A (Builtin.«zip.__next__» ⟨[.ref z], []⟩) Q E s := by
  show wpAny _ _ (field (.ref z) 2 >>= _) _ _ _
  refine wpAny_bind (wpAny_field hz rfl (x := .bool true) rfl ?_)
  show wpAny _ _ (field (.ref z) 3 >>= _) _ _ _
  refine wpAny_bind (wpAny_field hz rfl (x := .ref TI) rfl ?_)
  refine wpAny_bind (wpAny_seqItems hTI rfl ?_)
  show wpAny _ _ (Builtin.SmallTypes.ownedTupleIsFree (.ref z) >>= _) _ _ _
  refine wpAny_bind (tupleHeld hz hT fun h₁ hz₁ hs₁ => ?_)
  simp only [Bool.false_eq_true, if_false]
  refine wpAny_bind ?_
  rw [← Array.forIn_toList]
  simp only [List.forIn_cons, List.forIn_nil]
  refine wpAny_bind (wpAny_bind (wpAny_holding ?_))
  show wpAny _ _ (Builtin.SmallTypes.nextOrEnd (.ref i1)) _ _ _
  refine nextOrEnd_end (s := { s with heap := h₁ }) hh (h1.extBut hs₁.extBut D.i1z) (hl1.extBut hs₁.extBut D.l1z) hx fun h₂ hs₂ => ?_
  have k₂ : ∀ c o, c ≠ z → c ≠ i1 → s.heap.get? c = some o → h₂.get? c = some o := fun c o c1 c3 x => hs₂ _ _ c3 (hs₁.extBut _ _ c1 x)
  have hi2z : h₂.IsListIter i2 l2 k2 := h2.at fun o q => k₂ _ o D.i2z D.i12.symm q
  have hl2z : h₂.IsList l2 ys := hl2.at fun o q => k₂ _ o D.l2z D.l2i1 q
  refine wpAny_bind ?_
  refine wpAny_bind ?_
  simp only [List.drop_succ_cons, List.drop_zero, List.zipIdx_cons, List.zipIdx_nil]
  simp only [List.forIn_cons, List.forIn_nil]
  refine wpAny_bind (wpAny_bind ?_)
  refine nextOrEnd_end (s := { s with heap := h₂ }) hh hi2z hl2z hy fun h₄ hs₄ => ?_
  refine wpAny_pure ?_
  refine wpAny_pure ?_
  refine wpAny_bind (wpAny_rule ?_)
  refine stop_it hh fun h₅ e k₅ he => ?_
  exact hE h₅ e (fun c o c1 c3 c4 x => k₅ _ _ (hs₄ _ _ c4 (k₂ _ _ c1 c3 x))) he
theorem pyNext_item_held {z TI TO T i1 i2 l1 l2 : Addr} {f : Bool} {oT : Obj} {k1 k2 : Nat} {xs ys : Array Value} {x y : Value} {Q : Option Value → Shared → Prop} (D : ZipApart z TI TO i1 i2 l1 l2)
    (hz : IsZipHeldS s.heap z TI TO T f) (hT : s.heap.get? T = some oT) (hTI : IsPair s.heap TI (.ref i1) (.ref i2))
    (h1 : s.heap.IsListIter i1 l1 k1) (h2 : s.heap.IsListIter i2 l2 k2) (hl1 : s.heap.IsList l1 xs) (hl2 : s.heap.IsList l2 ys) (hx : xs[k1]? = some x) (hy : ys[k2]? = some y)
    (hQ : ∀ h', IsZipHeldS h' z TI TO T true → h'.IsListIter i1 l1 (k1 + 1) → h'.IsListIter i2 l2 (k2 + 1) → IsPair h' s.heap.objs.size x y → h'.objs.size = s.heap.objs.size + 1 →
      (∀ c o, c ≠ z → c ≠ i1 → c ≠ i2 → s.heap.get? c = some o → h'.get? c = some o) → Q (some (.ref s.heap.objs.size)) { s with heap := h' }) :
    wpAny (model prog w) A (pyNext (.ref z)) Q E s := by
  have hTy : s.TypeIs (.ref z) "zip" := ⟨_, hz, rfl⟩
  unfold pyNext
  exact wpAny_bind (wpAny_attempt (wpAny_callSpecial?_slot (name := Str.ofString "__next__") hTy F.slot_zip_next
    (wpAny_call_entry F.slot_zip_next hTy F.entry_zip_next
      (next_item_held D hz hT hTI h1 h2 hl1 hl2 hx hy fun h' a1 a3 a4 a5 a6 a7 => wpAny_pure (hQ h' a1 a3 a4 a5 a6 a7)) (F.args_zip_next_1 _))))
theorem pyNext_end_held {z TI TO T i1 i2 l1 l2 : Addr} {f : Bool} {oT : Obj} {k1 k2 : Nat} {xs ys : Array Value} {Q : Option Value → Shared → Prop} (hh : A.handled = none) (D : ZipApart z TI TO i1 i2 l1 l2)
    (hz : IsZipHeldS s.heap z TI TO T f) (hT : s.heap.get? T = some oT) (hTI : IsPair s.heap TI (.ref i1) (.ref i2))
    (h1 : s.heap.IsListIter i1 l1 k1) (h2 : s.heap.IsListIter i2 l2 k2) (hl1 : s.heap.IsList l1 xs) (hl2 : s.heap.IsList l2 ys) (hx : xs[k1]? = none) (hy : ys[k2]? = none)
    (hQ : ∀ h', (∀ c o, c ≠ z → c ≠ i1 → c ≠ i2 → s.heap.get? c = some o → h'.get? c = some o) → Q none { s with heap := h' }) : wpAny (model prog w) A (pyNext (.ref z)) Q E s := by
  have hTy : s.TypeIs (.ref z) "zip" := ⟨_, hz, rfl⟩
  unfold pyNext
  refine wpAny_bind (wpAny_attempt (wpAny_callSpecial?_slot (name := Str.ofString "__next__") hTy F.slot_zip_next
    (wpAny_call_entry F.slot_zip_next hTy F.entry_zip_next (next_end_held hh D hz hT hTI h1 h2 hl1 hl2 hx hy fun h' e hk he => ?_) (F.args_zip_next_1 _))))
  obtain ⟨o, ho, hc⟩ := he
  refine wpAny_bind (wpAny_isInstance (T := "StopIteration") (b := true) ⟨o, ho, hc⟩ isSubtype_stop ?_)
  exact wpAny_pure (hQ _ hk)
end
end ZS
end PySem

set_option Elab.async false
set_option linter.all false
set_option maxRecDepth 100000
set_option maxHeartbeats 4000000
namespace PySem
namespace ZS
open Sem (wp)
theorem zip_no_len : typeLookup (.type "zip") "__len__" = pure none := by rw [typeLookup_type, builtinLookup_eq_fast]; kernel_rfl
theorem zip_no_hint : typeLookup (.type "zip") "__length_hint__" = pure none := by rw [typeLookup_type, builtinLookup_eq_fast]; kernel_rfl
section
variable {prog : Program} {w : World} {A : Around} {E : Value → Shared → Prop} {s : Shared}
theorem hint_zip {r : Addr} {Q : Bool → Shared → Prop} (hT : s.TypeIs (.ref r) "zip") (h : Q true s) : wpAny (model prog w) A (Builtin.List.listLengthHint (.ref r)) Q E s := by
  unfold Builtin.List.listLengthHint
  refine wpAny_bind (wpAny_specialOf hT zip_no_len ?_)
  refine wpAny_ite_split (fun hab => absurd hab (by decide)) (fun _ => ?_)
  refine wpAny_ite_split (fun hab => absurd hab (by decide)) (fun _ => ?_)
  refine wpAny_bind (wpAny_specialOf hT zip_no_hint ?_)
  exact wpAny_pure h
/-- the zip at z before its turn i, what it gave out ahead still there; S: the list that is filled -/
structure ZSt (h : Heap) (z TI TO i1 i2 l1 l2 S : Addr) (xs ys : Array Value) (i : Nat) : Prop where
  ti : IsPair h TI (.ref i1) (.ref i2)
  h1 : h.IsListIter i1 l1 i
  h2 : h.IsListIter i2 l2 i
  x : h.IsList l1 xs
  y : h.IsList l2 ys
  z : (∃ a b, IsZipS h z TI TO .none ∧ IsPair h TO a b) ∨ ∃ T f oT, IsZipHeldS h z TI TO T f ∧ h.get? T = some oT ∧ T ≠ z ∧ T ≠ i1 ∧ T ≠ i2 ∧ T ≠ S
structure SApart (S z TI TO i1 i2 l1 l2 : Addr) : Prop where
  z : S ≠ z
  TI : S ≠ TI
  TO : S ≠ TO
  i1 : S ≠ i1
  i2 : S ≠ i2
  l1 : S ≠ l1
  l2 : S ≠ l2
variable {z TI TO i1 i2 l1 l2 S : Addr} {xs ys : Array Value} {i : Nat}
theorem ZSt.keep {h h' : Heap} (x : ZSt h z TI TO i1 i2 l1 l2 S xs ys i) (P : SApart S z TI TO i1 i2 l1 l2) (hk : ∀ b o, b ≠ S → h.get? b = some o → h'.get? b = some o) : ZSt h' z TI TO i1 i2 l1 l2 S xs ys i :=
  ⟨hk _ _ P.TI.symm x.ti, x.h1.at fun o e => hk _ o P.i1.symm e, x.h2.at fun o e => hk _ o P.i2.symm e, x.x.at fun o e => hk _ o P.l1.symm e, x.y.at fun o e => hk _ o P.l2.symm e, by
    rcases x.z with ⟨a, b, q1, q2⟩ | ⟨T, f, oT, q1, q2, q3, q4, q5, q6⟩
    · exact .inl ⟨a, b, hk _ _ P.z.symm q1, hk _ _ P.TO.symm q2⟩
    · exact .inr ⟨T, f, oT, hk _ _ P.z.symm q1, hk _ _ q6 q2, q3, q4, q5, q6⟩⟩
theorem zst_item {x y : Value} {Q : Option Value → Shared → Prop} (D : ZipApart z TI TO i1 i2 l1 l2) (P : SApart S z TI TO i1 i2 l1 l2) (st : ZSt s.heap z TI TO i1 i2 l1 l2 S xs ys i) (hx : xs[i]? = some x) (hy : ys[i]? = some y) (hS : S < s.heap.objs.size)
    (hQ : ∀ h', ZSt h' z TI TO i1 i2 l1 l2 S xs ys (i + 1) → IsPair h' s.heap.objs.size x y → h'.objs.size = s.heap.objs.size + 1 →
      (∀ c o, c ≠ z → c ≠ TO → c ≠ i1 → c ≠ i2 → s.heap.get? c = some o → h'.get? c = some o) → Q (some (.ref s.heap.objs.size)) { s with heap := h' }) : wpAny (model prog w) A (pyNext (.ref z)) Q E s := by
  have lt : ∀ c o, s.heap.get? c = some o → s.heap.objs.size ≠ c := fun c o e => Nat.ne_of_gt (Heap.lt_size e)
  have n1 : s.heap.objs.size ≠ i1 := let ⟨_, e, _⟩ := st.h1; lt _ _ e
  have n2 : s.heap.objs.size ≠ i2 := let ⟨_, e, _⟩ := st.h2; lt _ _ e
  have nS : s.heap.objs.size ≠ S := Nat.ne_of_gt hS
  rcases st.z with ⟨a, b, q1, q2⟩ | ⟨T, f, oT, q1, q2, q3, q4, q5, q6⟩
  · refine pyNext_item D q1 st.ti q2 st.h1 st.h2 st.x st.y hx hy fun h' hz' hTO' h1' h2' hT hsz hk => ?_
    exact hQ h' ⟨hk _ _ D.TIz D.TITO D.TIi1 D.TIi2 st.ti, h1', h2', st.x.at fun o e => hk _ o D.l1z D.l1TO D.l1i1 D.l1i2 e, st.y.at fun o e => hk _ o D.l2z D.l2TO D.l2i1 D.l2i2 e, .inr ⟨_, false, _, hz', hT, lt _ _ q1, n1, n2, nS⟩⟩ hT hsz hk
  · refine pyNext_item_held D q1 q2 st.ti st.h1 st.h2 st.x st.y hx hy fun h' hz' h1' h2' hT hsz hk => ?_
    exact hQ h' ⟨hk _ _ D.TIz D.TIi1 D.TIi2 st.ti, h1', h2', st.x.at fun o e => hk _ o D.l1z D.l1i1 D.l1i2 e, st.y.at fun o e => hk _ o D.l2z D.l2i1 D.l2i2 e, .inr ⟨T, true, oT, hz', hk _ _ q3 q4 q5 q2, q3, q4, q5, q6⟩⟩ hT hsz fun c o c1 c2 c3 c4 e => hk c o c1 c3 c4 e
theorem zst_done {Q : Option Value → Shared → Prop} (hh : A.handled = none) (D : ZipApart z TI TO i1 i2 l1 l2) (st : ZSt s.heap z TI TO i1 i2 l1 l2 S xs ys i) (hx : xs[i]? = none) (hy : ys[i]? = none)
    (hQ : ∀ h', (∀ c o, c ≠ z → c ≠ TO → c ≠ i1 → c ≠ i2 → s.heap.get? c = some o → h'.get? c = some o) → Q none { s with heap := h' }) : wpAny (model prog w) A (pyNext (.ref z)) Q E s := by
  rcases st.z with ⟨a, b, q1, q2⟩ | ⟨T, f, oT, q1, q2, q3, q4, q5, q6⟩
  · exact pyNext_end hh D q1 st.ti q2 st.h1 st.h2 st.x st.y hx hy hQ
  · exact pyNext_end_held hh D q1 q2 st.ti st.h1 st.h2 st.x st.y hx hy fun h' hk => hQ h' fun c o c1 c2 c3 c4 e => hk c o c1 c3 c4 e
/-- the tuples -/
structure ZG (xs ys : Array Value) (lo : Addr) (h : Heap) (as : List Addr) : Prop where
  rise : as.Pairwise (· < ·)
  above : ∀ a ∈ as, lo ≤ a
  pairs : ∀ (j : Nat) (a : Addr), as[j]? = some a → ∃ x y, xs[j]? = some x ∧ ys[j]? = some y ∧ IsPair h a x y
theorem ZG.there {lo : Addr} {h : Heap} {as : List Addr} (g : ZG xs ys lo h as) {a : Addr} (ha : a ∈ as) : a < h.objs.size := by
  obtain ⟨j, hj⟩ := List.mem_iff_getElem?.mp ha
  obtain ⟨_, _, _, _, e⟩ := g.pairs j a hj
  exact Heap.lt_size e
end
end ZS
end PySem

set_option Elab.async false
set_option linter.all false
set_option maxRecDepth 100000
set_option maxHeartbeats 4000000
namespace PySem
namespace ZS
open Sem (wp)
section
variable {prog : Program} {w : World} {A : Around} {s : Shared} {R : Result → Shared → Prop} {z TI TO i1 i2 l1 l2 S lo : Addr} {xs ys : Array Value} {n : Nat}
theorem zloop (hh : A.handled = none) (D : ZipApart z TI TO i1 i2 l1 l2) (P : SApart S z TI TO i1 i2 l1 l2) (bz : z < lo) (bT : TO < lo) (b1 : i1 < lo) (b2 : i2 < lo) (bS : S < lo) (hxs : xs.size = n) (hys : ys.size = n) (hn : n ≤ sizeLine) (res : Value) {h₁ : Heap}
    (hR : ∀ h' tk acc c as, (∀ b o, b ≠ S → b ≠ z → b ≠ TO → b ≠ i1 → b ≠ i2 → h₁.get? b = some o → h'.get? b = some o) → h'.get? S = some { cls := .type "list", dict := none, data := .seq acc c, slots := #[] } → as.length = n → ZG xs ys lo h' as →
      acc.toList = as.map Value.ref → R (.ok (.ret res)) { s with heap := h', toks := tk }) :
    ∀ (k i : Nat) (h : Heap) (tk c : Nat) (acc : Array Value) (as : List Addr), n - i = k → i ≤ n → ZSt h z TI TO i1 i2 l1 l2 S xs ys i → (∀ b o, b ≠ S → b ≠ z → b ≠ TO → b ≠ i1 → b ≠ i2 → h₁.get? b = some o → h.get? b = some o) →
      h.get? S = some { cls := .type "list", dict := none, data := .seq acc c, slots := #[] } → acc.toList = as.map Value.ref → as.length = i → ZG xs ys lo h as → lo ≤ h.objs.size →
      codeAny (model prog w) A (.builtin "list.extend.loop" ⟨[.ref S, .ref z, res], []⟩) R { s with heap := h, toks := tk } := by
  intro k
  induction k with
  | zero =>
    intro i h tk c acc as hk hi hst hkeep hS hacc hal hG hIs
    have hin : i = n := by omega
    refine codeAny_builtin PySem.F.entry_extend_loop ?_
    rw [Around.under_plainId PySem.F.plain_extend_loop _]
    show wpAny _ A.in1 (pyNext (.ref z) >>= _) _ _ _
    refine wpAny_bind (zst_done (s := { s with heap := h, toks := tk }) (A := A.in1) hh D hst (Array.getElem?_eq_none (by omega)) (Array.getElem?_eq_none (by omega)) fun h' he => ?_)
    refine wpAny_pure (hR h' tk acc c as (fun b o h1 h2 h3 h4 h5 e => he b o h2 h3 h4 h5 (hkeep b o h1 h2 h3 h4 h5 e)) (he S _ P.z P.TO P.i1 P.i2 hS) (by omega) ⟨hG.rise, hG.above, fun j a hj => ?_⟩ hacc)
    obtain ⟨x, y, e1, e2, e3⟩ := hG.pairs j a hj
    have la := hG.above a (List.mem_of_getElem? hj)
    have ne : ∀ {c : Addr}, c < lo → a ≠ c := fun h => Nat.ne_of_gt (Nat.lt_of_lt_of_le h la)
    exact ⟨x, y, e1, e2, he a _ (ne bz) (ne bT) (ne b1) (ne b2) e3⟩
  | succ k ih =>
    intro i h tk c acc as hk hi hst hkeep hS hacc hal hG hIs
    have hlt : i < n := by omega
    have hx : xs[i]? = some xs[i] := Array.getElem?_eq_getElem (by omega)
    have hy : ys[i]? = some ys[i] := Array.getElem?_eq_getElem (by omega)
    generalize xs[i] = x at hx
    generalize ys[i] = y at hy
    have hsz : acc.size = i := by rw [← Array.length_toList, hacc, List.length_map, hal]
    refine codeAny_builtin PySem.F.entry_extend_loop ?_
    rw [Around.under_plainId PySem.F.plain_extend_loop _]
    show wpAny _ A.in1 (pyNext (.ref z) >>= _) _ _ _
    refine wpAny_bind (zst_item (s := { s with heap := h, toks := tk }) (S := S) D P hst hx hy (Heap.lt_size hS) fun h' hst' ht hz hkp => ?_)
    dsimp only at ht hz hkp ⊢
    have hS' := hkp S _ P.z P.TO P.i1 P.i2 hS
    have up : ∀ b o, b ≠ S → h'.get? b = some o → (h'.update S (Obj.mapSeq (·.push (Value.ref h.objs.size)))).get? b = some o := fun b o hb e => (Heap.get?_update_other _ _ (Ne.symm hb)).trans e
    have hSl : S < h.objs.size := Heap.lt_size hS
    show wpAny _ A.in1 (updateSeq S (·.push (Value.ref h.objs.size)) >>= _) _ _ _
    refine wpAny_bind ?_
    refine wpAny_updateSeq hS' rfl (wpAny_pure ⟨plainId_quiet PySem.F.plain_extend_loop _, ih (i + 1) _ tk _ (acc.push (Value.ref h.objs.size)) (as ++ [h.objs.size]) (by omega) hlt (hst'.keep P up)
      (fun b o h1 h2 h3 h4 h5 e => up b o h1 (hkp b o h2 h3 h4 h5 (hkeep b o h1 h2 h3 h4 h5 e))) (Heap.get?_update_self _ hS' rfl) (by rw [Array.toList_push, hacc, List.map_append]; rfl) (by rw [List.length_append, hal]; rfl) ⟨?_, ?_, ?_⟩ ?_⟩) (by rw [hsz]; omega) (by show (acc.push (Value.ref h.objs.size)).size ≤ sizeLine + 1; rw [Array.size_push, hsz]; omega)
    · refine List.pairwise_append.mpr ⟨hG.rise, List.pairwise_singleton _ _, fun a ha b hb => ?_⟩
      rw [List.mem_singleton.mp hb]
      exact hG.there ha
    · intro a ha
      rcases List.mem_append.mp ha with ha | ha
      · exact hG.above a ha
      · rw [List.mem_singleton.mp ha]; exact hIs
    · intro j b hj
      rcases Nat.lt_trichotomy j as.length with h1 | h1 | h1
      · rw [List.getElem?_append_left h1] at hj
        obtain ⟨x', y', e1, e2, e3⟩ := hG.pairs j b hj
        have hb := hG.above b (List.mem_of_getElem? hj)
        have ne : ∀ {c : Addr}, c < lo → b ≠ c := fun h => Nat.ne_of_gt (Nat.lt_of_lt_of_le h hb)
        exact ⟨x', y', e1, e2, up b _ (ne bS) (hkp b _ (ne bz) (ne bT) (ne b1) (ne b2) e3)⟩
      · subst h1
        have hb : h.objs.size = b := by simpa using hj
        subst hb
        exact ⟨x, y, by rw [hal]; exact hx, by rw [hal]; exact hy, up _ _ (Nat.ne_of_gt hSl) ht⟩
      · have hnone : (as ++ [h.objs.size])[j]? = none := List.getElem?_eq_none (by rw [List.length_append, List.length_singleton]; omega)
        rw [hnone] at hj; cases hj
    · have e : (h'.update S (Obj.mapSeq (·.push (Value.ref h.objs.size)))).get? h.objs.size = _ := up _ _ (Nat.ne_of_gt hSl) ht
      exact Nat.le_of_lt (Nat.lt_of_le_of_lt hIs (Heap.lt_size e))
end
section
variable {prog : Program} {w : World} {A : Around} {E : Value → Shared → Prop} {s : Shared} {z TI TO i1 i2 l1 l2 S lo : Addr} {xs ys : Array Value} {n : Nat} {a b : Value}
theorem zextend {R : Result → Shared → Prop} (hh : A.handled = none) (D : ZipApart z TI TO i1 i2 l1 l2) (P : SApart S z TI TO i1 i2 l1 l2) (st : ZSt s.heap z TI TO i1 i2 l1 l2 S xs ys 0) (hz : IsZipS s.heap z TI TO .none) (bz : z < lo) (bT : TO < lo) (b1 : i1 < lo) (b2 : i2 < lo) (bS : S < lo) (blo : lo ≤ s.heap.objs.size)
    (hxs : xs.size = n) (hys : ys.size = n) (hn : n ≤ sizeLine) (res : Value) (c₀ : Nat) (hS : s.heap.get? S = some { cls := .type "list", data := .seq #[] c₀ })
    (hR : ∀ h' tk acc c as, (∀ b o, b ≠ S → b ≠ z → b ≠ TO → b ≠ i1 → b ≠ i2 → s.heap.get? b = some o → h'.get? b = some o) → h'.get? S = some { cls := .type "list", dict := none, data := .seq acc c, slots := #[] } → as.length = n → ZG xs ys lo h' as →
      acc.toList = as.map Value.ref → R (.ok (.ret res)) { s with heap := h', toks := tk }) :
    wpAny (model prog w) A.in1 (Builtin.List.listExtendWith (.ref S) (.ref z) res)
      (fun fin s' => match fin with | .done f => R (.ok f) s' | .again c' => c'.quiet = true ∧ codeAny (model prog w) A c' R s') (fun e s' => R (.error e) s') s := by
  have hT : s.TypeIs (.ref z) "zip" := ⟨_, hz, rfl⟩
  have key : ∀ (h : Heap) (c₁ tk : Nat), (∀ b o, b ≠ S → s.heap.get? b = some o → h.get? b = some o) → h.get? S = some { cls := .type "list", data := .seq #[] c₁ } → s.heap.objs.size ≤ h.objs.size → codeAny (model prog w) A (.builtin "list.extend.loop" ⟨[.ref S, .ref z, res], []⟩) R { s with heap := h, toks := tk } := by
    intro h c₁ tk hk hS₁ hsz
    refine zloop (s := s) (h₁ := s.heap) hh D P bz bT b1 b2 bS hxs hys hn res hR n 0 h tk c₁ #[] [] (Nat.sub_zero _) (Nat.zero_le _) (st.keep P hk) (fun b o hb _ _ _ _ e => hk b o hb e) hS₁ rfl rfl ⟨List.Pairwise.nil, (fun _ ha => nomatch ha), (fun j a hj => by simp at hj)⟩ (Nat.le_trans blo hsz)
  unfold Builtin.List.listExtendWith
  refine wpAny_bind (wpAny_typeOf (T := "zip") hT ?_)
  have h1 : Builtin.List.listSameRef (.ref S) (.ref z) = false := by simp [Builtin.List.listSameRef, P.z]
  have h2 : (Value.type "zip" == Value.type "list") = false := by decide
  have h3 : (Value.type "zip" == Value.type "tuple") = false := by decide
  simp only [h1, h2, h3, Bool.or_false, Bool.false_eq_true, if_false]
  refine wpAny_bind (pyIter_zip hz ?_)
  refine wpAny_bind (wpAny_holding (hint_zip hT ?_))
  refine wpAny_ite_split (fun _ => ?_) (fun hab => absurd (by simp) hab)
  refine wpAny_bind (wpAny_rule ?_)
  refine wpAny_bind ?_
  show wpAny _ _ (updateSeq S (·.push .none) >>= fun _ => updateSeq S (·.pop)) _ _ _
  refine wpAny_bind (wpAny_updateSeq hS rfl ?_)
  have hS₂ := Heap.get?_update_self (Obj.mapSeq (·.push Value.none)) hS rfl
  refine wpAny_updateSeq (hz := by seq_fits) hS₂ rfl ?_
  have hS₃ := Heap.get?_update_self (Obj.mapSeq (·.pop)) hS₂ rfl
  refine wpAny_pure ⟨plainId_quiet PySem.F.plain_extend_loop _, key _ _ _ (fun b o hb e => ?_) hS₃ (by simp)⟩
  exact (Heap.get?_update_other _ _ (Ne.symm hb)).trans ((Heap.get?_update_other _ _ (Ne.symm hb)).trans e)
theorem zinit {R : Result → Shared → Prop} (hh : A.handled = none) (D : ZipApart z TI TO i1 i2 l1 l2) (P : SApart S z TI TO i1 i2 l1 l2) (st : ZSt s.heap z TI TO i1 i2 l1 l2 S xs ys 0) (hz : IsZipS s.heap z TI TO .none) (bz : z < lo) (bT : TO < lo) (b1 : i1 < lo) (b2 : i2 < lo) (bS : S < lo) (blo : lo ≤ s.heap.objs.size)
    (hxs : xs.size = n) (hys : ys.size = n) (hn : n ≤ sizeLine) (hS : s.heap.get? S = some { cls := .type "list", data := .seq #[] })
    (hR : ∀ h' tk acc c as, (∀ b o, b ≠ S → b ≠ z → b ≠ TO → b ≠ i1 → b ≠ i2 → s.heap.get? b = some o → h'.get? b = some o) → h'.get? S = some { cls := .type "list", dict := none, data := .seq acc c, slots := #[] } → as.length = n → ZG xs ys lo h' as →
      acc.toList = as.map Value.ref → R (.ok (.ret .none)) { s with heap := h', toks := tk }) :
    wpAny (model prog w) A.in1 (Builtin.«list.__init__» ⟨[.ref S, .ref z], []⟩)
      (fun fin s' => match fin with | .done f => R (.ok f) s' | .again c' => c'.quiet = true ∧ codeAny (model prog w) A c' R s') (fun e s' => R (.error e) s') s := by
  show wpAny _ _ (do let old ← Builtin.List.listItems (.ref S); Builtin.List.listUpdate (.ref S) (fun _ => #[]); letGo old.toList.reverse; Builtin.List.listExtendWith (.ref S) (.ref z) .none) _ _ s
  refine wpAny_bind ?_
  unfold Builtin.List.listItems
  refine wpAny_bind (wpAny_seqItems hS rfl (wpAny_pure ?_))
  show wpAny _ _ (updateSeq S (fun _ => #[]) >>= fun _ => letGo (#[] : Array Value).toList.reverse >>= fun _ => Builtin.List.listExtendWith (.ref S) (.ref z) .none) _ _ s
  refine wpAny_bind (wpAny_updateSeq hS rfl ?_)
  have hS₂ := Heap.get?_update_self (Obj.mapSeq (fun _ => (#[] : Array Value))) hS rfl
  have oth : ∀ b o, b ≠ S → s.heap.get? b = some o → (s.heap.update S (Obj.mapSeq (fun _ => (#[] : Array Value)))).get? b = some o :=
    fun b o hb e => (Heap.get?_update_other _ _ (Ne.symm hb)).trans e
  refine wpAny_bind (wpAny_letGo ?_)
  refine zextend hh D P (st.keep P oth) (oth _ _ P.z.symm hz) bz bT b1 b2 bS (by simpa using blo) hxs hys hn .none _ hS₂ (fun h' tk acc c as hk hS' hl hG hacc => ?_)
  exact hR h' tk acc c as (fun b o hb c1 c2 c3 c4 e => hk b o hb c1 c2 c3 c4 (oth b o hb e)) hS' hl hG hacc
theorem zcall {Q : Value → Shared → Prop} (hh : A.handled = none) (D : ZipApart z TI TO i1 i2 l1 l2) (hz : IsZipS s.heap z TI TO .none) (hTI : IsPair s.heap TI (.ref i1) (.ref i2)) (hTO : IsPair s.heap TO a b) (h1 : s.heap.IsListIter i1 l1 0) (h2 : s.heap.IsListIter i2 l2 0) (hx : s.heap.IsList l1 xs) (hy : s.heap.IsList l2 ys)
    (hxs : xs.size = n) (hys : ys.size = n) (hn : n ≤ sizeLine)
    (hQ : ∀ h' tk acc c as, (∀ b o, b ≠ z → b ≠ TO → b ≠ i1 → b ≠ i2 → s.heap.get? b = some o → h'.get? b = some o) → h'.get? s.heap.objs.size = some { cls := .type "list", dict := none, data := .seq acc c, slots := #[] } → as.length = n → ZG xs ys (s.heap.objs.size + 1) h' as →
      acc.toList = as.map Value.ref → Q (.ref s.heap.objs.size) { s with heap := h', toks := tk }) :
    wpAny (model prog w) A (call (.type "list") [.ref z]) Q E s := by
  refine callType_codes (Q₁ := fun obj s₁ => obj = .ref s.heap.objs.size ∧ s₁ = { s with heap := s.heap.push { cls := .type "list", data := .seq #[] } }) PySem.F.called_list (PySem.F.typeCall_list_1 _) PySem.F.entry_list_init
    (code_list_new _ ⟨rfl, rfl⟩) fun obj s₁ h₁ => ?_
  obtain ⟨rfl, rfl⟩ := h₁
  have hS : (s.heap.push { cls := .type "list", data := .seq #[] }).get? s.heap.objs.size = some { cls := .type "list", data := .seq #[] } := Heap.get?_push_size _ rfl
  have lz := Heap.lt_size hz
  have lT := Heap.lt_size hTI
  have lO := Heap.lt_size hTO
  have li1 : i1 < s.heap.objs.size := let ⟨_, e, _⟩ := h1; Heap.lt_size e
  have li2 : i2 < s.heap.objs.size := let ⟨_, e, _⟩ := h2; Heap.lt_size e
  have ll1 : l1 < s.heap.objs.size := let ⟨_, e, _⟩ := hx; Heap.lt_size e
  have ll2 : l2 < s.heap.objs.size := let ⟨_, e, _⟩ := hy; Heap.lt_size e
  have P : SApart s.heap.objs.size z TI TO i1 i2 l1 l2 := ⟨Nat.ne_of_gt lz, Nat.ne_of_gt lT, Nat.ne_of_gt lO, Nat.ne_of_gt li1, Nat.ne_of_gt li2, Nat.ne_of_gt ll1, Nat.ne_of_gt ll2⟩
  have pz : IsZipS (s.heap.push { cls := .type "list", data := .seq #[] }) z TI TO .none := Heap.get?_push_of_some _ hz
  refine ⟨⟨_, hS, rfl⟩, PySem.F.args_list_init_2 _ _, zinit (A := A.in1) (lo := s.heap.objs.size + 1) hh D P ⟨Heap.get?_push_of_some _ hTI, h1.at fun o e => Heap.get?_push_of_some _ e, h2.at fun o e => Heap.get?_push_of_some _ e, hx.push _, hy.push _, .inl ⟨a, b, pz, Heap.get?_push_of_some _ hTO⟩⟩ pz (Nat.lt_succ_of_lt lz) (Nat.lt_succ_of_lt lO) (Nat.lt_succ_of_lt li1) (Nat.lt_succ_of_lt li2) (Nat.lt_succ_self _) (by rw [Heap.size_push]; exact Nat.le_refl _) hxs hys hn hS (fun h' tk acc c as hk hS' hl hG hacc => ?_)⟩
  exact ⟨rfl, hQ h' tk acc c as (fun b o c1 c2 c3 c4 e => hk b o (Nat.ne_of_lt (Heap.lt_size e)) c1 c2 c3 c4 (Heap.get?_push_of_some _ e)) hS' hl hG hacc⟩
end
end ZS
end PySem

set_option Elab.async false
set_option linter.all false
set_option maxRecDepth 100000
set_option maxHeartbeats 4000000
namespace L2
open PySem PySem.Spec PyProof.Rows LiI
def putP : Hp → List Addr → List (V × V) → Hp
  | H, a :: as, p :: ps => putP (upd H a (.tup [p.1, p.2])) as ps
  | H, _, _ => H
theorem putP_off {b : Addr} : ∀ (as : List Addr) (ps : List (V × V)) (H : Hp), b ∉ as → putP H as ps b = H b
  | [], _, _, _ => rfl
  | _ :: _, [], _, _ => rfl
  | a :: as, p :: ps, H, h => by
    show putP (upd H a (.tup [p.1, p.2])) as ps b = H b
    rw [putP_off as ps _ (fun z => h (List.mem_cons_of_mem _ z)), upd_ne (fun z => h (by rw [z]; exact List.mem_cons_self))]
theorem putP_at : ∀ (as : List Addr) (ps : List (V × V)) (H : Hp), as.length = ps.length → as.Nodup → Paired (fun (t : Addr) (p : V × V) => putP H as ps t = some (.tup [p.1, p.2])) as ps
  | [], [], _, _, _ => .nil
  | [], _ :: _, _, h, _ => by cases h
  | _ :: _, [], _, h, _ => by cases h
  | a :: as, p :: ps, H, h, hn => by
    have hn' := List.nodup_cons.mp hn
    have ih := putP_at as ps (upd H a (.tup [p.1, p.2])) (Nat.succ.inj h) hn'.2
    refine .cons ?_ ih
    show putP (upd H a (.tup [p.1, p.2])) as ps a = some (.tup [p.1, p.2])
    rw [putP_off as ps _ hn'.1, upd_same]
section
variable {X : Cx}
theorem zip_laid {pins : List (Addr × Obj)} {σ : L2.St} {H : Hp} {s : Shared} {h' : Heap} {tk : Nat} {xs ys : List V} {us ws : List Value} {acc : Array Value} {c : Nat} {as : List Addr} (I : Inv X pins σ H s) (rx : Vals xs us) (ry : Vals ys ws) (hl : xs.length = ys.length) (hz : xs.length ≤ sizeLine)
    (hk : ∀ b o, s.heap.get? b = some o → h'.get? b = some o) (S : Addr) (hSs : s.heap.objs.size ≤ S) (hS : h'.get? S = some { cls := .type "list", dict := none, data := .seq acc c, slots := #[] }) (hal : as.length = xs.length) (hG : ZS.ZG us.toArray ws.toArray (S + 1) h' as) (hacc : acc.toList = as.map Value.ref) :
    ∃ H' : Hp, (∀ b o, H b = some o → H' b = some o) ∧ H S = none ∧ (∀ t ∈ as, H t = none) ∧ S ∉ as ∧ H' S = some (.lst (as.map V.ref)) ∧ Paired (fun (t : Addr) (q : V × V) => H' t = some (.tup [q.1, q.2])) as (xs.zip ys) ∧ Inv X pins σ H' { s with heap := h', toks := tk } := by
  have hSn : S ∉ as := fun z => Nat.lt_irrefl _ (hG.above _ z)
  have nd : as.Nodup := List.Pairwise.imp (fun {a b} (h : a < b) => Nat.ne_of_lt h) hG.rise
  have ge : ∀ t ∈ as, s.heap.objs.size ≤ t := fun t ht => Nat.le_trans hSs (Nat.le_of_lt (hG.above t ht))
  have new : ∀ t ∈ as, H t = none := fun t ht => I.hok.fresh (ge t ht)
  have newS : H S = none := I.hok.fresh hSs
  have lz : (xs.zip ys).length = xs.length := by rw [List.length_zip, ← hl, Nat.min_self]
  have atP := putP_at as (xs.zip ys) (upd H S (.lst (as.map V.ref))) (by omega) nd
  have off : ∀ b, b ∉ as → b ≠ S → putP (upd H S (.lst (as.map V.ref))) as (xs.zip ys) b = H b := fun b h1 h2 => by rw [putP_off as _ _ h1, upd_ne h2]
  have low : ∀ b o, s.heap.get? b = some o → b ∉ as ∧ b ≠ S := fun b o e => ⟨fun z => absurd (Heap.lt_size e) (Nat.not_lt.mpr (ge b z)), Nat.ne_of_lt (Nat.lt_of_lt_of_le (Heap.lt_size e) hSs)⟩
  have kp : ∀ b u, H b = some u → (putP (upd H S (.lst (as.map V.ref))) as (xs.zip ys)) b = some u := fun b u e => by
    rw [off b (fun z => by rw [new b z] at e; cases e) (fun z => by rw [z, newS] at e; cases e)]
    exact e
  have eS : putP (upd H S (.lst (as.map V.ref))) as (xs.zip ys) S = some (.lst (as.map V.ref)) := by rw [putP_off as _ _ hSn, upd_same]
  refine ⟨putP (upd H S (.lst (as.map V.ref))) as (xs.zip ys), kp, newS, new, hSn, eS, atP, ?_⟩
  refine I.call' (ch := []) rfl ⟨fun b o q _ _ _ => hk b o q, fun b o q _ _ _ => ⟨o.slots, hk b o q⟩, fun b o q n _ => ?_, fun b o q _ => ⟨o, hk b o q⟩, fun b xs q => kp b _ q, fun b o u q => kp b _ q, fun b ps q => ⟨#[], by rw [kp b _ q]; simp⟩⟩ (fun b u q => ?_) I.bare fun b z => by simp at z
  · obtain ⟨z1, z2⟩ := low b o q
    rw [off b z1 z2]
    exact n
  · by_cases hb : b ∈ as
    · obtain ⟨j, pk, e1, e2, e3⟩ := paired_ix atP hb
      rw [e3] at q
      cases q
      obtain ⟨x, y, f1, f2, f3⟩ := hG.pairs j b e1
      obtain ⟨g1, g2⟩ := List.getElem?_zip_eq_some.mp e2
      obtain ⟨u1, h1, r1⟩ := rx.get g1
      obtain ⟨u2, h2, r2⟩ := ry.get g2
      have q1 : x = u1 := by
        have : us.toArray[j]? = us[j]? := by simp
        rw [this, h1] at f1
        exact (Option.some.inj f1).symm
      have q2 : y = u2 := by
        have : ws.toArray[j]? = ws[j]? := by simp
        rw [this, h2] at f2
        exact (Option.some.inj f2).symm
      subst q1 q2
      exact ⟨by show 2 ≤ sizeLine; decide, [x, y], .cons r1 (.cons r2 .nil), ⟨_, f3, rfl, _, rfl⟩⟩
    · by_cases hb2 : b = S
      · rw [hb2] at q ⊢
        rw [eS] at q
        cases q
        refine ⟨by rw [List.length_map]; omega, acc.toList, c, by rw [hacc]; exact vals_refs as, ?_⟩
        rw [Array.toArray_toList]
        exact hS
      · rw [off b hb hb2] at q
        exact (I.hok b u q).stay (fun d v _ y => hk d v y) (fun d y => kp d _ y) fun d xs y => kp d _ y
def tListZipS (K : PySem.W.Frag) (ta : TA) : TE := fun σ H Q => ta σ H fun vs H1 => ∃ (a b : Addr) (xs ys : List V), vs = [.ref a, .ref b] ∧ SqL K H1 a xs ∧ SqL K H1 b ys ∧ xs.length = ys.length ∧
  ∀ (H' : Hp) (p : Addr) (ts : List Addr), (∀ b o, H1 b = some o → H' b = some o) → H1 p = none → (∀ t ∈ ts, H1 t = none) → p ∉ ts → H' p = some (.lst (ts.map V.ref)) → Paired (fun (t : Addr) (q : V × V) => H' t = some (.tup [q.1, q.2])) ts (xs.zip ys) → Q (.ref p) H'
theorem pe_listZipS {e e2 : Expr} {ta : TA} {p p2 pos zpos cp kp : Pos} {ck : Nat} (hc : X.calm = true) (hgl : Gl X "list") (hml : X.mg "list" = none) (hg : Gl X "zip") (hm : X.mg "zip" = none) (ha : PA X [e, e2] ta)
    (hvl : bootBuiltins "list" = some (.type "list") := by decide +kernel)
    (hs : backTo zpos (starEach [e, e2] X.env) = (false, eval e X.env) :: backTo zpos (starEach [e2] X.env) := by rfl) (hpl : (backTo zpos (starEach [e, e2] X.env)).any (·.1) = false := by rfl)
    (hs2 : starEach [.Call (.Name "zip" p2) [e, e2] [⟨some "strict", .Constant (.bool true) ck cp, kp⟩] zpos] X.env = (false, eval (.Call (.Name "zip" p2) [e, e2] [⟨some "strict", .Constant (.bool true) ck cp, kp⟩] zpos) X.env) :: starEach [] X.env := by rfl) :
    PE X (.Call (.Name "list" p) [.Call (.Name "zip" p2) [e, e2] [⟨some "strict", .Constant (.bool true) ck cp, kp⟩] zpos] [] pos) (tListZipS X.K ta) := by
  refine ⟨fun pins s σ H Q I h => ?_⟩
  refine wpAny_Call_Name_kw (ld_blt I hgl hml hvl ?_)
  refine PyProof.Rows.callWith_type1 ?_ hs2 rfl
  rw [hs2]
  show wpAny _ _ (spliced ((false, eval (.Call (.Name "zip" p2) [e, e2] [⟨some "strict", .Constant (.bool true) ck cp, kp⟩] zpos) X.env) :: backTo pos (starEach [] X.env))) _ _ s
  refine Calls.spliced_cons ?_
  refine wpAny_Call_Name_kw (ld_blt I hg hm PyProof.Rows.boot_zip (ZS.callWith_kwT (thn (ha.run zpos pins s σ H _ I h) fun us s1 ⟨vs, H1, I1, r1, q1⟩ => ?_) hs hpl))
  refine PyProof.Rows.kws_cons ?_
  refine wpAny_pure (PyProof.Rows.kws_nil ?_)
  obtain ⟨a, b, xs, ys, ex, hqx, hqy, hl, q⟩ := q1
  subst ex
  cases r1 with
  | cons r rr =>
    cases rr with
    | cons r' rr =>
      cases rr
      cases r
      cases r'
      obtain ⟨its, rv, p1, hz1⟩ := I1.list hqx
      obtain ⟨its2, rv2, p2, _⟩ := I1.list hqy
      have la : a < s1.heap.objs.size := p1.lt
      have lb : b < s1.heap.objs.size := p2.lt
      have l1 := rv.length
      have l2 := rv2.length
      refine ZS.call_zipS p1.isList p2.isList fun h' hz hTI hTO h1 h2 hsz hk => ?_
      refine Calls.spliced_nil ?_
      have D := PySem.W.ktu_apart s1.heap.objs.size a b la lb
      refine ZS.zcall (s := { s1 with heap := h' }) (n := xs.length) (I.ok.hd hc) D hz hTI hTO h1 h2 (p1.isList.at fun o e => hk _ _ e) (p2.isList.at fun o e => hk _ _ e) (by simp [l1]) (by simp; omega) hz1 fun h2' tk acc c as hk2 hS hal hG hacc => ?_
      have up : ∀ c o, s1.heap.get? c = some o → h2'.get? c = some o := fun c o e => by
        have lc := Heap.lt_size e
        exact hk2 c o (Nat.ne_of_lt (Nat.lt_of_lt_of_le lc (Nat.le_add_right _ _))) (Nat.ne_of_lt (Nat.lt_of_lt_of_le lc (Nat.le_add_right _ _))) (Nat.ne_of_lt lc) (Nat.ne_of_lt (Nat.lt_of_lt_of_le lc (Nat.le_add_right _ _))) (hk c o e)
      have hge : s1.heap.objs.size ≤ h'.objs.size := by rw [hsz]; exact Nat.le_add_right _ _
      obtain ⟨H', k1, k2, k3, k4, k5, k6, J⟩ := zip_laid (tk := tk) I1 rv rv2 hl hz1 up h'.objs.size hge hS hal hG hacc
      exact ⟨.ref _, H', J, rfl, q H' _ as k1 k2 k3 k4 k5 k6⟩
end
end L2

set_option Elab.async false
set_option linter.all false
set_option maxRecDepth 100000
set_option maxHeartbeats 4000000
namespace Dv
open PySem PySem.Spec PyProof.Rows L2 Evl
section
variable {K : PySem.W.Frag} {σ : L2.St} {F H : Hp} {ds es : List PyData} {tas : TA}
def takeT (F H' : Hp) (ts : List Addr) : Hp := fun a => if a ∈ ts then H' a else F a
theorem takeT_in {F H' : Hp} {ts : List Addr} {a : Addr} (h : a ∈ ts) : takeT F H' ts a = H' a := if_pos h
theorem takeT_out {F H' : Hp} {ts : List Addr} {a : Addr} (h : a ∉ ts) : takeT F H' ts a = F a := if_neg h
theorem takeT_gr {F H H' : Hp} {ts : List Addr} (e : Ex F H) (k : ∀ b o, H b = some o → H' b = some o) (n : ∀ t ∈ ts, H t = none) : Gr F H (takeT F H' ts) H' :=
  ⟨fun a u ha => by
    have : a ∉ ts := fun z => by
      have h1 := e a u ha
      rw [n a z] at h1
      cases h1
    rw [takeT_out this]; exact ha, fun a u ha => by
    by_cases q : a ∈ ts
    · rw [takeT_in q] at ha; exact ha
    · rw [takeT_out q] at ha; exact k a u (e a u ha), k, fun a h1 h2 => by
    by_cases q : a ∈ ts
    · exact n a q
    · rw [takeT_out q] at h2; exact absurd h1 h2⟩
theorem zip_dps {F H' : Hp} : ∀ {ts : List Addr} {xs ys : List V} {ds es : List PyData}, DpAll K F xs ds → DpAll K F ys es → (∀ t ∈ ts, F t = H' t) → Paired (fun (t : Addr) (q : V × V) => H' t = some (.tup [q.1, q.2])) ts (xs.zip ys) → DpAll K F (ts.map V.ref) ((ds.zip es).map fun z => .tuple [z.1, z.2])
  | [], [], _, [], _, _, _, _, _ => .nil
  | [], _ :: _, [], _ :: _, [], _, _, _, _ => .nil
  | t :: ts, x :: xs, y :: ys, d :: ds, e :: es, .cons h1 h2, .cons g1 g2, hf, .cons p1 p2 => .cons (.tup (Evl.st_of (by rw [hf t List.mem_cons_self]; exact p1)) (.cons h1 (.cons g1 .nil))) (zip_dps h2 g2 (fun t ht => hf t (List.mem_cons_of_mem _ ht)) p2)
/-- list(zip(xs, ys, strict=True)) -/
theorem el_listZipS (h : EaD K tas σ F [.list ds, .list es]) (hl : ds.length = es.length) : EvL K (tListZipS K tas) σ F ((ds.zip es).map fun z => .tuple [z.1, z.2]) := fun H eH Q q => h H eH _ fun vs F1 H1 g1 hv => by
  cases hv with
  | cons hv hr =>
    cases hr with
    | cons hu hr =>
      cases hr
      cases hv with
      | lst hs hd =>
        cases hu with
        | lst hs2 hd2 =>
          have l1 := dps_len hd
          have l2 := dps_len hd2
          refine ⟨_, _, _, _, rfl, ex_l g1.fh hs, ex_l g1.fh hs2, by omega, fun H' p ts k hp hts hpt hp2 pr => ?_⟩
          have g2 := takeT_gr g1.fh k hts
          refine q p _ (takeT F1 H' ts) H' (g1.trans g2) (ex_none g1.hx hp) (by rw [takeT_out hpt]; exact ex_none g1.fh hp) hp2 ?_
          exact zip_dps (dps_ex g2.fx hd) (dps_ex g2.fx hd2) (fun t ht => takeT_in ht) pr
end
end Dv

set_option Elab.async false
set_option linter.all false
set_option maxRecDepth 100000
set_option maxHeartbeats 4000000
namespace Dv
open PySem PySem.Spec PyProof.Rows L2 Evl
theorem grG_same {x : Addr} {F H F' H' : Hp} {o : HO} (g : GrG x F H F' H') (h : H x = some o) (h' : H' x = some o) : Gr F H F' H' :=
  ⟨g.fx, g.fh, fun a u ha => by
    by_cases q : a = x
    · rw [q] at ha ⊢
      rw [h'] 
      rw [h] at ha
      exact ha
    · have := Gr.hx g a u (by rw [er_ne q]; exact ha)
      rwa [er_ne q] at this, fun a h1 h2 => by
    by_cases q : a = x
    · exact absurd (q ▸ g.fg) h2
    · have := Gr.fr g a h1 h2
      rwa [er_ne q] at this⟩
end Dv
namespace R3
open PySem PySem.Spec PyProof.Rows L2 Evl Dv
open Qa (toF Sx)
section
variable {P : Program} {w : World} {K : PySem.W.Frag} {mg : Str → Option Value} {base : Heap}
def encN (s : Wk) : List PyData := (s.least.zip s.most).map fun z => .tuple [encR z.1, encR z.2]
theorem sc_narrows : FnScope (["mill", "have", "row", "walk"] : List Str) (["mill", "have", "row"] : List Str) (defScope sNarrows) := ⟨rfl, rfl, rfl, by decide +kernel, rfl, by decide +kernel, by decide +kernel⟩
theorem ok_narrows (D : Def K mg "narrows" sNarrows ["mill", "have", "row"]) (B : Bl mg) {C G W CR : Addr} (WC : WalkC K W) (C_check_row : CalX P w K mg base "check_row" ["mill", "have", "row"] 9 (spCheckRow K C G W CR)) :
    CalX P w K mg base "narrows" ["mill", "have", "row"] 10 (spTold K C CR encN) := by
  refine calX_mk D sc_narrows (fun vs H Q E h => ?_) (fun f cdv A outer s H vs Q E hr h => ?_)
  · obtain ⟨F, x, hv, rv, m, hs, bs, A, M, B, rfl, _⟩ := h
    rfl
  obtain ⟨F, ml, hv, rv, m, hs, bs, A0, M0, B0, rfl, e, ri, qn, qs⟩ := h
  refine ⟨_, (pss_cons (ps_set (i := 3) sc_narrows.nd rfl (.inl rfl) (pe_callXC C_check_row hr (takes_of rfl rfl rfl rfl) (pa_cons (pv 0) (pa_cons (pv 1) (pa_cons (pv 2) pa_nil)))))
      (pss_one (ps_ret (pe_listZipS (by rfl) (by rfl) B.list (by rfl) B.zip (pa_cons (pe_fld (pv 3) rfl) (pa_cons (pe_fld (pv 3) rfl) pa_nil)))))), ?_⟩
  have st : start ["mill", "have", "row", "walk"] [V.ref ml, hv, rv] = [some (.ref ml), some hv, some rv, none] := rfl
  rw [st]
  refine seq_of (asg_of (t_callSD3 (i := 0) (j := 1) (k := 2) rfl rfl rfl ⟨F, ml, hv, rv, m, hs, bs, A0, M0, B0, rfl, e, ri, qn, fun s hs F2 H2 x dx gr p1 p2 p3 g2 k1 k2 k3 k4 k5 => ?_⟩))
  dsimp only
  have hw := k3.mono (F1 := upd F2 x (.ins W dx (wkF gr p1 p2 p3))) (ex_upd_of k1)
  have el := el_listZipS (K := K) (σ := [some (.ref ml), some hv, some rv, some (.ref x)]) (F := upd F2 x (.ins W dx (wkF gr p1 p2 p3))) (Dv.ea_cons (ev_fld (i := 3) rfl upd_same WC.cl WC.least wk3 hw.l) (Dv.ea_cons (ev_fld (i := 3) rfl upd_same WC.cl WC.most wk4 hw.u) Dv.ea_nil)) (by rw [List.length_map, List.length_map, k4.ln, k4.un])
  rw [List.zip_map, List.map_map] at el
  refine ex_insL el k1 k2 g2.fh _ fun p vs F3 H3 g3 hx3 hp fp hpx hp3 hd => ?_
  have g3' := grG_same g3 k2 hx3
  exact qs s hs p vs F3 H3 (g2.trans g3') (ex_none g2.hx hp) fp hp3 hd
end
end R3

set_option Elab.async false
set_option linter.all false
set_option maxRecDepth 100000
set_option maxHeartbeats 4000000
namespace Dv
open PySem PySem.Spec PyProof.Rows L2 Evl
/-! dicts with text keys, a list of pairs in plain -/
section
variable {K : PySem.W.Frag} {σ : L2.St} {F F1 H : Hp} {α : Type} {en : α → PyData}
inductive DfR (K : PySem.W.Frag) (F : Hp) (en : α → PyData) : List (Key × V) → List (Str × α) → Prop
  | nil : DfR K F en [] []
  | cons {x : Str} {v : V} {q : α} {kvs : List (Key × V)} {ps : List (Str × α)} : Dp K F v (en q) → DfR K F en kvs ps → DfR K F en ((.inr x, v) :: kvs) ((x, q) :: ps)
theorem DfR.mono (e : Ex F F1) : ∀ {kvs : List (Key × V)} {ps : List (Str × α)}, DfR K F en kvs ps → DfR K F1 en kvs ps
  | _, _, .nil => .nil
  | _, _, .cons h t => .cons (dp_ex e h) (t.mono e)
theorem DfR.lock {ad : Addr} {o : HO} (n : NoSq (F ad)) : ∀ {kvs : List (Key × V)} {ps : List (Str × α)}, DfR K F en kvs ps → DfR K (upd F ad o) en kvs ps
  | _, _, .nil => .nil
  | _, _, .cons h t => .cons (dp_put n h) (t.lock n)
theorem DfR.len : ∀ {kvs : List (Key × V)} {ps : List (Str × α)}, DfR K F en kvs ps → kvs.length = ps.length
  | _, _, .nil => rfl
  | _, _, .cons _ t => by rw [List.length_cons, List.length_cons, t.len]
theorem DfR.vals : ∀ {kvs : List (Key × V)} {ps : List (Str × α)}, DfR K F en kvs ps → DpAll K F (kvs.map Prod.snd) (ps.map fun p => en p.2)
  | _, _, .nil => .nil
  | _, _, .cons h t => .cons h t.vals
def getQ (ps : List (Str × α)) (x : Str) : Option α := (ps.find? fun p => decide (p.1 = x)).map (·.2)
def putQ (ps : List (Str × α)) (x : Str) (q : α) : List (Str × α) := if (ps.any fun p => decide (p.1 = x)) = true then ps.map (fun p => if p.1 = x then (p.1, q) else p) else ps ++ [(x, q)]
theorem inr_dec {x y : Str} : decide ((Sum.inr x : Key) = Sum.inr y) = decide (x = y) := by
  by_cases h : x = y
  · rw [h]; simp
  · rw [decide_eq_false h, decide_eq_false (fun z => h (Sum.inr.inj z))]
theorem DfR.get {x : Str} : ∀ {kvs : List (Key × V)} {ps : List (Str × α)}, DfR K F en kvs ps → (valV kvs (.inr x) = none ∧ getQ ps x = none) ∨ ∃ v q, valV kvs (.inr x) = some v ∧ getQ ps x = some q ∧ Dp K F v (en q)
  | _, _, .nil => .inl ⟨rfl, rfl⟩
  | _, _, .cons (x := y) (v := v) (q := q) (kvs := kvs) (ps := ps) h t => by
    by_cases e : y = x
    · subst e
      exact .inr ⟨v, q, valV_pos rfl, by simp [getQ], h⟩
    · have e1 : valV ((Sum.inr y, v) :: kvs) (Sum.inr x) = valV kvs (.inr x) := valV_neg (fun z => e (Sum.inr.inj z))
      have e2 : getQ ((y, q) :: ps) x = getQ ps x := by simp [getQ, List.find?_cons, e]
      rw [e1, e2]
      exact t.get
theorem DfR.any {x : Str} : ∀ {kvs : List (Key × V)} {ps : List (Str × α)}, DfR K F en kvs ps → (kvs.any fun kv => decide (kv.1 = Sum.inr x)) = ps.any fun p => decide (p.1 = x)
  | _, _, .nil => rfl
  | _, _, .cons h t => by rw [List.any_cons, List.any_cons, t.any, inr_dec]
theorem DfR.map {x : Str} {v : V} {q : α} (h : Dp K F v (en q)) : ∀ {kvs : List (Key × V)} {ps : List (Str × α)}, DfR K F en kvs ps → DfR K F en (kvs.map fun kv => if kv.1 = Sum.inr x then (kv.1, v) else kv) (ps.map fun p => if p.1 = x then (p.1, q) else p)
  | _, _, .nil => .nil
  | _, _, .cons (x := y) g t => by
    rw [List.map_cons, List.map_cons]
    by_cases e : y = x
    · rw [if_pos (by rw [e]), if_pos (show (y, _).1 = x from e)]
      exact .cons h (DfR.map h t)
    · rw [if_neg (fun z => e (Sum.inr.inj z)), if_neg (show ¬ (y, _).1 = x from e)]
      exact .cons g (DfR.map h t)
theorem DfR.snoc {x : Str} {v : V} {q : α} (h : Dp K F v (en q)) : ∀ {kvs : List (Key × V)} {ps : List (Str × α)}, DfR K F en kvs ps → DfR K F en (kvs ++ [(.inr x, v)]) (ps ++ [(x, q)])
  | _, _, .nil => .cons h .nil
  | _, _, .cons g t => .cons g (DfR.snoc h t)
theorem DfR.put {x : Str} {v : V} {q : α} {kvs : List (Key × V)} {ps : List (Str × α)} (h : Dp K F v (en q)) (t : DfR K F en kvs ps) : DfR K F en (putK kvs (.inr x) v) (putQ ps x q) := by
  unfold putK putQ
  rw [t.any]
  split
  · exact DfR.map h t
  · exact DfR.snoc h t
/-- the keys of a locked dict walked -/
theorem it_keysK {ad : Addr} {kvs : List (Key × V)} {o : Obj} {td : TE} {names : List Str} (ht : ∀ H1, Ex F H1 → ∀ Q : VK, Q (.ref ad) H1 → td σ H1 Q) (hd : F ad = some (.frz o (.dK kvs))) (hn : kvs.map Prod.fst = names.map Sum.inr) : ItD K (iKeys td) σ F (names.map PyData.str) := fun H e R q =>
  ht H e _ ⟨ad, o, rfl, .inl ⟨kvs, e _ _ hd, q _ F H (Gr.refl e) ⟨_, _, by
    have : kvs.length = names.length := by
      have := congrArg List.length hn
      rwa [List.length_map, List.length_map] at this
    rw [List.length_map, ← this]
    exact walk_keys, fun H' e' => e' _ _ hd, fun F2 i H2 x H3 hi e1 e2 y => by
    obtain ⟨rfl, k, v, hk, rfl⟩ := y
    have hk2 : (names.map (Sum.inr : Str → Key))[i]? = some k := by rw [← hn, List.getElem?_map, hk] <;> rfl
    rw [List.getElem?_map] at hk2
    cases hz : names[i]? with
    | none => rw [hz] at hk2; cases hk2
    | some nm =>
      rw [hz] at hk2
      cases hk2
      exact ⟨F2, .str nm, by rw [List.getElem?_map, hz] <;> rfl, Gr.refl e2, .str nm⟩⟩⟩⟩
/-! an object out of F read for one evaluation, any kind that is no sequence -/
theorem grG_same' {x : Addr} {F H F' H' : Hp} {o : HO} (g : GrG x F H F' H') (h : H x = some o) (h' : H' x = some o) : Gr F H F' H' :=
  ⟨g.fx, g.fh, fun a u ha => by
    by_cases q : a = x
    · rw [q] at ha ⊢
      rw [h'] 
      rw [h] at ha
      exact ha
    · have := Gr.hx g a u (by rw [er_ne q]; exact ha)
      rwa [er_ne q] at this, fun a h1 h2 => by
    by_cases q : a = x
    · exact absurd (q ▸ g.fg) h2
    · have := Gr.fr g a h1 h2
      rwa [er_ne q] at this⟩
theorem ev_in {x : Addr} {o : HO} {te : TE} {d : PyData} (n : NoSq (some o)) (h : EvD K te σ (upd F x o) d) (fx : F x = none) (hx : H x = some o) (e : Ex F H) (Q : VK) (q : ∀ v F' H', Gr F H F' H' → F' x = none → H' x = some o → Dp K F' v d → Q v H') : te σ H Q :=
  h H (ex_enter e hx) Q fun v F' H' g hv => by
    obtain ⟨g1, g2, g3⟩ := Gr.exit fx hx g
    exact q v _ H' (grG_same' g1 hx g2) g1.fg g2 (dp_er (by rw [g3]; exact n) hv)
/-- found[name] = value -/
theorem s_dputF {i : Nat} {ad : Addr} {kvs : List (Key × V)} {ps : List (Str × α)} {tk tv : TE} {x : Str} {q : α} {D : Ends} (hi : σ[i]? = some (some (.ref ad))) (fx : F ad = none) (hx : H ad = some (.dK kvs)) (r : DfR K F en kvs ps) (e : Ex F H) (hk : EvD K tk σ F (.str x)) (hv : EvD K tv σ (upd F ad (.dK kvs)) (en q)) (hz : kvs.length < 100000)
    (k : ∀ F' H' v, Gr F H F' H' → F' ad = none → H' ad = some (.dK kvs) → DfR K F' en (putK kvs (.inr x) v) (putQ ps x q) → D.nx σ (upd H' ad (.dK (putK kvs (.inr x) v)))) : sDPut (tVar i) tk tv D σ H :=
  ev_in noSq_dK hv fx hx e _ fun v F1 H1 g1 f1 h1 hv1 => ⟨_, hi, (hk.mono g1.fx) H1 g1.fh _ fun y F2 H2 g2 hy => by
    cases hy
    have k2 := g2.keep h1 f1
    exact ⟨ad, _, rfl, DPut.k (k := .inr x) k2.1 (sz_lt hz), k F2 H2 v (g1.trans g2) k2.2 k2.1 (DfR.put (dp_ex g2.fx hv1) (r.mono (g1.fx.trans g2.fx)))⟩⟩
theorem ev_dgetF {i : Nat} {ad : Addr} {kvs : List (Key × V)} {ps : List (Str × α)} {tk : TE} {x : Str} {q : α} (hi : σ[i]? = some (some (.ref ad))) (hd : F ad = some (.dK kvs)) (r : DfR K F en kvs ps) (hk : EvD K tk σ F (.str x)) (hg : getQ ps x = some q) : EvD K (tDGet (tVar i) tk) σ F (en q) := fun H e Q k =>
  ⟨_, hi, hk H e _ fun y F1 H1 g1 hy => by
    cases hy
    rcases r.get (x := x) with ⟨_, h2⟩ | ⟨v, q', h1, h2, h3⟩
    · rw [h2] at hg; cases hg
    · rw [h2] at hg
      cases hg
      have z := DGet.k (k := .inr x) (g1.fh _ _ (g1.fx _ _ hd))
      rw [h1] at z
      exact ⟨ad, v, rfl, z, k v F1 H1 g1 (dp_ex g1.fx h3)⟩⟩
end
end Dv

set_option Elab.async false
set_option linter.all false
set_option maxRecDepth 100000
set_option maxHeartbeats 4000000
namespace R3
open PySem PySem.Spec PyProof.Rows L2 Evl Dv
open Qa (toF Sx)
abbrev Tot := List (Str × Rat)
def addQ (ps : Tot) (x : Str) (q : Rat) : Tot := putQ ps x ((getQ ps x).getD 0 + q)
def blkTot (ps : Tot) (b : BlkD) : Tot := b.2.foldl (fun ps st => addQ ps st.1 (st.2 * ((b.1 : Int) : Rat))) ps
def rowTot (ps : Tot) (bs : List BlkD) : Tot := bs.foldl blkTot ps
def MillD.zero (m : MillD) : Tot := m.titles.map fun x => (x, 0)
/-- all sums bounded, all names there -/
structure TotOk (m : MillD) (B : Nat) (ps : Tot) : Prop where
  k : ps.map (·.1) = m.titles
  b : ∀ p ∈ ps, Sx B p.2
theorem getQ_some {ps : Tot} {x : Str} (h : x ∈ ps.map (·.1)) : ∃ q, getQ ps x = some q ∧ ∃ p ∈ ps, p.1 = x ∧ p.2 = q := by
  induction ps with
  | nil => cases h
  | cons p r ih =>
    by_cases e : p.1 = x
    · exact ⟨p.2, by simp [getQ, List.find?_cons, e], p, List.mem_cons_self, e, rfl⟩
    · have h' : x ∈ r.map (·.1) := by
        rcases List.mem_cons.mp h with h | h
        · exact absurd h.symm e
        · exact h
      obtain ⟨q, h1, y, h2, h3⟩ := ih h'
      refine ⟨q, ?_, y, List.mem_cons_of_mem _ h2, h3⟩
      rw [← h1]
      simp [getQ, List.find?_cons, e]
theorem putQ_there {ps : Tot} {x : Str} {q : Rat} (h : x ∈ ps.map (·.1)) : putQ ps x q = ps.map (fun p => if p.1 = x then (p.1, q) else p) := by
  unfold putQ
  rw [if_pos]
  rw [List.any_eq_true]
  obtain ⟨p, hp, e⟩ := List.mem_map.mp h
  exact ⟨p, hp, decide_eq_true e⟩
theorem TotOk.put {m : MillD} {B C : Nat} {ps : Tot} {x : Str} {q : Rat} (t : TotOk m B ps) (h : x ∈ m.titles) (hq : Sx C q) (hb : B ≤ C) : TotOk m C (putQ ps x q) := by
  rw [putQ_there (by rw [t.k]; exact h)]
  refine ⟨?_, fun p hp => ?_⟩
  · rw [List.map_map, ← t.k]
    apply List.map_congr_left
    intro p _
    show (if p.1 = x then (p.1, q) else p).1 = p.1
    split <;> rfl
  · obtain ⟨y, hy, rfl⟩ := List.mem_map.mp hp
    split
    · exact hq
    · exact (t.b y hy).mono hb
theorem TotOk.add {m : MillD} {B C : Nat} {ps : Tot} {x : Str} {q : Rat} (t : TotOk m B ps) (h : x ∈ m.titles) (hq : Sx C q) : (∃ r, getQ ps x = some r ∧ Sx B r) ∧ TotOk m (B + C) (addQ ps x q) := by
  obtain ⟨r, h1, p, h2, h3, h4⟩ := getQ_some (ps := ps) (x := x) (by rw [t.k]; exact h)
  have hr : Sx B r := h4 ▸ t.b p h2
  refine ⟨⟨r, h1, hr⟩, ?_⟩
  unfold addQ
  rw [h1]
  exact t.put h (hr.add hq) (by omega)
section
variable {P : Program} {w : World} {K : PySem.W.Frag} {mg : Str → Option Value} {base : Heap}
def spDoneL (K : PySem.W.Frag) (C : Addr) : Sp := fun vs H Q _ => ∃ (F : Hp) (ml : Addr) (rv : V) (m : MillD) (bs : List BlkD) (A B N : Nat), vs = [.ref ml, rv] ∧ Ex F H ∧ MillAt K F C ml m ∧ m.Ok ∧ Dp K F rv (encRow bs) ∧ RowOk m A bs ∧ (∀ b ∈ bs, b.2.length * (A * b.1) ≤ N ∧ A < 1000000000000) ∧ B = bs.length * N ∧ B + N < 1000000000000 ∧
  ∀ p ws F' H', Gr F H F' H' → H p = none → F' p = none → H' p = some (.lst ws) → DpAll K F' ws ((rowTot m.zero bs).map fun p => encR p.2) → Q (.ref p) H'
theorem sc_done : FnScope (["mill", "row", "found", "name", "many", "steps", "amount"] : List Str) (["mill", "row"] : List Str) (defScope sDone) := ⟨rfl, rfl, rfl, by decide +kernel, rfl, by decide +kernel, by decide +kernel⟩
theorem ok_done (D : Def K mg "done" sDone ["mill", "row"]) (B : Bl mg) (NN : Noth K mg) {C : Addr} (MC : MillC K C) (C_check_mill : Cal P w K mg base "check_mill" ["value"] 1 (spCheckMill C)) (C_are_blocks : Cal P w K mg base "are_blocks" ["mill", "value"] 6 (spBlocksQ K C)) (C_plus : Cal P w K mg base "plus" ["one", "other"] 3 (spD K fPlus)) (C_scaled : Cal P w K mg base "scaled" ["one", "number"] 3 (spD K fScaled)) :
    Cal P w K mg base "done" ["mill", "row"] 7 (spDoneL K C) := by
  refine cal_mk D sc_done (fun vs H Q E h => ?_) (fun f cdv A outer s H vs Q E hr h => ?_)
  · obtain ⟨F, ml, rv, m, bs, A, B, N, rfl, _⟩ := h
    rfl
  obtain ⟨F, ml, rv, m, bs, A0, B0, N, rfl, e, hm, ok, hrv, ro, hN, hB, hBN, q⟩ := h
  obtain ⟨aN, gN, dN⟩ := NN.ex
  have hu := hu_of hr.1
  refine ⟨_, (pss_cons (ps_expr (pe_callC C_check_mill hr (pa_cons (pv 0) pa_nil)))
      (pss_cons (ps_if (pt_not (pt_val (pe_callC C_are_blocks hr (pa_cons (pv 0) (pa_cons (pv 1) pa_nil))))) (pss_one ps_never) pss_nil)
      (pss_cons (ps_set (i := 2) sc_done.nd rfl (.inl rfl) pe_dnewK)
      (pss_cons (ps_lock (ps_for PassesOwn.never rfl (pi_keys (pe_fld (pv 0) rfl)) (pg_name (i := 3) sc_done.nd rfl (.inl rfl)) (pss_one (ps_dput hu (pv 2) (pv 3) (pe_glob (v := .ref aN) rfl gN rfl) rfl))))
      (pss_cons (ps_for PassesOwn.never rfl (pi_list (pv 1)) (pg_tup (by rfl) (pgs_cons (pg_name (i := 4) sc_done.nd rfl (.inl rfl)) (pgs_cons (pg_name (i := 5) sc_done.nd rfl (.inl rfl)) pgs_nil))) (pss_one (ps_for PassesOwn.never rfl (pi_list (pv 5)) (pg_tup (by rfl) (pgs_cons (pg_name (i := 3) sc_done.nd rfl (.inl rfl)) (pgs_cons (pg_name (i := 6) sc_done.nd rfl (.inl rfl)) pgs_nil))) (pss_one (ps_dput hu (pv 2) (pv 3) (pe_callC C_plus hr (pa_cons (pe_dget hu (pv 2) (pv 3) (fun _ _ => rfl)) (pa_cons (pe_callC C_scaled hr (pa_cons (pv 6) (pa_cons (pv 4) pa_nil))) pa_nil))) rfl)))))
      (pss_one (ps_ret (pe_listVals rfl rfl B.list (pv 2))))))))), ?_⟩
  have st : start ["mill", "row", "found", "name", "many", "steps", "amount"] [V.ref ml, rv] = [some (.ref ml), some rv, none, none, none, none, none] := rfl
  rw [st]
  refine seq_of (s_check (i := 0) rfl hm e ?_)
  dsimp only
  refine seq_of (s_ifF (et_notT (et_v (ev_blocks (i := 0) (j := 1) rfl rfl hm (.dat hrv) (row_gd ok ro) (fun _ _ => row_shaped ok ro)) (by rw [row_blocks ok ro]))) e fun F1 H1 g1 => ?_)
  unfold tNext
  dsimp only
  refine seq_of (asg_of (fun ad had => ?_))
  dsimp only
  show tSeq _ _ _ [some (.ref ml), some rv, some (.ref ad), none, none, none, none] (upd H1 ad (.dK []))
  have fad : F1 ad = none := ex_none g1.fh had
  have hadH : H ad = none := ex_none g1.hx had
  obtain ⟨dx, ro', sp, ru, kvs, hml, hru, hkv, hkd, hin⟩ := (hm.mono g1.fx).rulesAt
  have hra : ad ≠ ru := fun z => by rw [z, hru] at fad; cases fad
  have hmr : ml ≠ ru := fun z => by rw [z, hru] at hml; cases hml
  have hnm : kvs.map Prod.fst = m.titles.map Sum.inr := by
    rw [hkv]
    unfold MillD.titles
    rw [List.map_map] <;> rfl
  refine seq_of (s_lock hru (show Ex F1 (upd H1 ad (.dK [])) from Ex.mut g1.fh fad) fun od => ?_)
  have hml' : upd F1 ru (.frz od (.dK kvs)) ml = some (.ins C dx [("rooms", .ref ro'), ("spots", .ref sp), ("rules", .ref ru)]) := by rw [upd_ne hmr]; exact hml
  have fal : upd F1 ru (.frz od (.dK kvs)) ad = none := by rw [upd_ne hra]; exact fad
  have hal : upd H1 ru (.frz od (.dK kvs)) ad = none := by rw [upd_ne hra]; exact had
  have eb : Ex (upd F1 ru (.frz od (.dK kvs))) (upd H1 ru (.frz od (.dK kvs))) := ex_upd g1.fh
  have gb : Gr (upd F1 ru (.frz od (.dK kvs))) (upd H1 ru (.frz od (.dK kvs))) (upd F1 ru (.frz od (.dK kvs))) (upd (upd H1 ad (.dK [])) ru (.frz od (.dK kvs))) := by
    have := Gr.only eb hal (o := .dK [])
    rwa [show upd (upd H1 ru (.frz od (.dK kvs))) ad (.dK []) = upd (upd H1 ad (.dK [])) ru (.frz od (.dK kvs)) from by
      funext b
      by_cases q1 : b = ad
      · subst q1
        rw [upd_same, upd_ne hra, upd_same]
      · rw [upd_ne q1]
        by_cases q2 : b = ru
        · rw [q2, upd_same, upd_same]
        · rw [upd_ne q2, upd_ne q2, upd_ne q1]] at this
  have hlt : (m.titles).length ≤ 8 := by unfold MillD.titles; rw [List.length_map]; exact ok.r2
  refine Dv.s_for (K := K) (it_keysK (σ := [some (.ref ml), some rv, some (.ref ad), none, none, none, none]) (names := m.titles) (fun H3 e3 Q q => fld_ref rfl hml' MC.cl MC.rules fl3 H3 e3 Q q) upd_same hnm) gb.fh
    (fun n σ' F' H' => (∃ s3, σ' = [some (.ref ml), some rv, some (.ref ad), s3, none, none, none]) ∧ Gr (upd F1 ru (.frz od (.dK kvs))) (upd H1 ru (.frz od (.dK kvs))) F' H' ∧ F' ad = none ∧ ∃ dk, H' ad = some (.dK dk) ∧ DfR K F' encR dk ((m.titles.take n).map fun x => (x, 0)))
    (fun F8 H8 g8 => ?_) ?_ (fun σ' F8 H8 e8 e9 p8 => ?_)
  · have k := g8.keep (p := ad) (o := .dK []) (by rw [upd_ne hra, upd_same]) fal
    exact ⟨⟨none, rfl⟩, gb.trans g8, k.2, [], k.1, .nil⟩
  · rintro Fb ebb n σ' F2 H2 u du F3 H3 hdu e2 e3 ⟨⟨s3, rfl⟩, gg, fa2, dk, hd2, hr2⟩ g3 hu3
    obtain ⟨hn, hdn⟩ := List.getElem?_eq_some_iff.mp hdu
    rw [List.length_map] at hn
    rw [List.getElem_map] at hdn
    subst hdn
    have k3 := g3.keep hd2 fa2
    have dl : dk.length ≤ 8 := by rw [hr2.len, List.length_map, List.length_take]; omega
    show sDPut _ _ _ _ [some (.ref ml), some rv, some (.ref ad), some u, none, none, none] H3
    refine s_dputF (K := K) (en := encR) (x := m.titles[n]) (q := 0) (i := 2) rfl k3.2 k3.1 (hr2.mono g3.fx) g3.fh (Dv.ev_var (i := 3) rfl hu3) (fun H4 e4 Q4 q4 => q4 _ _ H4 (Gr.refl e4) (dN _)) (by omega) fun F4 H4 v g4 fa4 hd4 hr4 => ?_
    refine ⟨F4, e2.trans (g3.fx.trans g4.fx), Ex.mut g4.fh fa4, ⟨_, rfl⟩, ((gg.trans g3).trans g4).mut hal fa4, fa4, _, upd_same, ?_⟩
    have : putQ ((m.titles.take n).map fun x => (x, (0 : Rat))) m.titles[n] 0 = (m.titles.take (n + 1)).map fun x => (x, 0) := by
      have hnd : m.titles.Nodup := ok.rn
      have hno : m.titles[n] ∉ m.titles.take n := fun hm' => by
        rw [← List.take_append_drop n m.titles, List.nodup_append] at hnd
        exact hnd.2.2 _ hm' m.titles[n] (by rw [List.drop_eq_getElem_cons hn]; exact List.mem_cons_self) rfl
      unfold putQ
      rw [if_neg, List.take_succ_eq_append_getElem hn, List.map_append]
      · rfl
      · intro h
        rw [List.any_eq_true] at h
        obtain ⟨p, hp, hpe⟩ := h
        obtain ⟨x, hx, rfl⟩ := List.mem_map.mp hp
        exact hno ((of_decide_eq_true hpe : x = _) ▸ hx)
    rw [← this]
    exact hr4
  obtain ⟨⟨s3, rfl⟩, gg, fa8, dk, hd8, hr8⟩ := p8
  rw [List.length_map, List.take_length] at hr8
  obtain ⟨f1, f2, gu⟩ := Gr.unlock hru g1.fh gg
  refine ⟨f2, ?_⟩
  dsimp only
  have gz : Gr F H (upd F8 ru (.dK kvs)) (upd H8 ru (.dK kvs)) := g1.trans gu
  have fz : upd F8 ru (.dK kvs) ad = none := by rw [upd_ne hra]; exact fa8
  have hz : upd H8 ru (.dK kvs) ad = some (.dK dk) := by rw [upd_ne hra]; exact hd8
  have rz : DfR K (upd F8 ru (.dK kvs)) encR dk m.zero := hr8.lock (by rw [f1]; exact noSq_frz)
  generalize upd F8 ru (.dK kvs) = F9 at *
  generalize upd H8 ru (.dK kvs) = H9 at *
  have t0 : TotOk m 0 m.zero := ⟨by unfold MillD.zero; rw [List.map_map]; exact List.map_id _, fun p hp => by
    obtain ⟨x, _, rfl⟩ := List.mem_map.mp hp
    exact ⟨0, by simp, by simp⟩⟩
  refine seq_of (Dv.s_for (K := K) (it_list (σ := [some (.ref ml), some rv, some (.ref ad), s3, none, none, none]) (Dv.ev_var (i := 1) rfl (dp_ex gz.fx hrv))) gz.fh
    (fun n σ' F' H' => (∃ s3 s4 s5 s6, σ' = [some (.ref ml), some rv, some (.ref ad), s3, s4, s5, s6]) ∧ Gr F H F' H' ∧ F' ad = none ∧ TotOk m (n * N) (rowTot m.zero (bs.take n)) ∧ ∃ dk, H' ad = some (.dK dk) ∧ DfR K F' encR dk (rowTot m.zero (bs.take n)))
    (fun F' H' g5 => ?_) ?_ (fun σ' F' H' e1 e2 pv => ?_))
  · have k := g5.keep hz fz
    exact ⟨⟨_, _, _, _, rfl⟩, gz.trans g5, k.2, by rw [Nat.zero_mul]; exact t0, dk, k.1, rz.mono g5.fx⟩
  · rintro Fb ebb n σ' F2 H2 u du F3 H3 hdu e2 e3 ⟨⟨s3', s4, s5, s6, rfl⟩, gg2, fa2, tok, dk2, hd2, hr2⟩ g3 hu3
    obtain ⟨hn, hdn⟩ := List.getElem?_eq_some_iff.mp hdu
    rw [List.length_map] at hn
    rw [List.getElem_map] at hdn
    subst hdn
    have k3 := g3.keep hd2 fa2
    obtain ⟨y1, y2, hy1, hy2, ht⟩ := tup2 hu3
    refine ht 4 5 _ H3 g3.fh _ ?_
    dsimp only
    obtain ⟨r1, r2, r3, r4, r5⟩ := ro.st bs[n] (List.getElem_mem _)
    obtain ⟨hNn, hA0⟩ := hN bs[n] (List.getElem_mem _)
    have htk : bs.take (n + 1) = bs.take n ++ [bs[n]] := List.take_succ_eq_append_getElem hn
    have hnN : (n + 1) * N ≤ bs.length * N := Nat.mul_le_mul_right _ (by omega)
    rw [Nat.add_mul, Nat.one_mul] at hnN
    generalize bs[n] = b at *
    obtain ⟨many, steps⟩ := b
    dsimp only at r1 r2 r3 r4 r5 hNn
    have hrt : rowTot m.zero (bs.take (n + 1)) = blkTot (rowTot m.zero (bs.take n)) (many, steps) := by
      rw [htk]
      unfold rowTot
      rw [List.foldl_append]
      rfl
    generalize rowTot m.zero (bs.take n) = T0 at *
    cases hy1
    have hl := r1.l
    refine Dv.s_for (K := K) (it_list (σ := [some (.ref ml), some rv, some (.ref ad), s3', some (.int (many : Int)), some y2, s6]) (Dv.ev_var (i := 5) rfl hy2)) g3.fh
      (fun j σ' F' H' => (∃ s3 s6, σ' = [some (.ref ml), some rv, some (.ref ad), s3, some (.int (many : Int)), some y2, s6]) ∧ Gr F H F' H' ∧ Ex F3 F' ∧ F' ad = none ∧ TotOk m (n * N + j * (A0 * many)) (blkTot T0 (many, steps.take j)) ∧ ∃ dk, H' ad = some (.dK dk) ∧ DfR K F' encR dk (blkTot T0 (many, steps.take j)))
      (fun F' H' g5 => ?_) ?_ (fun σ' F' H' e1' e2' pv => ?_)
    · have k := g5.keep k3.1 k3.2
      exact ⟨⟨_, _, rfl⟩, (gg2.trans g3).trans g5, g5.fx, k.2, by rw [Nat.zero_mul]; exact tok, dk2, k.1, hr2.mono (g3.fx.trans g5.fx)⟩
    · rintro Fc ebc j σ' F4 H4 u4 du4 F5 H5 hdu4 e4 e5 ⟨⟨s3'', s6', rfl⟩, gg4, ex4, fa4, tok4, dk4, hd4, hr4⟩ g5 hu5
      obtain ⟨hj, hdj⟩ := List.getElem?_eq_some_iff.mp hdu4
      rw [List.length_map] at hj
      have hj : j < steps.length := hj
      rw [List.getElem_map] at hdj
      subst hdj
      have k5 := g5.keep hd4 fa4
      obtain ⟨z1, z2, hz1, hz2, ht2⟩ := tup2 hu5
      refine ht2 3 6 _ H5 g5.fh _ ?_
      dsimp only
      have hmem := r1.t steps[j] (List.getElem_mem _)
      have htj : steps.take (j + 1) = steps.take j ++ [steps[j]] := List.take_succ_eq_append_getElem hj
      have hjA : (j + 1) * (A0 * many) ≤ steps.length * (A0 * many) := Nat.mul_le_mul_right _ (by omega)
      rw [Nat.add_mul, Nat.one_mul] at hjA
      have hbt : blkTot T0 (many, steps.take (j + 1)) = addQ (blkTot T0 (many, steps.take j)) steps[j].1 (steps[j].2 * ((many : Int) : Rat)) := by
        rw [htj]
        unfold blkTot
        rw [List.foldl_append]
        rfl
      generalize steps[j] = sj at *
      obtain ⟨nm, am⟩ := sj
      dsimp only at hmem hz1 hz2 hbt
      have hsx : Sx (A0 * many) (am * ((many : Int) : Rat)) := (hmem.2.mul many).mono (by rw [Int.natAbs_natCast]; exact Nat.le_refl _)
      obtain ⟨⟨r, hr, hrx⟩, tadd⟩ := tok4.add hmem.1 hsx
      have dl : dk4.length < 100000 := by
        rw [hr4.len]
        have := congrArg List.length tok4.k
        rw [List.length_map] at this
        omega
      have ex5 : Ex F5 (upd F5 ad (.dK dk4)) := Ex.new k5.2
      refine s_dputF (K := K) (en := encR) (x := nm) (q := r + am * ((many : Int) : Rat)) (i := 2) rfl k5.2 k5.1 (hr4.mono g5.fx) g5.fh (Dv.ev_var (i := 3) rfl hz1) ?_ dl fun F6 H6 v g6 fa6 hd6 hr6 => ?_
      · exact ev_plus (B := n * N + j * (A0 * many)) (C := A0 * many) (ev_dgetF (i := 2) rfl upd_same ((hr4.mono g5.fx).mono ex5) (Dv.ev_var (i := 3) rfl (dp_ex ex5 hz1)) hr) (ev_scaled (Dv.ev_var (i := 6) rfl (dp_ex ex5 hz2)) (Dv.ev_var (i := 4) rfl (.int (many : Int))) hmem.2 (by omega)) hrx hsx
      · have ha : addQ (blkTot T0 (many, steps.take j)) nm (am * ((many : Int) : Rat)) = putQ (blkTot T0 (many, steps.take j)) nm (r + am * ((many : Int) : Rat)) := by
          unfold addQ
          rw [hr] <;> rfl
        refine ⟨F6, e4.trans (g5.fx.trans g6.fx), Ex.mut g6.fh fa6, ⟨_, _, rfl⟩, ((gg4.trans g5).trans g6).mut hadH fa6, ex4.trans (g5.fx.trans g6.fx), fa6, ?_, _, upd_same, ?_⟩
        · rw [hbt]
          rw [Nat.add_mul, Nat.one_mul, ← Nat.add_assoc]
          exact tadd
        · rw [hbt, ha]
          exact hr6
    · obtain ⟨⟨s3'', s6', rfl⟩, gg4, ex4, fa4, tok4, dk4, hd4, hr4⟩ := pv
      rw [List.length_map, List.take_length] at tok4 hr4
      refine ⟨F', e2.trans (g3.fx.trans e1'), e2', ⟨_, _, _, _, rfl⟩, gg4, fa4, ?_, dk4, hd4, ?_⟩
      · rw [hrt]
        refine ⟨tok4.k, fun p hp => (tok4.b p hp).mono ?_⟩
        rw [Nat.add_mul, Nat.one_mul]
        exact Nat.add_le_add_left hNn _
      · rw [hrt]
        exact hr4
  · obtain ⟨⟨s3', s4, s5, s6, rfl⟩, gg2, fa2, tok, dk2, hd2, hr2⟩ := pv
    rw [List.length_map, List.take_length] at hr2
    dsimp only
    refine ⟨_, rfl, ad, dk2, rfl, hd2, fun p hp => ?_⟩
    exact q p _ F' _ (gg2.trans (Gr.only gg2.fh hp)) (ex_none gg2.hx hp) (ex_none gg2.fh hp) upd_same hr2.vals
end
end R3

set_option Elab.async false
set_option linter.all false
set_option maxRecDepth 100000
set_option maxHeartbeats 4000000
namespace R3
open PySem PySem.Spec PyProof.Rows L2 Dv
open Qa (toF Sx)
section
variable {P : Program} {w : World} {K : PySem.W.Frag} {mg : Str → Option Value} {base : Heap}
theorem sc__law_common : FnScope (["one", "other"] : List Str) (["one", "other"] : List Str) (defScope sLawCommon) := ⟨rfl, rfl, rfl, by decide +kernel, rfl, by decide +kernel, by decide +kernel⟩
theorem ok_law_common (D : Def K mg "_law_common" sLawCommon ["one", "other"]) : Cal P w K mg base "_law_common" ["one", "other"] 1 spGcd := by
  refine cal_mk D sc__law_common (fun vs H Q E h => ?_) (fun f cdv A outer s H vs Q E hr h => ?_)
  · obtain ⟨a, b, rfl, _⟩ := h
    rfl
  · obtain ⟨a, b, rfl, q⟩ := h
    refine ⟨_, (pss_cons (ps_while PassesOwn.never (pt_cmpR op_ne (pv 1) pe_int (nomark _)) (pss_one (ps_par (i := 0) (j := 1) (by rfl) sc__law_common.nd rfl rfl (by decide) rfl rfl (pa_cons (pv 1) (pa_cons (pe_op op_mod (pv 0) (pv 1)) pa_nil)) (by rfl))))
      (pss_one (ps_ret (pv 0)))), ?_⟩
    refine ⟨fun m σ H' => ∃ x y : Nat, σ = [some (.int x), some (.int y)] ∧ Nat.gcd x y = Nat.gcd a b ∧ m = y ∧ H' = H, ⟨b, a, b, rfl, rfl, rfl, rfl⟩, ?_⟩
    rintro m σ H' ⟨x, y, rfl, hg, rfl, rfl⟩
    refine ⟨_, rfl, rfl, _, rfl, ?_⟩
    have e : (!decide (V.int (m : Int) = V.int 0)) = decide (m ≠ 0) := by
      rw [dec_int, Bool.eq_iff_iff]
      simp
    rw [e]
    by_cases h0 : m = 0
    · subst h0
      rw [decide_eq_false (by simp)]
      refine iteF ?_
      refine ⟨_, rfl, ?_⟩
      rw [← hg, Nat.gcd_zero_right] at q
      exact q
    · rw [decide_eq_true h0]
      refine iteT ?_
      refine ⟨fun σ' H2 => ∃ x' y' : Nat, σ' = [some (.int x'), some (.int y')] ∧ Nat.gcd x' y' = Nat.gcd a b ∧ y' < m ∧ H2 = H', ?_, ?_⟩
      · rintro σ' H2 ⟨x', y', h1, h2, h3, h4⟩
        exact ⟨y', h3, x', y', h1, h2, rfl, h4⟩
      · refine ⟨_, rfl, _, rfl, _, rfl, _, _, rfl, rfl, (by omega), _, _, rfl, m, x % m, ?_, ?_, Nat.mod_lt _ (by omega), rfl⟩
        · rfl
        · rw [Nat.gcd_comm m, ← Nat.gcd_rec, Nat.gcd_comm m x, hg]
theorem sc__law_part : FnScope (["over", "under", "common"] : List Str) (["over", "under"] : List Str) (defScope sLawPart) := ⟨rfl, rfl, rfl, by decide +kernel, rfl, by decide +kernel, by decide +kernel⟩
theorem ok_law_part (D : Def K mg "_law_part" sLawPart ["over", "under"]) (B : Bl mg) (C__law_common : Cal P w K mg base "_law_common" ["one", "other"] 1 spGcd) : Cal P w K mg base "_law_part" ["over", "under"] 2 (spD K fFrac) := by
  refine cal_mk D sc__law_part (len_D (by rintro _ _ ⟨t, u, rfl, _⟩; rfl)) (fun f cdv A outer s H vs Q E hr h => ?_)
  obtain ⟨F, ds, d, e, hv, ⟨t, u, rfl, hu, hu2, rfl⟩, q⟩ := h
  obtain ⟨x, y, rfl, h1, h2⟩ := two hv
  refine ⟨_, (pss_cons (ps_set (i := 2) sc__law_part.nd rfl (.inl rfl) (pe_callC C__law_common hr (pa_cons (pe_callB call_abs (by rfl) B.abs (by decide +kernel) (pa_cons (pv 0) pa_nil)) (pa_cons (pv 1) pa_nil))))
      (pss_one (ps_ret (pe_tup (pa_cons (pe_op op_fdiv (pv 0) (pv 2)) (pa_cons (pe_op op_fdiv (pv 1) (pv 2)) pa_nil)))))), ?_⟩
  have hg : 0 < Nat.gcd t.natAbs u.natAbs := Nat.gcd_pos_of_pos_right _ (by omega)
  have hg2 : Nat.gcd t.natAbs u.natAbs ≤ u.natAbs := Nat.gcd_le_right _ (by omega)
  refine Dv.s_asg (K := K) (F := F) (d := .int (Nat.gcd t.natAbs u.natAbs : Nat)) (Dv.ev_is (ev_gcd (by omega) (by omega) (ev_abs (Dv.ev_var rfl h1)) (Dv.ev_var rfl h2)) (by simp)) e ?_
  intro v F1 H1 g1 hv
  refine Dv.s_ret (K := K) (d := encF (frac t u)) (Dv.ev_tup (Dv.ea_cons (Dv.ev_I ⟨by omega, by omega⟩ (fun _ => .int _) (Dv.ev_var rfl (dp_ex g1.fx h1)) (Dv.ev_var rfl hv)) (Dv.ea_cons (Dv.ev_I ⟨by omega, by omega⟩ (fun _ => .int _) (Dv.ev_var rfl (dp_ex g1.fx h2)) (Dv.ev_var rfl hv)) Dv.ea_nil)) (by simp)) g1.fh ?_
  intro v F2 H2 g2 hv
  exact q v F2 H2 (g1.trans g2) hv
theorem sc__law_plus : FnScope (["one", "other"] : List Str) (["one", "other"] : List Str) (defScope sLawPlus) := ⟨rfl, rfl, rfl, by decide +kernel, rfl, by decide +kernel, by decide +kernel⟩
theorem ok_law_plus (D : Def K mg "_law_plus" sLawPlus ["one", "other"]) (C__law_part : Cal P w K mg base "_law_part" ["over", "under"] 2 (spD K fFrac)) : Cal P w K mg base "_law_plus" ["one", "other"] 3 (spD K fPlus) := by
  refine cal_mk D sc__law_plus (len_D (by rintro _ _ ⟨t, u, rfl, _⟩; rfl)) (fun f cdv A outer s H vs Q E hr h => ?_)
  obtain ⟨F, ds, d, e, hv, ⟨⟨a, b⟩, ⟨c, d⟩, rfl, ⟨s1, s2, s3, s4⟩, ⟨t1, t2, t3, t4⟩, rfl⟩, q⟩ := h
  obtain ⟨x, y, rfl, h1, h2⟩ := two hv
  dsimp only at s1 s2 s3 s4 t1 t2 t3 t4
  refine ⟨_, (pss_one (ps_ret (pe_callC C__law_part hr (pa_cons (pe_op op_add (pe_op op_mul (pe_ix ix_tup (pv 0) pe_int (fun _ _ => rfl)) (pe_ix ix_tup (pv 1) pe_int (fun _ _ => rfl))) (pe_op op_mul (pe_ix ix_tup (pv 1) pe_int (fun _ _ => rfl)) (pe_ix ix_tup (pv 0) pe_int (fun _ _ => rfl)))) (pa_cons (pe_op op_mul (pe_ix ix_tup (pv 0) pe_int (fun _ _ => rfl)) (pe_ix ix_tup (pv 1) pe_int (fun _ _ => rfl))) pa_nil))))), ?_⟩
  have p1 : 0 < b * d := Int.mul_pos s1 t1
  have p2 : b * d < 1073741824 := by
    have : b * d ≤ 32767 * 32767 := Int.mul_le_mul (by omega) (by omega) (by omega) (by omega)
    omega
  have o0 := Dv.ev_ixT (K := K) (F := F) (σ := [some x, some y]) (i := 0) (d := .int a) (Dv.ev_var (i := 0) rfl h1) (Dv.ev_int 0) rfl
  have o1 := Dv.ev_ixT (K := K) (F := F) (σ := [some x, some y]) (i := 1) (d := .int b) (Dv.ev_var (i := 0) rfl h1) (Dv.ev_int 1) rfl
  have t0 := Dv.ev_ixT (K := K) (F := F) (σ := [some x, some y]) (i := 0) (d := .int c) (Dv.ev_var (i := 1) rfl h2) (Dv.ev_int 0) rfl
  have u1 := Dv.ev_ixT (K := K) (F := F) (σ := [some x, some y]) (i := 1) (d := .int d) (Dv.ev_var (i := 1) rfl h2) (Dv.ev_int 1) rfl
  refine Dv.s_ret (K := K) (d := encF (fplus (a, b) (c, d))) (ev_callD (Dv.ea_cons (Dv.ev_I0 (fun _ => .int _) (Dv.ev_I (.inl ⟨by omega, by omega⟩) (fun _ => .int _) o0 u1) (Dv.ev_I (.inl ⟨by omega, by omega⟩) (fun _ => .int _) t0 o1))
    (Dv.ea_cons (Dv.ev_I (.inl ⟨by omega, by omega⟩) (fun _ => .int _) o1 u1) Dv.ea_nil)) ⟨_, _, rfl, p1, p2, rfl⟩) e ?_
  exact fun v F2 H2 g2 hv => q v F2 H2 g2 hv
theorem sc__law_by : FnScope (["one", "number"] : List Str) (["one", "number"] : List Str) (defScope sLawBy) := ⟨rfl, rfl, rfl, by decide +kernel, rfl, by decide +kernel, by decide +kernel⟩
theorem ok_law_by (D : Def K mg "_law_by" sLawBy ["one", "number"]) (C__law_part : Cal P w K mg base "_law_part" ["over", "under"] 2 (spD K fFrac)) : Cal P w K mg base "_law_by" ["one", "number"] 3 (spD K fScaled) := by
  refine cal_mk D sc__law_by (len_D (by rintro _ _ ⟨t, u, rfl, _⟩; rfl)) (fun f cdv A outer s H vs Q E hr h => ?_)
  obtain ⟨F, ds, d, e, hv, ⟨⟨a, b⟩, n, rfl, s1, s2, ⟨s3, s4⟩, rfl⟩, q⟩ := h
  obtain ⟨x, y, rfl, h1, h2⟩ := Dv.two hv
  dsimp only at s1 s2
  refine ⟨_, (pss_one (ps_ret (pe_callC C__law_part hr (pa_cons (pe_op op_mul (pe_ix ix_tup (pv 0) pe_int (fun _ _ => rfl)) (pv 1)) (pa_cons (pe_ix ix_tup (pv 0) pe_int (fun _ _ => rfl)) pa_nil))))), ?_⟩
  refine Dv.s_ret (K := K) (d := encF (fscaled (a, b) n)) (ev_callD (Dv.ea_cons (Dv.ev_I (.inr ⟨by omega, by omega⟩) (fun _ => .int _) (Dv.ev_ixT (d := .int a) (Dv.ev_var rfl h1) (Dv.ev_int 0) rfl) (Dv.ev_var rfl h2)) (Dv.ea_cons (Dv.ev_ixT (d := .int b) (Dv.ev_var rfl h1) (Dv.ev_int 1) rfl) Dv.ea_nil)) ⟨_, _, rfl, s1, s2, rfl⟩) e ?_
  exact fun v F2 H2 g2 hv => q v F2 H2 g2 hv
theorem sc__law_less : FnScope (["one", "other"] : List Str) (["one", "other"] : List Str) (defScope sLawLess) := ⟨rfl, rfl, rfl, by decide +kernel, rfl, by decide +kernel, by decide +kernel⟩
theorem ok_law_less (D : Def K mg "_law_less" sLawLess ["one", "other"]) : Cal P w K mg base "_law_less" ["one", "other"] 1 (spD K fBelow) := by
  refine cal_mk D sc__law_less (len_D (by rintro _ _ ⟨t, u, rfl, _⟩; rfl)) (fun f cdv A outer s H vs Q E hr h => ?_)
  obtain ⟨F, ds, d, e, hv, ⟨⟨a, b⟩, ⟨c, d⟩, rfl, ⟨s1, s2, s3, s4⟩, ⟨t1, t2, t3, t4⟩, rfl⟩, q⟩ := h
  obtain ⟨x, y, rfl, h1, h2⟩ := Dv.two hv
  dsimp only at s1 s2 s3 s4 t1 t2 t3 t4
  refine ⟨_, (pss_one (ps_ret (pe_cmpR op_lt (pe_op op_mul (pe_ix ix_tup (pv 0) pe_int (fun _ _ => rfl)) (pe_ix ix_tup (pv 1) pe_int (fun _ _ => rfl))) (pe_op op_mul (pe_ix ix_tup (pv 1) pe_int (fun _ _ => rfl)) (pe_ix ix_tup (pv 0) pe_int (fun _ _ => rfl))) (nomark _)))), ?_⟩
  have o0 := Dv.ev_ixT (K := K) (F := F) (σ := [some x, some y]) (i := 0) (d := .int a) (Dv.ev_var (i := 0) rfl h1) (Dv.ev_int 0) rfl
  have o1 := Dv.ev_ixT (K := K) (F := F) (σ := [some x, some y]) (i := 1) (d := .int b) (Dv.ev_var (i := 0) rfl h1) (Dv.ev_int 1) rfl
  have t0 := Dv.ev_ixT (K := K) (F := F) (σ := [some x, some y]) (i := 0) (d := .int c) (Dv.ev_var (i := 1) rfl h2) (Dv.ev_int 0) rfl
  have u1 := Dv.ev_ixT (K := K) (F := F) (σ := [some x, some y]) (i := 1) (d := .int d) (Dv.ev_var (i := 1) rfl h2) (Dv.ev_int 1) rfl
  refine Dv.s_ret (K := K) (d := .bool (decide (a * d < c * b))) (Dv.ev_I0 (fun _ => .bl _) (Dv.ev_I (.inl ⟨by omega, by omega⟩) (fun _ => .int _) o0 u1) (Dv.ev_I (.inl ⟨by omega, by omega⟩) (fun _ => .int _) t0 o1)) e ?_
  exact fun v F2 H2 g2 hv => q v F2 H2 g2 hv
end
end R3

set_option Elab.async false
set_option linter.all false
set_option maxRecDepth 100000
set_option maxHeartbeats 4000000
namespace R3
open PySem PySem.Spec PyProof.Rows L2 Evl Dv
open Qa (toF Sx)
def numOf (ps : List (Str × Int)) (x : Str) : Int := ((ps.filter fun z => decide (z.1 = x)).map (·.2)).sum
def fNumOf : List PyData → PyData → Prop := fun ds d => ∃ (ps : List (Str × Int)) (x : Str), ds = [.list (ps.map encPart), .str x] ∧ ps.length ≤ 30000 ∧ d = .int (numOf ps x)
section
variable {P : Program} {w : World} {K : PySem.W.Frag} {mg : Str → Option Value} {base : Heap}
theorem ev_eqS {σ : L2.St} {F : Hp} {ta tb : TE} {x y : Str} (ha : EvD K ta σ F (.str x)) (hb : EvD K tb σ F (.str y)) : EvD K (tOp rEq ta tb) σ F (.bool (decide (x = y))) :=
  ev_op ha hb fun v u F1 H1 _ e hv hu Q q => by
    cases hv
    cases hu
    refine ⟨rfl, q _ F1 H1 (Gr.refl e) ?_⟩
    have : decide (V.str x = V.str y) = decide (x = y) := by
      by_cases h : x = y
      · rw [h]; simp
      · rw [decide_eq_false h, decide_eq_false (fun z => h (V.str.inj z))]
    rw [this]
    exact .bl _
theorem ev_sum {σ : L2.St} {F : Hp} {ta : TE} {ns : List Int} (h : EvL K ta σ F (ns.map .int)) : EvD K (tCB (rSum K) (tCons ta tNil)) σ F (.int ns.sum) := fun H e Q q =>
  h H e _ fun p vs F1 H1 g1 h1 h2 h3 h4 => ⟨p, ns, rfl, by rw [← ints_of h4]; exact SqL.of h3, q _ F1 H1 g1 (.int _)⟩
theorem sc__law_number_of : FnScope (["parts", "name", "other", "number"] : List Str) (["parts", "name"] : List Str) (defScope sLawNumberOf) := ⟨rfl, rfl, rfl, by decide +kernel, rfl, by decide +kernel, by decide +kernel⟩
theorem ok_law_number_of (D : Def K mg "_law_number_of" sLawNumberOf ["parts", "name"]) (B : Bl mg) : Cal P w K mg base "_law_number_of" ["parts", "name"] 1 (spD K fNumOf) := by
  refine cal_mk D sc__law_number_of (len_D (by rintro _ _ ⟨t, u, rfl, _⟩; rfl)) (fun f cdv A outer s H vs Q E hr h => ?_)
  obtain ⟨F, ds, d, e, hv, ⟨ps, x, rfl, hl, rfl⟩, q⟩ := h
  obtain ⟨v1, v2, rfl, h1, h2⟩ := Dv.two hv
  refine ⟨_, (pss_one (ps_ret (pe_callB (cr_sum rfl) (by rfl) B.sum (by decide +kernel) (pa_cons (pe_lc (own := [("other", 2), ("number", 3)]) (g := gTup K 2 (gCons (gName 2) (gCons (gName 3) gNil))) rfl sc__law_number_of.nd (pi_list (pv 0)) (blkOk_by (own := [("other", 2), ("number", 3)]) (N := ["parts", "name", "other", "number"]) (sc := defScope sLawNumberOf) (by decide +kernel)) (fun _ _ _ _ _ => (pg_tup (by rfl) (pgs_cons (pg_name (i := 2) sc__law_number_of.nd rfl (.inl rfl)) (pgs_cons (pg_name (i := 3) sc__law_number_of.nd rfl (.inl rfl)) pgs_nil)))) (fun _ _ _ _ _ => (pts_one (pt_cmpR op_eq (pv 2) (pv 1) (nomark _)))) (fun _ _ _ _ _ => (pv 3))) pa_nil)))), ?_⟩
  have st : start ["parts", "name", "other", "number"] [v1, v2] = [some v1, some v2, none, none] := rfl
  rw [st]
  have lc := lc_rule (K := K) (F := F) (te := tVar 3) (vs := [2, 3]) (tt := tTest (tOp rEq (tVar 2) (tVar 1))) (g := gTup K 2 (gCons (gName 2) (gCons (gName 3) gNil))) (σ := [some v1, some v2, none, none]) ps encPart (fun z => PyData.int z.2) (fun z => decide (z.1 = x)) (it_list (Dv.ev_var (i := 0) rfl h1)) (by omega)
    (fun z hz v F4 e4 hv4 => by
      obtain ⟨y1, y2, hy1, hy2, ht⟩ := tup2 hv4
      exact ⟨[some v1, some v2, some y1, some y2], fun H e Q q => ht 2 3 _ H e _ q, rfl, et_test (ev_eqS (Dv.ev_var (i := 2) rfl hy1) (Dv.ev_var (i := 1) rfl (dp_ex e4 h2))), fun _ => Dv.ev_var (i := 3) rfl hy2⟩)
  rw [show ((ps.filter fun z => decide (z.1 = x)).map fun z => PyData.int z.2) = ((ps.filter fun z => decide (z.1 = x)).map (·.2)).map .int from by rw [List.map_map] <;> rfl] at lc
  exact Dv.s_ret (K := K) (ev_sum lc) e fun v F2 H2 g2 hv => q v F2 H2 g2 hv
end
end R3

set_option Elab.async false
set_option linter.all false
set_option maxRecDepth 100000
set_option maxHeartbeats 4000000
namespace R3
open PySem PySem.Spec PyProof.Rows L2 Evl Dv
open Qa (toF Sx)
theorem mkRat_ge {r : Int} {d : Nat} (h : 0 ≤ r) (d0 : d ≠ 0) : 0 ≤ mkRat r d := by
  rw [← Rat.num_nonneg, Rat.num_mkRat, if_neg d0]
  exact Int.ediv_nonneg h (by omega)
theorem frac_sx {r k : Int} {R : Nat} (k1 : 1 ≤ k) (k6 : k ≤ 6) (r0 : 0 ≤ r) (rR : r ≤ R) : ∃ q : Rat, frac r k = toF q ∧ Sx (R * 60) q ∧ 0 ≤ q ∧ (0 < r → 0 < q) := by
  refine ⟨mkRat r k.toNat, Qa.frac_rat' (by omega), ?_, ?_, ?_⟩
  · have hk : k = 1 ∨ k = 2 ∨ k = 3 ∨ k = 4 ∨ k = 5 ∨ k = 6 := by omega
    have key : ∀ a d : Nat, d * a = 60 → a ≠ 0 → a ≤ 60 → Sx (R * 60) (mkRat r d) := fun a d h h0 h6 => by
      refine ⟨r * a, ?_, ?_⟩
      · rw [← h, Rat.mkRat_mul_right h0]
      · rw [Int.natAbs_mul, Int.natAbs_natCast]
        exact Nat.mul_le_mul (by omega) h6
    rcases hk with rfl | rfl | rfl | rfl | rfl | rfl
    · exact key 60 1 rfl (by decide) (by decide)
    · exact key 30 2 rfl (by decide) (by decide)
    · exact key 20 3 rfl (by decide) (by decide)
    · exact key 15 4 rfl (by decide) (by decide)
    · exact key 12 5 rfl (by decide) (by decide)
    · exact key 10 6 rfl (by decide) (by decide)
  · exact mkRat_ge r0 (by omega)
  · intro h
    refine Rat.lt_of_le_of_ne (mkRat_ge r0 (by omega)) fun z => ?_
    have := (Rat.mkRat_eq_zero (by omega)).mp z.symm
    omega
section
variable {P : Program} {w : World} {K : PySem.W.Frag} {mg : Str → Option Value} {base : Heap}
theorem dr_randomE {g : Addr} {σ : L2.St} {F : Hp} {i : Nat} {b : Int} {tb : TE} (hi : σ[i]? = some (some (.ref g))) (hb : EvD K tb σ F (.int b)) (b0 : 1 ≤ b) (b1 : b < 1000) (eb : Builtin.Int.intBits b < 30) :
    DrD K g 1 (tCall spRandom [] E0 (tCons (tVar i) (tCons tb tNil))) σ F fun d => ∃ r : Int, d = .int r ∧ 0 ≤ r ∧ r < b := by
  intro H c e f hg hc Q q
  obtain ⟨a, s, n, h3, a0, s0, s1, n0, n1⟩ := hg
  refine ⟨_, hi, hb H e _ fun v F1 H1 g1 hv => ?_⟩
  cases hv
  obtain ⟨k1, h1⟩ := GrG.of g1 h3 f
  refine ⟨g, a, s, n, b, rfl, h1, a0, s0, s1, n0, by omega, b0, b1, eb, fun r a' c' r0 r1 a0' c0' c1' => ?_⟩
  exact q _ F1 _ (.int r) k1.draw ⟨a', s, c', upd_same, a0', s0, s1, by omega, by omega⟩ ⟨r, rfl, r0, r1⟩ (.int r)
def spAmtDrawn (K : PySem.W.Frag) : Sp := fun vs H Q _ => ∃ (F : Hp) (g : Addr) (c : Nat), vs = [.ref g, .int 3] ∧ Ex F H ∧ F g = none ∧ GenAt H g c ∧ c + 2 < 999000 ∧
  ∀ x F' H' q, GrG g F H F' H' → GenAt H' g (c + 2) → 0 ≤ q → Sx 360 q → Dp K F' x (encR q) → Q x H'
theorem sc__law_amount_drawn : FnScope (["generator", "most"] : List Str) (["generator", "most"] : List Str) (defScope sLawAmountDrawn) := ⟨rfl, rfl, rfl, by decide +kernel, rfl, by decide +kernel, by decide +kernel⟩
theorem ok_law_amount_drawn (D : Def K mg "_law_amount_drawn" sLawAmountDrawn ["generator", "most"]) (C__law_random : Cal P w K mg base "_law_random" ["generator", "bound"] 2 spRandom) (C__law_part : Cal P w K mg base "_law_part" ["over", "under"] 2 (spD K fFrac)) : Cal P w K mg base "_law_amount_drawn" ["generator", "most"] 3 (spAmtDrawn K) := by
  refine cal_mk D sc__law_amount_drawn (fun vs H Q E h => ?_) (fun f cdv A outer s H vs Q E hr h => ?_)
  · obtain ⟨F, g, c, rfl, _⟩ := h
    rfl
  obtain ⟨F, g, c, rfl, e, fg, hg, hc, q⟩ := h
  refine ⟨_, (pss_one (ps_ret (pe_callC C__law_part hr (pa_cons (pe_callC C__law_random hr (pa_cons (pv 0) (pa_cons (pe_op op_add (pe_op op_mul pe_int (pv 1)) pe_int) pa_nil))) (pa_cons (pe_ix ix_list (pe_lst (pa_cons pe_int (pa_cons pe_int (pa_cons pe_int (pa_cons pe_int pa_nil))))) (pe_callC C__law_random hr (pa_cons (pv 0) (pa_cons pe_int pa_nil))) (fun _ _ => rfl)) pa_nil))))), ?_⟩
  have st : start ["generator", "most"] [V.ref g, .int 3] = [some (.ref g), some (.int 3)] := rfl
  rw [st]
  refine (dr_call (K := K) (E := E0) (k := 2) (f := fFrac) (Pe := fun d => ∃ q : Rat, d = encR q ∧ 0 ≤ q ∧ Sx 360 q) (da_cons (dr_randomE (i := 0) (b := 7) rfl (Dv.ev_I0 (i := 6) (j := 1) (fun _ => .int _) (Dv.ev_I (.inl ⟨by decide, by decide⟩) (fun _ => .int _) (Dv.ev_int 2) (Dv.ev_var (i := 1) rfl (.int 3))) (Dv.ev_int 1)) (by decide) (by decide) (by decide +kernel)) (da_cons (dr_ixL (ds := [.int 1, .int 2, .int 2, .int 3]) (EvL.ev (Dv.el_lst (Dv.ea_cons (Dv.ev_int 1) (Dv.ea_cons (Dv.ev_int 2) (Dv.ea_cons (Dv.ev_int 2) (Dv.ea_cons (Dv.ev_int 3) Dv.ea_nil)))) (by simp))) (fun F3 _ => dr_random (i := 0) rfl (by decide) (by decide) (by decide +kernel))) da_nil)) fun ds hds => ?_) H c e fg hg (by omega) _ fun x F' H' d k hg' hd hx => ?_
  · obtain ⟨d1, r1, rfl, ⟨r, rfl, r0, r7⟩, d2, r2, rfl, hm, rfl⟩ := hds
    have hm' : ∃ m : Int, d2 = .int m ∧ 1 ≤ m ∧ m ≤ 3 := by
      simp only [List.mem_cons, List.not_mem_nil, or_false] at hm
      rcases hm with rfl | rfl | rfl | rfl <;> exact ⟨_, rfl, by decide, by decide⟩
    obtain ⟨m, rfl, m1, m3⟩ := hm'
    obtain ⟨qq, h1, h2, h3, _⟩ := frac_sx (r := r) (k := m) (R := 6) m1 (by omega) r0 (by omega)
    exact ⟨encF (frac r m), ⟨r, m, rfl, by omega, by omega, rfl⟩, qq, congrArg encF h1, h3, h2⟩
  · obtain ⟨qq, rfl, q0, qs⟩ := hd
    exact q x F' H' qq k hg' q0 qs hx
end
end R3

set_option Elab.async false
set_option linter.all false
set_option maxRecDepth 100000
set_option maxHeartbeats 4000000
namespace R3
open PySem PySem.Spec PyProof.Rows L2 Evl Dv
open Qa (toF Sx)
section
variable {P : Program} {w : World} {K : PySem.W.Frag} {mg : Str → Option Value} {base : Heap} {g : Addr} {k j : Nat} {ta : TA} {σ : L2.St} {F : Hp} {Ps : List PyData → Prop}
def Am (d : PyData) : Prop := ∃ q : Rat, d = encR q ∧ 0 ≤ q ∧ Sx 360 q
theorem dr_lst (h : DaD K g k ta σ F Ps) (hl : ∀ ds, Ps ds → ds.length ≤ 100000) : DrD K g k (tLst ta) σ F (fun d => ∃ ds, d = .list ds ∧ Ps ds) := fun H c eH f hg hc Q q =>
  h H c eH f hg hc _ fun vs F1 H1 ds x1 hg1 p1 hvs => ⟨by rw [dps_len hvs]; exact sz_of (hl _ p1), fun p hp => by
    obtain ⟨ga, gs, gn, g3, grest⟩ := hg1
    have pg : p ≠ g := fun z => by rw [z, g3] at hp; exact nomatch hp
    have x2 : Gr F1 H1 (upd F1 p (.lst vs)) (upd H1 p (.lst vs)) := Gr.new x1.fh hp
    have k2 := GrG.of x2 g3 x1.fg
    exact q _ _ _ (.list ds) (x1.trans k2.1) ⟨ga, gs, gn, k2.2, grest⟩ ⟨ds, rfl, p1⟩ (.lst (SqL.of upd_same) (dps_ex (Ex.new (ex_none x1.fh hp)) hvs))⟩
theorem dr_amt {i : Nat} {E : XK} (hi : σ[i]? = some (some (.ref g))) : DrD K g 2 (tCall (spAmtDrawn K) [] E (tCons (tVar i) (tCons (tC (.int 3)) tNil))) σ F Am := fun H c e f hg hc Q q =>
  ⟨_, hi, F, g, c, rfl, e, f, hg, hc, fun x F' H' qq k hg' q0 qs hx => q x F' H' _ k hg' ⟨qq, rfl, q0, qs⟩ hx⟩
/-- one of a list that was drawn, by a drawn number -/
theorem dr_ixLL {te tb : TE} {n : Nat} {Pd : PyData → Prop} (ha : DrD K g k te σ F fun d => ∃ ds, d = .list ds ∧ ds.length = n ∧ ∀ d ∈ ds, Pd d) (hb : DrD K g j tb σ F fun d => ∃ r : Int, d = .int r ∧ 0 ≤ r ∧ r < n) : DrD K g (k + j) (tOp (rIxL K) te tb) σ F Pd :=
  dr_op ha hb fun v u F1 H1 a b _ e pa pb hv hu Q q => by
    obtain ⟨ds, rfl, hn, hp⟩ := pa
    obtain ⟨r, rfl, r0, r1⟩ := pb
    cases hu
    cases hv with
    | lst hs hd =>
      obtain ⟨j, rfl⟩ := Int.eq_ofNat_of_zero_le r0
      have hj : j < ds.length := by omega
      obtain ⟨v', hv', hd'⟩ := dps_at hd (List.getElem?_eq_getElem hj)
      exact ⟨_, _, _, v', rfl, rfl, ex_l e hs, atI_nat hv', q v' F1 H1 ds[j] (Gr.refl e) (hp _ (List.getElem_mem hj)) hd'⟩
def spHeldDrawn (K : PySem.W.Frag) : Sp := fun vs H Q _ => ∃ (F : Hp) (g : Addr) (c : Nat) (v : V) (st : List (Str × Option Int)), vs = [.ref g, v] ∧ Ex F H ∧ F g = none ∧ GenAt H g c ∧ c < 980000 ∧ Dp K F v (.list (st.map encStuff)) ∧ st.length ≤ 8 ∧ (∀ z ∈ st, ∀ r, z.2 = some r → 0 ≤ r ∧ r ≤ 3) ∧
  ∀ x F' H' hs, GrG g F H F' H' → GenAt H' g (c + 3 * st.length) → hs.length = st.length → (∀ h ∈ hs, 0 ≤ h ∧ Sx 360 h) → (∀ z ∈ st.zip hs, roomOk z.1.2 z.2 = true) → Dp K F' x (.list (hs.map encR)) → Q x H'
theorem sc__law_held_drawn : FnScope (["generator", "stuffs", "found", "name", "room", "amount"] : List Str) (["generator", "stuffs"] : List Str) (defScope sLawHeldDrawn) := ⟨rfl, rfl, rfl, by decide +kernel, rfl, by decide +kernel, by decide +kernel⟩
theorem ok_law_held_drawn (D : Def K mg "_law_held_drawn" sLawHeldDrawn ["generator", "stuffs"]) (B : Bl mg) (C__law_random : Cal P w K mg base "_law_random" ["generator", "bound"] 2 spRandom) (C__law_amount_drawn : Cal P w K mg base "_law_amount_drawn" ["generator", "most"] 3 (spAmtDrawn K)) (C__law_less : Cal P w K mg base "_law_less" ["one", "other"] 1 (spD K fBelow)) :
    Cal P w K mg base "_law_held_drawn" ["generator", "stuffs"] 4 (spHeldDrawn K) := by
  refine cal_mk D sc__law_held_drawn (fun vs H Q E h => ?_) (fun f cdv A outer s H vs Q E hr h => ?_)
  · obtain ⟨F, g, c, v, st, rfl, _⟩ := h
    rfl
  obtain ⟨F, g, c, v, sf, rfl, e, fg, hg, hc, hv, h8, hrm, q⟩ := h
  refine ⟨_, (pss_cons (ps_set (i := 2) sc__law_held_drawn.nd rfl (.inl rfl) (pe_lst pa_nil))
      (pss_cons (ps_for PassesOwn.never rfl (pi_list (pv 1)) (pg_tup (by rfl) (pgs_cons (pg_name (i := 3) sc__law_held_drawn.nd rfl (.inl rfl)) (pgs_cons (pg_name (i := 4) sc__law_held_drawn.nd rfl (.inl rfl)) pgs_nil))) (pss_cons (ps_set (i := 5) sc__law_held_drawn.nd rfl (.inl rfl) (pe_ix ix_list (pe_lst (pa_cons (pe_tup (pa_cons pe_int (pa_cons pe_int pa_nil))) (pa_cons (pe_callC C__law_amount_drawn hr (pa_cons (pv 0) (pa_cons pe_int pa_nil))) (pa_cons (pe_tup (pa_cons (pe_ifExp (pt_cmpR op_isN (pv 4) pe_non (nomark _)) pe_int (pv 4)) (pa_cons pe_int pa_nil))) pa_nil)))) (pe_callC C__law_random hr (pa_cons (pv 0) (pa_cons pe_int pa_nil))) (fun _ _ => rfl)))
      (pss_cons (ps_if (PW.pt (pw_and (pt_cmpR op_notN (pv 4) pe_non (nomark _)) (pw_and1 (pt_val (pe_callC C__law_less hr (pa_cons (pe_tup (pa_cons (pv 4) (pa_cons pe_int pa_nil))) (pa_cons (pv 5) pa_nil))))))) (pss_one (ps_set (i := 5) sc__law_held_drawn.nd rfl (.inl rfl) (pe_tup (pa_cons (pv 4) (pa_cons pe_int pa_nil))))) pss_nil)
      (pss_one (ps_expr (pe_bm PySem.F.plainAttrs_list PySem.F.slot_list_append PySem.F.type_list_append mt_append (pv 2) (pa_cons (pv 5) pa_nil)))))))
      (pss_one (ps_ret (pv 2))))), ?_⟩
  have st : start ["generator", "stuffs", "found", "name", "room", "amount"] [V.ref g, v] = [some (.ref g), some v, none, none, none, none] := rfl
  rw [st]
  refine seq_of (Dv.s_asgL (K := K) (Dv.el_lst Dv.ea_nil (by simp)) e fun p vs0 F1 H1 g1 p1 p2 p3 p4 => ?_)
  cases p4
  have pg : p ≠ g := hg.ne p1
  obtain ⟨k1, hg1⟩ := hg.of g1 fg
  dsimp only
  show tSeq _ _ _ [some (.ref g), some v, some (.ref p), none, none, none] H1
  refine seq_of (Dv.s_for (K := K) (it_list (σ := [some (.ref g), some v, some (.ref p), none, none, none]) (Dv.ev_var (i := 1) rfl (dp_ex k1.fx hv))) k1.fh
    (fun n σ' F' H' => (∃ y1 y2 y3, σ' = [some (.ref g), some v, some (.ref p), y1, y2, y3]) ∧ GrG g F H F' H' ∧ GenAt H' g (c + 3 * n) ∧ F' p = none ∧ ∃ vs hs, H' p = some (.lst vs) ∧ DpAll K F' vs (hs.map encR) ∧ hs.length = n ∧ (∀ h ∈ hs, 0 ≤ h ∧ Sx 360 h) ∧ ∀ z ∈ (sf.take n).zip hs, roomOk z.1.2 z.2 = true)
    (fun F' H' g2 => ?_) ?_ (fun σ' F' H' e1 e2 pv => ?_))
  · obtain ⟨k2, hg2⟩ := hg1.of g2 k1.fg
    have k3 := g2.keep p3 p2
    exact ⟨⟨none, none, none, rfl⟩, k1.trans k2, hg2, k3.2, [], [], k3.1, .nil, rfl, (fun h hh => nomatch hh), fun z hz => by simp at hz⟩
  · rintro Fb eb n σ' F2 H2 u du F3 H3 hdu e1 e2 ⟨⟨y1, y2, y3, rfl⟩, kk, hg2, fp, vs, hs, hp, hds, hl, hps, hro⟩ g3 hu3
    obtain ⟨hn, hdn⟩ := List.getElem?_eq_some_iff.mp hdu
    rw [List.length_map] at hn
    rw [List.getElem_map] at hdn
    subst hdn
    have hzm : sf[n] ∈ sf := List.getElem_mem _
    have htk : sf.take (n + 1) = sf.take n ++ [sf[n]] := List.take_succ_eq_append_getElem hn
    generalize sf[n] = z at *
    obtain ⟨nm, room⟩ := z
    obtain ⟨k3, hg3⟩ := hg2.of g3 kk.fg
    have kp3 := g3.keep hp fp
    obtain ⟨z1, z2, hz1, hz2, ht⟩ := tup2 hu3
    refine ht 3 4 _ H3 g3.fh _ ?_
    dsimp only
    show tSeq _ _ _ [some (.ref g), some v, some (.ref p), some z1, some z2, y3] H3
    have hr3 : ∀ r, room = some r → 0 ≤ r ∧ r ≤ 3 := hrm _ hzm
    have eroom : EvD K (tIf (tTest (tOp rIsN (tVar 4) (tC .non))) (tC (.int 1)) (tVar 4)) [some (.ref g), some v, some (.ref p), some z1, some z2, y3] F3 (.int (room.getD 1)) := by
      refine Dv.ev_if (et_test (ev_isNR (Dv.ev_var (i := 4) rfl hz2))) (fun h => ?_) (fun h => ?_)
      · cases room with
        | none => exact Dv.ev_int 1
        | some r => cases h
      · cases room with
        | none => cases h
        | some r => exact Dv.ev_var (i := 4) rfl hz2
    have hk : 0 ≤ room.getD 1 ∧ room.getD 1 ≤ 3 := by
      cases room with
      | none => decide
      | some r => exact hr3 r rfl
    have am : ∀ k : Int, 0 ≤ k ∧ k ≤ 3 → 0 ≤ ((k : Int) : Rat) ∧ Sx 360 ((k : Int) : Rat) := fun k hk => ⟨by exact_mod_cast hk.1, (Sx.int k).mono (by omega)⟩
    have dd := dr_ixLL (K := K) (g := g) (σ := [some (.ref g), some v, some (.ref p), some z1, some z2, y3]) (F := F3) (n := 3) (Pd := Am) (k := 2) (j := 1) (te := tLst (tCons (tTup (tCons (tC (.int 0)) (tCons (tC (.int 1)) tNil))) (tCons (tCall (spAmtDrawn K) [] E0 (tCons (tVar 0) (tCons (tC (.int 3)) tNil))) (tCons (tTup (tCons (tIf (tTest (tOp rIsN (tVar 4) (tC .non))) (tC (.int 1)) (tVar 4)) (tCons (tC (.int 1)) tNil))) tNil))))
      ((dr_lst (da_cons (dr_of (d := encR 0) (Pd := Am) (Dv.ev_tup (Dv.ea_cons (Dv.ev_int 0) (Dv.ea_cons (Dv.ev_int 1) Dv.ea_nil)) (by simp)) ⟨0, rfl, by decide, ⟨0, by simp, by simp⟩⟩) (da_cons (dr_amt (i := 0) rfl) (da_cons (dr_of (d := encR ((room.getD 1 : Int) : Rat)) (Pd := Am) (Dv.ev_tup (Dv.ea_cons eroom (Dv.ea_cons (Dv.ev_int 1) Dv.ea_nil)) (by simp)) ⟨_, rfl, am _ hk⟩) da_nil))) (fun ds h => by
        obtain ⟨d, r, rfl, _, d2, r2, rfl, _, d3, r3, rfl, _, rfl⟩ := h
        simp)).imp fun d h => by
          obtain ⟨ds, rfl, d1, r, rfl, a1, d2, r2, rfl, a2, d3, r3, rfl, a3, rfl⟩ := h
          refine ⟨_, rfl, rfl, fun x hx => ?_⟩
          simp only [List.mem_cons, List.not_mem_nil, or_false] at hx
          rcases hx with rfl | rfl | rfl <;> assumption)
      (dr_random (i := 0) (b := 3) rfl (by decide) (by decide) (by decide +kernel))
    refine seq_of (sr_asg dd k3.fh k3.fg hg3 (by omega) fun av F4 H4 d k4 hg4 ham hav => ?_)
    obtain ⟨q0, rfl, q0p, q0s⟩ := ham
    have kp4 := k4.keep kp3.1 kp3.2 pg
    dsimp only
    show tSeq _ _ _ [some (.ref g), some v, some (.ref p), some z1, some z2, some av] H4
    have hz24 := dp_ex k4.fx hz2
    have tst : EtD (tAnd (tTest (tOp rNotN (tVar 4) (tC .non))) (tTest (tCall (spD K fBelow) [] E0 (tCons (tTup (tCons (tVar 4) (tCons (tC (.int 1)) tNil))) (tCons (tVar 5) tNil))))) [some (.ref g), some v, some (.ref p), some z1, some z2, some av] F4 (!roomOk room q0) := by
      cases room with
      | none => exact et_andF (et_v (ev_notNR (Dv.ev_var (i := 4) rfl hz24)) rfl)
      | some r =>
        have hr := hr3 r rfl
        refine et_is (et_andT (et_v (ev_notNR (Dv.ev_var (i := 4) rfl hz24)) rfl) (et_test (ev_below (a := (r : Rat)) (b := q0) (Dv.ev_tup (Dv.ea_cons (Dv.ev_var (i := 4) rfl hz24) (Dv.ea_cons (Dv.ev_int 1) Dv.ea_nil)) (by simp)) (Dv.ev_var (i := 5) rfl hav) (am r hr).2 q0s))) ?_
        show _ = !(!decide ((r : Rat) < q0))
        rw [Bool.not_not]
    have fin : ∀ (F5 H5 : Hp) (bv : V) (q1 : Rat), GrG g F4 H4 F5 H5 → GenAt H5 g (c + 3 * n + 3) → H5 p = some (.lst vs) → F5 p = none → Dp K F5 bv (encR q1) → 0 ≤ q1 → Sx 360 q1 → roomOk room q1 = true →
        tDrop (tBM K "list" rAppend (tVar 2) (tCons (tVar 5) tNil)) { nx := NxP Fb fun σ' F' H' => (∃ y1 y2 y3, σ' = [some (.ref g), some v, some (.ref p), y1, y2, y3]) ∧ GrG g F H F' H' ∧ GenAt H' g (c + 3 * (n + 1)) ∧ F' p = none ∧ ∃ vs hs, H' p = some (.lst vs) ∧ DpAll K F' vs (hs.map encR) ∧ hs.length = n + 1 ∧ (∀ h ∈ hs, 0 ≤ h ∧ Sx 360 h) ∧ ∀ z ∈ (sf.take (n + 1)).zip hs, roomOk z.1.2 z.2 = true, rt := Q } [some (.ref g), some v, some (.ref p), some z1, some z2, some bv] H5 := fun F5 H5 bv q1 k5 hg5 hp5 fp5 hbv b0 b1 b2 => by
      have vl : vs.length = n := by rw [dps_len hds, List.length_map, hl]
      have kt := (((kk.trans k3).trans k4).trans k5)
      have xx : Ex F2 F5 := (k3.fx.trans k4.fx).trans k5.fx
      refine Dv.s_app (K := K) (F := F5) (l := p) (xs := vs) (i := 2) hp5 fp5 rfl (Dv.ev_var (i := 5) rfl hbv) k5.fh (by omega) fun v2 F6 H6 g6 hv6 f6 h6 => ?_
      obtain ⟨k6, hg6⟩ := hg5.of g6 k5.fg
      refine ⟨F6, e1.trans (xx.trans k6.fx), Ex.mut k6.fh f6, ⟨_, _, _, rfl⟩, (kt.trans k6).mut p1 f6 pg, (hg6.upd pg).mono (by omega), f6, vs ++ [v2], hs ++ [q1], upd_same, ?_, by rw [List.length_append, hl]; rfl, fun h hh => ?_, fun y hy => ?_⟩
      · rw [List.map_append]
        exact dps_app (dps_ex (xx.trans k6.fx) hds) (.cons hv6 .nil)
      · rcases List.mem_append.mp hh with h1 | h1
        · exact hps h h1
        · rw [List.mem_singleton.mp h1]; exact ⟨b0, b1⟩
      · rw [htk, List.zip_append (by rw [List.length_take, hl]; omega)] at hy
        rcases List.mem_append.mp hy with h1 | h1
        · exact hro y h1
        · rw [show [(nm, room)].zip [q1] = [((nm, room), q1)] from rfl, List.mem_singleton] at h1
          rw [h1]; exact b2
    by_cases hok : roomOk room q0 = true
    · refine seq_of (s_ifF (et_is tst (by rw [hok] <;> rfl)) k4.fh fun F5 H5 g5 => ?_)
      obtain ⟨k5, hg5⟩ := hg4.of g5 k4.fg
      have kp5 := g5.keep kp4.1 kp4.2
      exact fin F5 H5 av q0 k5 hg5 kp5.1 kp5.2 (dp_ex k5.fx hav) q0p q0s hok
    · refine seq_of (s_ifT (et_is tst (by rw [eq_false_of_ne_true hok] <;> rfl)) k4.fh fun F5 H5 g5 => ?_)
      obtain ⟨k5, hg5⟩ := hg4.of g5 k4.fg
      have kp5 := g5.keep kp4.1 kp4.2
      cases room with
      | none => exact absurd rfl hok
      | some r =>
        refine Dv.s_asg (K := K) (d := encR (r : Rat)) (Dv.ev_tup (Dv.ea_cons (Dv.ev_var (i := 4) rfl (dp_ex k5.fx hz24)) (Dv.ea_cons (Dv.ev_int 1) Dv.ea_nil)) (by simp)) k5.fh fun bv F6 H6 g6 hbv => ?_
        obtain ⟨k6, hg6⟩ := hg5.of g6 k5.fg
        have kp6 := g6.keep kp5.1 kp5.2
        refine fin F6 H6 bv r (k5.trans k6) hg6 kp6.1 kp6.2 hbv (am r (hr3 r rfl)).1 (am r (hr3 r rfl)).2 ?_
        show (!decide ((r : Rat) < r)) = true
        rw [decide_eq_false (Rat.lt_irrefl)]
        rfl
  · obtain ⟨⟨y1, y2, y3, rfl⟩, kk, hg2, fp, vs, hs, hp, hds, hl, hps, hro⟩ := pv
    rw [List.length_map] at hg2 hl hro
    rw [List.take_length] at hro
    dsimp only
    exact ⟨_, rfl, q _ _ _ hs (kk.take p1 fp pg hp) hg2 hl hps hro (.lst (SqL.of upd_same) (dps_ex (Ex.new fp) hds))⟩
end
end R3

set_option Elab.async false
set_option linter.all false
set_option maxRecDepth 100000
set_option maxHeartbeats 4000000
namespace R3
open PySem PySem.Spec PyProof.Rows L2 Evl Dv
open Qa (toF Sx)
section
variable {P : Program} {w : World} {K : PySem.W.Frag} {mg : Str → Option Value} {base : Heap}
theorem for_drawn {te : TE} {g : TG} {ts : TS} {D : Ends} {σ : L2.St} {H : Hp} (h : te σ H fun v H1 => tFor (iRng1 (tCons (tC v) tNil)) g ts D σ H1) : tFor (iRng1 (tCons te tNil)) g ts D σ H := h
def StD (names : List Str) (z : Str × Rat) : Prop := z.1 ∈ names ∧ 0 < z.2 ∧ Sx 240 z.2
structure BlkD.Ok (names : List Str) (b : BlkD) : Prop where
  m1 : 1 ≤ b.1
  m4 : b.1 ≤ 4
  s1 : 1 ≤ b.2.length
  s3 : b.2.length ≤ 3
  st : ∀ z ∈ b.2, StD names z
def spRowDrawn (K : PySem.W.Frag) : Sp := fun vs H Q _ => ∃ (F : Hp) (g : Addr) (c : Nat) (v : V) (rc : List RecD), vs = [.ref g, v] ∧ Ex F H ∧ F g = none ∧ GenAt H g c ∧ c < 980000 ∧ Dp K F v (.list (rc.map encRecipe)) ∧ 1 ≤ rc.length ∧ rc.length ≤ 3 ∧
  ∀ x F' H' bs, GrG g F H F' H' → GenAt H' g (c + 50) → bs.length ≤ 3 → (∀ b ∈ bs, BlkD.Ok (rc.map (·.1)) b) → Dp K F' x (encRow bs) → Q x H'
theorem sc__law_row_drawn : FnScope (["generator", "recipes", "found", "turn", "steps", "at", "name"] : List Str) (["generator", "recipes"] : List Str) (defScope sLawRowDrawn) := ⟨rfl, rfl, rfl, by decide +kernel, rfl, by decide +kernel, by decide +kernel⟩
theorem ok_law_row_drawn (D : Def K mg "_law_row_drawn" sLawRowDrawn ["generator", "recipes"]) (B : Bl mg) (C__law_random : Cal P w K mg base "_law_random" ["generator", "bound"] 2 spRandom) (C__law_part : Cal P w K mg base "_law_part" ["over", "under"] 2 (spD K fFrac)) :
    Cal P w K mg base "_law_row_drawn" ["generator", "recipes"] 3 (spRowDrawn K) := by
  refine cal_mk D sc__law_row_drawn (fun vs H Q E h => ?_) (fun f cdv A outer s H vs Q E hr h => ?_)
  · obtain ⟨F, g, c, v, st, rfl, _⟩ := h
    rfl
  obtain ⟨F, g, c, v, rc, rfl, e, fg, hg, hc, hv, r1, r3, q⟩ := h
  refine ⟨_, (pss_cons (ps_set (i := 2) sc__law_row_drawn.nd rfl (.inl rfl) (pe_lst pa_nil))
      (pss_cons (ps_for PassesOwn.never rfl (pi_range1 rfl B.range (pa_cons (pe_callC C__law_random hr (pa_cons (pv 0) (pa_cons pe_int pa_nil))) pa_nil)) (pg_name (i := 3) sc__law_row_drawn.nd rfl (.inl rfl)) (pss_cons (ps_set (i := 4) sc__law_row_drawn.nd rfl (.inl rfl) (pe_lst pa_nil))
      (pss_cons (ps_for PassesOwn.never rfl (pi_range1 rfl B.range (pa_cons (pe_op op_add pe_int (pe_callC C__law_random hr (pa_cons (pv 0) (pa_cons pe_int pa_nil)))) pa_nil)) (pg_name (i := 5) sc__law_row_drawn.nd rfl (.inl rfl)) (pss_cons (ps_set (i := 6) sc__law_row_drawn.nd rfl (.inl rfl) (pe_ix ix_tup (pe_ix ix_list (pv 1) (pe_callC C__law_random hr (pa_cons (pv 0) (pa_cons (pe_callB call_len (by rfl) B.len (by decide +kernel) (pa_cons (pv 1) pa_nil)) pa_nil))) (fun _ _ => rfl)) pe_int (fun _ _ => rfl)))
      (pss_one (ps_expr (pe_bm PySem.F.plainAttrs_list PySem.F.slot_list_append PySem.F.type_list_append mt_append (pv 4) (pa_cons (pe_tup (pa_cons (pv 6) (pa_cons (pe_callC C__law_part hr (pa_cons (pe_op op_add pe_int (pe_callC C__law_random hr (pa_cons (pv 0) (pa_cons pe_int pa_nil)))) (pa_cons (pe_op op_add pe_int (pe_callC C__law_random hr (pa_cons (pv 0) (pa_cons pe_int pa_nil)))) pa_nil))) pa_nil))) pa_nil))))))
      (pss_one (ps_expr (pe_bm PySem.F.plainAttrs_list PySem.F.slot_list_append PySem.F.type_list_append mt_append (pv 2) (pa_cons (pe_tup (pa_cons (pe_op op_add pe_int (pe_callC C__law_random hr (pa_cons (pv 0) (pa_cons pe_int pa_nil)))) (pa_cons (pv 4) pa_nil))) pa_nil)))))))
      (pss_one (ps_ret (pv 2))))), ?_⟩
  have st : start ["generator", "recipes", "found", "turn", "steps", "at", "name"] [V.ref g, v] = [some (.ref g), some v, none, none, none, none, none] := rfl
  rw [st]
  refine seq_of (Dv.s_asgL (K := K) (Dv.el_lst Dv.ea_nil (by simp)) e fun p vs0 F1 H1 g1 p1 p2 p3 p4 => ?_)
  cases p4
  have pg : p ≠ g := hg.ne p1
  obtain ⟨k1, hg1⟩ := hg.of g1 fg
  dsimp only
  show tSeq _ _ _ [some (.ref g), some v, some (.ref p), none, none, none, none] H1
  refine seq_of (for_drawn (dr_random (K := K) (F := F1) (i := 0) (b := 4) rfl (by decide) (by decide) (by decide +kernel) H1 c k1.fh k1.fg hg1 (by omega) _ fun tv F2 H2 d k2 hg2 hd htv => ?_))
  obtain ⟨tn, rfl, t0, t4⟩ := hd
  cases htv
  obtain ⟨turns, rfl⟩ := Int.eq_ofNat_of_zero_le t0
  have kp2 := k2.keep p3 p2 pg
  have hp1H : H p = none := p1
  refine Dv.s_for (K := K) (it_rng1 (σ := [some (.ref g), some v, some (.ref p), none, none, none, none]) (Dv.ea_cons (ev_c (F := F2) (.int (turns : Int))) Dv.ea_nil) (by omega) (by omega)) k2.fh
    (fun n σ' F' H' => (∃ y3 y4 y5 y6, σ' = [some (.ref g), some v, some (.ref p), y3, y4, y5, y6]) ∧ GrG g F H F' H' ∧ GenAt H' g (c + 1 + 11 * n) ∧ F' p = none ∧ ∃ (vs : List V) (bs : List BlkD), H' p = some (.lst vs) ∧ DpAll K F' vs (bs.map encBlock) ∧ bs.length = n ∧ ∀ b ∈ bs, BlkD.Ok (rc.map (·.1)) b)
    (fun F' H' g5 => ?_) ?_ (fun σ' F' H' e1 e2 pv => ?_)
  · obtain ⟨k5, hg5⟩ := hg2.of g5 k2.fg
    have kp := g5.keep kp2.1 kp2.2
    exact ⟨⟨_, _, _, _, rfl⟩, (k1.trans k2).trans k5, hg5, kp.2, [], [], kp.1, .nil, rfl, fun b hb => nomatch hb⟩
  · rintro Fb eb n σ' F3 H3 u du F4 H4 hdu e1 e2 ⟨⟨y3, y4, y5, y6, rfl⟩, kk, hg3, fp, vs, bs, hp, hds, hl, hbs⟩ g4 hu4
    obtain ⟨hn, hdn⟩ := List.getElem?_eq_some_iff.mp hdu
    rw [List.length_map, List.length_range] at hn
    have hn3 : n < 3 := by
      have : ((turns : Int)).toNat = turns := rfl
      omega
    obtain ⟨k4, hg4⟩ := hg3.of g4 kk.fg
    have kp4 := g4.keep hp fp
    show tSeq _ _ _ [some (.ref g), some v, some (.ref p), some u, y4, y5, y6] H4
    refine seq_of (Dv.s_asgL (K := K) (Dv.el_lst Dv.ea_nil (by simp)) k4.fh fun ps vs0 F5 H5 g5 q1 q2 q3 q4 => ?_)
    cases q4
    have psg : ps ≠ g := hg4.ne q1
    obtain ⟨k5, hg5⟩ := hg4.of g5 k4.fg
    have kp5 := g5.keep kp4.1 kp4.2
    have pps : p ≠ ps := fun z => by rw [← z, kp4.1] at q1; cases q1
    have k04 := kk.trans k4
    have psH : H ps = none := new_back k04 q1 psg
    dsimp only
    show tSeq _ _ _ [some (.ref g), some v, some (.ref p), some u, some (.ref ps), y5, y6] H5
    have one : ∀ F : Hp, ∀ σ, DrD K g 0 (tC (.int 1)) σ F fun d => ∃ i : Int, d = .int i ∧ 1 ≤ i ∧ i < 2 := fun F σ => dr_of (Dv.ev_int 1) ⟨1, rfl, by decide, by decide⟩
    refine seq_of (for_drawn (dr_add (K := K) (F := F5) (σ := [some (.ref g), some v, some (.ref p), some u, some (.ref ps), y5, y6]) (one _ _) (dr_random (i := 0) (b := 3) rfl (by decide) (by decide) (by decide +kernel)) H5 (c + 1 + 11 * n) k5.fh k5.fg hg5 (by omega) _ fun tv F6 H6 d k6 hg6 hd htv => ?_))
    obtain ⟨tn, rfl, t0', t4'⟩ := hd
    cases htv
    obtain ⟨many, rfl⟩ := Int.eq_ofNat_of_zero_le (show 0 ≤ tn by omega)
    have kp6 := k6.keep kp5.1 kp5.2 pg
    have kq6 := k6.keep q3 q2 psg
    have k06 := ((k04.trans k5).trans k6)
    have hm : ((many : Int)).toNat = many := rfl
    refine Dv.s_for (K := K) (it_rng1 (σ := [some (.ref g), some v, some (.ref p), some u, some (.ref ps), y5, y6]) (Dv.ea_cons (ev_c (F := F6) (.int (many : Int))) Dv.ea_nil) (by omega) (by omega)) k6.fh
      (fun j σ' F' H' => (∃ y5 y6, σ' = [some (.ref g), some v, some (.ref p), some u, some (.ref ps), y5, y6]) ∧ GrG g F H F' H' ∧ Ex F6 F' ∧ GenAt H' g (c + 1 + 11 * n + 1 + 3 * j) ∧ F' p = none ∧ H' p = some (.lst vs) ∧ F' ps = none ∧ ∃ (ws : List V) (sts : List (Str × Rat)), H' ps = some (.lst ws) ∧ DpAll K F' ws (sts.map encStep) ∧ sts.length = j ∧ ∀ z ∈ sts, StD (rc.map (·.1)) z)
      (fun F' H' g7 => ?_) ?_ (fun σ' F' H' e1' e2' pv => ?_)
    · obtain ⟨k7, hg7⟩ := hg6.of g7 k6.fg
      have kp7 := g7.keep kp6.1 kp6.2
      have kq7 := g7.keep kq6.1 kq6.2
      exact ⟨⟨_, _, rfl⟩, k06.trans k7, g7.fx, hg7.mono (by omega), kp7.2, kp7.1, kq7.2, [], [], kq7.1, .nil, rfl, fun z hz => nomatch hz⟩
    · rintro Fc ebc j σ' F7 H7 u7 du7 F8 H8 hdu7 e7 e8 ⟨⟨z5, z6, rfl⟩, kk7, ex7, hg7, fp7, hp7, fq7, ws, sts, hq7, hws, hsl, hst⟩ g8 hu8
      obtain ⟨hj, _⟩ := List.getElem?_eq_some_iff.mp hdu7
      rw [List.length_map, List.length_range] at hj
      obtain ⟨k8, hg8⟩ := hg7.of g8 kk7.fg
      have kp8 := g8.keep hp7 fp7
      have kq8 := g8.keep hq7 fq7
      have k08 := kk7.trans k8
      show tSeq _ _ _ [some (.ref g), some v, some (.ref p), some u, some (.ref ps), some u7, z6] H8
      have hv8 := dp_ex k08.fx hv
      have hvv := Dv.ev_var (K := K) (σ := [some (.ref g), some v, some (.ref p), some u, some (.ref ps), some u7, z6]) (i := 1) rfl hv8
      have hb : 1 ≤ (rc.length : Int) ∧ (rc.length : Int) < 1000 ∧ Builtin.Int.intBits (rc.length : Int) < 30 := by
        have : rc.length = 1 ∨ rc.length = 2 ∨ rc.length = 3 := by omega
        rcases this with h | h | h <;> rw [h] <;> exact ⟨by decide, by decide, by decide +kernel⟩
      have dn : DrD K g 1 (tOp (rIxT K) (tOp (rIxL K) (tVar 1) (tCall spRandom [] E0 (tCons (tVar 0) (tCons (tCB (fun xs H Q => ∃ x n, xs = [x] ∧ LenV K x H n ∧ Q (.int n) H) (tCons (tVar 1) tNil)) tNil)))) (tC (.int 0))) [some (.ref g), some v, some (.ref p), some u, some (.ref ps), some u7, z6] F8 fun d => ∃ x, d = .str x ∧ x ∈ rc.map (·.1) :=
        dr_op (Pb := fun d => d = .int 0) (dr_ixL hvv fun F' e' => (dr_randomE (i := 0) (b := rc.length) rfl (ev_len (n := rc.length) (hvv.mono e') (show some (rc.map encRecipe).length = _ by rw [List.length_map]) (by omega)) hb.1 hb.2.1 hb.2.2).imp fun d hd => by
          rw [List.length_map]
          exact hd) (dr_of (Dv.ev_int 0) rfl) fun v u F1 H1 a b _ e pa pb hv hu Q q => by
            obtain ⟨r, hr, rfl⟩ := List.mem_map.mp pa
            subst pb
            cases hu
            cases hv with
            | tup hs hd =>
              obtain ⟨v', hv', hd'⟩ := dps_at (i := 0) hd rfl
              exact ⟨_, _, 0, v', rfl, rfl, ex_t e hs, atI_nat (j := 0) hv', q v' F1 H1 (.str r.1) (Gr.refl e) ⟨r.1, rfl, List.mem_map.mpr ⟨r, hr, rfl⟩⟩ hd'⟩
      refine seq_of (sr_asg dn k8.fh k8.fg hg8 (by omega) fun nv F9 H9 d k9 hg9 hdn hnv => ?_)
      obtain ⟨nm, rfl, hnm⟩ := hdn
      have kp9 := k9.keep kp8.1 kp8.2 pg
      have kq9 := k9.keep kq8.1 kq8.2 psg
      dsimp only
      show tDrop _ _ [some (.ref g), some v, some (.ref p), some u, some (.ref ps), some u7, some nv] H9
      have wl : ws.length = j := by rw [dps_len hws, List.length_map, hsl]
      have ds : DrD K g 2 (tTup (tCons (tVar 6) (tCons (tCall (spD K fFrac) [] E0 (tCons (tOp (rI0 fun i j => .int (i + j)) (tC (.int 1)) (tCall spRandom [] E0 (tCons (tVar 0) (tCons (tC (.int 4)) tNil)))) (tCons (tOp (rI0 fun i j => .int (i + j)) (tC (.int 1)) (tCall spRandom [] E0 (tCons (tVar 0) (tCons (tC (.int 6)) tNil)))) tNil))) tNil))) [some (.ref g), some v, some (.ref p), some u, some (.ref ps), some u7, some nv] F9 fun d => ∃ q : Rat, d = encStep (nm, q) ∧ 0 < q ∧ Sx 240 q :=
        (dr_tup (da_cons (dr_of (d := .str nm) (Pd := (· = .str nm)) (Dv.ev_var (i := 6) rfl hnv) rfl) (da_cons (dr_call (Pe := fun d => ∃ q : Rat, d = encR q ∧ 0 < q ∧ Sx 240 q) (da_cons (dr_add (one _ _) (dr_random (i := 0) (b := 4) rfl (by decide) (by decide) (by decide +kernel))) (da_cons (dr_add (one _ _) (dr_random (i := 0) (b := 6) rfl (by decide) (by decide) (by decide +kernel))) da_nil)) fun ds hds => by
          obtain ⟨d1, r1, rfl, ⟨r, rfl, a0, a1⟩, d2, r2, rfl, ⟨m, rfl, b0, b1⟩, rfl⟩ := hds
          obtain ⟨qq, h1, h2, h3, h4⟩ := frac_sx (r := r) (k := m) (R := 4) (by omega) (by omega) (by omega) (by omega)
          exact ⟨encF (frac r m), ⟨r, m, rfl, by omega, by omega, rfl⟩, qq, congrArg encF h1, h4 (by omega), h2⟩) da_nil)) (fun ds h => by
          obtain ⟨d, r, rfl, _, d2, r2, rfl, _, rfl⟩ := h
          simp)).imp fun d h => by
            obtain ⟨ds, rfl, d, r, rfl, rfl, d2, r2, rfl, ⟨q, rfl, h1, h2⟩, rfl⟩ := h
            exact ⟨q, rfl, h1, h2⟩
      refine sr_app (K := K) (i := 4) kq9.1 kq9.2 psg rfl ds k9.fh k9.fg hg9 (by omega) (by omega) fun sv F10 H10 d k10 hg10 hd hsv fq10 hq10 => ?_
      obtain ⟨qq, rfl, q0, qs⟩ := hd
      have kp10 := k10.keep kp9.1 kp9.2 pg
      have xx : Ex F7 F10 := (k8.fx.trans k9.fx).trans k10.fx
      refine ⟨F10, e7.trans xx, Ex.mut k10.fh fq10, ⟨_, _, rfl⟩, ((k08.trans k9).trans k10).mut psH fq10 psg, ex7.trans xx, hg10.mono (by omega), kp10.2, by rw [upd_ne pps]; exact kp10.1, fq10, _, sts ++ [(nm, qq)], upd_same, ?_, by rw [List.length_append, hsl]; rfl, fun z hz => ?_⟩
      · rw [List.map_append]
        exact dps_app (dps_ex xx hws) (.cons hsv .nil)
      · rcases List.mem_append.mp hz with h | h
        · exact hst z h
        · rw [List.mem_singleton.mp h]; exact ⟨hnm, q0, qs⟩
    · obtain ⟨⟨z5, z6, rfl⟩, kk7, ex7, hg7, fp7, hp7, fq7, ws, sts, hq7, hws, hsl, hst⟩ := pv
      rw [List.length_map, List.length_range, hm] at hg7 hsl
      have kt := kk7.take psH fq7 psg hq7
      have hps : Dp K (upd F' ps (.lst ws)) (.ref ps) (.list (sts.map encStep)) := .lst (SqL.of upd_same) (dps_ex (Ex.new fq7) hws)
      have fpt : upd F' ps (.lst ws) p = none := by rw [upd_ne pps]; exact fp7
      have ext : Ex F' (upd F' ps (.lst ws)) := Ex.new fq7
      dsimp only
      show tDrop _ _ [some (.ref g), some v, some (.ref p), some u, some (.ref ps), z5, z6] H'
      have vl : vs.length = n := by rw [dps_len hds, List.length_map, hl]
      have db : DrD K g 1 (tTup (tCons (tOp (rI0 fun i j => .int (i + j)) (tC (.int 1)) (tCall spRandom [] E0 (tCons (tVar 0) (tCons (tC (.int 4)) tNil)))) (tCons (tVar 4) tNil))) [some (.ref g), some v, some (.ref p), some u, some (.ref ps), z5, z6] (upd F' ps (.lst ws)) fun d => ∃ m : Nat, d = encBlock (m, sts) ∧ 1 ≤ m ∧ m ≤ 4 :=
        (dr_tup (da_cons (dr_add (one _ _) (dr_random (i := 0) (b := 4) rfl (by decide) (by decide) (by decide +kernel))) (da_cons (dr_of (d := .list (sts.map encStep)) (Pd := (· = .list (sts.map encStep))) (Dv.ev_var (i := 4) rfl hps) rfl) da_nil)) (fun ds h => by
          obtain ⟨d, r, rfl, _, d2, r2, rfl, _, rfl⟩ := h
          simp)).imp fun d h => by
            obtain ⟨ds, rfl, d, r, rfl, ⟨i, rfl, i0, i1⟩, d2, r2, rfl, rfl, rfl⟩ := h
            obtain ⟨m, rfl⟩ := Int.eq_ofNat_of_zero_le (show 0 ≤ i by omega)
            exact ⟨m, rfl, by omega, by omega⟩
      refine sr_app (K := K) (i := 2) hp7 fpt pg rfl db kt.fh kt.fg hg7 (by omega) (by omega) fun bv F9 H9 d k9 hg9 hd hbv fp9 hp9 => ?_
      obtain ⟨m, rfl, m1, m4⟩ := hd
      have xx : Ex F3 F9 := ((((k4.fx.trans k5.fx).trans k6.fx).trans ex7).trans ext).trans k9.fx
      refine ⟨F9, e1.trans xx, Ex.mut k9.fh fp9, ⟨_, _, _, _, rfl⟩, (kt.trans k9).mut hp1H fp9 pg, hg9.mono (by omega), fp9, _, bs ++ [(m, sts)], upd_same, ?_, by rw [List.length_append, hl]; rfl, fun b hb => ?_⟩
      · rw [List.map_append]
        exact dps_app (dps_ex xx hds) (.cons hbv .nil)
      · rcases List.mem_append.mp hb with h | h
        · exact hbs b h
        · rw [List.mem_singleton.mp h]; exact ⟨m1, m4, by show 1 ≤ sts.length; omega, by show sts.length ≤ 3; omega, hst⟩
  · obtain ⟨⟨y3, y4, y5, y6, rfl⟩, kk, hg3, fp, vs, bs, hp, hds, hl, hbs⟩ := pv
    rw [List.length_map, List.length_range] at hg3 hl
    have ht : ((turns : Int)).toNat = turns := rfl
    rw [ht] at hg3 hl
    dsimp only
    exact ⟨_, rfl, q _ _ _ bs (kk.take hp1H fp pg hp) (hg3.mono (by omega)) (by omega) hbs (.lst (SqL.of upd_same) (dps_ex (Ex.new fp) hds))⟩
end
end R3

set_option Elab.async false
set_option linter.all false
set_option maxRecDepth 100000
set_option maxHeartbeats 4000000
namespace R3
open PySem PySem.Spec PyProof.Rows L2 Evl Dv
open Qa (toF Sx neg_rat)
/-- what a step leaves at each stuff, the law's way -/
def lowOf (tk : List (Str × Int)) (a : Rat) (z : (Str × Option Int) × Rat) : Rat := z.2 + a * ((0 - numOf tk z.1.1 : Int) : Rat)
def morOf (tk gv : List (Str × Int)) (a : Rat) (z : (Str × Option Int) × Rat) : Rat := lowOf tk a z + a * ((numOf gv z.1.1 : Int) : Rat)
def okOf (tk gv : List (Str × Int)) (a : Rat) (z : (Str × Option Int) × Rat) : Bool := !decide (lowOf tk a z < 0) && roomOk z.1.2 (morOf tk gv a z)
def stepL (m : MillD) (hs : List Rat) (nm : Str) (a : Rat) : Option (List Rat × List Rat) := match m.recipes[m.titles.idxOf nm]? with
  | none => none
  | some r => if ((m.stuffs.zip hs).all (okOf r.2.1 r.2.2 a)) = true then some ((m.stuffs.zip hs).map (lowOf r.2.1 a), (m.stuffs.zip hs).map (morOf r.2.1 r.2.2 a)) else none
def encSt : Option (List Rat × List Rat) → PyData
  | none => .none
  | some z => .list [.list (z.1.map encR), .list (z.2.map encR)]
/-- numbers of the parts bounded, the law's way -/
def NumL (m : MillD) (M : Nat) : Prop := ∀ r ∈ m.recipes, ∀ x, (numOf r.2.1 x).natAbs ≤ M ∧ (numOf r.2.2 x).natAbs ≤ M
def fStepped : List PyData → PyData → Prop := fun ds d => ∃ (m : MillD) (hs : List Rat) (nm : Str) (a : Rat) (B A M : Nat), ds = [encPartsT m, .list (hs.map encR), encStep (nm, a)] ∧ m.Ok ∧ hs.length = m.stuffs.length ∧ RoomBd m ∧ nm ∈ m.titles ∧ NumL m M ∧ (∀ q ∈ hs, Sx B q) ∧ Sx A a ∧
  (∀ r ∈ m.recipes, r.2.1.length ≤ 30000 ∧ r.2.2.length ≤ 30000) ∧ B + A * M + A * M < 1000000000000 ∧ M < 1000000000000 ∧ A < 1000000000000 ∧ d = encSt (stepL m hs nm a)
section
variable {P : Program} {w : World} {K : PySem.W.Frag} {mg : Str → Option Value} {base : Heap}
theorem filt_one {m : MillD} (nd : m.titles.Nodup) {nm : Str} {r : RecD} (h : m.recipes[m.titles.idxOf nm]? = some r) (hr : r.1 = nm) : m.recipes.filter (fun r => decide (r.1 = nm)) = [r] := by
  have key : ∀ (rc : List RecD), (rc.map (·.1)).Nodup → r ∈ rc → rc.filter (fun r => decide (r.1 = nm)) = [r] := by
    intro rc
    induction rc with
    | nil => intro _ h; cases h
    | cons x t ih =>
      intro hn hm
      rw [List.map_cons, List.nodup_cons] at hn
      rcases List.mem_cons.mp hm with h | h
      · rw [← h, List.filter_cons, if_pos (by simp [hr])]
        congr 1
        rw [List.filter_eq_nil_iff]
        intro y hy hy2
        have e1 : y.1 = nm := of_decide_eq_true hy2
        refine hn.1 ?_
        rw [← h, hr, ← e1]
        exact List.mem_map.mpr ⟨y, hy, rfl⟩
      · rw [List.filter_cons, if_neg, ih hn.2 h]
        intro h2
        have e1 : x.1 = nm := of_decide_eq_true h2
        refine hn.1 ?_
        rw [e1, ← hr]
        exact List.mem_map.mpr ⟨r, h, rfl⟩
  exact key m.recipes nd (List.mem_of_getElem? h)
theorem ev_numOf {σ : L2.St} {F : Hp} {ta tb : TE} {E : XK} {ps : List (Str × Int)} {x : Str} (h1 : EvD K ta σ F (.list (ps.map encPart))) (h2 : EvD K tb σ F (.str x)) (hl : ps.length ≤ 30000) : EvD K (tCall (spD K fNumOf) [] E (tCons ta (tCons tb tNil))) σ F (.int (numOf ps x)) :=
  ev_callD (Dv.ea_cons h1 (Dv.ea_cons h2 Dv.ea_nil)) ⟨ps, x, rfl, hl, rfl⟩
theorem sc__law_stepped : FnScope (["parts", "held", "step", "stuffs", "recipes", "takes", "gives", "name", "less", "more", "low", "found", "at", "room"] : List Str) (["parts", "held", "step"] : List Str) (defScope sLawStepped) := ⟨rfl, rfl, rfl, by decide +kernel, rfl, by decide +kernel, by decide +kernel⟩
theorem ok_law_stepped (D : Def K mg "_law_stepped" sLawStepped ["parts", "held", "step"]) (B : Bl mg) (C__law_plus : Cal P w K mg base "_law_plus" ["one", "other"] 3 (spD K fPlus)) (C__law_by : Cal P w K mg base "_law_by" ["one", "number"] 3 (spD K fScaled)) (C__law_less : Cal P w K mg base "_law_less" ["one", "other"] 1 (spD K fBelow)) (C__law_number_of : Cal P w K mg base "_law_number_of" ["parts", "name"] 1 (spD K fNumOf)) :
    Cal P w K mg base "_law_stepped" ["parts", "held", "step"] 4 (spD K fStepped) := by
  refine cal_mk D sc__law_stepped (len_D (by rintro _ _ ⟨m, hs, nm, a, B, A, M, rfl, _⟩; rfl)) (fun f cdv A outer s H vs Q E hr h => ?_)
  obtain ⟨F, ds, d, e, hv, ⟨m, hs, nm, a, Bb, Aa, Mm, rfl, ok, hl, rb, hnm, hNL, hB, hA, hlen, hb, hMb, hAb, rfl⟩, q⟩ := h
  obtain ⟨x, y, z, rfl, h1, h2, h3⟩ := Dv.three hv
  refine ⟨_, (pss_cons (ps_asg (pv 0) (pg_tup (by rfl) (pgs_cons (pg_name (i := 3) sc__law_stepped.nd rfl (.inl rfl)) (pgs_cons (pg_name (i := 4) sc__law_stepped.nd rfl (.inl rfl)) pgs_nil))))
      (pss_cons (ps_asg (pe_ix ix_list (pe_lc (own := [("name", 7), ("less", 8), ("more", 9)]) (g := gTup K 3 (gCons (gName 7) (gCons (gName 8) (gCons (gName 9) gNil)))) rfl sc__law_stepped.nd (pi_list (pv 4)) (blkOk_by (own := [("name", 7), ("less", 8), ("more", 9)]) (N := ["parts", "held", "step", "stuffs", "recipes", "takes", "gives", "name", "less", "more", "low", "found", "at", "room"]) (sc := defScope sLawStepped) (by decide +kernel)) (fun _ _ _ _ _ => (pg_tup (by rfl) (pgs_cons (pg_name (i := 7) sc__law_stepped.nd rfl (.inl rfl)) (pgs_cons (pg_name (i := 8) sc__law_stepped.nd rfl (.inl rfl)) (pgs_cons (pg_name (i := 9) sc__law_stepped.nd rfl (.inl rfl)) pgs_nil)))))  (fun _ _ _ _ _ => (pts_one (pt_cmpR op_eq (pv 7) (pe_ix (r := rIxT K) ix_tup (pv 2) pe_int (fun _ _ => rfl)) (nomark _)))) (fun _ _ _ _ _ => (pe_tup (pa_cons (pv 8) (pa_cons (pv 9) pa_nil))))) pe_int (fun _ _ => rfl)) (pg_tup (by rfl) (pgs_cons (pg_name (i := 5) sc__law_stepped.nd rfl (.inl rfl)) (pgs_cons (pg_name (i := 6) sc__law_stepped.nd rfl (.inl rfl)) pgs_nil))))
      (pss_cons (ps_par (i := 10) (j := 11) (by rfl) sc__law_stepped.nd rfl rfl (by decide) rfl rfl (pa_cons (pe_lst pa_nil) (pa_cons (pe_lst pa_nil) pa_nil)) (by rfl))
      (pss_cons (ps_for PassesOwn.never rfl (pi_range1 rfl B.range (pa_cons (pe_callB call_len (by rfl) B.len (by decide +kernel) (pa_cons (pv 3) pa_nil)) pa_nil)) (pg_name (i := 12) sc__law_stepped.nd rfl (.inl rfl)) (pss_cons (ps_asg (pe_ix ix_list (pv 3) (pv 12) (fun _ _ => rfl)) (pg_tup (by rfl) (pgs_cons (pg_name (i := 7) sc__law_stepped.nd rfl (.inl rfl)) (pgs_cons (pg_name (i := 13) sc__law_stepped.nd rfl (.inl rfl)) pgs_nil))))
      (pss_cons (ps_set (i := 8) sc__law_stepped.nd rfl (.inl rfl) (pe_callC C__law_plus hr (pa_cons (pe_ix ix_list (pv 1) (pv 12) (fun _ _ => rfl)) (pa_cons (pe_callC C__law_by hr (pa_cons (pe_ix ix_tup (pv 2) pe_int (fun _ _ => rfl)) (pa_cons (pe_op op_sub pe_int (pe_callC C__law_number_of hr (pa_cons (pv 5) (pa_cons (pv 7) pa_nil)))) pa_nil))) pa_nil))))
      (pss_cons (ps_set (i := 9) sc__law_stepped.nd rfl (.inl rfl) (pe_callC C__law_plus hr (pa_cons (pv 8) (pa_cons (pe_callC C__law_by hr (pa_cons (pe_ix ix_tup (pv 2) pe_int (fun _ _ => rfl)) (pa_cons (pe_callC C__law_number_of hr (pa_cons (pv 6) (pa_cons (pv 7) pa_nil))) pa_nil))) pa_nil))))
      (pss_cons (ps_if (PW.pt (pw_or (pt_cmpR op_lt (pe_ix ix_tup (pv 8) pe_int (fun _ _ => rfl)) pe_int (nomark _)) (pw_or1 (PW.pt (pw_and (pt_cmpR op_notN (pv 13) pe_non (nomark _)) (pw_and1 (pt_val (pe_callC C__law_less hr (pa_cons (pe_tup (pa_cons (pv 13) (pa_cons pe_int pa_nil))) (pa_cons (pv 9) pa_nil)))))))))) (pss_one (ps_ret pe_non)) pss_nil)
      (pss_cons (ps_expr (pe_bm PySem.F.plainAttrs_list PySem.F.slot_list_append PySem.F.type_list_append mt_append (pv 10) (pa_cons (pv 8) pa_nil)))
      (pss_one (ps_expr (pe_bm PySem.F.plainAttrs_list PySem.F.slot_list_append PySem.F.type_list_append mt_append (pv 11) (pa_cons (pv 9) pa_nil))))))))))
      (pss_one (ps_ret (pe_lst (pa_cons (pv 10) (pa_cons (pv 11) pa_nil))))))))), ?_⟩
  have st : start ["parts", "held", "step", "stuffs", "recipes", "takes", "gives", "name", "less", "more", "low", "found", "at", "room"] [x, y, z] = [some x, some y, some z, none, none, none, none, none, none, none, none, none, none, none] := rfl
  rw [st]
  obtain ⟨r, hr1, hr2, hr3, _⟩ := col_mem hnm
  have hsl : stepL m hs nm a = if ((m.stuffs.zip hs).all (okOf r.2.1 r.2.2 a)) = true then some ((m.stuffs.zip hs).map (lowOf r.2.1 a), (m.stuffs.zip hs).map (morOf r.2.1 r.2.2 a)) else none := by
    unfold stepL
    rw [hr2]
  rw [hsl] at q
  have hf := filt_one ok.rn hr2 hr3
  obtain ⟨hl1, hl2⟩ := hlen r hr1
  have hN := hNL r hr1
  obtain ⟨y1, y2, hy1, hy2, ht⟩ := tup2 h1
  refine seq_of ⟨_, rfl, ht 3 4 _ H e _ ?_⟩
  dsimp only
  have z0 : ∀ (σ : L2.St) (F' : Hp), Evl.Ex F F' → σ[2]? = some (some z) → EvD K (tOp (rIxT K) (tVar 2) (tC (.int 0))) σ F' (.str nm) := fun σ F' e' hi => Dv.ev_ixT (Dv.ev_var hi (dp_ex e' h3)) (Dv.ev_int 0) rfl
  have z1 : ∀ (σ : L2.St) (F' : Hp), Evl.Ex F F' → σ[2]? = some (some z) → EvD K (tOp (rIxT K) (tVar 2) (tC (.int 1))) σ F' (encR a) := fun σ F' e' hi => Dv.ev_ixT (Dv.ev_var hi (dp_ex e' h3)) (Dv.ev_int 1) rfl
  have lc := lc_rule (K := K) (F := F) (te := tTup (tCons (tVar 8) (tCons (tVar 9) tNil))) (vs := [7, 8, 9]) (tt := tTest (tOp rEq (tVar 7) (tOp (rIxT K) (tVar 2) (tC (.int 0))))) (g := gTup K 3 (gCons (gName 7) (gCons (gName 8) (gCons (gName 9) gNil)))) (σ := [some x, some y, some z, some y1, some y2, none, none, none, none, none, none, none, none, none]) m.recipes encRecipe (fun r => PyData.tuple [.list (r.2.1.map encPart), .list (r.2.2.map encPart)]) (fun r => decide (r.1 = nm)) (it_list (Dv.ev_var (i := 4) rfl hy2)) (by have := ok.r2; omega)
    (fun r0 hr0 v F4 e4 hv4 => by
      obtain ⟨u1, u2, u3, hu1, hu2, hu3, ht3⟩ := tup3 hv4
      exact ⟨[some x, some y, some z, some y1, some y2, none, none, some u1, some u2, some u3, none, none, none, none], fun H e Q q => ht3 7 8 9 _ H e _ q, rfl, et_test (ev_eqS (Dv.ev_var (i := 7) rfl hu1) (z0 _ F4 e4 rfl)), fun _ => Dv.ev_tup (Dv.ea_cons (Dv.ev_var (i := 8) rfl hu2) (Dv.ea_cons (Dv.ev_var (i := 9) rfl hu3) Dv.ea_nil)) (by simp)⟩)
  rw [hf] at lc
  refine seq_of (Dv.ev_ixL (d := .tuple [.list (r.2.1.map encPart), .list (r.2.2.map encPart)]) (EvL.ev lc) (Dv.ev_int 0) rfl H e _ fun tv F1 H1 g1 htv => ?_)
  obtain ⟨t1, t2, ht1, ht2, htt⟩ := tup2 htv
  refine htt 5 6 _ H1 g1.fh _ ?_
  dsimp only
  show tSeq _ _ _ [some x, some y, some z, some y1, some y2, some t1, some t2, none, none, none, none, none, none, none] H1
  refine seq_of (par_of2 ((Dv.el_lst (K := K) (F := F1) Dv.ea_nil (by simp)) H1 g1.fh _ fun pl ws1 F2 H2 g2 a1 a2 a3 a4 => ?_))
  cases a4
  refine (Dv.el_lst (K := K) (F := F2) Dv.ea_nil (by simp)) H2 g2.fh _ fun pf ws2 F3 H3 g3 b1 b2 b3 b4 => ?_
  cases b4
  refine ⟨_, _, rfl, ?_⟩
  have kl := g3.keep a3 a2
  have plf : pl ≠ pf := fun w => by rw [← w, a3] at b1; cases b1
  have G3' := (g1.trans g2).trans g3
  have plH : H pl = none := ex_none g1.hx a1
  have pfH : H pf = none := ex_none (g1.trans g2).hx b1
  dsimp only
  show tSeq _ _ _ [some x, some y, some z, some y1, some y2, some t1, some t2, none, none, none, some (.ref pl), some (.ref pf), none, none] H3
  have l8 := ok.s2
  have zl : (m.stuffs.zip hs).length = m.stuffs.length := by rw [List.length_zip, hl, Nat.min_self]
  have ln : EvD K (tCB (fun xs H Q => ∃ x n, xs = [x] ∧ LenV K x H n ∧ Q (.int n) H) (tCons (tVar 3) tNil)) [some x, some y, some z, some y1, some y2, some t1, some t2, none, none, none, some (.ref pl), some (.ref pf), none, none] F3 (.int (m.stuffs.length : Int)) :=
    ev_len (n := m.stuffs.length) (Dv.ev_var (i := 3) rfl (dp_ex G3'.fx hy1)) (show some (m.stuffs.map encStuff).length = _ by rw [List.length_map]) (by omega)
  have en : ((m.stuffs.length : Int)).toNat = m.stuffs.length := rfl
  refine seq_of (Dv.s_for (K := K) (it_rng1 (Dv.ea_cons ln Dv.ea_nil) (by omega) (by omega)) G3'.fh
    (fun n σ' F' H' => (∃ s7 s8 s9 s12 s13, σ' = [some x, some y, some z, some y1, some y2, some t1, some t2, s7, s8, s9, some (.ref pl), some (.ref pf), s12, s13]) ∧ Gr F H F' H' ∧ Evl.Ex F3 F' ∧ F' pl = none ∧ F' pf = none ∧ (∃ w1 w2, H' pl = some (.lst w1) ∧ H' pf = some (.lst w2) ∧ DpAll K F' w1 (((m.stuffs.zip hs).take n).map fun z => encR (lowOf r.2.1 a z)) ∧ DpAll K F' w2 (((m.stuffs.zip hs).take n).map fun z => encR (morOf r.2.1 r.2.2 a z))) ∧ ∀ z ∈ (m.stuffs.zip hs).take n, okOf r.2.1 r.2.2 a z = true)
    (fun F' H' g5 => ?_) ?_ (fun σ' F' H' e1 e2 pv => ?_))
  · have k1 := g5.keep kl.1 kl.2
    have k2 := g5.keep b3 b2
    exact ⟨⟨_, _, _, _, _, rfl⟩, G3'.trans g5, g5.fx, k1.2, k2.2, ⟨[], [], k1.1, k2.1, .nil, .nil⟩, fun z hz => by simp at hz⟩
  · rintro Fb eb n σ' F4 H4 u du F5 H5 hdu e1 e2 ⟨⟨s7, s8, s9, s12, s13, rfl⟩, gg, ex4, fl4, ff4, ⟨w1, w2, hw1, hw2, hd1, hd2⟩, hok⟩ g5 hu5
    obtain ⟨hn, hdn⟩ := List.getElem?_eq_some_iff.mp hdu
    rw [List.length_map, List.length_range, en] at hn
    have hdn' : du = .int (n : Int) := by rw [← hdn, List.getElem_map, List.getElem_range]
    subst hdn'
    cases hu5
    have hnz : n < (m.stuffs.zip hs).length := by omega
    have hs1 : (m.stuffs.map encStuff)[n]? = some (encStuff (m.stuffs.zip hs)[n].1) := by
      rw [List.getElem?_map, List.getElem?_eq_getElem hn]
      simp
    have hs2 : (hs.map encR)[n]? = some (encR (m.stuffs.zip hs)[n].2) := by
      rw [List.getElem?_map, List.getElem?_eq_getElem (by omega)]
      simp
    have hmem : (m.stuffs.zip hs)[n] ∈ m.stuffs.zip hs := List.getElem_mem _
    have htk : (m.stuffs.zip hs).take (n + 1) = (m.stuffs.zip hs).take n ++ [(m.stuffs.zip hs)[n]] := List.take_succ_eq_append_getElem hnz
    generalize (m.stuffs.zip hs)[n] = it at *
    have mh := (List.of_mem_zip hmem).2
    have ms := (List.of_mem_zip hmem).1
    have ke1 := g5.keep hw1 fl4
    have ke2 := g5.keep hw2 ff4
    have G5 := gg.trans g5
    have ex5 : Evl.Ex F3 F5 := ex4.trans g5.fx
    show tSeq _ _ _ [some x, some y, some z, some y1, some y2, some t1, some t2, s7, s8, s9, some (.ref pl), some (.ref pf), some (.int (n : Int)), s13] H5
    have vn : ∀ (σ : L2.St) (F' : Hp), σ[12]? = some (some (.int (n : Int))) → EvD K (tVar 12) σ F' (.int (n : Int)) := fun σ F' hi => Dv.ev_var hi (.int _)
    refine seq_of (Dv.ev_ixL (d := encStuff it.1) (Dv.ev_var (i := 3) rfl (dp_ex G5.fx hy1)) (vn _ _ rfl) (atI_nat hs1) H5 G5.fh _ fun sv F6 H6 g6 hsv => ?_)
    obtain ⟨n1, n2, hn1, hn2, htn⟩ := tup2 hsv
    refine htn 7 13 _ H6 g6.fh _ ?_
    have G6 := G5.trans g6
    have ex6 := ex5.trans g6.fx
    dsimp only
    show tSeq _ _ _ [some x, some y, some z, some y1, some y2, some t1, some t2, some n1, s8, s9, some (.ref pl), some (.ref pf), some (.int (n : Int)), some n2] H6
    have ex13 := (g2.trans g3).fx
    have hn1M := hN it.1.1
    have bl : Sx (Bb + Aa * Mm) (lowOf r.2.1 a it) := (hB _ mh).add ((hA.mul _).mono (Nat.mul_le_mul_left _ (by omega)))
    have bm : Sx (Bb + Aa * Mm + Aa * Mm) (morOf r.2.1 r.2.2 a it) := bl.add ((hA.mul _).mono (Nat.mul_le_mul_left _ hn1M.2))
    refine seq_of (Dv.s_asg (K := K) (d := encR (lowOf r.2.1 a it)) (ev_plus (B := Bb) (C := Aa * Mm) (Dv.ev_ixL (Dv.ev_var (i := 1) rfl (dp_ex G6.fx h2)) (vn _ _ rfl) (atI_nat hs2)) (ev_scaled (z1 _ F6 G6.fx rfl) (Dv.ev_I0 (fun _ => .int _) (Dv.ev_int 0) (ev_numOf (Dv.ev_var (i := 5) rfl (dp_ex (ex13.trans ex6) ht1)) (Dv.ev_var (i := 7) rfl hn1) hl1)) hA (by omega)) (hB _ mh) ((hA.mul _).mono (Nat.mul_le_mul_left _ (by omega)))) G6.fh fun lv F7 H7 g7 hlv => ?_)
    have G7 := G6.trans g7
    have ex7 := ex6.trans g7.fx
    dsimp only
    show tSeq _ _ _ [some x, some y, some z, some y1, some y2, some t1, some t2, some n1, some lv, s9, some (.ref pl), some (.ref pf), some (.int (n : Int)), some n2] H7
    refine seq_of (Dv.s_asg (K := K) (d := encR (morOf r.2.1 r.2.2 a it)) (ev_plus (B := Bb + Aa * Mm) (C := Aa * Mm) (Dv.ev_var (i := 8) rfl hlv) (ev_scaled (z1 _ F7 G7.fx rfl) (ev_numOf (Dv.ev_var (i := 6) rfl (dp_ex (ex13.trans ex7) ht2)) (Dv.ev_var (i := 7) rfl (dp_ex g7.fx hn1)) hl2) hA (by omega)) bl ((hA.mul _).mono (Nat.mul_le_mul_left _ hn1M.2))) G7.fh fun mv F8 H8 g8 hmv => ?_)
    have G8 := G7.trans g8
    have ex8 := ex7.trans g8.fx
    have hlv8 := dp_ex g8.fx hlv
    have hn28 := dp_ex (g7.fx.trans g8.fx) hn2
    dsimp only
    show tSeq _ _ _ [some x, some y, some z, some y1, some y2, some t1, some t2, some n1, some lv, some mv, some (.ref pl), some (.ref pf), some (.int (n : Int)), some n2] H8
    have tst : EtD (tOr (tTest (tOp (rI0 fun i j => V.bl (decide (i < j))) (tOp (rIxT K) (tVar 8) (tC (.int 0))) (tC (.int 0)))) (tAnd (tTest (tOp rNotN (tVar 13) (tC .non))) (tTest (tCall (spD K fBelow) [] E0 (tCons (tTup (tCons (tVar 13) (tCons (tC (.int 1)) tNil))) (tCons (tVar 9) tNil))))))
        [some x, some y, some z, some y1, some y2, some t1, some t2, some n1, some lv, some mv, some (.ref pl), some (.ref pf), some (.int (n : Int)), some n2] F8 (!okOf r.2.1 r.2.2 a it) := by
      refine et_is (et_or (p := decide (lowOf r.2.1 a it < 0)) (q := !roomOk it.1.2 (morOf r.2.1 r.2.2 a it)) (et_v (Dv.ev_I0 (fun _ => .bl _) (Dv.ev_ixT (d := .int (lowOf r.2.1 a it).num) (Dv.ev_var (i := 8) rfl hlv8) (Dv.ev_int 0) rfl) (Dv.ev_int 0)) (congrArg PyData.bool (neg_rat _))) fun _ => ?_) (by unfold okOf; rw [Bool.not_and, Bool.not_not])
      obtain ⟨⟨nm', room⟩, h⟩ := it
      cases room with
      | none => exact et_andF (et_v (ev_notNR (Dv.ev_var (i := 13) rfl hn28)) rfl)
      | some k =>
        have hk := rb _ ms k rfl
        refine et_is (et_andT (et_v (ev_notNR (Dv.ev_var (i := 13) rfl hn28)) rfl) (et_test (ev_below (a := (k : Rat)) (B := 60000000) (Dv.ev_tup (Dv.ea_cons (Dv.ev_var (i := 13) rfl hn28) (Dv.ea_cons (Dv.ev_int 1) Dv.ea_nil)) (by simp)) (Dv.ev_var (i := 9) rfl hmv) (Sx.mono (Sx.int k) (show 60 * k.natAbs ≤ 60000000 by omega)) bm))) ?_
        show _ = !(!decide ((k : Rat) < _))
        rw [Bool.not_not]
    have kf1 := ((g6.trans g7).trans g8).keep ke1.1 ke1.2
    have kf2 := ((g6.trans g7).trans g8).keep ke2.1 ke2.2
    by_cases hk : okOf r.2.1 r.2.2 a it = true
    · refine seq_of (s_ifF (et_is tst (by rw [hk] <;> rfl)) G8.fh fun F9 H9 g9 => ?_)
      unfold tNext
      dsimp only
      have G9 := G8.trans g9
      have kg1 := g9.keep kf1.1 kf1.2
      have kg2 := g9.keep kf2.1 kf2.2
      have xx : Evl.Ex F4 F9 := (((g5.fx.trans g6.fx).trans g7.fx).trans g8.fx).trans g9.fx
      have wl1 : w1.length ≤ 8 := by rw [dps_len hd1, List.length_map, List.length_take]; omega
      have wl2 : w2.length ≤ 8 := by rw [dps_len hd2, List.length_map, List.length_take]; omega
      refine seq_of (Dv.s_app (K := K) (F := F9) (l := pl) (xs := w1) (i := 10) kg1.1 kg1.2 rfl (Dv.ev_var (i := 8) rfl (dp_ex g9.fx hlv8)) G9.fh (by omega) fun v1 F10 H10 g10 hv1 f10 h10 => ?_)
      dsimp only
      have G10 := (G9.trans g10)
      have G10' := G10.mut plH f10 (o := .lst (w1 ++ [v1]))
      have kh2 := g10.keep kg2.1 kg2.2
      refine Dv.s_app (K := K) (F := F10) (l := pf) (xs := w2) (i := 11) (by rw [upd_ne (Ne.symm plf)]; exact kh2.1) kh2.2 rfl (Dv.ev_var (i := 9) rfl (dp_ex (g9.fx.trans g10.fx) hmv)) G10'.fh (by omega) fun v2 F11 H11 g11 hv2 f11 h11 => ?_
      have k11 := g11.keep (p := pl) (o := .lst (w1 ++ [v1])) upd_same f10
      have xy := (xx.trans g10.fx).trans g11.fx
      refine ⟨F11, e1.trans xy, Evl.Ex.mut g11.fh f11, ⟨_, _, _, _, _, rfl⟩, (G10'.trans g11).mut pfH f11, ex4.trans xy, k11.2, f11, ⟨w1 ++ [v1], w2 ++ [v2], by rw [upd_ne plf]; exact k11.1, upd_same, ?_, ?_⟩, fun zz hz => ?_⟩
      · rw [htk, List.map_append]
        exact dps_app (dps_ex xy hd1) (.cons (dp_ex g11.fx hv1) .nil)
      · rw [htk, List.map_append]
        exact dps_app (dps_ex xy hd2) (.cons hv2 .nil)
      · rw [htk] at hz
        rcases List.mem_append.mp hz with h | h
        · exact hok zz h
        · rw [List.mem_singleton.mp h]; exact hk
    · refine seq_of (s_ifT (et_is tst (by rw [eq_false_of_ne_true hk] <;> rfl)) G8.fh fun F9 H9 g9 => ?_)
      have e0 : ¬ ((m.stuffs.zip hs).all (okOf r.2.1 r.2.2 a)) = true := fun h => hk (List.all_eq_true.mp h _ hmem)
      rw [if_neg e0] at q
      exact q .non F9 H9 (G8.trans g9) .non
  · obtain ⟨⟨s7, s8, s9, s12, s13, rfl⟩, gg, ex4, fl4, ff4, ⟨w1, w2, hw1, hw2, hd1, hd2⟩, hok⟩ := pv
    rw [List.length_map, List.length_range, en, ← zl, List.take_length] at hd1 hd2 hok
    rw [if_pos (List.all_eq_true.mpr hok)] at q
    dsimp only
    have gt1 := gg.take plH fl4 hw1
    have ff5 : upd F' pl (.lst w1) pf = none := by rw [upd_ne (Ne.symm plf)]; exact ff4
    have gt2 := gt1.take pfH ff5 hw2
    have exa : Evl.Ex F' (upd F' pl (.lst w1)) := Evl.Ex.new fl4
    have exb : Evl.Ex (upd F' pl (.lst w1)) (upd (upd F' pl (.lst w1)) pf (.lst w2)) := Evl.Ex.new ff5
    have dl : Dp K (upd (upd F' pl (.lst w1)) pf (.lst w2)) (.ref pl) (.list (((m.stuffs.zip hs).map (lowOf r.2.1 a)).map encR)) := by
      rw [List.map_map]
      exact .lst (SqL.of (exb _ _ upd_same)) (dps_ex (exa.trans exb) hd1)
    have df : Dp K (upd (upd F' pl (.lst w1)) pf (.lst w2)) (.ref pf) (.list (((m.stuffs.zip hs).map (morOf r.2.1 r.2.2 a)).map encR)) := by
      rw [List.map_map]
      exact .lst (SqL.of upd_same) (dps_ex (exa.trans exb) hd2)
    refine Dv.s_ret (K := K) (d := encSt (some ((m.stuffs.zip hs).map (lowOf r.2.1 a), (m.stuffs.zip hs).map (morOf r.2.1 r.2.2 a)))) (EvL.ev (Dv.el_lst (Dv.ea_cons (Dv.ev_var (i := 10) rfl dl) (Dv.ea_cons (Dv.ev_var (i := 11) rfl df) Dv.ea_nil)) (by simp))) gt2.fh fun v F2' H2' g2' hv' => q v F2' H2' (gt2.trans g2') hv'
end
end R3

set_option Elab.async false
set_option linter.all false
set_option maxRecDepth 100000
set_option maxHeartbeats 4000000
namespace R3
open PySem PySem.Spec PyProof.Rows L2 Evl Dv
open Qa (toF Sx neg_rat)
def maxL (a b : Rat) : Rat := if a < b then b else a
/-- the state of the law's own going: holdings, least, most, sums -/
structure Gs where
  w : Wk
  t : Tot
def stepG (m : MillD) (s : Gs) (z : Str × Rat) : Option Gs := match stepL m s.w.held z.1 z.2 with
  | none => none
  | some lf => some ⟨⟨lf.2, (s.w.least.zip lf.1).map fun p => minR p.1 p.2, (s.w.most.zip lf.2).map fun p => maxL p.1 p.2⟩, addQ s.t z.1 z.2⟩
def stepsG (m : MillD) : Gs → List (Str × Rat) → Option Gs
  | s, [] => some s
  | s, z :: r => (stepG m s z).bind fun s' => stepsG m s' r
def turnsG (m : MillD) (steps : List (Str × Rat)) : Nat → Gs → Option Gs
  | 0, s => some s
  | k + 1, s => (stepsG m s steps).bind (turnsG m steps k)
def rowG (m : MillD) : Gs → List BlkD → Option Gs
  | s, [] => some s
  | s, b :: r => (turnsG m b.2 b.1 s).bind fun s' => rowG m s' r
theorem turnsG_succ {m : MillD} {steps : List (Str × Rat)} {k : Nat} {s : Gs} : turnsG m steps (k + 1) s = (stepsG m s steps).bind (turnsG m steps k) := rfl
theorem stepsG_cons {m : MillD} {s : Gs} {z : Str × Rat} {r : List (Str × Rat)} : stepsG m s (z :: r) = (stepG m s z).bind fun s' => stepsG m s' r := rfl
theorem rowG_cons {m : MillD} {s : Gs} {b : BlkD} {r : List BlkD} : rowG m s (b :: r) = (turnsG m b.2 b.1 s).bind fun s' => rowG m s' r := rfl
def encG (m : MillD) : Option Gs → PyData
  | none => .none
  | some s => .list [.list (s.w.held.map encR), .list (encN s.w), .list (m.titles.map fun x => encR ((getQ s.t x).getD 0))]
structure PartsOk (m : MillD) (A M : Nat) : Prop where
  ok : m.Ok
  rb : RoomBd m
  nl : NumL m M
  ln : ∀ r ∈ m.recipes, r.2.1.length ≤ 30000 ∧ r.2.2.length ≤ 30000
  ml : M < 1000000000000
  al : A < 1000000000
def fGone : List PyData → PyData → Prop := fun ds d => ∃ (m : MillD) (hs : List Rat) (bs : List BlkD) (B A M : Nat), ds = [encPartsT m, .list (hs.map encR), encRow bs] ∧ PartsOk m A M ∧ hs.length = m.stuffs.length ∧ (∀ q ∈ hs, Sx B q) ∧ bs.length ≤ 3 ∧
  (∀ b ∈ bs, b.1 ≤ 4 ∧ b.2.length ≤ 3 ∧ ∀ z ∈ b.2, z.1 ∈ m.titles ∧ Sx A z.2) ∧ B + 40 * (A * M + A * M) < 1000000000000 ∧ d = encG m (rowG m ⟨⟨hs, hs, hs⟩, []⟩ bs)
/-- the sums so far -/
structure SumOk (c A : Nat) (t : Tot) : Prop where
  b : ∀ p ∈ t, Sx (c * A) p.2
  l : t.length ≤ c
theorem getQ_bd {t : Tot} {x : Str} {B : Nat} (h : ∀ p ∈ t, Sx B p.2) : Sx B ((getQ t x).getD 0) := by
  unfold getQ
  cases hf : t.find? (fun p => decide (p.1 = x)) with
  | none => exact ⟨0, by simp, by simp⟩
  | some p => exact h p (List.mem_of_find?_eq_some hf)
theorem SumOk.add {c A : Nat} {t : Tot} {x : Str} {a : Rat} (h : SumOk c A t) (ha : Sx A a) : SumOk (c + 1) A (addQ t x a) := by
  have hq : Sx ((c + 1) * A) ((getQ t x).getD 0 + a) := by
    rw [Nat.add_mul, Nat.one_mul]
    exact (getQ_bd h.b).add ha
  have hm : ∀ p ∈ t, Sx ((c + 1) * A) p.2 := fun p hp => (h.b p hp).mono (Nat.mul_le_mul_right _ (Nat.le_succ _))
  unfold addQ putQ
  split
  · refine ⟨fun p hp => ?_, by rw [List.length_map]; exact Nat.le_succ_of_le h.l⟩
    obtain ⟨y, hy, rfl⟩ := List.mem_map.mp hp
    split
    · exact hq
    · exact hm y hy
  · refine ⟨fun p hp => ?_, by rw [List.length_append]; exact Nat.succ_le_succ h.l⟩
    rcases List.mem_append.mp hp with h1 | h1
    · exact hm p h1
    · rw [List.mem_singleton.mp h1]; exact hq
theorem stepG_bd {m : MillD} {s s' : Gs} {z : Str × Rat} {A M B c : Nat} (po : PartsOk m A M) (hb : s.w.Bd B m.stuffs.length) (hz : z.1 ∈ m.titles ∧ Sx A z.2) (ht : SumOk c A s.t) (h : stepG m s z = some s') : s'.w.Bd (B + (A * M + A * M)) m.stuffs.length ∧ SumOk (c + 1) A s'.t := by
  unfold stepG at h
  cases hl : stepL m s.w.held z.1 z.2 with
  | none => rw [hl] at h; cases h
  | some lf =>
    rw [hl] at h
    cases h
    refine ⟨?_, ht.add hz.2⟩
    unfold stepL at hl
    cases hr : m.recipes[m.titles.idxOf z.1]? with
    | none => rw [hr] at hl; cases hl
    | some r =>
      rw [hr] at hl
      dsimp only at hl
      split at hl
      · cases hl
        have hN := po.nl r (List.mem_of_getElem? hr)
        have zl : (m.stuffs.zip s.w.held).length = m.stuffs.length := by rw [List.length_zip, hb.hn, Nat.min_self]
        have lo : ∀ y ∈ m.stuffs.zip s.w.held, Sx (B + A * M) (lowOf r.2.1 z.2 y) := fun y hy => (hb.h _ (List.of_mem_zip hy).2).add ((hz.2.mul _).mono (Nat.mul_le_mul_left _ (by have := (hN y.1.1).1; omega)))
        have fo : ∀ y ∈ m.stuffs.zip s.w.held, Sx (B + (A * M + A * M)) (morOf r.2.1 r.2.2 z.2 y) := fun y hy => ((lo y hy).add ((hz.2.mul _).mono (Nat.mul_le_mul_left _ (hN y.1.1).2))).mono (by omega)
        refine ⟨fun q hq => ?_, fun q hq => ?_, fun q hq => ?_, by rw [List.length_map, zl], by rw [List.length_map, List.length_zip, hb.ln, List.length_map, zl, Nat.min_self], by rw [List.length_map, List.length_zip, hb.un, List.length_map, zl, Nat.min_self]⟩
        · obtain ⟨y, hy, rfl⟩ := List.mem_map.mp hq
          exact fo y hy
        · obtain ⟨p, hp, rfl⟩ := List.mem_map.mp hq
          have hp' := List.of_mem_zip hp
          show Sx _ (if p.2 < p.1 then p.2 else p.1)
          split
          · obtain ⟨y, hy, h2⟩ := List.mem_map.mp hp'.2
            exact h2 ▸ (lo y hy).mono (by omega)
          · exact (hb.l _ hp'.1).mono (by omega)
        · obtain ⟨p, hp, rfl⟩ := List.mem_map.mp hq
          have hp' := List.of_mem_zip hp
          show Sx _ (if p.1 < p.2 then p.2 else p.1)
          split
          · obtain ⟨y, hy, h2⟩ := List.mem_map.mp hp'.2
            exact h2 ▸ (fo y hy)
          · exact (hb.u _ hp'.1).mono (by omega)
      · cases hl
theorem stepL_some {m : MillD} {hs : List Rat} {nm : Str} {a : Rat} {lf : List Rat × List Rat} {A M B : Nat} (po : PartsOk m A M) (hl : hs.length = m.stuffs.length) (hB : ∀ q ∈ hs, Sx B q) (ha : Sx A a) (h : stepL m hs nm a = some lf) :
    lf.1.length = m.stuffs.length ∧ lf.2.length = m.stuffs.length ∧ (∀ q ∈ lf.1, Sx (B + A * M) q) ∧ ∀ q ∈ lf.2, Sx (B + (A * M + A * M)) q := by
  unfold stepL at h
  cases hr : m.recipes[m.titles.idxOf nm]? with
  | none => rw [hr] at h; cases h
  | some r =>
    rw [hr] at h
    dsimp only at h
    split at h
    · cases h
      have hN := po.nl r (List.mem_of_getElem? hr)
      have zl : (m.stuffs.zip hs).length = m.stuffs.length := by rw [List.length_zip, hl, Nat.min_self]
      have lo : ∀ y ∈ m.stuffs.zip hs, Sx (B + A * M) (lowOf r.2.1 a y) := fun y hy => (hB _ (List.of_mem_zip hy).2).add ((ha.mul _).mono (Nat.mul_le_mul_left _ (by have := (hN y.1.1).1; omega)))
      refine ⟨by rw [List.length_map, zl], by rw [List.length_map, zl], fun q hq => ?_, fun q hq => ?_⟩
      · obtain ⟨y, hy, rfl⟩ := List.mem_map.mp hq
        exact lo y hy
      · obtain ⟨y, hy, rfl⟩ := List.mem_map.mp hq
        exact ((lo y hy).add ((ha.mul _).mono (Nat.mul_le_mul_left _ (hN y.1.1).2))).mono (by omega)
    · cases h
end R3

set_option Elab.async false
set_option linter.all false
set_option maxRecDepth 100000
set_option maxHeartbeats 4000000
namespace R3
open PySem PySem.Spec PyProof.Rows L2 Evl Dv
open Qa (toF Sx neg_rat)
section
variable {P : Program} {w : World} {K : PySem.W.Frag} {mg : Str → Option Value} {base : Heap}
theorem ev_dget2F {σ : L2.St} {F : Hp} {i : Nat} {ad : Addr} {kvs : List (Key × V)} {ps : Tot} {tk tx : TE} {x : Str} {q0 : Rat} (hi : σ[i]? = some (some (.ref ad))) (hd : F ad = some (.dK kvs)) (r : DfR K F encR kvs ps) (hk : EvD K tk σ F (.str x)) (hx : EvD K tx σ F (encR q0)) : EvD K (tDGet2 (tVar i) tk tx) σ F (encR ((getQ ps x).getD q0)) := fun H e Q k =>
  ⟨_, hi, ad, rfl, .inl ⟨kvs, .inl (e _ _ hd)⟩, hk H e _ fun y F1 H1 g1 hy => by
    cases hy
    refine (hx.mono g1.fx) H1 g1.fh _ fun z F2 H2 g2 hz => ⟨_, DGet.k (k := .inr x) (g2.fh _ _ ((g1.fx.trans g2.fx) _ _ hd)), ?_⟩
    rcases r.get (x := x) with ⟨h1, h2⟩ | ⟨v, q', h1, h2, h3⟩
    · rw [h1]
      refine k _ F2 H2 (g1.trans g2) ?_
      rw [h2]
      exact hz
    · rw [h1]
      refine k _ F2 H2 (g1.trans g2) ?_
      rw [h2]
      exact dp_ex (g1.fx.trans g2.fx) h3⟩
theorem asg_tup3 {ta tb tc : TE} {i j l : Nat} {D : Ends} {σ : L2.St} {H : Hp} (h : ta σ H fun a H1 => tb σ H1 fun b H2 => tc σ H2 fun c H3 => ([a, b, c] : List V).length ≤ sizeLine ∧ ∀ p, H3 p = none → gTup K 3 (gCons (gName i) (gCons (gName j) (gCons (gName l) gNil))) (.ref p) σ (upd H3 p (.tup [a, b, c])) D.nx) :
    tAsg (tTup (tCons ta (tCons tb (tCons tc tNil)))) (gTup K 3 (gCons (gName i) (gCons (gName j) (gCons (gName l) gNil)))) D σ H := h
/-- the state of the going, in the heap -/
structure GI (K : PySem.W.Frag) (m : MillD) (A M B : Nat) (F H : Hp) (ad : Addr) (hv mv lv : V) (F' H' : Hp) (c : Nat) (s : Gs) : Prop where
  g : Gr F H F' H'
  fa : F' ad = none
  d : ∃ kvs, H' ad = some (.dK kvs) ∧ DfR K F' encR kvs s.t
  dh : Dp K F' hv (.list (s.w.held.map encR))
  dm : Dp K F' mv (.list (s.w.most.map encR))
  dl : Dp K F' lv (.list (s.w.least.map encR))
  bd : s.w.Bd (B + c * (A * M + A * M)) m.stuffs.length
  su : SumOk c A s.t
theorem GI.step {m : MillD} {A M B : Nat} {F H : Hp} {ad : Addr} {hv mv lv : V} {F' H' F2 H2 : Hp} {c : Nat} {s : Gs} (x : GI K m A M B F H ad hv mv lv F' H' c s) (g : Gr F' H' F2 H2) : GI K m A M B F H ad hv mv lv F2 H2 c s := by
  obtain ⟨kvs, h1, h2⟩ := x.d
  have k := g.keep h1 x.fa
  exact ⟨x.g.trans g, k.2, ⟨kvs, k.1, h2.mono g.fx⟩, dp_ex g.fx x.dh, dp_ex g.fx x.dm, dp_ex g.fx x.dl, x.bd, x.su⟩
theorem sc__law_gone : FnScope (["parts", "held", "row", "most", "least", "sums", "times", "steps", "turn", "step", "told", "one", "two", "name", "takes", "gives"] : List Str) (["parts", "held", "row"] : List Str) (defScope sLawGone) := ⟨rfl, rfl, rfl, by decide +kernel, rfl, by decide +kernel, by decide +kernel⟩
theorem ok_law_gone (D : Def K mg "_law_gone" sLawGone ["parts", "held", "row"]) (B : Bl mg) (C__law_plus : Cal P w K mg base "_law_plus" ["one", "other"] 3 (spD K fPlus)) (C__law_less : Cal P w K mg base "_law_less" ["one", "other"] 1 (spD K fBelow)) (C__law_stepped : Cal P w K mg base "_law_stepped" ["parts", "held", "step"] 4 (spD K fStepped)) :
    Cal P w K mg base "_law_gone" ["parts", "held", "row"] 5 (spD K fGone) := by
  refine cal_mk D sc__law_gone (len_D (by rintro _ _ ⟨m, hs, bs, B, A, M, rfl, _⟩; rfl)) (fun f cdv A outer s H vs Q E hr h => ?_)
  obtain ⟨F, ds, d, e, hv, ⟨m, hs, bs, Bb, Aa, Mm, rfl, po, hl, hB, hb3, hbs, hbd, rfl⟩, q⟩ := h
  obtain ⟨x, y, z, rfl, h1, h2, h3⟩ := Dv.three hv
  have hu := hu_of hr.1
  refine ⟨_, (pss_cons (ps_asg (pe_tup (pa_cons (pe_callTy call_list_of (by rfl) B.list (by decide +kernel) (pa_cons (pv 1) pa_nil)) (pa_cons (pe_callTy call_list_of (by rfl) B.list (by decide +kernel) (pa_cons (pv 1) pa_nil)) (pa_cons pe_dnewK pa_nil)))) (pg_tup (by rfl) (pgs_cons (pg_name (i := 3) sc__law_gone.nd rfl (.inl rfl)) (pgs_cons (pg_name (i := 4) sc__law_gone.nd rfl (.inl rfl)) (pgs_cons (pg_name (i := 5) sc__law_gone.nd rfl (.inr rfl)) pgs_nil)))))
      (pss_cons (ps_for PassesOwn.never rfl (pi_list (pv 2)) (pg_tup (by rfl) (pgs_cons (pg_name (i := 6) sc__law_gone.nd rfl (.inl rfl)) (pgs_cons (pg_name (i := 7) sc__law_gone.nd rfl (.inl rfl)) pgs_nil))) (pss_one (ps_for PassesOwn.never rfl (pi_range1 rfl B.range (pa_cons (pv 6) pa_nil)) (pg_name (i := 8) sc__law_gone.nd rfl (.inl rfl)) (pss_one (ps_for PassesOwn.never rfl (pi_list (pv 7)) (pg_name (i := 9) sc__law_gone.nd rfl (.inl rfl)) (pss_cons (ps_set (i := 10) sc__law_gone.nd rfl (.inl rfl) (pe_callC C__law_stepped hr (pa_cons (pv 0) (pa_cons (pv 1) (pa_cons (pv 9) pa_nil)))))
      (pss_cons (ps_if (pt_cmpR op_isN (pv 10) pe_non (nomark _)) (pss_one (ps_ret pe_non)) pss_nil)
      (pss_cons (ps_set (i := 1) sc__law_gone.nd rfl (.inl rfl) (pe_ix ix_list (pv 10) pe_int (fun _ _ => rfl)))
      (pss_cons (ps_setLc (i := 4) (own := [("one", 11), ("two", 12)]) (g := gTup K 2 (gCons (gName 11) (gCons (gName 12) gNil))) rfl sc__law_gone.nd rfl rfl rfl (pi_zipS (by rfl) B.zip (pa_cons (pv 4) (pa_cons (pe_ix ix_list (pv 10) pe_int (fun _ _ => rfl)) pa_nil))) (blkOk_by (own := [("one", 11), ("two", 12)]) (N := ["parts", "held", "row", "most", "least", "sums", "times", "steps", "turn", "step", "told", "one", "two", "name", "takes", "gives"]) (sc := defScope sLawGone) (by decide +kernel)) (fun _ _ _ _ _ => (pg_tup (by rfl) (pgs_cons (pg_name (i := 11) sc__law_gone.nd rfl (.inl rfl)) (pgs_cons (pg_name (i := 12) sc__law_gone.nd rfl (.inl rfl)) pgs_nil))))  (fun _ _ _ _ _ => pts_nil) (fun _ _ _ _ _ => (pe_ifExp (pt_val (pe_callC C__law_less hr (pa_cons (pv 12) (pa_cons (pv 11) pa_nil)))) (pv 12) (pv 11))))
      (pss_cons (ps_setLc (i := 3) (own := [("one", 11), ("two", 12)]) (g := gTup K 2 (gCons (gName 11) (gCons (gName 12) gNil))) rfl sc__law_gone.nd rfl rfl rfl (pi_zipS (by rfl) B.zip (pa_cons (pv 3) (pa_cons (pv 1) pa_nil))) (blkOk_by (own := [("one", 11), ("two", 12)]) (N := ["parts", "held", "row", "most", "least", "sums", "times", "steps", "turn", "step", "told", "one", "two", "name", "takes", "gives"]) (sc := defScope sLawGone) (by decide +kernel)) (fun _ _ _ _ _ => (pg_tup (by rfl) (pgs_cons (pg_name (i := 11) sc__law_gone.nd rfl (.inl rfl)) (pgs_cons (pg_name (i := 12) sc__law_gone.nd rfl (.inl rfl)) pgs_nil))))  (fun _ _ _ _ _ => pts_nil) (fun _ _ _ _ _ => (pe_ifExp (pt_val (pe_callC C__law_less hr (pa_cons (pv 11) (pa_cons (pv 12) pa_nil)))) (pv 12) (pv 11))))
      (pss_one (ps_dput hu (pv 5) (pe_ix ix_tup (pv 9) pe_int (fun _ _ => rfl)) (pe_callC C__law_plus hr (pa_cons (pe_dget2 hu (pv 5) (pe_ix ix_tup (pv 9) pe_int (fun _ _ => rfl)) (pe_tup (pa_cons pe_int (pa_cons pe_int pa_nil))) ⟨by rfl, by rfl, by rfl, by rfl⟩) (pa_cons (pe_ix ix_tup (pv 9) pe_int (fun _ _ => rfl)) pa_nil))) rfl))))))))))))
      (pss_one (ps_ret (pe_lst (pa_cons (pv 1) (pa_cons (pe_listZipS (by rfl) (by rfl) B.list (by rfl) B.zip (pa_cons (pv 4) (pa_cons (pv 3) pa_nil))) (pa_cons (pe_lc (own := [("name", 13), ("takes", 14), ("gives", 15)]) (g := gTup K 3 (gCons (gName 13) (gCons (gName 14) (gCons (gName 15) gNil)))) rfl sc__law_gone.nd (pi_list (pe_ix ix_tup (pv 0) pe_int (fun _ _ => rfl))) (blkOk_by (own := [("name", 13), ("takes", 14), ("gives", 15)]) (N := ["parts", "held", "row", "most", "least", "sums", "times", "steps", "turn", "step", "told", "one", "two", "name", "takes", "gives"]) (sc := defScope sLawGone) (by decide +kernel)) (fun _ _ _ _ _ => (pg_tup (by rfl) (pgs_cons (pg_name (i := 13) sc__law_gone.nd rfl (.inl rfl)) (pgs_cons (pg_name (i := 14) sc__law_gone.nd rfl (.inl rfl)) (pgs_cons (pg_name (i := 15) sc__law_gone.nd rfl (.inl rfl)) pgs_nil)))))  (fun _ _ _ _ _ => pts_nil) (fun _ _ _ _ _ => (pe_dget2 hu (pv 5) (pv 13) (pe_tup (pa_cons pe_int (pa_cons pe_int pa_nil))) ⟨by rfl, by rfl, by rfl, by rfl⟩))) pa_nil)))))))), ?_⟩
  have st : start ["parts", "held", "row", "most", "least", "sums", "times", "steps", "turn", "step", "told", "one", "two", "name", "takes", "gives"] [x, y, z] = [some x, some y, some z, none, none, none, none, none, none, none, none, none, none, none, none, none] := rfl
  rw [st]
  have lst : ∀ (F' : Hp), Ex F F' → EvD K (tCB (fun xs H Q => ∃ p ys, xs = [.ref p] ∧ (SqL K H p ys ∨ SqT K H p ys) ∧ ∀ l, H l = none → Q (.ref l) (upd H l (.lst ys))) (tCons (tVar 1) tNil)) [some x, some y, some z, none, none, none, none, none, none, none, none, none, none, none, none, none] F' (.list (hs.map encR)) :=
    fun F' e' => EvL.ev (el_list (Dv.ev_var (i := 1) rfl (dp_ex e' h2)) (.inl rfl))
  refine seq_of (asg_tup3 ((lst F (Ex.refl F)) H e _ fun mv F1 H1 g1 hmv => (lst F1 g1.fx) H1 g1.fh _ fun lv F2 H2 g2 hlv => fun ad had => ⟨sz_of (by simp), fun tp htp => ?_⟩))
  have G0 : Gr F H F2 (upd (upd H2 ad (.dK [])) tp (.tup [mv, lv, .ref ad])) := by
    have k1 := (g1.trans g2).trans (Gr.only g2.fh had (o := .dK []))
    exact k1.trans (Gr.only k1.fh htp)
  have tpa : tp ≠ ad := fun w => by rw [w, upd_same] at htp; cases htp
  have hadH : H ad = none := ex_none (g1.trans g2).hx had
  have hd0 : (upd (upd H2 ad (.dK [])) tp (.tup [mv, lv, .ref ad])) ad = some (.dK []) := by rw [upd_ne (Ne.symm tpa), upd_same]
  have ht0 : (upd (upd H2 ad (.dK [])) tp (.tup [mv, lv, .ref ad])) tp = some (.tup [mv, lv, .ref ad]) := upd_same
  generalize upd (upd H2 ad (.dK [])) tp (.tup [mv, lv, .ref ad]) = H3 at *
  have fad : F2 ad = none := ex_none g2.fh had
  refine ⟨_, _, rfl, .inl (.inl ht0), rfl, _, _, rfl, _, _, rfl, _, _, rfl, rfl, ?_⟩
  dsimp only
  show tSeq _ _ _ [some x, some y, some z, some mv, some lv, some (.ref ad), none, none, none, none, none, none, none, none, none, none] H3
  have gi0 : GI K m Aa Mm Bb F H ad y mv lv F2 H3 0 ⟨⟨hs, hs, hs⟩, []⟩ := ⟨G0, fad, ⟨[], hd0, .nil⟩, dp_ex G0.fx h2, dp_ex g2.fx hmv, hlv, ⟨by simpa using hB, by simpa using hB, by simpa using hB, hl, hl, hl⟩, ⟨fun p hp => by simp at hp, Nat.le_refl _⟩⟩
  have h3' := dp_ex G0.fx h3
  refine seq_of (Dv.s_for (K := K) (it_list (σ := [some x, some y, some z, some mv, some lv, some (.ref ad), none, none, none, none, none, none, none, none, none, none]) (Dv.ev_var (i := 2) rfl h3')) G0.fh
    (fun n σ' F' H' => ∃ hv mv lv s6 s7 s8 s9 s10 c s, σ' = [some x, some hv, some z, some mv, some lv, some (.ref ad), s6, s7, s8, s9, s10, none, none, none, none, none] ∧ c ≤ 12 * n ∧ GI K m Aa Mm Bb F H ad hv mv lv F' H' c s ∧ rowG m ⟨⟨hs, hs, hs⟩, []⟩ bs = rowG m s (bs.drop n))
    (fun F' H' g5 => ⟨_, _, _, _, _, _, _, _, _, _, rfl, by omega, gi0.step g5, rfl⟩) ?_ (fun σ' F' H' e1 e2 pv => ?_))
  · rintro Fb eb n σ' F4 H4 u du F5 H5 hdu e4 e5 ⟨hv, mv, lv, s6, s7, s8, s9, s10, c, s, rfl, hc, gi, hrow⟩ g5 hu5
    obtain ⟨hn, hdn⟩ := List.getElem?_eq_some_iff.mp hdu
    rw [List.length_map] at hn
    rw [List.getElem_map] at hdn
    subst hdn
    have hbb := hbs bs[n] (List.getElem_mem _)
    rw [List.drop_eq_getElem_cons hn, rowG_cons] at hrow
    generalize bs[n] = b at *
    obtain ⟨many, steps⟩ := b
    obtain ⟨b4, bl, bst⟩ := hbb
    dsimp only at b4 bl bst hrow
    obtain ⟨y1, y2, hy1, hy2, ht⟩ := tup2 hu5
    cases hy1
    refine ht 6 7 _ H5 g5.fh _ ?_
    dsimp only
    have gi5 := gi.step g5
    have hm : ((many : Int)).toNat = many := rfl
    refine Dv.s_for (K := K) (it_rng1 (σ := [some x, some hv, some z, some mv, some lv, some (.ref ad), some (.int (many : Int)), some y2, s8, s9, s10, none, none, none, none, none]) (Dv.ea_cons (Dv.ev_var (i := 6) rfl (.int (many : Int))) Dv.ea_nil) (by omega) (by omega)) g5.fh
      (fun j σ' F' H' => ∃ hv mv lv s8 s9 s10 c s, σ' = [some x, some hv, some z, some mv, some lv, some (.ref ad), some (.int (many : Int)), some y2, s8, s9, s10, none, none, none, none, none] ∧ c ≤ 12 * n + 3 * j ∧ GI K m Aa Mm Bb F H ad hv mv lv F' H' c s ∧ rowG m ⟨⟨hs, hs, hs⟩, []⟩ bs = (turnsG m steps (many - j) s).bind fun s' => rowG m s' (bs.drop (n + 1)))
      (fun F' H' g6 => ⟨_, _, _, _, _, _, _, _, rfl, hc, gi5.step g6, hrow⟩) ?_ (fun σ' F' H' e1 e2 pv => ?_)
    · rintro Fc ec j σ' F6 H6 u6 du6 F7 H7 hdu6 e6 e7 ⟨hv, mv, lv, s8, s9, s10, c, s, rfl, hc, gi, hrow⟩ g7 hu7
      obtain ⟨hj, _⟩ := List.getElem?_eq_some_iff.mp hdu6
      rw [List.length_map, List.length_range, hm] at hj
      rw [show many - j = (many - (j + 1)) + 1 by omega, turnsG_succ] at hrow
      have gi7 := gi.step g7
      have hy7 := dp_ex (ec.trans (e6.trans g7.fx)) hy2
      show tFor _ _ _ _ [some x, some hv, some z, some mv, some lv, some (.ref ad), some (.int (many : Int)), some y2, some u6, s9, s10, none, none, none, none, none] H7
      refine Dv.s_for (K := K) (it_list (σ := [some x, some hv, some z, some mv, some lv, some (.ref ad), some (.int (many : Int)), some y2, some u6, s9, s10, none, none, none, none, none]) (Dv.ev_var (i := 7) rfl hy7)) g7.fh
        (fun i σ' F' H' => ∃ hv mv lv s9 s10 c s, σ' = [some x, some hv, some z, some mv, some lv, some (.ref ad), some (.int (many : Int)), some y2, some u6, s9, s10, none, none, none, none, none] ∧ c ≤ 12 * n + 3 * j + i ∧ GI K m Aa Mm Bb F H ad hv mv lv F' H' c s ∧ rowG m ⟨⟨hs, hs, hs⟩, []⟩ bs = ((stepsG m s (steps.drop i)).bind (turnsG m steps (many - (j + 1)))).bind fun s' => rowG m s' (bs.drop (n + 1)))
        (fun F' H' g8 => ⟨_, _, _, _, _, _, _, rfl, hc, gi7.step g8, hrow⟩) ?_ (fun σ' F' H' e1 e2 pv => ?_)
      · rintro Fd ed i σ' F8 H8 u8 du8 F9 H9 hdu8 e8 e9 ⟨hv, mv, lv, s9, s10, c, s, rfl, hc, gi, hrow⟩ g9 hu9
        obtain ⟨hi, hdi⟩ := List.getElem?_eq_some_iff.mp hdu8
        rw [List.length_map] at hi
        have hi : i < steps.length := hi
        rw [List.getElem_map] at hdi
        subst hdi
        have hz := bst steps[i] (List.getElem_mem _)
        rw [List.drop_eq_getElem_cons hi, stepsG_cons] at hrow
        generalize steps[i] = sz at *
        obtain ⟨nm, a⟩ := sz
        dsimp only at hz
        have gi9 := gi.step g9
        have hc36 : c ≤ 36 := by omega
        have hcm : c * (Aa * Mm + Aa * Mm) ≤ 36 * (Aa * Mm + Aa * Mm) := Nat.mul_le_mul_right _ hc36
        have hcA : c * Aa ≤ 36 * Aa := Nat.mul_le_mul_right _ hc36
        have hAl := po.al
        show tSeq _ _ _ [some x, some hv, some z, some mv, some lv, some (.ref ad), some (.int (many : Int)), some y2, some u6, some u8, s10, none, none, none, none, none] H9
        refine seq_of (Dv.s_asg (K := K) (d := encSt (stepL m s.w.held nm a)) (ev_callD (Dv.ea_cons (Dv.ev_var (i := 0) rfl (dp_ex gi9.g.fx h1)) (Dv.ea_cons (Dv.ev_var (i := 1) rfl gi9.dh) (Dv.ea_cons (Dv.ev_var (i := 9) rfl hu9) Dv.ea_nil))) ⟨m, s.w.held, nm, a, Bb + c * (Aa * Mm + Aa * Mm), Aa, Mm, rfl, po.ok, gi.bd.hn, po.rb, hz.1, po.nl, gi.bd.h, hz.2, po.ln, by omega, po.ml, by omega, rfl⟩) gi9.g.fh fun tv F10 H10 g10 htv => ?_)
        have gi10 := gi9.step g10
        dsimp only
        show tSeq _ _ _ [some x, some hv, some z, some mv, some lv, some (.ref ad), some (.int (many : Int)), some y2, some u6, some u8, some tv, none, none, none, none, none] H10
        have l8 := po.ok.s2
        cases hst : stepL m s.w.held nm a with
        | none =>
          rw [hst] at htv
          refine seq_of (s_ifT (et_v (ev_isNR (Dv.ev_var (i := 10) rfl htv)) rfl) gi10.g.fh fun F11 H11 g11 => ?_)
          have e0 : stepG m s (nm, a) = none := by unfold stepG; rw [hst]
          rw [e0] at hrow
          rw [show rowG m ⟨⟨hs, hs, hs⟩, []⟩ bs = none from hrow] at q
          exact q .non F11 H11 (gi10.g.trans g11) .non
        | some lf =>
          rw [hst] at htv
          obtain ⟨sl1, sl2, sb1, sb2⟩ := stepL_some po gi10.bd.hn gi10.bd.h hz.2 hst
          obtain ⟨lo, fo⟩ := lf
          have e0 : stepG m s (nm, a) = some ⟨⟨fo, (s.w.least.zip lo).map fun p => minR p.1 p.2, (s.w.most.zip fo).map fun p => maxL p.1 p.2⟩, addQ s.t nm a⟩ := by unfold stepG; rw [hst]
          obtain ⟨bd', su'⟩ := stepG_bd po gi10.bd hz gi10.su e0
          rw [e0] at hrow
          dsimp only at sl1 sl2 sb1 sb2
          refine seq_of (s_ifF (et_v (ev_isNR (Dv.ev_var (i := 10) rfl htv)) rfl) gi10.g.fh fun F11 H11 g11 => ?_)
          unfold tNext
          dsimp only
          have gi11 := gi10.step g11
          have ht11 := dp_ex g11.fx htv
          refine seq_of (Dv.s_asg (K := K) (d := .list (fo.map encR)) (Dv.ev_ixL (Dv.ev_var (i := 10) rfl ht11) (Dv.ev_int 1) rfl) gi11.g.fh fun hv' F12 H12 g12 hhv => ?_)
          have gi12 := gi11.step g12
          have ht12 := dp_ex g12.fx ht11
          dsimp only
          show tSeq _ _ _ [some x, some hv', some z, some mv, some lv, some (.ref ad), some (.int (many : Int)), some y2, some u6, some u8, some tv, none, none, none, none, none] H12
          have hBt : Bb + c * (Aa * Mm + Aa * Mm) + (Aa * Mm + Aa * Mm) < 1000000000000 := by omega
          have lcl := el_pair (K := K) (σ := [some x, some hv', some z, some mv, some lv, some (.ref ad), some (.int (many : Int)), some y2, some u6, some u8, some tv, none, none, none, none, none]) (F := F12) (te := tIf (tTest (tCall (spD K fBelow) [] E0 (tCons (tVar 12) (tCons (tVar 11) tNil)))) (tVar 12) (tVar 11)) (f := minR) (i := 11) (j := 12) (xs := s.w.least) (ys := lo)
            (Dv.ea_cons (Dv.ev_var (i := 4) rfl gi12.dl) (Dv.ea_cons (Dv.ev_ixL (Dv.ev_var (i := 10) rfl ht12) (Dv.ev_int 0) rfl) Dv.ea_nil)) (by rw [gi12.bd.ln, sl1]) (by rw [gi12.bd.ln]; exact l8)
            (fun a b ha hb F1 u v e1 hu hv => Dv.ev_if (et_test (ev_below (a := b) (b := a) (Dv.ev_var (i := 12) rfl hv) (Dv.ev_var (i := 11) rfl hu) (sb1 b hb) (gi12.bd.l a ha))) (fun h => by
              unfold minR
              rw [if_pos (of_decide_eq_true h)]
              exact Dv.ev_var (i := 12) rfl hv) (fun h => by
              unfold minR
              rw [if_neg (of_decide_eq_false h)]
              exact Dv.ev_var (i := 11) rfl hu)) (fun u v => rfl)
          refine seq_of (Dv.s_asg (K := K) (EvL.ev lcl) gi12.g.fh fun lv' F13 H13 g13 hlv' => ?_)
          have gi13 := gi12.step g13
          have hhv13 := dp_ex g13.fx hhv
          dsimp only
          show tSeq _ _ _ [some x, some hv', some z, some mv, some lv', some (.ref ad), some (.int (many : Int)), some y2, some u6, some u8, some tv, none, none, none, none, none] H13
          have lcm := el_pair (K := K) (σ := [some x, some hv', some z, some mv, some lv', some (.ref ad), some (.int (many : Int)), some y2, some u6, some u8, some tv, none, none, none, none, none]) (F := F13) (te := tIf (tTest (tCall (spD K fBelow) [] E0 (tCons (tVar 11) (tCons (tVar 12) tNil)))) (tVar 12) (tVar 11)) (f := maxL) (i := 11) (j := 12) (xs := s.w.most) (ys := fo)
            (Dv.ea_cons (Dv.ev_var (i := 3) rfl gi13.dm) (Dv.ea_cons (Dv.ev_var (i := 1) rfl hhv13) Dv.ea_nil)) (by rw [gi13.bd.un, sl2]) (by rw [gi13.bd.un]; exact l8)
            (fun a b ha hb F1 u v e1 hu hv => Dv.ev_if (et_test (ev_below (a := a) (b := b) (Dv.ev_var (i := 11) rfl hu) (Dv.ev_var (i := 12) rfl hv) (gi13.bd.u a ha) (sb2 b hb))) (fun h => by
              unfold maxL
              rw [if_pos (of_decide_eq_true h)]
              exact Dv.ev_var (i := 12) rfl hv) (fun h => by
              unfold maxL
              rw [if_neg (of_decide_eq_false h)]
              exact Dv.ev_var (i := 11) rfl hu)) (fun u v => rfl)
          refine seq_of (Dv.s_asg (K := K) (EvL.ev lcm) gi13.g.fh fun mv' F14 H14 g14 hmv' => ?_)
          have gi14 := gi13.step g14
          dsimp only
          show sDPut _ _ _ _ [some x, some hv', some z, some mv', some lv', some (.ref ad), some (.int (many : Int)), some y2, some u6, some u8, some tv, none, none, none, none, none] H14
          obtain ⟨kvs, hk1, hk2⟩ := gi14.d
          have hu14 := dp_ex ((((g10.fx.trans g11.fx).trans g12.fx).trans g13.fx).trans g14.fx) hu9
          have exa : Ex F14 (upd F14 ad (.dK kvs)) := Ex.new gi14.fa
          have kl : kvs.length < 100000 := by
            rw [hk2.len]
            have := gi14.su.l
            omega
          have s0 : ∀ (F' : Hp), Ex F14 F' → EvD K (tOp (rIxT K) (tVar 9) (tC (.int 0))) [some x, some hv', some z, some mv', some lv', some (.ref ad), some (.int (many : Int)), some y2, some u6, some u8, some tv, none, none, none, none, none] F' (.str nm) := fun F' e' => Dv.ev_ixT (Dv.ev_var (i := 9) rfl (dp_ex e' hu14)) (Dv.ev_int 0) rfl
          have s1 : ∀ (F' : Hp), Ex F14 F' → EvD K (tOp (rIxT K) (tVar 9) (tC (.int 1))) [some x, some hv', some z, some mv', some lv', some (.ref ad), some (.int (many : Int)), some y2, some u6, some u8, some tv, none, none, none, none, none] F' (encR a) := fun F' e' => Dv.ev_ixT (Dv.ev_var (i := 9) rfl (dp_ex e' hu14)) (Dv.ev_int 1) rfl
          refine s_dputF (K := K) (en := encR) (x := nm) (q := (getQ s.t nm).getD 0 + a) (i := 5) rfl gi14.fa hk1 hk2 gi14.g.fh (s0 _ (Ex.refl _)) (ev_plus (B := c * Aa) (C := Aa) (ev_dget2F (i := 5) rfl upd_same (hk2.mono exa) (s0 _ exa) (Dv.ev_tup (Dv.ea_cons (Dv.ev_int 0) (Dv.ea_cons (Dv.ev_int 1) Dv.ea_nil)) (by simp))) (s1 _ exa) (getQ_bd gi14.su.b) hz.2) kl fun F15 H15 v15 g15 fa15 hd15 hr15 => ?_
          have gi15 := gi14.step g15
          refine ⟨F15, e8.trans ((((((g9.fx.trans g10.fx).trans g11.fx).trans g12.fx).trans g13.fx).trans g14.fx).trans g15.fx), Ex.mut gi15.g.fh fa15, hv', mv', lv', _, _, c + 1, _, rfl, by omega, ⟨gi15.g.mut hadH fa15, fa15, ⟨_, upd_same, hr15⟩, dp_ex (g14.fx.trans g15.fx) hhv13, dp_ex g15.fx hmv', dp_ex (g14.fx.trans g15.fx) hlv', ?_, su'⟩, hrow⟩
          refine bd'.mono ?_
          rw [Nat.add_mul, Nat.one_mul]
          omega
      · obtain ⟨hv, mv, lv, s9, s10, c, s, rfl, hc, gi, hrow⟩ := pv
        rw [List.length_map] at hc hrow
        rw [List.drop_length] at hrow
        exact ⟨F', (e6.trans g7.fx).trans e1, e2, hv, mv, lv, _, _, _, c, s, rfl, by have bl' : (many, steps).snd.length ≤ 3 := bl; omega, gi, hrow⟩
    · obtain ⟨hv, mv, lv, s8, s9, s10, c, s, rfl, hc, gi, hrow⟩ := pv
      rw [List.length_map, List.length_range, hm] at hc hrow
      rw [Nat.sub_self] at hrow
      exact ⟨F', (e4.trans g5.fx).trans e1, e2, hv, mv, lv, _, _, _, _, _, c, s, rfl, by omega, gi, hrow⟩
  · obtain ⟨hv, mv, lv, s6, s7, s8, s9, s10, c, s, rfl, hc, gi, hrow⟩ := pv
    rw [List.length_map, List.drop_length] at hrow
    rw [hrow] at q
    dsimp only
    obtain ⟨kvs, hk1, hk2⟩ := gi.d
    have exa : Ex F' (upd F' ad (.dK kvs)) := Ex.new gi.fa
    have l8 := po.ok.s2
    have r8 := po.ok.r2
    have lz := el_listZipS (K := K) (σ := [some x, some hv, some z, some mv, some lv, some (.ref ad), s6, s7, s8, s9, s10, none, none, none, none, none]) (F := upd F' ad (.dK kvs)) (Dv.ea_cons (Dv.ev_var (i := 4) rfl (dp_ex exa gi.dl)) (Dv.ea_cons (Dv.ev_var (i := 3) rfl (dp_ex exa gi.dm)) Dv.ea_nil)) (by rw [List.length_map, List.length_map, gi.bd.ln, gi.bd.un])
    rw [List.zip_map, List.map_map] at lz
    have lc := lc_rule (K := K) (F := upd F' ad (.dK kvs)) (te := tDGet2 (tVar 5) (tVar 13) (tTup (tCons (tC (.int 0)) (tCons (tC (.int 1)) tNil)))) (vs := [13, 14, 15]) (tt := tYes) (g := gTup K 3 (gCons (gName 13) (gCons (gName 14) (gCons (gName 15) gNil)))) (σ := [some x, some hv, some z, some mv, some lv, some (.ref ad), s6, s7, s8, s9, s10, none, none, none, none, none]) m.recipes encRecipe (fun r => encR ((getQ s.t r.1).getD 0)) (fun _ => true)
      (it_list (Dv.ev_ixT (Dv.ev_var (i := 0) rfl (dp_ex (gi.g.fx.trans exa) h1)) (Dv.ev_int 1) rfl)) (by omega)
      (fun r0 hr0 v F4 e4 hv4 => by
        obtain ⟨u1, u2, u3, hu1, hu2, hu3, ht3⟩ := tup3 hv4
        exact ⟨[some x, some hv, some z, some mv, some lv, some (.ref ad), s6, s7, s8, s9, s10, none, none, some u1, some u2, some u3], fun H e Q q => ht3 13 14 15 _ H e _ q, rfl, fun H e Q q => q F4 H (Gr.refl e), fun _ => ev_dget2F (i := 5) rfl (e4 _ _ upd_same) (hk2.mono (exa.trans e4)) (Dv.ev_var (i := 13) rfl hu1) (Dv.ev_tup (Dv.ea_cons (Dv.ev_int 0) (Dv.ea_cons (Dv.ev_int 1) Dv.ea_nil)) (by simp))⟩)
    rw [filt_true, show m.recipes.map (fun r => encR ((getQ s.t r.1).getD 0)) = m.titles.map fun x => encR ((getQ s.t x).getD 0) from by
      unfold MillD.titles
      rw [List.map_map] <;> rfl] at lc
    refine ev_in noSq_dK (EvL.ev (Dv.el_lst (Dv.ea_cons (Dv.ev_var (i := 1) rfl (dp_ex exa gi.dh)) (Dv.ea_cons (EvL.ev lz) (Dv.ea_cons (EvL.ev lc) Dv.ea_nil))) (by simp))) gi.fa hk1 gi.g.fh _ fun v F2' H2' g2' _ _ hv' => q v F2' H2' (gi.g.trans g2') hv'
end
end R3

set_option Elab.async false
set_option linter.all false
set_option maxRecDepth 100000
set_option maxHeartbeats 4000000
namespace Dv
open PySem PySem.Spec PyProof.Rows L2 Evl
section
variable {K : PySem.W.Frag} {σ : L2.St} {F F1 H H1 : Hp} {te ta tb : TE} {d a b : PyData} {ds es : List PyData}
variable (K) in
/-- a list that F tracks, or a new one taken into it -/
def EvT (te : TE) (σ : L2.St) (F : Hp) (ds : List PyData) : Prop := ∀ H, Ex F H → ∀ Q : VK, (∀ p vs F' H', Gr F H F' H' → F' p = some (.lst vs) → DpAll K F' vs ds → Q (.ref p) H') → te σ H Q
theorem EvL.t (h : EvL K te σ F ds) : EvT K te σ F ds := fun H e Q q => h H e Q fun p vs F' H' g h1 h2 h3 h4 => q p vs _ H' (g.take h1 h2 h3) upd_same (dps_ex (Ex.new h2) h4)
theorem EvT.ev (h : EvT K te σ F ds) : EvD K te σ F (.list ds) := fun H e Q q => h H e Q fun p vs F' H' g h1 h2 => q _ F' H' g (.lst (SqL.of h1) h2)
theorem evt_var {i : Nat} {p : Addr} {vs : List V} (hi : σ[i]? = some (some (.ref p))) (h : F p = some (.lst vs)) (hd : DpAll K F vs ds) : EvT K (tVar i) σ F ds := fun H e Q q => ⟨_, hi, q p vs F H (Gr.refl e) h hd⟩
theorem EvT.mono (e : Ex F F1) (h : EvT K te σ F ds) : EvT K te σ F1 ds := fun H eH Q q => h H (e.trans eH) Q fun p vs F' H' g h1 h2 => q p vs _ H' (g.weak e eH) (ex_uni2 (eH.trans g.hx) g.fh _ _ h1) (dps_ex (ex_uni2 (eH.trans g.hx) g.fh) h2)
/-- xs + ys -/
theorem el_cat (ha : EvT K ta σ F ds) (hb : EvT K tb σ F es) (hz : ds.length + es.length ≤ 100000) : EvL K (tOp rCat ta tb) σ F (ds ++ es) := fun H e Q q =>
  ha H e _ fun p vs F1 H1 g1 h1 h2 => (hb.mono g1.fx) H1 g1.fh _ fun p2 ws F2 H2 g2 h3 h4 => ⟨p, p2, vs, ws, rfl, rfl, g2.fh _ _ (g2.fx _ _ h1), g2.fh _ _ h3, by
    rw [dps_len h2, dps_len h4]
    exact sz_of hz, fun r hr => q r _ F2 _ ((g1.trans g2).trans (Gr.only g2.fh hr)) (ex_none (g1.trans g2).hx hr) (ex_none g2.fh hr) upd_same (dps_app (dps_ex g2.fx h2) h4)⟩
theorem dps_rev : ∀ {ds : List PyData} {vs : List V}, DpAll K F vs ds → DpAll K F vs.reverse ds.reverse
  | [], _, h => by cases h; exact .nil
  | d :: ds, _, h => by
    cases h with
    | cons h1 h2 =>
      rw [List.reverse_cons, List.reverse_cons]
      exact dps_app (dps_rev h2) (.cons h1 .nil)
/-- xs[::-1] -/
theorem el_rev (h : EvD K te σ F (.list ds)) : EvL K (tRevL K te) σ F ds.reverse := fun H e Q q => h H e _ fun v F1 H1 g1 hv => by
  cases hv with
  | lst hs hd => exact ⟨_, _, rfl, ex_l g1.fh hs, fun p hp => q p _ F1 _ (g1.trans (Gr.only g1.fh hp)) (ex_none g1.hx hp) (ex_none g1.fh hp) upd_same (dps_rev hd)⟩
/-- found = found + xs, found a list of H alone that holds data or empty dicts -/
theorem s_catQ {i : Nat} {p : Addr} {ws : List V} {D : Ends} (hp : H p = some (.lst ws)) (fp : F p = none) (hd : DqAll K F ws ds) (hi : σ[i]? = some (some (.ref p))) (h : EvL K tb σ F es) (e : Ex F H) (hz : ds.length + es.length ≤ 100000)
    (k : ∀ q vs F' H', Gr F H F' H' → H q = none → F' q = none → H' q = some (.lst vs) → DqAll K F' vs (ds ++ es) → D.nx (σ.set i (some (.ref q))) H') : tAsg (tOp rCat (tVar i) tb) (gName i) D σ H :=
  ⟨_, hi, h H e _ fun r vs F1 H1 g1 h1 h2 h3 h4 => by
    have kp := g1.keep hp fp
    refine ⟨p, r, ws, vs, rfl, rfl, kp.1, h3, by
      rw [dqs_len hd, dps_len h4]
      exact sz_of hz, fun q hq => k q _ F1 _ (g1.trans (Gr.only g1.fh hq)) (ex_none g1.hx hq) (ex_none g1.fh hq) upd_same (dqs_app (dqs_ex g1.fx hd) (dqs_of h4))⟩⟩
end
/-! ### data that can be compared and told -/
end Dv

set_option Elab.async false
set_option linter.all false
set_option maxRecDepth 100000
set_option maxHeartbeats 4000000
/-! GENERAL: how long the text of repr is at most. -/
namespace L2
open PySem PySem.Spec PyProof.Rows
mutual
/-- at least as many signs as the text of repr has -/
def shB : PyData → Nat
  | .none => 4
  | .bool _ => 5
  | .int i => i.natAbs.log2 + 2
  | .str x => (reprText x).length
  | .list xs => shBs xs + 3
  | .tuple xs => shBs xs + 3
  | .dict kvs => shBk kvs + 3
def shBs : List PyData → Nat
  | [] => 0
  | x :: xs => shB x + 2 + shBs xs
def shBk : List (PyData × PyData) → Nat
  | [] => 0
  | (a, b) :: r => shB a + shB b + 4 + shBk r
end
theorem shB_all : ∀ (xs : List PyData), (∀ x ∈ xs, x.shown.length ≤ shB x) → ((PyData.shownAll xs).map (·.length)).sum + 2 * (PyData.shownAll xs).length ≤ shBs xs
  | [], _ => by simp [PyData.shownAll, shBs]
  | x :: xs, h => by
    have h1 := h x (List.mem_cons_self ..)
    have h2 := shB_all xs fun y hy => h y (List.mem_cons_of_mem _ hy)
    simp only [PyData.shownAll, shBs, List.map_cons, List.sum_cons, List.length_cons]
    omega
mutual
theorem shB_le : ∀ (d : PyData), d.shown.length ≤ shB d
  | .none => by simp only [PyData.shown, shB]; decide
  | .bool b => by
    cases b
    · simp only [PyData.shown, shB]; decide
    · simp only [PyData.shown, shB]; decide
  | .int i => by
    simp only [PyData.shown, shB]
    have h := int_text_length_le (a := i) (k := i.natAbs.log2 + 1) (by omega) (by omega)
    have e : (Str.ofString (toString i)).length = (toString i).length := PySem.ofString_length _
    rw [e]
    omega
  | .str x => by simp only [PyData.shown, shB]; exact Nat.le_refl _
  | .list xs => by
    simp only [PyData.shown, shB]
    have h := listText_len_le (PyData.shownAll xs)
    have h2 := shB_les xs
    omega
  | .tuple xs => by
    simp only [PyData.shown, shB]
    have h := tupleText_len_le (PyData.shownAll xs)
    have h2 := shB_les xs
    omega
  | .dict kvs => by
    simp only [PyData.shown, shB]
    have h := dictText_len_le (PyData.shownKv kvs)
    have h2 := shB_lek kvs
    omega
theorem shB_les : ∀ (xs : List PyData), ((PyData.shownAll xs).map (·.length)).sum + 2 * (PyData.shownAll xs).length ≤ shBs xs
  | [] => by simp [PyData.shownAll, shBs]
  | x :: xs => by
    have h1 := shB_le x
    have h2 := shB_les xs
    simp only [PyData.shownAll, shBs, List.map_cons, List.sum_cons, List.length_cons]
    omega
theorem shB_lek : ∀ (kvs : List (PyData × PyData)), ((PyData.shownKv kvs).map (·.length)).sum + 2 * (PyData.shownKv kvs).length ≤ shBk kvs
  | [] => by simp [PyData.shownKv, shBk]
  | (a, b) :: r => by
    have h1 := shB_le a
    have h3 := shB_le b
    have h2 := shB_lek r
    simp only [PyData.shownKv, shBk, List.map_cons, List.sum_cons, List.length_cons]
    have e : (PyData.shown a ++ ": " ++ PyData.shown b).length = (PyData.shown a).length + 2 + (PyData.shown b).length := by
      rw [strLen_append, strLen_append]
      rfl
    omega
end
end L2

set_option Elab.async false
set_option linter.all false
set_option maxRecDepth 100000
set_option maxHeartbeats 4000000
namespace L2
open PySem PySem.Spec PyProof.Rows
section
variable {X : Cx}
theorem OpR.or2 {f : Value → Value → Sem Value} {r1 r2 : R2} (h1 : OpR X f r1) (h2 : OpR X f r2) : OpR X f (fun x y H Q => r1 x y H Q ∨ r2 x y H Q) := fun pins s σ H x y v u Q I rx ry h => h.elim (h1 pins s σ H x y v u Q I rx ry) (h2 pins s σ H x y v u Q I rx ry)
/-- two lists of the very same items: not unlike -/
def rNeSame (K : PySem.W.Frag) : R2 := fun x y H Q => ∃ (a b : Addr) (xs : List V), x = .ref a ∧ y = .ref b ∧ SqL K H a xs ∧ SqL K H b xs ∧ (∀ v ∈ xs, flatB v = true ∨ ∃ p, v = .ref p) ∧ Q (.bl false) H
theorem vals_at : ∀ {xs : List V} {us : List Value} {j : Nat} (hj : j < us.length), Vals xs us → ∃ v, xs[j]? = some v ∧ RelV v us[j]
  | _, _, _, h, .nil => absurd h (Nat.not_lt_zero _)
  | _, _, 0, _, .cons r _ => ⟨_, rfl, r⟩
  | _, _, j + 1, h, .cons _ t => vals_at (j := j) (Nat.lt_of_succ_lt_succ h) t
theorem op_neSame (hu : X.A.units + 64 < cLine) : OpR X (compareOp .NotEq) (rNeSame X.K) := by
  intro pins s σ H x y v u Q I rx ry h
  obtain ⟨a, b, xs, rfl, rfl, ha, hb, hf, q⟩ := h
  cases (show v = Value.ref a from rx)
  cases (show u = Value.ref b from ry)
  obtain ⟨us, r1, p1, _⟩ := I.list ha
  obtain ⟨ws, r2, p2, _⟩ := I.list hb
  have hsz : us.toArray.size = ws.toArray.size := by
    rw [List.size_toArray, List.size_toArray, ← r1.length, ← r2.length]
  have key := SeqAt.RcNeAt.lists (A := X.A) (e := fun _ => true) p1.isList p2.isList hsz (by omega) fun j h1 h2 => by
    obtain ⟨v1, e1, q1⟩ := vals_at (j := j) (by simpa using h1) r1
    obtain ⟨v2, e2, q2⟩ := vals_at (j := j) (by simpa using h2) r2
    have : v1 = v2 := Option.some.inj (e1.symm.trans e2)
    subst this
    have e3 : us.toArray[j] = us[j]'(by simpa using h1) := by simp
    have e4 : ws.toArray[j] = ws[j]'(by simpa using h2) := by simp
    rw [e3, e4]
    rcases hf v1 (List.mem_of_getElem? e1) with hfl | ⟨p, rfl⟩
    · exact eqAt_same q1 q2 hfl
    · have a1 : us[j]'(by simpa using h1) = Value.ref p := q1
      have a2 : ws[j]'(by simpa using h2) = Value.ref p := q2
      rw [a1, a2]
      exact SeqAt.EqAt.same _
  have e : (!(List.range us.toArray.size).all fun _ => true) = false := by
    rw [show ((List.range us.toArray.size).all fun _ => true) = true from List.all_eq_true.mpr fun _ _ => rfl]
    rfl
  rw [e] at key
  exact key X.prog X.w _ _ ⟨.bl false, H, I, rfl, q⟩
end
end L2
namespace Dv
open PySem PySem.Spec PyProof.Rows L2 Evl
section
variable {K : PySem.W.Frag} {σ : L2.St} {F F1 H H1 : Hp} {te ta tb : TE} {d a b : PyData} {ds es : List PyData}
/-- repr of a datum -/
structure Rp (d : PyData) : Prop where
  nd : d.hasDict = false
  sh : d.showable = true
  len : shB d ≤ 100000
  dep : d.depth ≤ 50
theorem ev_repr (h : EvD K te σ F d) (r : Rp d) : EvD K (tCB (rReprD K) (tCons te tNil)) σ F (.str d.shown) := fun H e Q q =>
  h H e _ fun v F' H' g hv => ⟨v, d, rfl, .inl ⟨dp_ex g.fh hv, r.nd⟩, r.sh, Nat.le_trans (shB_le d) (sz_of r.len), r.dep, q _ F' H' g (.str _)⟩
theorem ev_neS {x y : Str} (ha : EvD K ta σ F (.str x)) (hb : EvD K tb σ F (.str y)) : EvD K (tOp rNe ta tb) σ F (.bool (!decide (x = y))) :=
  ev_op ha hb fun v u F1 H1 _ e hv hu Q q => by
    cases hv
    cases hu
    refine ⟨rfl, q _ F1 H1 (Gr.refl e) ?_⟩
    have : decide (V.str x = V.str y) = decide (x = y) := by
      by_cases h : x = y
      · rw [h]; simp
      · rw [decide_eq_false h, decide_eq_false (fun z => h (V.str.inj z))]
    first
      | (rw [this]; exact .bl _)
      | (simp only [this]; exact .bl _)
/-- is, is not of truth values -/
theorem ev_notBl {p q : Bool} (ha : EvD K ta σ F (.bool p)) (hb : EvD K tb σ F (.bool q)) : EvD K (tOp rNotB ta tb) σ F (.bool (!decide (p = q))) :=
  ev_op ha hb fun v u F1 H1 _ e hv hu Q k => by
    cases hv
    cases hu
    exact ⟨p, q, rfl, rfl, k _ F1 H1 (Gr.refl e) (.bl _)⟩
theorem ev_isBl {p q : Bool} (ha : EvD K ta σ F (.bool p)) (hb : EvD K tb σ F (.bool q)) : EvD K (tOp rIsB ta tb) σ F (.bool (decide (p = q))) :=
  ev_op ha hb fun v u F1 H1 _ e hv hu Q k => by
    cases hv
    cases hu
    exact ⟨p, q, rfl, rfl, k _ F1 H1 (Gr.refl e) (.bl _)⟩
/-- what is walked, told by what its items are -/
def ItB (K : PySem.W.Frag) (wi : TI) (σ : L2.St) (F : Hp) (Pd : List PyData → Prop) : Prop := ∀ H, Ex F H → ∀ R : It → Hp → Prop, (∀ J F' H' ds, Gr F H F' H' → WQ K J F' ds → Pd ds → R J H') → wi σ H R
theorem s_forB {D : Ends} {ts : TS} {g : TG} {wi : TI} {Pd : List PyData → Prop} (h : ItB K wi σ F Pd) (e : Ex F H) (Pv : L2.St → Hp → Hp → Prop) (h0 : ∀ F' H', Gr F H F' H' → Pv σ F' H')
    (hs : ∀ Fb, Ex F Fb → ∀ ds, Pd ds → ∀ σ' F' H' v d F2 H2, d ∈ ds → Ex Fb F' → Ex F' H' → Pv σ' F' H' → Gr F' H' F2 H2 → Dq K F2 v d →
      g v σ' H2 fun σ2 H3 => ts { D with nx := NxP Fb Pv, ct := NxP Fb Pv, bk := D.nx } σ2 H3)
    (hd : ∀ σ' F' H', Ex F F' → Ex F' H' → Pv σ' F' H' → D.nx σ' H') : tFor wi g ts D σ H := h H e _ fun J F1 H1 ds g1 wd pd => by
  obtain ⟨G, Y, W, hG, hY⟩ := wd
  exact for_it W (fun n => NxP F1 Pv) ⟨F1, Ex.refl _, g1.fh, h0 F1 H1 g1⟩ (fun n σ' H' _ p => by
    obtain ⟨F', e1, e2, p⟩ := p
    exact hG _ (e1.trans e2)) (fun n v σ' H' H2 hn p y => by
    obtain ⟨F', e1, e3, p⟩ := p
    obtain ⟨F2, d, hd, g2, hv⟩ := hY F' n H' v H2 hn e1 e3 y
    exact hs F1 g1.fx ds pd σ' F' H' v d F2 H2 (List.mem_of_getElem? hd) e1 e3 p g2 hv) (fun σ' H' p => by
    obtain ⟨F', e1, e2, p⟩ := p
    exact hd σ' F' H' (g1.fx.trans e1) e2 p)
/-- a new list, told by what its items are -/
def ElB (K : PySem.W.Frag) (te : TE) (σ : L2.St) (F : Hp) (Pd : List PyData → Prop) : Prop := ∀ H, Ex F H → ∀ Q : VK, (∀ p vs F' H' ds, Gr F H F' H' → H p = none → F' p = none → H' p = some (.lst vs) → DqAll K F' vs ds → Pd ds → Q (.ref p) H') → te σ H Q
theorem itb_list {Pd : List PyData → Prop} (h : ElB K te σ F Pd) : ItB K (iList K te) σ F Pd := fun H eH R q => h H eH _ fun p vs F1 H1 ds g1 h1 h2 h3 h4 pd => by
  have g2 := g1.take h1 h2 h3
  refine ⟨p, rfl, ⟨vs, sq_of h3⟩, q _ _ H1 ds g2 ⟨_, _, by rw [← dqs_len h4]; exact walk_list (xs := vs), fun H e => sq_of (e _ _ upd_same), fun F2 i H2 x H3 _ e1 e2 y => ?_⟩ pd⟩
  obtain ⟨rfl, hx⟩ := y
  obtain ⟨d, h1, h2⟩ := dqs_get h4 hx
  exact ⟨F2, d, h1, Gr.refl e2, dq_ex ((Ex.new (by assumption)).trans e1) h2⟩
end
end Dv

set_option Elab.async false
set_option linter.all false
set_option maxRecDepth 100000
set_option maxHeartbeats 4000000
namespace R3
open PySem PySem.Spec PyProof.Rows L2 Evl Dv
open Qa (toF Sx)
section
variable {P : Program} {w : World} {K : PySem.W.Frag} {mg : Str → Option Value} {base : Heap}
/-- what is asked of the error -/
structure ErrR (K : PySem.W.Frag) (mg : Str → Option Value) (CR : Addr) : Prop where
  gR : mg "InvalidRow" = some (.ref CR)
  xR : PySem.W.exmOne K (.ref CR) (.ref CR) = some true
  fR : XfC K CR
  nR : PySem.W.findIn K (.ref CR) "value" = some none
def spCaughtRow (K : PySem.W.Frag) (C : Addr) : Sp := fun vs H Q _ => ∃ (door : Int) (F : Hp) (ml : Addr) (hv rv : V) (m : MillD) (hs : List Rat) (bs : List BlkD) (A M B : Nat), vs = [.int door, .ref ml, hv, rv] ∧ (door = 0 ∨ door = 1) ∧ Ex F H ∧ RowIn K F C ml hv rv m hs bs A M B ∧ Wk.row m ⟨hs, hs, hs⟩ bs = none ∧ Rp (encRow bs) ∧
  ∀ F' H', Gr F H F' H' → Q (.str (encRow bs).shown) H'
theorem sc__law_caught_row : FnScope (["door", "mill", "held", "row", "told", "error"] : List Str) (["door", "mill", "held", "row"] : List Str) (defScope sLawCaughtRow) := ⟨rfl, rfl, rfl, by decide +kernel, rfl, by decide +kernel, by decide +kernel⟩
theorem ok_law_caught_row (D : Def K mg "_law_caught_row" sLawCaughtRow ["door", "mill", "held", "row"]) (B : Bl mg) {C CR : Addr} (ER : ErrR K mg CR) (C_led : CalX P w K mg base "led" ["mill", "have", "row"] 10 (spTold K C CR fun s => s.held.map encR)) (C_narrows : CalX P w K mg base "narrows" ["mill", "have", "row"] 10 (spTold K C CR encN)) :
    Cal P w K mg base "_law_caught_row" ["door", "mill", "held", "row"] 11 (spCaughtRow K C) := by
  refine cal_mk D sc__law_caught_row (fun vs H Q E h => ?_) (fun f cdv A outer s H vs Q E hr h => ?_)
  · obtain ⟨door, F, ml, hv, rv, m, hs, bs, A, M, B, rfl, _⟩ := h
    rfl
  obtain ⟨door, F, ml, hv, rv, m, hs, bs, A0, M0, B0, rfl, hdoor, e, ri, hn, rp, q⟩ := h
  have gR := ER.gR
  refine ⟨_, (pss_cons (ps_set (i := 4) sc__law_caught_row.nd rfl (.inl rfl) pe_str)
      (pss_cons (ps_try_keep (i := 5) rfl rfl rfl sc__law_caught_row.nd rfl rfl ⟨rfl, by decide, .inl ER.gR⟩ takes0 (fun W pn xe tk _ => (pss_one (ps_if (pt_cmpR op_eq (pv 0) pe_int (nomark _)) (pss_one (ps_expr (pe_callXC C_led hr tk (pa_cons (pv 1) (pa_cons (pv 2) (pa_cons (pv 3) pa_nil)))))) (pss_one (ps_expr (pe_callXC C_narrows hr tk (pa_cons (pv 1) (pa_cons (pv 2) (pa_cons (pv 3) pa_nil)))))))) ) (fun a oe cls d pn hz hf => pss_one (ps_set (i := 4) sc__law_caught_row.nd rfl (.inl rfl) (pe_callB (id := "repr") (r := rReprD K) (call_reprD (by exact hr.2) (by exact hr.1.units)) (by rfl) B.repr (by decide +kernel) (pa_cons (pe_sxF hz hf (pv 5)) pa_nil)))))
      (pss_one (ps_ret (pv 4))))), ?_⟩
  have st : start ["door", "mill", "held", "row", "told", "error"] [V.int door, .ref ml, hv, rv] = [some (.int door), some (.ref ml), some hv, some rv, none, none] := rfl
  rw [st]
  refine seq_of (asg_of ?_)
  show tSeq _ _ _ [some (.int door), some (.ref ml), some hv, some rv, some (.str "none"), none] H
  refine seq_of ?_
  have bad : ∀ (E' : XK), (∀ F' H' dd, Gr F H F' H' → H' dd = none → E' (.ref CR) (some dd) (upd H' dd (.xd [("value", rv)]))) → ∀ (Q' : VK) (f : Wk → List PyData), spTold K C CR f [.ref ml, hv, rv] H Q' E' := fun E' he Q' f =>
    ⟨F, ml, hv, rv, m, hs, bs, A0, M0, B0, rfl, e, ri, fun _ => he, fun s hs' => by rw [hn] at hs'; cases hs'⟩
  have suite : ∀ (F' H' : Hp) (dd a : Addr), Gr F H F' H' → H' dd = none → (upd H' dd (.xd [("value", rv)])) a = none →
      tAsg (tCB (rReprD K) (tCons (tSxF K "value" a (.ref CR) (some dd) (tVar 5)) tNil)) (gName 4)
        { nx := fun σ' H2 => ∃ C' dd', Value.ref CR = .ref C' ∧ some dd = some dd' ∧ (H2 a = none → tRet (tVar 4) { nx := fun _ H' => Q .non H', rt := Q } (σ'.set 5 none) (upd H2 a (ExJ C' dd' a))), rt := fun _ _ => False } [some (.int door), some (.ref ml), some hv, some rv, some (.str "none"), some (.ref a)] (upd H' dd (.xd [("value", rv)])) := fun F' H' dd a g hdd ha => by
    have g1 := g.trans (Gr.only g.fh hdd (o := .xd [("value", rv)]))
    refine ⟨_, rfl, CR, dd, [("value", rv)], rv, rfl, rfl, rfl, upd_same, by rfl, ER.fR, ER.nR, ?_⟩
    refine ⟨rv, encRow bs, rfl, .inl ⟨dp_ex (g1.fx.trans g1.fh) ri.hr, rp.nd⟩, rp.sh, Nat.le_trans (shB_le _) (sz_of rp.len), rp.dep, CR, dd, rfl, rfl, fun na => ?_⟩
    have g2 := g1.trans (Gr.only g1.fh ha (o := ExJ CR dd a))
    exact ⟨_, rfl, q F' _ g2⟩
  rcases hdoor with rfl | rfl
  · refine ⟨_, rfl, rfl, _, rfl, iteT ?_⟩
    refine t_callSD3 (i := 1) (j := 2) (k := 3) rfl rfl rfl (bad _ (fun F' H' dd g hdd => ?_) _ _)
    exact ⟨true, ER.xR, fun _ a ha => suite F' H' dd a g hdd ha, fun z => nomatch z⟩
  · refine ⟨_, rfl, rfl, _, rfl, iteF ?_⟩
    refine t_callSD3 (i := 1) (j := 2) (k := 3) rfl rfl rfl (bad _ (fun F' H' dd g hdd => ?_) _ _)
    exact ⟨true, ER.xR, fun _ a ha => suite F' H' dd a g hdd ha, fun z => nomatch z⟩
end
end R3

set_option Elab.async false
set_option linter.all false
set_option maxRecDepth 100000
set_option maxHeartbeats 4000000
namespace Dv
open PySem PySem.Spec PyProof.Rows L2 Evl
section
variable {K : PySem.W.Frag} {σ : L2.St} {F : Hp} {te : TE} {tt : TT}
/-- a comprehension over data or empty dicts whose test always fails -/
theorem lc_noneQ {wi : TI} {g : TG} {vs : List Nat} {ds : List PyData} (hi : ItQ K wi σ F ds)
    (hb : ∀ d, d ∈ ds → ∀ v F1, Ex F F1 → Dq K F1 v d → ∃ σ2, (∀ H, Ex F1 H → ∀ Q : L2.St → Hp → Prop, Q σ2 H → g v (wipe σ vs) H Q) ∧ wipe σ2 vs = wipe σ vs ∧ EtD tt σ2 F1 false) :
    EvL K (tLc wi g tt te vs) σ F [] := fun H eH Q q => hi H eH _ fun J F1 H1 g1 wd => by
  obtain ⟨G, Y, W, hG, hY⟩ := wd
  intro D hD
  have fD : F1 D = none := ex_none g1.fh hD
  refine lc_it W (Pv := fun i H' => ∃ F', Gr F1 H1 F' H' ∧ F' D = none ∧ H' D = some (.lst [])) ⟨F1, (Gr.refl g1.fh).mut hD fD, fD, upd_same⟩
    (fun i H' _ p => ?_) (fun i v H2 H3 hin p y => ?_) (fun H' p => ?_)
  · obtain ⟨F', g2, _⟩ := p
    exact hG _ (g2.fx.trans g2.fh)
  · obtain ⟨F2, g2, f2, h2⟩ := p
    obtain ⟨F3, d, hd, g3, hv⟩ := hY F2 i H2 v H3 hin g2.fx g2.fh y
    obtain ⟨σ2, hgt, hwp, ht⟩ := hb d (List.mem_of_getElem? hd) v F3 (g1.fx.trans (g2.fx.trans g3.fx)) hv
    have k3 := g3.keep h2 f2
    refine hgt H3 g3.fh _ ⟨hwp, ht H3 g3.fh _ fun F4 H4 g4 => ?_⟩
    have k4 := g4.keep k3.1 k3.2
    exact ⟨F4, (g2.trans g3).trans g4, k4.2, k4.1⟩
  · obtain ⟨F', g2, fd, hd⟩ := p
    exact q D [] F' H' (g1.trans g2) (ex_none g1.hx hD) fd hd .nil
/-- a list of F walked, its items data or empty dicts -/
theorem itq_trk {i : Nat} {p : Addr} {vs : List V} {ds : List PyData} (hi : σ[i]? = some (some (.ref p))) (hp : F p = some (.lst vs)) (hd : DqAll K F vs ds) : ItQ K (iList K (tVar i)) σ F ds := fun H eH R q => by
  refine ⟨_, hi, p, rfl, ⟨vs, sq_of (eH _ _ hp)⟩, q _ F H (Gr.refl eH) ⟨_, _, by rw [← dqs_len hd]; exact walk_list (xs := vs), fun H e => sq_of (e _ _ hp), fun F2 i H2 x H3 _ e1 e2 y => ?_⟩⟩
  obtain ⟨rfl, hx⟩ := y
  obtain ⟨d, h1, h2⟩ := dqs_get hd hx
  exact ⟨F2, d, h1, Gr.refl e2, dq_ex e1 h2⟩
end
end Dv

set_option Elab.async false
set_option linter.all false
set_option maxRecDepth 100000
set_option maxHeartbeats 4000000
namespace R3
open PySem PySem.Spec PyProof.Rows L2 Evl Dv
open Qa (toF Sx)
def sOne (n : Str) (a : PyData) : PyData := .tuple [.str n, a]
def aT (a b : Int) : PyData := .tuple [.int a, .int b]
def rOne (ss : List PyData) : PyData := .list [.tuple [.int 1, .list ss]]
def od1 (n : Str) : List PyData := [.none, .int 3, .str "row", .tuple [], .dict [], .bool true, .list [.none], rOne [], .list [.tuple [.int 0, .list [sOne n (aT 1 2)]]], .list [.tuple [.bool true, .list [sOne n (aT 1 2)]]]]
def od2 (n : Str) : List PyData := [.list [.tuple [.int 1, .tuple [sOne n (aT 1 2)]]], .list [.list [.int 1, .list [sOne n (aT 1 2)]]], rOne [sOne n (aT 0 1)]]
def od3 : List PyData := [rOne [sOne "zz" (aT 1 2)]]
def od4 (n : Str) : List PyData := [rOne [sOne n (aT 2 4)], rOne [sOne n (.list [.int 1, .int 2])], rOne [sOne n (.int 1)], rOne [sOne n (aT (-1) 2)]]
def od5 (n : Str) : List PyData := [rOne [sOne n (aT 1 0)], rOne [.tuple [.list [.str n], aT 1 2]], rOne [.tuple [.str n, aT 1 2, .int 0]], rOne [.none]]
def od6 (n : Str) : List PyData := [rOne [sOne n (.tuple [.bool true, .int 2])], .list [.tuple [.tuple [.int 1], .list [sOne n (aT 1 2)]]]]
def odds (n : Str) : List PyData := ((((od1 n ++ od2 n) ++ od3) ++ od4 n) ++ od5 n) ++ od6 n
theorem odds_no {names : List Str} {n : Str} (hz : ("zz" : Str) ∉ names) : ∀ d ∈ odds n, areBlocks names d = false := by
  intro d hd
  simp only [odds, od1, od2, od3, od4, od5, od6, List.cons_append, List.nil_append, List.mem_cons, List.not_mem_nil, or_false] at hd
  rcases hd with rfl | rfl | rfl | rfl | rfl | rfl | rfl | rfl | rfl | rfl | rfl | rfl | rfl | rfl | rfl | rfl | rfl | rfl | rfl | rfl | rfl | rfl | rfl | rfl <;>
    simp [areBlocks, isBlock, isStep, rOne, sOne, aT, isAmt, isFrac, PyData.eqv, PyData.eqvAll, hz]
theorem odds_gd {n : Str} (hg : gd (.str n) = true) : ∀ d ∈ odds n, gd d = true ∧ shL d := by
  have hs := gd_str hg
  have z1 : gd (.str ("zz" : Str)) = true := by decide +kernel
  have z2 : gd (.str ("row" : Str)) = true := by decide +kernel
  have hz1 := gd_str z1
  have hz2 := gd_str z2
  intro d hd
  suffices hh : gd d = true ∧ (d = .dict [] ∨ (d.canLay0 = true ∧ d.depth ≤ 64)) by
    refine ⟨hh.1, fun bs hb => ?_⟩
    rcases hh.2 with h | h
    · rw [h] at hb; cases hb
    · rw [shaped_iff]; exact h
  rw [gd] at hg z1 z2
  simp only [odds, od1, od2, od3, od4, od5, od6, List.cons_append, List.nil_append, List.mem_cons, List.not_mem_nil, or_false] at hd
  rcases hd with rfl | rfl | rfl | rfl | rfl | rfl | rfl | rfl | rfl | rfl | rfl | rfl | rfl | rfl | rfl | rfl | rfl | rfl | rfl | rfl | rfl | rfl | rfl | rfl <;>
    simp [rOne, sOne, aT, gd, gds, PyData.canLay0, PyData.canLayAll0, PyData.depth, PyData.depthAll, hs.1, hs.2, hz1.1, hz1.2, hz2.1, hz2.2]
section
variable {P : Program} {w : World} {K : PySem.W.Frag} {mg : Str → Option Value} {base : Heap}
def spNone (K : PySem.W.Frag) (C : Addr) : Sp := fun vs H Q _ => ∃ (F : Hp) (ml : Addr) (hv : V) (m : MillD) (hs : List Rat) (nm : Str), vs = [.ref ml, hv, .str nm] ∧ Ex F H ∧ MillAt K F C ml m ∧ m.Ok ∧ Dp K F hv (.list (hs.map encR)) ∧ HoldOk m hs ∧ nm ∈ m.titles ∧ ("zz" : Str) ∉ m.titles ∧ ∀ F' H', Gr F H F' H' → Q (.bl true) H'
theorem sc__law_none : FnScope (["mill", "held", "name", "odds", "odd"] : List Str) (["mill", "held", "name"] : List Str) (defScope sLawNone) := ⟨rfl, rfl, rfl, by decide +kernel, rfl, by decide +kernel, by decide +kernel⟩
theorem ok_law_none (D : Def K mg "_law_none" sLawNone ["mill", "held", "name"]) (B : Bl mg) {C : Addr} (C_is_row : Cal P w K mg base "is_row" ["mill", "have", "value"] 9 (spIsRow K C)) : Cal P w K mg base "_law_none" ["mill", "held", "name"] 10 (spNone K C) := by
  refine cal_mk D sc__law_none (fun vs H Q E h => ?_) (fun f cdv A outer s H vs Q E hr h => ?_)
  · obtain ⟨F, ml, hv, m, hs, nm, rfl, _⟩ := h
    rfl
  obtain ⟨F, ml, hv, m, hs, nm, rfl, e, hm, ok, hh, ho, hnm, hzz, q⟩ := h
  refine ⟨_, (pss_cons (ps_set (i := 3) sc__law_none.nd rfl (.inl rfl) (pe_lst (pa_cons pe_non (pa_cons pe_int (pa_cons pe_str (pa_cons (pe_tup pa_nil) (pa_cons pe_dnewK (pa_cons pe_bl (pa_cons (pe_lst (pa_cons pe_non pa_nil)) (pa_cons (pe_lst (pa_cons (pe_tup (pa_cons pe_int (pa_cons (pe_lst pa_nil) pa_nil))) pa_nil)) (pa_cons (pe_lst (pa_cons (pe_tup (pa_cons pe_int (pa_cons (pe_lst (pa_cons (pe_tup (pa_cons (pv 2) (pa_cons (pe_tup (pa_cons pe_int (pa_cons pe_int pa_nil))) pa_nil))) pa_nil)) pa_nil))) pa_nil)) (pa_cons (pe_lst (pa_cons (pe_tup (pa_cons pe_bl (pa_cons (pe_lst (pa_cons (pe_tup (pa_cons (pv 2) (pa_cons (pe_tup (pa_cons pe_int (pa_cons pe_int pa_nil))) pa_nil))) pa_nil)) pa_nil))) pa_nil)) pa_nil))))))))))))
      (pss_cons (ps_set (i := 3) sc__law_none.nd rfl (.inl rfl) (pe_op op_cat (pv 3) (pe_lst (pa_cons (pe_lst (pa_cons (pe_tup (pa_cons pe_int (pa_cons (pe_tup (pa_cons (pe_tup (pa_cons (pv 2) (pa_cons (pe_tup (pa_cons pe_int (pa_cons pe_int pa_nil))) pa_nil))) pa_nil)) pa_nil))) pa_nil)) (pa_cons (pe_lst (pa_cons (pe_lst (pa_cons pe_int (pa_cons (pe_lst (pa_cons (pe_tup (pa_cons (pv 2) (pa_cons (pe_tup (pa_cons pe_int (pa_cons pe_int pa_nil))) pa_nil))) pa_nil)) pa_nil))) pa_nil)) (pa_cons (pe_lst (pa_cons (pe_tup (pa_cons pe_int (pa_cons (pe_lst (pa_cons (pe_tup (pa_cons (pv 2) (pa_cons (pe_tup (pa_cons pe_int (pa_cons pe_int pa_nil))) pa_nil))) pa_nil)) pa_nil))) pa_nil)) pa_nil))))))
      (pss_cons (ps_set (i := 3) sc__law_none.nd rfl (.inl rfl) (pe_op op_cat (pv 3) (pe_lst (pa_cons (pe_lst (pa_cons (pe_tup (pa_cons pe_int (pa_cons (pe_lst (pa_cons (pe_tup (pa_cons pe_str (pa_cons (pe_tup (pa_cons pe_int (pa_cons pe_int pa_nil))) pa_nil))) pa_nil)) pa_nil))) pa_nil)) pa_nil))))
      (pss_cons (ps_set (i := 3) sc__law_none.nd rfl (.inl rfl) (pe_op op_cat (pv 3) (pe_lst (pa_cons (pe_lst (pa_cons (pe_tup (pa_cons pe_int (pa_cons (pe_lst (pa_cons (pe_tup (pa_cons (pv 2) (pa_cons (pe_tup (pa_cons pe_int (pa_cons pe_int pa_nil))) pa_nil))) pa_nil)) pa_nil))) pa_nil)) (pa_cons (pe_lst (pa_cons (pe_tup (pa_cons pe_int (pa_cons (pe_lst (pa_cons (pe_tup (pa_cons (pv 2) (pa_cons (pe_lst (pa_cons pe_int (pa_cons pe_int pa_nil))) pa_nil))) pa_nil)) pa_nil))) pa_nil)) (pa_cons (pe_lst (pa_cons (pe_tup (pa_cons pe_int (pa_cons (pe_lst (pa_cons (pe_tup (pa_cons (pv 2) (pa_cons pe_int pa_nil))) pa_nil)) pa_nil))) pa_nil)) (pa_cons (pe_lst (pa_cons (pe_tup (pa_cons pe_int (pa_cons (pe_lst (pa_cons (pe_tup (pa_cons (pv 2) (pa_cons (pe_tup (pa_cons (pe_un un_neg pe_int) (pa_cons pe_int pa_nil))) pa_nil))) pa_nil)) pa_nil))) pa_nil)) pa_nil)))))))
      (pss_cons (ps_set (i := 3) sc__law_none.nd rfl (.inl rfl) (pe_op op_cat (pv 3) (pe_lst (pa_cons (pe_lst (pa_cons (pe_tup (pa_cons pe_int (pa_cons (pe_lst (pa_cons (pe_tup (pa_cons (pv 2) (pa_cons (pe_tup (pa_cons pe_int (pa_cons pe_int pa_nil))) pa_nil))) pa_nil)) pa_nil))) pa_nil)) (pa_cons (pe_lst (pa_cons (pe_tup (pa_cons pe_int (pa_cons (pe_lst (pa_cons (pe_tup (pa_cons (pe_lst (pa_cons (pv 2) pa_nil)) (pa_cons (pe_tup (pa_cons pe_int (pa_cons pe_int pa_nil))) pa_nil))) pa_nil)) pa_nil))) pa_nil)) (pa_cons (pe_lst (pa_cons (pe_tup (pa_cons pe_int (pa_cons (pe_lst (pa_cons (pe_tup (pa_cons (pv 2) (pa_cons (pe_tup (pa_cons pe_int (pa_cons pe_int pa_nil))) (pa_cons pe_int pa_nil)))) pa_nil)) pa_nil))) pa_nil)) (pa_cons (pe_lst (pa_cons (pe_tup (pa_cons pe_int (pa_cons (pe_lst (pa_cons pe_non pa_nil)) pa_nil))) pa_nil)) pa_nil)))))))
      (pss_cons (ps_set (i := 3) sc__law_none.nd rfl (.inl rfl) (pe_op op_cat (pv 3) (pe_lst (pa_cons (pe_lst (pa_cons (pe_tup (pa_cons pe_int (pa_cons (pe_lst (pa_cons (pe_tup (pa_cons (pv 2) (pa_cons (pe_tup (pa_cons pe_bl (pa_cons pe_int pa_nil))) pa_nil))) pa_nil)) pa_nil))) pa_nil)) (pa_cons (pe_lst (pa_cons (pe_tup (pa_cons (pe_tup (pa_cons pe_int pa_nil)) (pa_cons (pe_lst (pa_cons (pe_tup (pa_cons (pv 2) (pa_cons (pe_tup (pa_cons pe_int (pa_cons pe_int pa_nil))) pa_nil))) pa_nil)) pa_nil))) pa_nil)) pa_nil)))))
      (pss_one (ps_ret (pe_cmpR (op_eqD hr.1.units) (pe_lc (own := [("odd", 4)]) (g := gName 4) rfl sc__law_none.nd (pi_list (pv 3)) (blkOk_by (own := [("odd", 4)]) (N := ["mill", "held", "name", "odds", "odd"]) (sc := defScope sLawNone) (by decide +kernel)) (fun _ _ _ _ _ => (pg_name (i := 4) sc__law_none.nd rfl (.inl rfl)))  (fun _ _ _ _ _ => (pts_one (pt_cmpR op_notBl (pe_callC C_is_row hr (pa_cons (pv 0) (pa_cons (pv 1) (pa_cons (pv 4) pa_nil)))) pe_bl (nomark _)))) (fun _ _ _ _ _ => (pv 4))) (pe_lst pa_nil) (nomark _)))))))))), ?_⟩
  have st : start ["mill", "held", "name", "odds", "odd"] [V.ref ml, hv, .str nm] = [some (.ref ml), some hv, some (.str nm), none, none] := rfl
  rw [st]
  have cat : ∀ (D : Ends) (F' H' : Hp) (p : Addr) (ws : List V) (ds es : List PyData) (tb : TE), Gr F H F' H' → H p = none → F' p = none → H' p = some (.lst ws) → DqAll K F' ws ds → EvL K tb [some (.ref ml), some hv, some (.str nm), some (.ref p), none] F' es → ds.length + es.length ≤ 100000 →
      (∀ q vs F2 H2, Gr F H F2 H2 → H q = none → F2 q = none → H2 q = some (.lst vs) → DqAll K F2 vs (ds ++ es) → D.nx [some (.ref ml), some hv, some (.str nm), some (.ref q), none] H2) → tAsg (tOp rCat (tVar 3) tb) (gName 3) D [some (.ref ml), some hv, some (.str nm), some (.ref p), none] H' := fun D F' H' p ws ds es tb g h1 h2 h3 h4 h5 hz k =>
    s_catQ (i := 3) h3 h2 h4 rfl h5 g.fh hz fun q vs F2 H2 g2 k1 k2 k3 k4 => k q vs F2 H2 (g.trans g2) (ex_none g.hx k1) k2 k3 k4
  refine seq_of (s_asgLQ (K := K) (ds := od1 nm) (elq_lst (eaq_cons (EvD.q (by (repeat (first   | exact Dv.ev_int _ | exact Dv.ev_non | exact Dv.ev_bl _ | exact Dv.ev_str _ | exact Dv.ea_nil | exact Dv.ev_var (i := 2) rfl (.str _)   | exact Dv.ev_U (fun _ => .int _) (Dv.ev_int _)   | refine Dv.ev_tup ?_ (by simp) | refine EvL.ev (Dv.el_lst ?_ (by simp)) | refine Dv.ea_cons ?_ ?_)))) (eaq_cons (EvD.q (by (repeat (first   | exact Dv.ev_int _ | exact Dv.ev_non | exact Dv.ev_bl _ | exact Dv.ev_str _ | exact Dv.ea_nil | exact Dv.ev_var (i := 2) rfl (.str _)   | exact Dv.ev_U (fun _ => .int _) (Dv.ev_int _)   | refine Dv.ev_tup ?_ (by simp) | refine EvL.ev (Dv.el_lst ?_ (by simp)) | refine Dv.ea_cons ?_ ?_)))) (eaq_cons (EvD.q (by (repeat (first   | exact Dv.ev_int _ | exact Dv.ev_non | exact Dv.ev_bl _ | exact Dv.ev_str _ | exact Dv.ea_nil | exact Dv.ev_var (i := 2) rfl (.str _)   | exact Dv.ev_U (fun _ => .int _) (Dv.ev_int _)   | refine Dv.ev_tup ?_ (by simp) | refine EvL.ev (Dv.el_lst ?_ (by simp)) | refine Dv.ea_cons ?_ ?_)))) (eaq_cons (EvD.q (by (repeat (first   | exact Dv.ev_int _ | exact Dv.ev_non | exact Dv.ev_bl _ | exact Dv.ev_str _ | exact Dv.ea_nil | exact Dv.ev_var (i := 2) rfl (.str _)   | exact Dv.ev_U (fun _ => .int _) (Dv.ev_int _)   | refine Dv.ev_tup ?_ (by simp) | refine EvL.ev (Dv.el_lst ?_ (by simp)) | refine Dv.ea_cons ?_ ?_)))) (eaq_cons eq_mt (eaq_cons (EvD.q (by (repeat (first   | exact Dv.ev_int _ | exact Dv.ev_non | exact Dv.ev_bl _ | exact Dv.ev_str _ | exact Dv.ea_nil | exact Dv.ev_var (i := 2) rfl (.str _)   | exact Dv.ev_U (fun _ => .int _) (Dv.ev_int _)   | refine Dv.ev_tup ?_ (by simp) | refine EvL.ev (Dv.el_lst ?_ (by simp)) | refine Dv.ea_cons ?_ ?_)))) (eaq_cons (EvD.q (by (repeat (first   | exact Dv.ev_int _ | exact Dv.ev_non | exact Dv.ev_bl _ | exact Dv.ev_str _ | exact Dv.ea_nil | exact Dv.ev_var (i := 2) rfl (.str _)   | exact Dv.ev_U (fun _ => .int _) (Dv.ev_int _)   | refine Dv.ev_tup ?_ (by simp) | refine EvL.ev (Dv.el_lst ?_ (by simp)) | refine Dv.ea_cons ?_ ?_)))) (eaq_cons (EvD.q (by (repeat (first   | exact Dv.ev_int _ | exact Dv.ev_non | exact Dv.ev_bl _ | exact Dv.ev_str _ | exact Dv.ea_nil | exact Dv.ev_var (i := 2) rfl (.str _)   | exact Dv.ev_U (fun _ => .int _) (Dv.ev_int _)   | refine Dv.ev_tup ?_ (by simp) | refine EvL.ev (Dv.el_lst ?_ (by simp)) | refine Dv.ea_cons ?_ ?_)))) (eaq_cons (EvD.q (by (repeat (first   | exact Dv.ev_int _ | exact Dv.ev_non | exact Dv.ev_bl _ | exact Dv.ev_str _ | exact Dv.ea_nil | exact Dv.ev_var (i := 2) rfl (.str _)   | exact Dv.ev_U (fun _ => .int _) (Dv.ev_int _)   | refine Dv.ev_tup ?_ (by simp) | refine EvL.ev (Dv.el_lst ?_ (by simp)) | refine Dv.ea_cons ?_ ?_)))) (eaq_cons (EvD.q (by (repeat (first   | exact Dv.ev_int _ | exact Dv.ev_non | exact Dv.ev_bl _ | exact Dv.ev_str _ | exact Dv.ea_nil | exact Dv.ev_var (i := 2) rfl (.str _)   | exact Dv.ev_U (fun _ => .int _) (Dv.ev_int _)   | refine Dv.ev_tup ?_ (by simp) | refine EvL.ev (Dv.el_lst ?_ (by simp)) | refine Dv.ea_cons ?_ ?_)))) eaq_nil)))))))))) (show 10 ≤ 100000 by decide)) e fun p1 w1 F1 H1 g1 a1 a2 a3 a4 => ?_)
  dsimp only
  refine seq_of (cat _ F1 H1 p1 w1 (od1 nm) (od2 nm) _ g1 a1 a2 a3 a4 (Dv.el_lst (by (repeat (first   | exact Dv.ev_int _ | exact Dv.ev_non | exact Dv.ev_bl _ | exact Dv.ev_str _ | exact Dv.ea_nil | exact Dv.ev_var (i := 2) rfl (.str _)   | exact Dv.ev_U (fun _ => .int _) (Dv.ev_int _)   | refine Dv.ev_tup ?_ (by simp) | refine EvL.ev (Dv.el_lst ?_ (by simp)) | refine Dv.ea_cons ?_ ?_))) (show 3 ≤ 100000 by decide)) (show 13 ≤ 100000 by decide) fun p2 w2 F2 H2 g2 b1 b2 b3 b4 => ?_)
  dsimp only
  refine seq_of (cat _ F2 H2 p2 w2 _ od3 _ g2 b1 b2 b3 b4 (Dv.el_lst (by (repeat (first   | exact Dv.ev_int _ | exact Dv.ev_non | exact Dv.ev_bl _ | exact Dv.ev_str _ | exact Dv.ea_nil | exact Dv.ev_var (i := 2) rfl (.str _)   | exact Dv.ev_U (fun _ => .int _) (Dv.ev_int _)   | refine Dv.ev_tup ?_ (by simp) | refine EvL.ev (Dv.el_lst ?_ (by simp)) | refine Dv.ea_cons ?_ ?_))) (show 1 ≤ 100000 by decide)) (show 14 ≤ 100000 by decide) fun p3 w3 F3 H3 g3 c1 c2 c3 c4 => ?_)
  dsimp only
  refine seq_of (cat _ F3 H3 p3 w3 _ (od4 nm) _ g3 c1 c2 c3 c4 (Dv.el_lst (by (repeat (first   | exact Dv.ev_int _ | exact Dv.ev_non | exact Dv.ev_bl _ | exact Dv.ev_str _ | exact Dv.ea_nil | exact Dv.ev_var (i := 2) rfl (.str _)   | exact Dv.ev_U (fun _ => .int _) (Dv.ev_int _)   | refine Dv.ev_tup ?_ (by simp) | refine EvL.ev (Dv.el_lst ?_ (by simp)) | refine Dv.ea_cons ?_ ?_))) (show 4 ≤ 100000 by decide)) (show 18 ≤ 100000 by decide) fun p4 w4 F4 H4 g4 d1 d2 d3 d4 => ?_)
  dsimp only
  refine seq_of (cat _ F4 H4 p4 w4 _ (od5 nm) _ g4 d1 d2 d3 d4 (Dv.el_lst (by (repeat (first   | exact Dv.ev_int _ | exact Dv.ev_non | exact Dv.ev_bl _ | exact Dv.ev_str _ | exact Dv.ea_nil | exact Dv.ev_var (i := 2) rfl (.str _)   | exact Dv.ev_U (fun _ => .int _) (Dv.ev_int _)   | refine Dv.ev_tup ?_ (by simp) | refine EvL.ev (Dv.el_lst ?_ (by simp)) | refine Dv.ea_cons ?_ ?_))) (show 4 ≤ 100000 by decide)) (show 22 ≤ 100000 by decide) fun p5 w5 F5 H5 g5 e1 e2 e3 e4 => ?_)
  dsimp only
  refine seq_of (cat _ F5 H5 p5 w5 _ (od6 nm) _ g5 e1 e2 e3 e4 (Dv.el_lst (by (repeat (first   | exact Dv.ev_int _ | exact Dv.ev_non | exact Dv.ev_bl _ | exact Dv.ev_str _ | exact Dv.ea_nil | exact Dv.ev_var (i := 2) rfl (.str _)   | exact Dv.ev_U (fun _ => .int _) (Dv.ev_int _)   | refine Dv.ev_tup ?_ (by simp) | refine EvL.ev (Dv.el_lst ?_ (by simp)) | refine Dv.ea_cons ?_ ?_))) (show 2 ≤ 100000 by decide)) (show 24 ≤ 100000 by decide) fun p6 w6 F6 H6 g6 f1 f2 f3 f4 => ?_)
  dsimp only
  have gt := g6.take f1 f2 f3
  have hds : DqAll K (upd F6 p6 (.lst w6)) w6 (odds nm) := dqs_ex (Ex.new f2) f4
  have hp6 : upd F6 p6 (.lst w6) p6 = some (.lst w6) := upd_same
  generalize upd F6 p6 (.lst w6) = F7 at *
  have lc := lc_noneQ (K := K) (σ := [some (.ref ml), some hv, some (.str nm), some (.ref p6), none]) (F := F7) (te := tVar 4) (tt := tTest (tOp rNotB (tCall (spIsRow K C) [] E0 (tCons (tVar 0) (tCons (tVar 1) (tCons (tVar 4) tNil)))) (tC (.bl false)))) (g := gName 4) (vs := [4]) (itq_trk (i := 3) rfl hp6 hds) fun d hd v F8 e8 hv8 => by
    have hgs := odds_gd (title_name ok hnm).2 d hd
    refine ⟨[some (.ref ml), some hv, some (.str nm), some (.ref p6), some v], fun H e Q q => q, rfl, et_v (K := K) (ev_notBl (p := false) (q := false) (fun H' e' Q' q' => t_call3 (i := 0) (j := 1) (k := 4) rfl rfl rfl ⟨F8, ml, hv, v, m, hs, rfl, e', .inl ⟨hm.mono (gt.fx.trans e8), ok, dp_ex (gt.fx.trans e8) hh, ho, d, hv8, hgs.1, hgs.2, odds_no hzz d hd, fun F9 H9 g9 => q' _ F9 H9 g9 (.bl _)⟩⟩) (Dv.ev_bl false)) rfl⟩
  refine Dv.s_ret (K := K) (d := .bool true) (Dv.ev_is (ev_eqD (EvL.ev lc) (EvL.ev (Dv.el_lst Dv.ea_nil (by simp))) shaped_nil shaped_nil) (by rw [eqv_nil] <;> rfl)) gt.fh fun v F8 H8 g8 hv8 => ?_
  cases hv8
  exact q F8 H8 (gt.trans g8)
end
end R3

set_option Elab.async false
set_option linter.all false
set_option maxHeartbeats 4000000
/-! plain: one stuff in a row of steps: the law turn by turn, the program by the first and the last turn -/
namespace Qb
def mn (a b : Rat) : Rat := if b < a then b else a
def mx (a b : Rat) : Rat := if b < a then a else b
def mxL (a b : Rat) : Rat := if a < b then b else a
structure S where
  h : Rat
  l : Rat
  u : Rat
def law1 (s : S) (d : Rat × Rat) : S := ⟨s.h + d.1 + d.2, mn s.l (s.h + d.1), mxL s.u (s.h + d.1 + d.2)⟩
def prog1 (s : S) (d : Rat × Rat) : S := ⟨s.h + d.1 + d.2, mn (mn s.l (s.h + d.1)) (s.h + d.1 + d.2), mx (mx s.u (s.h + d.1)) (s.h + d.1 + d.2)⟩
def W (s : S) : Prop := s.l ≤ s.h ∧ s.h ≤ s.u
theorem one_eq (s : S) (d : Rat × Rat) (w : W s) (h1 : d.1 ≤ 0) (h2 : 0 ≤ d.2) : prog1 s d = law1 s d := by
  obtain ⟨w1, w2⟩ := w
  unfold prog1 law1 mn mx mxL
  congr 1
  · grind
  · grind
theorem one_w (s : S) (d : Rat × Rat) (w : W s) (h1 : d.1 ≤ 0) (h2 : 0 ≤ d.2) : W (law1 s d) := by
  obtain ⟨w1, w2⟩ := w
  unfold W law1 mn mxL
  constructor
  · grind
  · grind
/-- what a list of steps does from anywhere -/
def run (ds : List (Rat × Rat)) (s : S) : S := ds.foldl law1 s
/-- gain, least and most of a list of steps that is not empty, from nothing -/
theorem run_lin (ds : List (Rat × Rat)) (hne : ds ≠ []) : ∃ g lo hi : Rat, ∀ s, run ds s = ⟨s.h + g, mn s.l (s.h + lo), mxL s.u (s.h + hi)⟩ := by
  induction ds with
  | nil => exact absurd rfl hne
  | cons d r ih =>
    by_cases hr : r = []
    · subst hr
      refine ⟨d.1 + d.2, d.1, d.1 + d.2, fun s => ?_⟩
      show law1 s d = _
      unfold law1
      rw [Rat.add_assoc]
    · obtain ⟨g, lo, hi, ih⟩ := ih hr
      refine ⟨d.1 + d.2 + g, mn d.1 (d.1 + d.2 + lo), mxL (d.1 + d.2) (d.1 + d.2 + hi), fun s => ?_⟩
      show run r (law1 s d) = _
      rw [ih]
      unfold law1 mn mxL
      congr 1
      · grind
      · grind
      · grind
def turns (ds : List (Rat × Rat)) : Nat → S → S
  | 0, s => s
  | k + 1, s => turns ds k (run ds s)
theorem mn3 (l a g x : Rat) (p1 : 0 ≤ g → 0 ≤ x) (p2 : g ≤ 0 → x ≤ 0) : mn (mn (mn l a) (a + g)) (a + g + x) = mn (mn l a) (a + g + x) := by
  rcases Rat.le_total (a := 0) (b := g) with h | h
  · have := p1 h
    unfold mn
    grind
  · have := p2 h
    unfold mn
    grind
theorem mx3 (l a g x : Rat) (p1 : 0 ≤ g → 0 ≤ x) (p2 : g ≤ 0 → x ≤ 0) : mxL (mxL (mxL l a) (a + g)) (a + g + x) = mxL (mxL l a) (a + g + x) := by
  rcases Rat.le_total (a := 0) (b := g) with h | h
  · have := p1 h
    unfold mxL
    grind
  · have := p2 h
    unfold mxL
    grind
/-- many turns: least and most stand at the first and at the last turn -/
theorem turns_lin {g lo hi : Rat} {ds : List (Rat × Rat)} (h : ∀ s, run ds s = ⟨s.h + g, mn s.l (s.h + lo), mxL s.u (s.h + hi)⟩) : ∀ (k : Nat) (s : S), turns ds (k + 1) s = ⟨s.h + g * ((k + 1 : Nat) : Rat), mn (mn s.l (s.h + lo)) (s.h + g * ((k : Nat) : Rat) + lo), mxL (mxL s.u (s.h + hi)) (s.h + g * ((k : Nat) : Rat) + hi)⟩
  | 0, s => by
    show run ds s = _
    rw [h]
    unfold mn mxL
    congr 1
    · grind
    · grind
    · grind
  | k + 1, s => by
    show turns ds (k + 1) (run ds s) = _
    rw [turns_lin h k, h]
    have e : ((k + 1 : Nat) : Rat) = (k : Rat) + 1 := by simp
    have e2 : ((k + 1 + 1 : Nat) : Rat) = (k : Rat) + 1 + 1 := by simp
    have k0 : (0 : Rat) ≤ (k : Rat) := by exact_mod_cast Nat.zero_le k
    rw [e, e2]
    generalize (k : Rat) = q at *
    have p1 : 0 ≤ g → 0 ≤ g * q := fun h => Rat.mul_nonneg h k0
    have p2 : g ≤ 0 → g * q ≤ 0 := fun h => by
      have := Rat.mul_nonneg (show (0 : Rat) ≤ -g by grind) k0
      grind
    have d1 : g * (q + 1) = g * q + g := by grind
    have d2 : g * (q + 1 + 1) = g * q + g + g := by grind
    rw [d1, d2]
    generalize g * q = x at *
    congr 1
    · grind
    · have := mn3 s.l (s.h + lo) g x p1 p2
      rw [show s.h + g + lo = s.h + lo + g by grind, show s.h + g + x + lo = s.h + lo + g + x by grind, show s.h + (x + g) + lo = s.h + lo + g + x by grind]
      exact this
    · have := mx3 s.u (s.h + hi) g x p1 p2
      rw [show s.h + g + hi = s.h + hi + g by grind, show s.h + g + x + hi = s.h + hi + g + x by grind, show s.h + (x + g) + hi = s.h + hi + g + x by grind]
      exact this
/-- the program's block: the first turn, the holdings ahead of the last one, the last turn -/
theorem block_eq {ds : List (Rat × Rat)} (hne : ds ≠ []) (k : Nat) (s : S) : turns ds (k + 2) s = run ds ⟨s.h + ((run ds s).h - s.h) * ((k + 1 : Nat) : Rat), (run ds s).l, (run ds s).u⟩ := by
  obtain ⟨g, lo, hi, h⟩ := run_lin ds hne
  rw [turns_lin h (k + 1), h, h]
  have e2 : ((k + 1 + 1 : Nat) : Rat) = ((k + 1 : Nat) : Rat) + 1 := by simp
  rw [e2]
  generalize ((k + 1 : Nat) : Rat) = q
  have e3 : s.h + g - s.h = g := by grind
  rw [e3]
  have d1 : g * (q + 1) = g * q + g := by grind
  rw [d1]
  congr 1
  grind
theorem law1_mono (s : S) (d : Rat × Rat) : (law1 s d).l ≤ s.l ∧ s.u ≤ (law1 s d).u := by
  unfold law1 mn mxL
  constructor
  · grind
  · grind
theorem run_mono : ∀ (ds : List (Rat × Rat)) (s : S), (run ds s).l ≤ s.l ∧ s.u ≤ (run ds s).u
  | [], s => ⟨Rat.le_refl, Rat.le_refl⟩
  | d :: r, s => by
    have h1 := law1_mono s d
    have h2 := run_mono r (law1 s d)
    exact ⟨Rat.le_trans h2.1 h1.1, Rat.le_trans h1.2 h2.2⟩
theorem turns_mono (ds : List (Rat × Rat)) : ∀ (k : Nat) (s : S), (turns ds k s).l ≤ s.l ∧ s.u ≤ (turns ds k s).u
  | 0, s => ⟨Rat.le_refl, Rat.le_refl⟩
  | k + 1, s => by
    have h1 := run_mono ds s
    have h2 := turns_mono ds k (run ds s)
    exact ⟨Rat.le_trans h2.1 h1.1, Rat.le_trans h1.2 h2.2⟩
theorem run_w {ds : List (Rat × Rat)} (hd : ∀ d ∈ ds, d.1 ≤ 0 ∧ 0 ≤ d.2) : ∀ {s : S}, W s → W (run ds s) := by
  induction ds with
  | nil => exact fun w => w
  | cons d r ih => exact fun {s} w => ih (fun x hx => hd x (List.mem_cons_of_mem _ hx)) (one_w s d w (hd d List.mem_cons_self).1 (hd d List.mem_cons_self).2)
theorem prog_run {ds : List (Rat × Rat)} (hd : ∀ d ∈ ds, d.1 ≤ 0 ∧ 0 ≤ d.2) : ∀ {s : S}, W s → ds.foldl prog1 s = run ds s := by
  induction ds with
  | nil => exact fun w => rfl
  | cons d r ih =>
    intro s w
    have h := hd d List.mem_cons_self
    show r.foldl prog1 (prog1 s d) = run r (law1 s d)
    rw [one_eq s d w h.1 h.2]
    exact ih (fun x hx => hd x (List.mem_cons_of_mem _ hx)) (one_w s d w h.1 h.2)
end Qb
namespace Qb
theorem one_eq2 (s : S) (d : Rat × Rat) (h2 : 0 ≤ d.2) : prog1 s d = law1 s d := by
  unfold prog1 law1 mn mx mxL
  congr 1
  · grind
  · grind
theorem prog_run2 {ds : List (Rat × Rat)} (hd : ∀ d ∈ ds, d.1 ≤ 0 ∧ 0 ≤ d.2) : ∀ (s : S), ds.foldl prog1 s = run ds s := by
  induction ds with
  | nil => exact fun s => rfl
  | cons d r ih =>
    intro s
    show r.foldl prog1 (prog1 s d) = run r (law1 s d)
    rw [one_eq2 s d (hd d List.mem_cons_self).2]
    exact ih (fun x hx => hd x (List.mem_cons_of_mem _ hx)) (law1 s d)
end Qb

set_option Elab.async false
set_option linter.all false
set_option maxRecDepth 100000
set_option maxHeartbeats 4000000
/-! the plain law: the law's own going is the program's walk -/
namespace R3
open PySem PySem.Spec PyProof.Rows L2 Evl Dv
open Qa (toF Sx)
/-- one stuff of a walk -/
def Wk.col (s : Wk) (i : Nat) : Qb.S := ⟨s.held[i]?.getD 0, s.least[i]?.getD 0, s.most[i]?.getD 0⟩
structure Wk.Len (s : Wk) (n : Nat) : Prop where
  h : s.held.length = n
  l : s.least.length = n
  u : s.most.length = n
theorem Wk.ext_col {s t : Wk} {n : Nat} (hs : s.Len n) (ht : t.Len n) (h : ∀ i, i < n → s.col i = t.col i) : s = t := by
  obtain ⟨a1, a2, a3⟩ := s
  obtain ⟨b1, b2, b3⟩ := t
  obtain ⟨h1, h2, h3⟩ := hs
  obtain ⟨g1, g2, g3⟩ := ht
  dsimp only at h1 h2 h3 g1 g2 g3
  have key : ∀ (x y : List Rat), x.length = n → y.length = n → (∀ i, i < n → x[i]?.getD 0 = y[i]?.getD 0) → x = y := fun x y hx hy hh => by
    apply List.ext_getElem (by rw [hx, hy])
    intro i i1 i2
    have := hh i (by omega)
    rwa [List.getElem?_eq_getElem i1, List.getElem?_eq_getElem i2] at this
  have e1 := key a1 b1 h1 g1 fun i hi => congrArg Qb.S.h (h i hi)
  have e2 := key a2 b2 h2 g2 fun i hi => congrArg Qb.S.l (h i hi)
  have e3 := key a3 b3 h3 g3 fun i hi => congrArg Qb.S.u (h i hi)
  rw [e1, e2, e3]
theorem zipAt {α β γ : Type} {xs : List α} {ys : List β} {f : α × β → γ} {i : Nat} {d : γ} {a : α} {b : β} (h1 : xs[i]? = some a) (h2 : ys[i]? = some b) : ((xs.zip ys).map f)[i]?.getD d = f (a, b) := by
  rw [List.getElem?_map, (List.getElem?_zip_eq_some (z := (a, b))).mpr ⟨h1, h2⟩] <;> rfl
theorem getR {xs : List Rat} {i : Nat} (h : i < xs.length) : xs[i]? = some (xs[i]?.getD 0) := by
  rw [List.getElem?_eq_getElem h] <;> rfl
theorem Wk.looked_len {s : Wk} {n : Nat} (h : s.Len n) : s.looked.Len n :=
  ⟨h.h, by unfold Wk.looked; rw [List.length_map, List.length_zip, h.h, h.l, Nat.min_self], by unfold Wk.looked; rw [List.length_map, List.length_zip, h.h, h.u, Nat.min_self]⟩
theorem Wk.looked_col {s : Wk} {n i : Nat} (h : s.Len n) (hi : i < n) : s.looked.col i = ⟨(s.col i).h, Qb.mn (s.col i).l (s.col i).h, Qb.mx (s.col i).u (s.col i).h⟩ := by
  unfold Wk.col Wk.looked
  dsimp only
  rw [zipAt (getR (by rw [h.l]; exact hi)) (getR (by rw [h.h]; exact hi)), zipAt (getR (by rw [h.u]; exact hi)) (getR (by rw [h.h]; exact hi))]
  rfl
theorem getI {xs : List Int} {i : Nat} (h : i < xs.length) : xs[i]? = some (xs[i]?.getD 0) := by
  rw [List.getElem?_eq_getElem h] <;> rfl
theorem mvd_at {hs : List Rat} {a : Rat} {ns : List Int} {i : Nat} (h1 : i < hs.length) (h2 : i < ns.length) : (mvd hs a ns)[i]?.getD 0 = hs[i]?.getD 0 + a * ((ns[i]?.getD 0 : Int) : Rat) := by
  unfold mvd
  rw [zipAt (getR h1) (getI h2)]
theorem mvd_length {hs : List Rat} {a : Rat} {ns : List Int} {n : Nat} (h1 : hs.length = n) (h2 : ns.length = n) : (mvd hs a ns).length = n := by
  unfold mvd
  rw [List.length_map, List.length_zip, h1, h2, Nat.min_self]
theorem Wk.done_len {s : Wk} {a : Rat} {tk gv : List Int} {n : Nat} (h : s.Len n) (h1 : tk.length = n) (h2 : gv.length = n) : (s.done a tk gv).Len n := by
  unfold Wk.done
  dsimp only
  have a1 : Wk.Len ⟨mvd s.held a (tk.map fun n => 0 - n), s.least, s.most⟩ n := ⟨mvd_length h.h (by rw [List.length_map, h1]), h.l, h.u⟩
  have a2 := Wk.looked_len a1
  exact Wk.looked_len ⟨mvd_length a2.h h2, a2.l, a2.u⟩
theorem Wk.done_col {s : Wk} {a : Rat} {tk gv : List Int} {n i : Nat} (h : s.Len n) (h1 : tk.length = n) (h2 : gv.length = n) (hi : i < n) :
    (s.done a tk gv).col i = Qb.prog1 (s.col i) (a * ((0 - tk[i]?.getD 0 : Int) : Rat), a * ((gv[i]?.getD 0 : Int) : Rat)) := by
  have a1 : Wk.Len ⟨mvd s.held a (tk.map fun n => 0 - n), s.least, s.most⟩ n := ⟨mvd_length h.h (by rw [List.length_map, h1]), h.l, h.u⟩
  have a2 := Wk.looked_len a1
  have a3 : Wk.Len ⟨mvd (Wk.looked ⟨mvd s.held a (tk.map fun n => 0 - n), s.least, s.most⟩).held a gv, (Wk.looked ⟨mvd s.held a (tk.map fun n => 0 - n), s.least, s.most⟩).least, (Wk.looked ⟨mvd s.held a (tk.map fun n => 0 - n), s.least, s.most⟩).most⟩ n := ⟨mvd_length a2.h h2, a2.l, a2.u⟩
  have c1 := Wk.looked_col a1 hi
  have e1 : (mvd s.held a (tk.map fun n => 0 - n))[i]?.getD 0 = (s.col i).h + a * ((0 - tk[i]?.getD 0 : Int) : Rat) := by
    rw [mvd_at (by rw [h.h]; exact hi) (by rw [List.length_map, h1]; exact hi), List.getElem?_map, getI (by rw [h1]; exact hi)]
    rfl
  unfold Wk.done
  dsimp only
  rw [Wk.looked_col a3 hi]
  have e2 : ∀ l u : List Rat, (Wk.col ⟨mvd (Wk.looked ⟨mvd s.held a (tk.map fun n => 0 - n), s.least, s.most⟩).held a gv, l, u⟩ i).h = (s.col i).h + a * ((0 - tk[i]?.getD 0 : Int) : Rat) + a * ((gv[i]?.getD 0 : Int) : Rat) := fun l u => by
    show (mvd (mvd s.held a (tk.map fun n => 0 - n)) a gv)[i]?.getD 0 = _
    rw [mvd_at (by rw [a1.h]; exact hi) (by rw [h2]; exact hi), e1]
  rw [e2]
  have l1 : (Wk.looked ⟨mvd s.held a (tk.map fun n => 0 - n), s.least, s.most⟩).least[i]?.getD 0 = Qb.mn (s.col i).l ((s.col i).h + a * ((0 - tk[i]?.getD 0 : Int) : Rat)) := by
    have := congrArg Qb.S.l c1
    rw [← e1]
    exact this
  have u1 : (Wk.looked ⟨mvd s.held a (tk.map fun n => 0 - n), s.least, s.most⟩).most[i]?.getD 0 = Qb.mx (s.col i).u ((s.col i).h + a * ((0 - tk[i]?.getD 0 : Int) : Rat)) := by
    have := congrArg Qb.S.u c1
    rw [← e1]
    exact this
  unfold Qb.prog1
  show Qb.S.mk _ (Qb.mn ((Wk.looked ⟨mvd s.held a (tk.map fun n => 0 - n), s.least, s.most⟩).least[i]?.getD 0) _) (Qb.mx ((Wk.looked ⟨mvd s.held a (tk.map fun n => 0 - n), s.least, s.most⟩).most[i]?.getD 0) _) = _
  rw [l1, u1]
/-! ### numbers of a side by the name of the stuff -/
theorem numOf_none {ps : List (Str × Int)} {x : Str} (h : x ∉ ps.map (·.1)) : numOf ps x = 0 := by
  unfold numOf
  rw [List.filter_eq_nil_iff.mpr]
  · rfl
  · intro z hz hd
    exact h (List.mem_map.mpr ⟨z, hz, of_decide_eq_true hd⟩)
theorem numOf_cons {p : Str × Int} {ps : List (Str × Int)} {x : Str} : numOf (p :: ps) x = (if p.1 = x then p.2 else 0) + numOf ps x := by
  unfold numOf
  rw [List.filter_cons]
  by_cases e : p.1 = x
  · rw [if_pos (decide_eq_true e), if_pos e, List.map_cons, List.sum_cons]
  · rw [if_neg (by simp [e]), if_neg e, Int.zero_add]
theorem fold_at (names : List Str) (nd : names.Nodup) : ∀ (ps : List (Str × Int)) (acc : List Int) (i : Nat) (hi : i < names.length), acc.length = names.length → (ps.map (·.1)).Nodup → (∀ p ∈ ps, p.1 ∈ names) → 
    (ps.foldl (fun acc p => acc.set (names.idxOf p.1) p.2) acc)[i]?.getD 0 = if names[i] ∈ ps.map (·.1) then numOf ps names[i] else acc[i]?.getD 0
  | [], acc, i, hi, _, _, _ => by simp
  | p :: ps, acc, i, hi, hl, hn, hm => by
    rw [List.map_cons, List.nodup_cons] at hn
    have hp := hm p List.mem_cons_self
    have hx : names.idxOf p.1 < names.length := List.idxOf_lt_length_of_mem hp
    rw [List.foldl_cons, fold_at names nd ps _ i hi (by rw [List.length_set, hl]) hn.2 fun q hq => hm q (List.mem_cons_of_mem _ hq), numOf_cons, List.map_cons]
    by_cases e : p.1 = names[i]
    · have ei : names.idxOf p.1 = i := by rw [e]; exact nd.idxOf_getElem i hi
      rw [if_neg (by rw [← e]; exact hn.1), if_pos (by rw [e]; exact List.mem_cons_self), if_pos e, numOf_none (by rw [← e]; exact hn.1), ei, List.getElem?_set_self (by omega), Option.getD_some, Int.add_zero]
    · have ne : names.idxOf p.1 ≠ i := fun z => e (by
        have := List.getElem_idxOf hx
        rw [← this]
        congr 1)
      rw [if_neg e, Int.zero_add, List.getElem?_set_ne ne]
      by_cases f : names[i] ∈ ps.map (·.1)
      · rw [if_pos f, if_pos (List.mem_cons_of_mem _ f)]
      · rw [if_neg f, if_neg (fun z => by
          rcases List.mem_cons.mp z with z | z
          · exact e z.symm
          · exact f z)]
theorem numbers_at {names : List Str} (nd : names.Nodup) {ps : List (Str × Int)} {i : Nat} (hi : i < names.length) (hs : (ps.map (·.1)).Sublist names) : (numbersOf names ps)[i]?.getD 0 = numOf ps names[i] := by
  unfold numbersOf
  rw [fold_at names nd ps _ i hi (by rw [List.length_replicate]) (nd.sublist hs) fun p hp => hs.subset (List.mem_map.mpr ⟨p, hp, rfl⟩)]
  split
  · rfl
  · rename_i h
    rw [numOf_none h, List.getElem?_replicate, if_pos hi] <;> rfl
/-! ### what a step does to one stuff -/
def dOf (m : MillD) (i : Nat) (z : Str × Rat) : Rat × Rat := (z.2 * ((0 - (m.col z.1).1[i]?.getD 0 : Int) : Rat), z.2 * (((m.col z.1).2[i]?.getD 0 : Int) : Rat))
/-- sides with each name once, of numbers not below 0 -/
structure Sided (m : MillD) : Prop where
  ok : m.Ok
  ro : ∀ r ∈ m.recipes, SideOk m.names r.2.1 ∧ SideOk m.names r.2.2
theorem side_nonneg {names : List Str} {s : List (Str × Int)} (h : SideOk names s) (x : Str) : 0 ≤ numOf s x := by
  have key : ∀ ps : List (Str × Int), (∀ z ∈ ps, 1 ≤ z.2 ∧ z.2 ≤ 3) → 0 ≤ numOf ps x := by
    intro ps
    induction ps with
    | nil => intro _; exact Int.le_refl _
    | cons p ps ih =>
      intro hh
      rw [numOf_cons]
      have h1 := ih fun z hz => hh z (List.mem_cons_of_mem _ hz)
      have h2 := (hh p List.mem_cons_self).1
      split <;> omega
  exact key s h.num
theorem Sided.at {m : MillD} (sd : Sided m) {nm : Str} (h : nm ∈ m.titles) : ∃ r, r ∈ m.recipes ∧ m.recipes[m.titles.idxOf nm]? = some r ∧ (m.col nm).1.length = m.stuffs.length ∧ (m.col nm).2.length = m.stuffs.length ∧ ∀ i (hi : i < m.names.length), (m.col nm).1[i]?.getD 0 = numOf r.2.1 m.names[i] ∧ (m.col nm).2[i]?.getD 0 = numOf r.2.2 m.names[i] ∧ 0 ≤ numOf r.2.1 m.names[i] ∧ 0 ≤ numOf r.2.2 m.names[i] := by
  obtain ⟨r, h1, h2, h3, h4⟩ := col_mem h
  have hl : m.names.length = m.stuffs.length := by unfold MillD.names; rw [List.length_map]
  have hr := sd.ro r h1
  refine ⟨r, h1, h2, by rw [h4, numbersOf_len, hl], by rw [h4, numbersOf_len, hl], fun i hi => ?_⟩
  rw [h4]
  exact ⟨numbers_at sd.ok.sn hi hr.1.sub, numbers_at sd.ok.sn hi hr.2.sub, side_nonneg hr.1 _, side_nonneg hr.2 _⟩
theorem dOf_sign {m : MillD} (sd : Sided m) {z : Str × Rat} (h : z.1 ∈ m.titles) (p : 0 < z.2) {i : Nat} (hi : i < m.names.length) : (dOf m i z).1 ≤ 0 ∧ 0 ≤ (dOf m i z).2 := by
  obtain ⟨r, _, _, _, _, hh⟩ := sd.at h
  obtain ⟨e1, e2, n1, n2⟩ := hh i hi
  unfold dOf
  dsimp only
  rw [e1, e2]
  have p' : 0 ≤ z.2 := Rat.le_of_lt p
  refine ⟨?_, Rat.mul_nonneg p' (by exact_mod_cast n2)⟩
  have h0 : (0 : Rat) ≤ ((numOf r.2.1 m.names[i] : Int) : Rat) := by exact_mod_cast n1
  have := Rat.mul_nonneg p' h0
  have e : ((0 - numOf r.2.1 m.names[i] : Int) : Rat) = - ((numOf r.2.1 m.names[i] : Int) : Rat) := by
    rw [Int.zero_sub, Rat.intCast_neg]
  rw [e]
  grind
end R3

set_option Elab.async false
set_option linter.all false
set_option maxRecDepth 100000
set_option maxHeartbeats 4000000
/-! the plain law: the law's own going is the program's walk, row by row -/
namespace R3
open PySem PySem.Spec PyProof.Rows L2 Evl Dv
open Qa (toF Sx)
/-- the law's step without its look -/
def stepF (m : MillD) (s : Wk) (z : Str × Rat) : Wk := match m.recipes[m.titles.idxOf z.1]? with
  | none => s
  | some r => ⟨(m.stuffs.zip s.held).map (morOf r.2.1 r.2.2 z.2), (s.least.zip ((m.stuffs.zip s.held).map (lowOf r.2.1 z.2))).map fun p => minR p.1 p.2, (s.most.zip ((m.stuffs.zip s.held).map (morOf r.2.1 r.2.2 z.2))).map fun p => maxL p.1 p.2⟩
def fitAt (o : Option Int) (c : Qb.S) : Prop := 0 ≤ c.l ∧ roomOk o c.u = true
theorem fits_iff {m : MillD} {s : Wk} (h : s.Len m.stuffs.length) : s.fits m = true ↔ ∀ i (hi : i < m.stuffs.length), fitAt m.stuffs[i].2 (s.col i) := by
  unfold Wk.fits
  rw [Bool.and_eq_true, List.all_eq_true, List.all_eq_true]
  constructor
  · rintro ⟨h1, h2⟩ i hi
    have hl : i < s.least.length := by rw [h.l]; exact hi
    have hu : i < s.most.length := by rw [h.u]; exact hi
    have e1 : (s.col i).l = s.least[i] := by unfold Wk.col; dsimp only; rw [List.getElem?_eq_getElem hl] <;> rfl
    have e2 : (s.col i).u = s.most[i] := by unfold Wk.col; dsimp only; rw [List.getElem?_eq_getElem hu] <;> rfl
    refine ⟨?_, ?_⟩
    · have := h1 _ (List.getElem_mem hl)
      rw [e1]
      have h3 : ¬ s.least[i] < 0 := fun z => by rw [decide_eq_true z] at this; cases this
      exact Rat.not_lt.mp h3
    · have hz : i < (m.stuffs.zip s.most).length := by rw [List.length_zip, h.u, Nat.min_self]; exact hi
      have := h2 _ (List.getElem_mem hz)
      rw [List.getElem_zip] at this
      rw [e2]
      exact this
  · intro hh
    refine ⟨fun q hq => ?_, fun z hz => ?_⟩
    · obtain ⟨i, hi, rfl⟩ := List.mem_iff_getElem.mp hq
      have h1 := (hh i (by rw [← h.l]; exact hi)).1
      have e1 : (s.col i).l = s.least[i] := by unfold Wk.col; dsimp only; rw [List.getElem?_eq_getElem hi] <;> rfl
      rw [e1] at h1
      rw [decide_eq_false (Rat.not_lt.mpr h1)]
      rfl
    · obtain ⟨i, hi, rfl⟩ := List.mem_iff_getElem.mp hz
      rw [List.length_zip, h.u, Nat.min_self] at hi
      have h1 := (hh i hi).2
      have hu : i < s.most.length := by rw [h.u]; exact hi
      have e2 : (s.col i).u = s.most[i] := by unfold Wk.col; dsimp only; rw [List.getElem?_eq_getElem hu] <;> rfl
      rw [e2] at h1
      rw [List.getElem_zip]
      exact h1
theorem roomOk_mx {o : Option Int} {a b : Rat} : roomOk o (Qb.mxL a b) = true ↔ roomOk o a = true ∧ roomOk o b = true := by
  cases o with
  | none => simp [roomOk]
  | some k =>
    simp only [roomOk, Bool.not_eq_true', decide_eq_false_iff_not, Rat.not_lt]
    unfold Qb.mxL
    constructor
    · intro h
      split at h <;> constructor <;> grind
    · rintro ⟨h1, h2⟩
      split <;> assumption
theorem le_mn {a b : Rat} : 0 ≤ Qb.mn a b ↔ 0 ≤ a ∧ 0 ≤ b := by
  unfold Qb.mn
  constructor
  · intro h
    split at h <;> constructor <;> grind
  · rintro ⟨h1, h2⟩
    split <;> assumption
theorem stepF_len {m : MillD} {s : Wk} {z : Str × Rat} (h : s.Len m.stuffs.length) : (stepF m s z).Len m.stuffs.length := by
  unfold stepF
  split
  · exact h
  · have zl : (m.stuffs.zip s.held).length = m.stuffs.length := by rw [List.length_zip, h.h, Nat.min_self]
    exact ⟨by rw [List.length_map, zl], by rw [List.length_map, List.length_zip, List.length_map, zl, h.l, Nat.min_self], by rw [List.length_map, List.length_zip, List.length_map, zl, h.u, Nat.min_self]⟩
theorem names_at {m : MillD} {i : Nat} (hi : i < m.stuffs.length) (hn : i < m.names.length) : m.names[i] = m.stuffs[i].1 := by
  have : ∀ (l : List Str) (h : i < l.length), l = m.stuffs.map (·.1) → l[i] = m.stuffs[i].1 := fun l h e => by
    subst e
    rw [List.getElem_map]
  exact this _ hn rfl
theorem low_eq {m : MillD} {i : Nat} {nm : Str} {a : Rat} {tk gv : List (Str × Int)} {h : Rat} (hi : i < m.stuffs.length) (hn : i < m.names.length) (e1 : (m.col nm).1[i]?.getD 0 = numOf tk m.names[i]) : lowOf tk a (m.stuffs[i], h) = h + (dOf m i (nm, a)).1 := by
  unfold lowOf dOf
  dsimp only
  rw [e1]
  rw [names_at hi hn]
theorem mor_eq {m : MillD} {i : Nat} {nm : Str} {a : Rat} {tk gv : List (Str × Int)} {h : Rat} (hi : i < m.stuffs.length) (hn : i < m.names.length) (e1 : (m.col nm).1[i]?.getD 0 = numOf tk m.names[i]) (e2 : (m.col nm).2[i]?.getD 0 = numOf gv m.names[i]) : morOf tk gv a (m.stuffs[i], h) = h + (dOf m i (nm, a)).1 + (dOf m i (nm, a)).2 := by
  unfold morOf
  rw [low_eq (gv := gv) hi hn e1]
  unfold dOf
  dsimp only
  rw [e2]
  rw [names_at hi hn]
theorem stepF_col {m : MillD} {s : Wk} {z : Str × Rat} (sd : Sided m) (hz : z.1 ∈ m.titles) (h : s.Len m.stuffs.length) {i : Nat} (hi : i < m.stuffs.length) : (stepF m s z).col i = Qb.law1 (s.col i) (dOf m i z) := by
  obtain ⟨nm, a⟩ := z
  obtain ⟨r, h1, h2, h3, h4, hh⟩ := sd.at hz
  have hn : i < m.names.length := by unfold MillD.names; rw [List.length_map]; exact hi
  obtain ⟨e1, e2, _, _⟩ := hh i hn
  unfold stepF
  rw [h2]
  dsimp only
  have hs : m.stuffs[i]? = some m.stuffs[i] := List.getElem?_eq_getElem hi
  have hh' := getR (xs := s.held) (i := i) (by rw [h.h]; exact hi)
  have a1 : ((m.stuffs.zip s.held).map (lowOf r.2.1 a))[i]? = some ((s.col i).h + (dOf m i (nm, a)).1) := by
    rw [List.getElem?_map, (List.getElem?_zip_eq_some (z := (m.stuffs[i], s.held[i]?.getD 0))).mpr ⟨hs, hh'⟩, Option.map_some, low_eq (gv := r.2.2) hi hn e1] <;> rfl
  have a2 : ((m.stuffs.zip s.held).map (morOf r.2.1 r.2.2 a))[i]? = some ((s.col i).h + (dOf m i (nm, a)).1 + (dOf m i (nm, a)).2) := by
    rw [List.getElem?_map, (List.getElem?_zip_eq_some (z := (m.stuffs[i], s.held[i]?.getD 0))).mpr ⟨hs, hh'⟩, Option.map_some, mor_eq hi hn e1 e2] <;> rfl
  unfold Wk.col
  dsimp only
  rw [zipAt (getR (by rw [h.l]; exact hi)) a1, zipAt (getR (by rw [h.u]; exact hi)) a2, a2]
  rfl
/-- a step is refused exactly if it does not fit behind it -/
theorem stepG_eq {m : MillD} {s : Wk} {t : Tot} {z : Str × Rat} (sd : Sided m) (hz : z.1 ∈ m.titles) (h : s.Len m.stuffs.length) (hf : s.fits m = true) :
    stepG m ⟨s, t⟩ z = if (stepF m s z).fits m = true then some ⟨stepF m s z, addQ t z.1 z.2⟩ else none := by
  obtain ⟨nm, a⟩ := z
  obtain ⟨r, h1, h2, h3, h4, hh⟩ := sd.at hz
  have key : ((m.stuffs.zip s.held).all (okOf r.2.1 r.2.2 a)) = true ↔ (stepF m s (nm, a)).fits m = true := by
    rw [fits_iff (stepF_len h), List.all_eq_true]
    have hf' := (fits_iff h).mp hf
    constructor
    · intro hk i hi
      have hn : i < m.names.length := by unfold MillD.names; rw [List.length_map]; exact hi
      obtain ⟨e1, e2, _, _⟩ := hh i hn
      have hz' : i < (m.stuffs.zip s.held).length := by rw [List.length_zip, h.h, Nat.min_self]; exact hi
      have hk1 := hk _ (List.getElem_mem hz')
      rw [List.getElem_zip] at hk1
      have hg : s.held[i]'(by rw [h.h]; exact hi) = (s.col i).h := by unfold Wk.col; dsimp only; rw [List.getElem?_eq_getElem (by rw [h.h]; exact hi)] <;> rfl
      rw [hg] at hk1
      unfold okOf at hk1
      rw [low_eq (gv := r.2.2) hi hn e1, mor_eq hi hn e1 e2, Bool.and_eq_true] at hk1
      rw [stepF_col sd hz h hi]
      obtain ⟨f1, f2⟩ := hf' i hi
      refine ⟨le_mn.mpr ⟨f1, ?_⟩, roomOk_mx.mpr ⟨f2, hk1.2⟩⟩
      refine Rat.not_lt.mp fun w => ?_
      rw [decide_eq_true w] at hk1
      cases hk1.1
    · intro hk q hq
      obtain ⟨i, hi', rfl⟩ := List.mem_iff_getElem.mp hq
      have hi : i < m.stuffs.length := by rw [List.length_zip, h.h, Nat.min_self] at hi'; exact hi'
      have hn : i < m.names.length := by unfold MillD.names; rw [List.length_map]; exact hi
      obtain ⟨e1, e2, _, _⟩ := hh i hn
      rw [List.getElem_zip]
      have hg : s.held[i]'(by rw [h.h]; exact hi) = (s.col i).h := by unfold Wk.col; dsimp only; rw [List.getElem?_eq_getElem (by rw [h.h]; exact hi)] <;> rfl
      rw [hg]
      unfold okOf
      rw [low_eq (gv := r.2.2) hi hn e1, mor_eq hi hn e1 e2, Bool.and_eq_true]
      have hk1 := hk i hi
      rw [stepF_col sd hz h hi] at hk1
      have k1 := (le_mn.mp hk1.1).2
      have k2 := (roomOk_mx.mp hk1.2).2
      refine ⟨?_, k2⟩
      rw [decide_eq_false (Rat.not_lt.mpr k1)]
      rfl
  unfold stepG stepL
  dsimp only
  rw [h2]
  dsimp only
  by_cases hk : ((m.stuffs.zip s.held).all (okOf r.2.1 r.2.2 a)) = true
  · rw [if_pos hk, if_pos (key.mp hk)]
    dsimp only
    have : stepF m s (nm, a) = ⟨(m.stuffs.zip s.held).map (morOf r.2.1 r.2.2 a), (s.least.zip ((m.stuffs.zip s.held).map (lowOf r.2.1 a))).map fun p => minR p.1 p.2, (s.most.zip ((m.stuffs.zip s.held).map (morOf r.2.1 r.2.2 a))).map fun p => maxL p.1 p.2⟩ := by
      unfold stepF
      rw [h2]
    rw [this]
  · rw [if_neg hk, if_neg (fun w => hk (key.mpr w))]
theorem stepF_fits {m : MillD} {s : Wk} {z : Str × Rat} (sd : Sided m) (hz : z.1 ∈ m.titles) (h : s.Len m.stuffs.length) (hf : (stepF m s z).fits m = true) : s.fits m = true := by
  rw [fits_iff h]
  intro i hi
  have := (fits_iff (stepF_len h)).mp hf i hi
  rw [stepF_col sd hz h hi] at this
  exact ⟨(le_mn.mp this.1).1, (roomOk_mx.mp this.2).1⟩
def stepsF (m : MillD) (ss : List (Str × Rat)) (s : Wk) : Wk := ss.foldl (stepF m) s
def stepsT (ss : List (Str × Rat)) (t : Tot) : Tot := ss.foldl (fun t z => addQ t z.1 z.2) t
theorem stepsF_len {m : MillD} : ∀ {ss : List (Str × Rat)} {s : Wk}, s.Len m.stuffs.length → (stepsF m ss s).Len m.stuffs.length
  | [], _, h => h
  | z :: r, s, h => stepsF_len (ss := r) (stepF_len h)
theorem stepsF_col {m : MillD} (sd : Sided m) {i : Nat} (hi : i < m.stuffs.length) : ∀ {ss : List (Str × Rat)} {s : Wk}, (∀ z ∈ ss, z.1 ∈ m.titles) → s.Len m.stuffs.length → (stepsF m ss s).col i = Qb.run (ss.map (dOf m i)) (s.col i)
  | [], _, _, _ => rfl
  | z :: r, s, hs, h => by
    show (stepsF m r (stepF m s z)).col i = Qb.run (r.map (dOf m i)) (Qb.law1 (s.col i) (dOf m i z))
    rw [stepsF_col sd hi (fun y hy => hs y (List.mem_cons_of_mem _ hy)) (stepF_len h), stepF_col sd (hs z List.mem_cons_self) h hi]
theorem stepsF_fits {m : MillD} (sd : Sided m) : ∀ {ss : List (Str × Rat)} {s : Wk}, (∀ z ∈ ss, z.1 ∈ m.titles) → s.Len m.stuffs.length → (stepsF m ss s).fits m = true → s.fits m = true
  | [], _, _, _, h => h
  | z :: r, s, hs, h, hf => stepF_fits sd (hs z List.mem_cons_self) h (stepsF_fits sd (ss := r) (fun y hy => hs y (List.mem_cons_of_mem _ hy)) (stepF_len h) hf)
theorem stepsG_eq {m : MillD} (sd : Sided m) : ∀ {ss : List (Str × Rat)} {s : Wk} {t : Tot}, (∀ z ∈ ss, z.1 ∈ m.titles) → s.Len m.stuffs.length → s.fits m = true →
    stepsG m ⟨s, t⟩ ss = if (stepsF m ss s).fits m = true then some ⟨stepsF m ss s, stepsT ss t⟩ else none
  | [], s, t, _, _, hf => by
    show some _ = if s.fits m = true then _ else _
    rw [if_pos hf] <;> rfl
  | z :: r, s, t, hs, h, hf => by
    have hr : ∀ y ∈ r, y.1 ∈ m.titles := fun y hy => hs y (List.mem_cons_of_mem _ hy)
    rw [stepsG_cons, stepG_eq sd (hs z List.mem_cons_self) h hf]
    by_cases hk : (stepF m s z).fits m = true
    · rw [if_pos hk, Option.bind_some, stepsG_eq sd hr (stepF_len h) hk] <;> rfl
    · rw [if_neg hk, Option.bind_none, if_neg]
      exact fun w => hk (stepsF_fits sd hr (stepF_len h) w)
def turnsF (m : MillD) (ss : List (Str × Rat)) : Nat → Wk → Wk
  | 0, s => s
  | k + 1, s => turnsF m ss k (stepsF m ss s)
def turnsT (ss : List (Str × Rat)) : Nat → Tot → Tot
  | 0, t => t
  | k + 1, t => turnsT ss k (stepsT ss t)
theorem turnsF_len {m : MillD} {ss : List (Str × Rat)} : ∀ {k : Nat} {s : Wk}, s.Len m.stuffs.length → (turnsF m ss k s).Len m.stuffs.length
  | 0, _, h => h
  | k + 1, s, h => turnsF_len (k := k) (stepsF_len h)
theorem turnsF_col {m : MillD} (sd : Sided m) {ss : List (Str × Rat)} (hs : ∀ z ∈ ss, z.1 ∈ m.titles) {i : Nat} (hi : i < m.stuffs.length) : ∀ {k : Nat} {s : Wk}, s.Len m.stuffs.length → (turnsF m ss k s).col i = Qb.turns (ss.map (dOf m i)) k (s.col i)
  | 0, _, _ => rfl
  | k + 1, s, h => by
    show (turnsF m ss k (stepsF m ss s)).col i = Qb.turns _ k (Qb.run _ (s.col i))
    rw [turnsF_col sd hs hi (stepsF_len h), stepsF_col sd hi hs h]
theorem turnsF_fits {m : MillD} (sd : Sided m) {ss : List (Str × Rat)} (hs : ∀ z ∈ ss, z.1 ∈ m.titles) : ∀ {k : Nat} {s : Wk}, s.Len m.stuffs.length → (turnsF m ss k s).fits m = true → s.fits m = true
  | 0, _, _, h => h
  | k + 1, s, h, hf => stepsF_fits sd hs h (turnsF_fits sd hs (k := k) (stepsF_len h) hf)
theorem turnsG_eq {m : MillD} (sd : Sided m) {ss : List (Str × Rat)} (hs : ∀ z ∈ ss, z.1 ∈ m.titles) : ∀ {k : Nat} {s : Wk} {t : Tot}, s.Len m.stuffs.length → s.fits m = true →
    turnsG m ss k ⟨s, t⟩ = if (turnsF m ss k s).fits m = true then some ⟨turnsF m ss k s, turnsT ss k t⟩ else none
  | 0, s, t, _, hf => by
    show some _ = if s.fits m = true then _ else _
    rw [if_pos hf] <;> rfl
  | k + 1, s, t, h, hf => by
    rw [turnsG_succ, stepsG_eq sd hs h hf]
    by_cases hk : (stepsF m ss s).fits m = true
    · rw [if_pos hk, Option.bind_some, turnsG_eq sd hs (stepsF_len h) hk] <;> rfl
    · rw [if_neg hk, Option.bind_none, if_neg]
      exact fun w => hk (turnsF_fits sd hs (stepsF_len h) w)
/-! ### the program's block is so many turns -/
theorem once_len {m : MillD} (sd : Sided m) : ∀ {ss : List (Str × Rat)} {s : Wk}, (∀ z ∈ ss, z.1 ∈ m.titles) → s.Len m.stuffs.length → (Wk.once m s ss).Len m.stuffs.length
  | [], _, _, h => h
  | z :: r, s, hs, h => by
    obtain ⟨_, _, _, h3, h4, _⟩ := sd.at (hs z List.mem_cons_self)
    exact once_len sd (ss := r) (fun y hy => hs y (List.mem_cons_of_mem _ hy)) (Wk.done_len h h3 h4)
theorem once_col {m : MillD} (sd : Sided m) {i : Nat} (hi : i < m.stuffs.length) : ∀ {ss : List (Str × Rat)} {s : Wk}, (∀ z ∈ ss, z.1 ∈ m.titles) → s.Len m.stuffs.length → (Wk.once m s ss).col i = (ss.map (dOf m i)).foldl Qb.prog1 (s.col i)
  | [], _, _, _ => rfl
  | z :: r, s, hs, h => by
    obtain ⟨_, _, _, h3, h4, _⟩ := sd.at (hs z List.mem_cons_self)
    show (Wk.once m (s.done z.2 (m.col z.1).1 (m.col z.1).2) r).col i = (r.map (dOf m i)).foldl Qb.prog1 (Qb.prog1 (s.col i) (dOf m i z))
    rw [once_col sd hi (fun y hy => hs y (List.mem_cons_of_mem _ hy)) (Wk.done_len h h3 h4), Wk.done_col h h3 h4 hi]
    rfl
theorem dOfs_sign {m : MillD} (sd : Sided m) {ss : List (Str × Rat)} (hs : ∀ z ∈ ss, z.1 ∈ m.titles ∧ 0 < z.2) {i : Nat} (hi : i < m.stuffs.length) : ∀ d ∈ ss.map (dOf m i), d.1 ≤ 0 ∧ 0 ≤ d.2 := by
  intro d hd
  obtain ⟨z, hz, rfl⟩ := List.mem_map.mp hd
  exact dOf_sign sd (hs z hz).1 (hs z hz).2 (by unfold MillD.names; rw [List.length_map]; exact hi)
theorem once_run {m : MillD} (sd : Sided m) {ss : List (Str × Rat)} {s : Wk} (hs : ∀ z ∈ ss, z.1 ∈ m.titles ∧ 0 < z.2) (h : s.Len m.stuffs.length) {i : Nat} (hi : i < m.stuffs.length) : (Wk.once m s ss).col i = Qb.run (ss.map (dOf m i)) (s.col i) := by
  rw [once_col sd hi (fun z hz => (hs z hz).1) h, Qb.prog_run2 (dOfs_sign sd hs hi)]
theorem jump_at {s s1 : Wk} {n k i : Nat} (h : s.Len n) (h1 : s1.Len n) (hi : i < n) : (s.jump s1 k)[i]?.getD 0 = (s.col i).h + ((s1.col i).h - (s.col i).h) * (((k : Int) - 1 : Int) : Rat) := by
  unfold Wk.jump
  have a1 := getR (xs := s.held) (i := i) (by rw [h.h]; exact hi)
  have a2 := getR (xs := s1.held) (i := i) (by rw [h1.h]; exact hi)
  have a3 : ((s1.held.zip s.held).map fun z => z.1 - z.2)[i]? = some ((s1.col i).h - (s.col i).h) := by
    rw [List.getElem?_map, (List.getElem?_zip_eq_some (z := (s1.held[i]?.getD 0, s.held[i]?.getD 0))).mpr ⟨a2, a1⟩] <;> rfl
  rw [zipAt a1 a3]
  rfl
theorem jump_len {s s1 : Wk} {n k : Nat} (h : s.Len n) (h1 : s1.Len n) : (s.jump s1 k).length = n := by
  unfold Wk.jump
  rw [List.length_map, List.length_zip, List.length_map, List.length_zip, h.h, h1.h, Nat.min_self, Nat.min_self]
theorem led_len {m : MillD} (sd : Sided m) {b : BlkD} {s : Wk} (hs : ∀ z ∈ b.2, z.1 ∈ m.titles) (h : s.Len m.stuffs.length) : (s.led m b).Len m.stuffs.length := by
  unfold Wk.led
  dsimp only
  have h1 := once_len sd hs h
  split
  · exact once_len sd hs ⟨jump_len h h1, h1.l, h1.u⟩
  · exact h1
theorem led_col {m : MillD} (sd : Sided m) {b : BlkD} {s : Wk} (hs : ∀ z ∈ b.2, z.1 ∈ m.titles ∧ 0 < z.2) (h1 : 1 ≤ b.1) (hne : b.2 ≠ []) (h : s.Len m.stuffs.length) {i : Nat} (hi : i < m.stuffs.length) : (s.led m b).col i = Qb.turns (b.2.map (dOf m i)) b.1 (s.col i) := by
  obtain ⟨k, ss⟩ := b
  dsimp only at hs h1 hne ⊢
  have hs1 : ∀ z ∈ ss, z.1 ∈ m.titles := fun z hz => (hs z hz).1
  have o1 := once_len sd hs1 h
  have c1 := once_run sd hs h hi
  unfold Wk.led
  dsimp only
  by_cases hk : 1 < k
  · rw [if_pos hk]
    obtain ⟨k, rfl⟩ : ∃ j, k = j + 2 := ⟨k - 2, by omega⟩
    have jl : Wk.Len ⟨s.jump (s.once m ss) (k + 2), (s.once m ss).least, (s.once m ss).most⟩ m.stuffs.length := ⟨jump_len h o1, o1.l, o1.u⟩
    have cj : Wk.col ⟨s.jump (s.once m ss) (k + 2), (s.once m ss).least, (s.once m ss).most⟩ i = ⟨(s.col i).h + ((Qb.run (ss.map (dOf m i)) (s.col i)).h - (s.col i).h) * ((k + 1 : Nat) : Rat), (Qb.run (ss.map (dOf m i)) (s.col i)).l, (Qb.run (ss.map (dOf m i)) (s.col i)).u⟩ := by
      unfold Wk.col
      dsimp only
      rw [jump_at h o1 hi]
      have e1 := c1
      have e2 : (((k + 2 : Nat) : Int) - 1 : Int) = ((k + 1 : Nat) : Int) := by omega
      rw [e2, Rat.intCast_natCast, e1]
      have e3 : (s.once m ss).least[i]?.getD 0 = (Qb.run (ss.map (dOf m i)) (s.col i)).l := congrArg Qb.S.l c1
      have e4 : (s.once m ss).most[i]?.getD 0 = (Qb.run (ss.map (dOf m i)) (s.col i)).u := congrArg Qb.S.u c1
      rw [e3, e4]
      rfl
    have hne' : ss.map (dOf m i) ≠ [] := fun z => hne (List.map_eq_nil_iff.mp z)
    rw [Qb.block_eq hne' k (s.col i), once_run sd hs jl hi, cj]
  · rw [if_neg hk, c1]
    obtain rfl : k = 1 := by omega
    rfl
theorem led_turns {m : MillD} (sd : Sided m) {b : BlkD} {s : Wk} (hs : ∀ z ∈ b.2, z.1 ∈ m.titles ∧ 0 < z.2) (h1 : 1 ≤ b.1) (hne : b.2 ≠ []) (h : s.Len m.stuffs.length) : s.led m b = turnsF m b.2 b.1 s :=
  Wk.ext_col (led_len sd (fun z hz => (hs z hz).1) h) (turnsF_len h) fun i hi => by
    rw [led_col sd hs h1 hne h hi, turnsF_col sd (fun z hz => (hs z hz).1) hi h]
def rowT (bs : List BlkD) (t : Tot) : Tot := bs.foldl (fun t b => turnsT b.2 b.1 t) t
/-- the law's own going is the program's walk -/
theorem rowG_eq {m : MillD} (sd : Sided m) : ∀ {bs : List BlkD} {s : Wk} {t : Tot}, (∀ b ∈ bs, 1 ≤ b.1 ∧ b.2 ≠ [] ∧ ∀ z ∈ b.2, z.1 ∈ m.titles ∧ 0 < z.2) → s.Len m.stuffs.length → s.fits m = true → rowG m ⟨s, t⟩ bs = (Wk.row m s bs).map fun s' => ⟨s', rowT bs t⟩
  | [], s, t, _, _, _ => rfl
  | b :: r, s, t, hb, h, hf => by
    obtain ⟨h1, hne, hs⟩ := hb b List.mem_cons_self
    have hs1 : ∀ z ∈ b.2, z.1 ∈ m.titles := fun z hz => (hs z hz).1
    rw [rowG_cons, turnsG_eq sd hs1 h hf]
    show _ = (if (s.led m b).fits m then Wk.row m (s.led m b) r else none).map _
    rw [led_turns sd hs h1 hne h]
    by_cases hk : (turnsF m b.2 b.1 s).fits m = true
    · rw [if_pos hk, if_pos hk, Option.bind_some, rowG_eq sd (bs := r) (fun c hc => hb c (List.mem_cons_of_mem _ hc)) (turnsF_len h) hk]
      rfl
    · rw [if_neg hk, if_neg hk]
      rfl
end R3

set_option Elab.async false
set_option linter.all false
set_option maxRecDepth 100000
set_option maxHeartbeats 4000000
/-! the plain law: sums, and what is told is what is due -/
namespace R3
open PySem PySem.Spec PyProof.Rows L2 Evl Dv
open Qa (toF Sx)
def val (t : Tot) (x : Str) : Rat := (getQ t x).getD 0
theorem getQ_cons {p : Str × Rat} {r : Tot} {y : Str} : getQ (p :: r) y = if p.1 = y then some p.2 else getQ r y := by
  unfold getQ
  rw [List.find?_cons]
  by_cases e : p.1 = y
  · rw [if_pos e, decide_eq_true e] <;> rfl
  · rw [if_neg e, decide_eq_false e]
theorem getQ_map (x y : Str) (q : Rat) : ∀ (ps : Tot), getQ (ps.map fun p => if p.1 = x then (p.1, q) else p) y = if y = x then (getQ ps y).map (fun _ => q) else getQ ps y
  | [] => by simp [getQ]
  | p :: r => by
    rw [List.map_cons, getQ_cons, getQ_cons, getQ_map x y q r]
    by_cases e : p.1 = x
    · rw [if_pos e]
      dsimp only
      by_cases f : p.1 = y
      · rw [if_pos f, if_pos f, if_pos (f.symm.trans e)] <;> rfl
      · rw [if_neg f, if_neg f]
    · rw [if_neg e]
      by_cases f : p.1 = y
      · rw [if_pos f, if_pos f, if_neg (fun w => e (f.trans w))]
      · rw [if_neg f, if_neg f]
theorem getQ_app (x y : Str) (q : Rat) : ∀ (ps : Tot), getQ (ps ++ [(x, q)]) y = (getQ ps y).or (if x = y then some q else none)
  | [] => by
    rw [List.nil_append, getQ_cons]
    simp [getQ]
  | p :: r => by
    rw [List.cons_append, getQ_cons, getQ_cons, getQ_app x y q r]
    by_cases f : p.1 = y
    · rw [if_pos f, if_pos f] <;> rfl
    · rw [if_neg f, if_neg f]
theorem getQ_none {ps : Tot} {x : Str} (h : (ps.any fun p => decide (p.1 = x)) = false) : getQ ps x = none := by
  unfold getQ
  rw [Option.map_eq_none_iff, List.find?_eq_none]
  intro p hp w
  rw [List.any_eq_false] at h
  exact h p hp w
theorem getQ_isSome {ps : Tot} {x : Str} (h : (ps.any fun p => decide (p.1 = x)) = true) : ∃ q, getQ ps x = some q := by
  obtain ⟨p, hp, he⟩ := List.any_eq_true.mp h
  obtain ⟨q, h1, _⟩ := getQ_some (ps := ps) (x := x) (List.mem_map.mpr ⟨p, hp, of_decide_eq_true he⟩)
  exact ⟨q, h1⟩
theorem val_put (t : Tot) (x y : Str) (q : Rat) : val (putQ t x q) y = if y = x then q else val t y := by
  unfold val putQ
  by_cases h : (t.any fun p => decide (p.1 = x)) = true
  · rw [if_pos h, getQ_map]
    by_cases e : y = x
    · obtain ⟨r, hr⟩ := getQ_isSome h
      rw [if_pos e, if_pos e, e, hr] <;> rfl
    · rw [if_neg e, if_neg e]
  · rw [if_neg h, getQ_app]
    by_cases e : y = x
    · rw [if_pos e, e, getQ_none (Bool.eq_false_iff.mpr h), if_pos rfl] <;> rfl
    · rw [if_neg e, if_neg (fun w => e w.symm)]
      cases getQ t y <;> rfl
theorem val_add (t : Tot) (x y : Str) (q : Rat) : val (addQ t x q) y = val t y + if x = y then q else 0 := by
  unfold addQ
  rw [val_put]
  by_cases e : y = x
  · rw [if_pos e, if_pos e.symm, e] <;> rfl
  · rw [if_neg e, if_neg (fun w => e w.symm), Rat.add_zero]
def sumAt : List (Str × Rat) → Str → Rat
  | [], _ => 0
  | z :: r, y => (if z.1 = y then z.2 else 0) + sumAt r y
theorem val_steps (y : Str) : ∀ (ss : List (Str × Rat)) (t : Tot), val (stepsT ss t) y = val t y + sumAt ss y
  | [], t => by
    show val t y = val t y + 0
    rw [Rat.add_zero]
  | z :: r, t => by
    show val (stepsT r (addQ t z.1 z.2)) y = val t y + ((if z.1 = y then z.2 else 0) + sumAt r y)
    rw [val_steps y r, val_add, Rat.add_assoc]
theorem val_turns (y : Str) (ss : List (Str × Rat)) : ∀ (k : Nat) (t : Tot), val (turnsT ss k t) y = val t y + sumAt ss y * (k : Rat)
  | 0, t => by
    show val t y = val t y + sumAt ss y * ((0 : Nat) : Rat)
    rw [show ((0 : Nat) : Rat) = 0 from rfl, Rat.mul_zero, Rat.add_zero]
  | k + 1, t => by
    show val (turnsT ss k (stepsT ss t)) y = _
    rw [val_turns y ss k, val_steps]
    have : ((k + 1 : Nat) : Rat) = (k : Rat) + 1 := by simp
    rw [this]
    grind
theorem val_blk (y : Str) (k : Nat) : ∀ (ss : List (Str × Rat)) (t : Tot), val (blkTot t (k, ss)) y = val t y + sumAt ss y * (k : Rat)
  | [], t => by
    show val t y = val t y + 0 * (k : Rat)
    rw [Rat.zero_mul, Rat.add_zero]
  | z :: r, t => by
    show val (blkTot (addQ t z.1 (z.2 * ((k : Int) : Rat))) (k, r)) y = val t y + ((if z.1 = y then z.2 else 0) + sumAt r y) * (k : Rat)
    rw [val_blk y k r, val_add, Rat.intCast_natCast]
    by_cases e : z.1 = y
    · rw [if_pos e, if_pos e]
      grind
    · rw [if_neg e, if_neg e]
      grind
theorem val_row (y : Str) : ∀ (bs : List BlkD) (t t' : Tot), val t y = val t' y → val (rowT bs t) y = val (rowTot t' bs) y
  | [], _, _, h => h
  | b :: r, t, t', h => by
    show val (rowT r (turnsT b.2 b.1 t)) y = val (rowTot (blkTot t' b) r) y
    refine val_row y r _ _ ?_
    obtain ⟨k, ss⟩ := b
    rw [val_turns, val_blk, h]
theorem val_nil (y : Str) : val [] y = 0 := rfl
theorem val_zero (m : MillD) (y : Str) : val m.zero y = 0 := by
  unfold val
  cases h : getQ m.zero y with
  | none => rfl
  | some q =>
    unfold getQ at h
    obtain ⟨p, hp, rfl⟩ := Option.map_eq_some_iff.mp h
    have := List.mem_of_find?_eq_some hp
    obtain ⟨x, _, rfl⟩ := List.mem_map.mp this
    rfl
theorem keys_add {t : Tot} {x : Str} {q : Rat} (h : x ∈ t.map (·.1)) : (addQ t x q).map (·.1) = t.map (·.1) := by
  unfold addQ
  rw [putQ_there h, List.map_map]
  apply List.map_congr_left
  intro p _
  show (if p.1 = x then (p.1, _) else p).1 = p.1
  split <;> rfl
theorem keys_blk {k : Nat} : ∀ {ss : List (Str × Rat)} {t : Tot}, (∀ z ∈ ss, z.1 ∈ t.map (·.1)) → (blkTot t (k, ss)).map (·.1) = t.map (·.1)
  | [], _, _ => rfl
  | z :: r, t, h => by
    have e := keys_add (q := z.2 * ((k : Int) : Rat)) (h z List.mem_cons_self)
    have := keys_blk (k := k) (ss := r) (t := addQ t z.1 (z.2 * ((k : Int) : Rat))) fun y hy => by rw [e]; exact h y (List.mem_cons_of_mem _ hy)
    exact this.trans e
theorem keys_row : ∀ {bs : List BlkD} {t : Tot}, (∀ b ∈ bs, ∀ z ∈ b.2, z.1 ∈ t.map (·.1)) → (rowTot t bs).map (·.1) = t.map (·.1)
  | [], _, _ => rfl
  | b :: r, t, h => by
    have e : (blkTot t b).map (·.1) = t.map (·.1) := keys_blk (k := b.1) (ss := b.2) (h b List.mem_cons_self)
    have := keys_row (bs := r) (t := blkTot t b) fun c hc z hz => by rw [e]; exact h c (List.mem_cons_of_mem _ hc) z hz
    exact this.trans e
theorem vals_eq {f : Rat → PyData} : ∀ {t : Tot}, (t.map (·.1)).Nodup → t.map (fun p => f p.2) = (t.map (·.1)).map fun x => f (val t x)
  | [], _ => rfl
  | p :: r, h => by
    rw [List.map_cons, List.nodup_cons] at h
    rw [List.map_cons, List.map_cons, List.map_cons]
    congr 1
    · unfold val
      rw [getQ_cons, if_pos rfl] <;> rfl
    · rw [vals_eq h.2]
      apply List.map_congr_left
      intro x hx
      unfold val
      rw [getQ_cons, if_neg (fun w => h.1 (by rw [w]; exact hx))]
/-- what is due, as the program tells it -/
def encP (m : MillD) (bs : List BlkD) : Option Wk → PyData
  | none => .none
  | some s => .list [.list (s.held.map encR), .list (encN s), .list ((rowTot m.zero bs).map fun p => encR p.2)]
theorem start_len {m : MillD} {hs : List Rat} (h : HoldOk m hs) : Wk.Len ⟨hs, hs, hs⟩ m.stuffs.length := ⟨h.len, h.len, h.len⟩
theorem start_fits {m : MillD} {hs : List Rat} (h : HoldOk m hs) : Wk.fits m ⟨hs, hs, hs⟩ = true := by
  unfold Wk.fits
  rw [Bool.and_eq_true, List.all_eq_true, List.all_eq_true]
  exact ⟨fun q hq => by rw [decide_eq_false (Rat.not_lt.mpr (h.ps q hq))] <;> rfl, fun z hz => h.ro z hz⟩
theorem due_eq {m : MillD} {hs : List Rat} {bs : List BlkD} {A : Nat} (sd : Sided m) (h : HoldOk m hs) (ro : RowOk m A bs) : encG m (rowG m ⟨⟨hs, hs, hs⟩, []⟩ bs) = encP m bs (Wk.row m ⟨hs, hs, hs⟩ bs) := by
  rw [rowG_eq sd (fun b hb => by
    obtain ⟨h1, h2, h3, _, h5⟩ := ro.st b hb
    exact ⟨h3, h2, fun z hz => ⟨(h1.t z hz).1, h5 z hz⟩⟩) (start_len h) (start_fits h)]
  cases Wk.row m ⟨hs, hs, hs⟩ bs with
  | none => rfl
  | some s =>
    show PyData.list [_, _, .list (m.titles.map fun x => encR (val (rowT bs []) x))] = PyData.list [_, _, .list ((rowTot m.zero bs).map fun p => encR p.2)]
    have kz : m.zero.map (·.1) = m.titles := by
      unfold MillD.zero
      rw [List.map_map]
      exact List.map_id _
    have kk : (rowTot m.zero bs).map (·.1) = m.titles := (keys_row (t := m.zero) fun b hb z hz => by rw [kz]; exact ((ro.st b hb).1.t z hz).1).trans kz
    rw [vals_eq (by rw [kk]; exact sd.ok.rn), kk]
    congr 6
    funext x
    rw [val_row x bs [] m.zero (by rw [val_zero] <;> rfl)]
end R3

set_option Elab.async false
set_option linter.all false
set_option maxRecDepth 100000
set_option maxHeartbeats 4000000
/-! GENERAL: a def that may raise, called where it does not; xs.append(None) of any list of H alone -/
namespace Dv
open PySem PySem.Spec PyProof.Rows L2 Evl
section
variable {P : Program} {w : World} {K : PySem.W.Frag} {mg : Str → Option Value} {base : Heap} {nm : Str} {ps : List Str} {k : Nat} {sp sp' : Sp}
theorem fnOkG_down {f : Addr} {fd : FuncData} (A : FnOkG P w K mg base (L2.CX P w) k f fd ps sp) (h : ∀ vs H Q E, sp' vs H Q E → sp vs H Q fun _ _ _ => False) : FnOkG P w K mg base CX0 k f fd ps sp' :=
  ⟨fun vs H Q E q => A.len _ _ _ _ (h _ _ _ _ q), fun A' outer s H args us vs Q E hr e0 hb r q => codeAny_mono (A.run A' outer s H args us vs Q _ hr e0 hb r (h _ _ _ _ q)) fun x s' hx => by
    cases x with
    | ok fl => cases fl <;> exact hx
    | error e =>
      obtain ⟨_, _, _, _, _, _, _, _, _, _, _, _, hE⟩ := hx
      exact hE.elim⟩
theorem CalX.down (A : CalX P w K mg base nm ps k sp) (h : ∀ vs H Q E, sp' vs H Q E → sp vs H Q fun _ _ _ => False) : Cal P w K mg base nm ps k sp' := by
  obtain ⟨f, fd, g, kp, b, G, l⟩ := A.ex
  exact ⟨f, fd, g, kp, b, fnOkG_down G h, l⟩
end
section
variable {K : PySem.W.Frag} {σ : L2.St} {F H : Hp} {D : Ends}
theorem s_app0 {l : Addr} {xs : List V} {to : TE} (ho : ∀ Q : VK, Q (.ref l) H → to σ H Q) (hl : H l = some (.lst xs)) (hz : xs.length < 100000) (k : D.nx σ (upd H l (.lst (xs ++ [.non])))) : tDrop (tBM K "list" rAppend to (tCons (tC .non) tNil)) D σ H :=
  ho _ ⟨Or.inl ⟨rfl, xs, sq_of hl⟩, ⟨l, xs, .non, rfl, rfl, hl, sz_lt hz, k⟩⟩
/-- an item of a list that is the very object -/
theorem ix_ref {i : Nat} {n : Int} {p a : Addr} {xs : List V} (hi : σ[i]? = some (some (.ref p))) (hp : H p = some (.lst xs)) (e : atI xs n = some (.ref a)) (Q : VK) (q : Q (.ref a) H) : tOp (rIxL K) (tVar i) (tC (.int n)) σ H Q :=
  ⟨_, hi, _, _, n, _, rfl, rfl, SqL.of hp, e, q⟩
end
end Dv

set_option Elab.async false
set_option linter.all false
set_option maxRecDepth 100000
set_option maxHeartbeats 4000000
namespace R3
open PySem PySem.Spec PyProof.Rows L2 Evl Dv
theorem chr_cad {i : Nat} (h : i < 3) : chr "abcd" i = "a" ∨ chr "abcd" i = "b" ∨ chr "abcd" i = "c" := by
  match i, h with
  | 0, _ => exact .inl (by decide +kernel)
  | 1, _ => exact .inr (.inl (by decide +kernel))
  | 2, _ => exact .inr (.inr (by decide +kernel))
theorem chr_sru {i : Nat} (h : i < 3) : chr "rstu" i = "r" ∨ chr "rstu" i = "s" ∨ chr "rstu" i = "t" := by
  match i, h with
  | 0, _ => exact .inl (by decide +kernel)
  | 1, _ => exact .inr (.inl (by decide +kernel))
  | 2, _ => exact .inr (.inr (by decide +kernel))
theorem range_names {s : Str} {n : Nat} {x : Str} (h : x ∈ (List.range n).map (chr s)) : ∃ i, i < n ∧ x = chr s i := by
  obtain ⟨i, hi, rfl⟩ := List.mem_map.mp h
  exact ⟨i, List.mem_range.mp hi, rfl⟩
theorem nd_cad {n : Nat} (h : n ≤ 3) : ((List.range n).map (chr "abcd")).Nodup := by
  match n, h with
  | 0, _ => decide +kernel
  | 1, _ => decide +kernel
  | 2, _ => decide +kernel
  | 3, _ => decide +kernel
theorem nd_sru {n : Nat} (h : n ≤ 3) : ((List.range n).map (chr "rstu")).Nodup := by
  match n, h with
  | 0, _ => decide +kernel
  | 1, _ => decide +kernel
  | 2, _ => decide +kernel
  | 3, _ => decide +kernel
theorem Drawn.names {m : MillD} {wide many : Nat} (d : Drawn m wide many) : m.names = (List.range wide).map (chr "abcd") := by
  obtain ⟨rs, h1, h2, h3⟩ := d.st
  unfold MillD.names
  rw [h3]
  unfold stuffsOf
  rw [List.map_map, h1]
  rfl
theorem Drawn.slen {m : MillD} {wide many : Nat} (d : Drawn m wide many) : m.stuffs.length = wide := by
  have := congrArg List.length d.names
  unfold MillD.names at this
  rwa [List.length_map, List.length_map, List.length_range] at this
theorem name_ok {x : Str} (h : x = "a" ∨ x = "b" ∨ x = "c" ∨ x = "r" ∨ x = "s" ∨ x = "t") : nameS x = true ∧ gd (.str x) = true := by
  rcases h with rfl | rfl | rfl | rfl | rfl | rfl <;> exact ⟨by decide +kernel, by decide +kernel⟩
theorem in_names {m : MillD} {wide many : Nat} (d : Drawn m wide many) (w : wide ≤ 3) {x : Str} (h : x ∈ m.names) : nameS x = true ∧ gd (.str x) = true := by
  rw [d.names] at h
  obtain ⟨i, hi, rfl⟩ := range_names h
  rcases chr_cad (i := i) (by omega) with e | e | e <;> rw [e] <;> exact name_ok (by simp)
theorem gds_nil : gds [] = true := by rw [gds]
theorem gds_cons (x : PyData) (xs : List PyData) : gds (x :: xs) = (gd x && gds xs) := by rw [gds]
theorem gd_int (k : Int) : gd (.int k) = true := by simp [gd]
theorem gd_tuple (xs : List PyData) : gd (.tuple xs) = (decide (xs.length ≤ 30000) && gds xs) := by rw [gd]
theorem gd_lst (xs : List PyData) : gd (.list xs) = (decide (xs.length ≤ 30000) && gds xs) := by rw [gd]
theorem part_is {x : Str} {k : Int} (h : nameS x = true ∧ gd (.str x) = true) (h1 : 1 ≤ k) (h3 : k ≤ 3) : partOk (encPart (x, k)) = true ∧ gd (encPart (x, k)) = true := by
  constructor
  · show (nameS x && isNum (.int k) 1) = true
    rw [h.1]
    show (true && (isWhole (.int k) && (decide (1 ≤ k) && decide (k ≤ 1000000)))) = true
    rw [decide_eq_true h1, decide_eq_true (show k ≤ 1000000 by omega)]
    rfl
  · show gd (.tuple [PyData.str x, PyData.int k]) = true
    rw [gd_tuple, gds_cons, gds_cons, gds_nil, gd_int, h.2]
    rfl
theorem side_is {m : MillD} {wide many : Nat} (d : Drawn m wide many) (w : wide ≤ 3) {s : List (Str × Int)} (h : SideOk m.names s) : areParts m.names (.list (s.map encPart)) = true ∧ gd (.list (s.map encPart)) = true := by
  have hin : ∀ p ∈ s, p.1 ∈ m.names := fun p hp => h.sub.subset (List.mem_map.mpr ⟨p, hp, rfl⟩)
  have hp : ∀ p ∈ s, partOk (encPart p) = true ∧ gd (encPart p) = true := fun p hp => part_is (in_names d w (hin p hp)) (h.num p hp).1 (h.num p hp).2
  have nd : (s.map (·.1)).Nodup := h.sub.nodup (by rw [d.names]; exact nd_cad w)
  match s, h.few, hin, hp, nd with
  | [], _, _, _, _ => exact ⟨rfl, by decide +kernel⟩
  | [a], _, hin, hp, nd =>
    have ha := hp a (List.mem_singleton.mpr rfl)
    constructor
    · show (partOk (encPart a) && decide (a.1 ∈ m.names) && !decide (a.1 ∈ ([] : List Str)) && true) = true
      rw [ha.1, decide_eq_true (hin a (List.mem_singleton.mpr rfl))]
      rfl
    · show gd (.list [encPart a]) = true
      rw [gd_lst, gds_cons, gds_nil, ha.2]
      rfl
  | [a, b], _, hin, hp, nd =>
    have ma : a ∈ [a, b] := List.mem_cons_self ..
    have mb : b ∈ [a, b] := List.mem_cons_of_mem _ (List.mem_cons_self ..)
    have ha := hp a ma
    have hb := hp b mb
    have ne : ¬ b.1 ∈ [a.1] := fun e => (List.nodup_cons.mp nd).1 (List.mem_cons.mpr (.inl (List.mem_singleton.mp e).symm))
    constructor
    · show (partOk (encPart a) && decide (a.1 ∈ m.names) && !decide (a.1 ∈ ([] : List Str)) && (partOk (encPart b) && decide (b.1 ∈ m.names) && !decide (b.1 ∈ [a.1]) && true)) = true
      rw [ha.1, hb.1, decide_eq_true (hin a ma), decide_eq_true (hin b mb), decide_eq_false ne]
      rfl
    · show gd (.list [encPart a, encPart b]) = true
      rw [gd_lst, gds_cons, gds_cons, gds_nil, ha.2, hb.2]
      rfl
theorem Drawn.ok {m : MillD} {wide many : Nat} (d : Drawn m wide many) (w1 : 1 ≤ wide) (w : wide ≤ 3) (mm : many ≤ 3) : m.Ok := by
  refine ⟨by rw [d.slen]; exact w1, by rw [d.slen]; omega, by rw [d.names]; exact nd_cad w, fun z hz => ?_, by rw [d.rl]; omega, by rw [d.rn]; exact nd_sru mm, fun z hz => ?_⟩
  · have hn := in_names d w (List.mem_map.mpr ⟨z, hz, rfl⟩ : z.1 ∈ m.names)
    obtain ⟨rs, h1, h2, h3⟩ := d.st
    have hr : z.2 ∈ [none, some 1, some 2, some 3, some 0] := by
      rw [h3] at hz
      unfold stuffsOf at hz
      obtain ⟨i, hi, rfl⟩ := List.mem_map.mp hz
      have hi' := List.mem_range.mp hi
      show rs[i]?.getD none ∈ _
      rw [List.getElem?_eq_getElem hi']
      exact h2 _ (List.getElem_mem hi')
    obtain ⟨x, r⟩ := z
    have hr' : gd (encRoom r) = true ∧ (nonB (encRoom r) || isNum (encRoom r) 0) = true := by
      simp only [List.mem_cons, List.not_mem_nil, or_false] at hr
      rcases hr with rfl | rfl | rfl | rfl | rfl <;> exact ⟨by decide +kernel, by decide +kernel⟩
    constructor
    · show gd (.tuple [.str x, encRoom r]) = true
      rw [gd_tuple, gds_cons, gds_cons, gds_nil, hr'.1, hn.2]
      rfl
    · show (nameS x && (nonB (encRoom r) || isNum (encRoom r) 0)) = true
      rw [hn.1, hr'.2]
      rfl
  · obtain ⟨s1, s2⟩ := d.ro z hz
    have a1 := side_is d w s1
    have a2 := side_is d w s2
    have hn : nameS z.1 = true ∧ gd (.str z.1) = true := by
      have : z.1 ∈ m.recipes.map (·.1) := List.mem_map.mpr ⟨z, hz, rfl⟩
      rw [d.rn] at this
      obtain ⟨i, hi, e⟩ := range_names this
      rw [e]
      rcases chr_sru (i := i) (by omega) with e | e | e <;> rw [e] <;> exact name_ok (by simp)
    constructor
    · show gd (.tuple [.str z.1, .list (z.2.1.map encPart), .list (z.2.2.map encPart)]) = true
      rw [gd_tuple, gds_cons, gds_cons, gds_cons, gds_nil, a1.2, a2.2, hn.2]
      rfl
    · show (nameS z.1 && areParts m.names (.list (z.2.1.map encPart)) && areParts m.names (.list (z.2.2.map encPart))) = true
      rw [hn.1, a1.1, a2.1]
      rfl
theorem Drawn.titles {m : MillD} {wide many : Nat} (d : Drawn m wide many) : m.titles = (List.range many).map (chr "rstu") := d.rn
theorem Drawn.rooms {m : MillD} {wide many : Nat} (d : Drawn m wide many) : ∀ z ∈ m.stuffs, ∀ r, z.2 = some r → 0 ≤ r ∧ r ≤ 3 := by
  intro z hz r hr
  obtain ⟨rs, h1, h2, h3⟩ := d.st
  rw [h3] at hz
  unfold stuffsOf at hz
  obtain ⟨i, hi, rfl⟩ := List.mem_map.mp hz
  have hi' := List.mem_range.mp hi
  have hr2 : rs[i]?.getD none ∈ [none, some 1, some 2, some 3, some (0 : Int)] := by
    rw [List.getElem?_eq_getElem hi']
    exact h2 _ (List.getElem_mem hi')
  have hr3 : rs[i]?.getD none = some r := hr
  rw [hr3] at hr2
  simp only [List.mem_cons, List.not_mem_nil, or_false, Option.some.injEq, reduceCtorEq, false_or] at hr2
  omega
theorem title_rst {m : MillD} {wide many : Nat} (d : Drawn m wide many) (mm : many ≤ 3) {x : Str} (h : x ∈ m.titles) : x = "r" ∨ x = "s" ∨ x = "t" := by
  rw [d.titles] at h
  obtain ⟨i, hi, rfl⟩ := range_names h
  exact chr_sru (by omega)
end R3

set_option Elab.async false
set_option linter.all false
set_option maxRecDepth 100000
set_option maxHeartbeats 4000000
namespace R3
open PySem PySem.Spec PyProof.Rows L2 Evl Dv
open Qa (toF Sx)
/-! ### data that can be told and compared -/
def Gk (k : Nat) (d : PyData) : Prop := gd d = true ∧ d.canLay0 = true ∧ d.depth ≤ k
theorem Gk.mono {k j : Nat} {d : PyData} (h : Gk k d) (l : k ≤ j) : Gk j d := ⟨h.1, h.2.1, Nat.le_trans h.2.2 l⟩
theorem gk_all {k : Nat} : ∀ {xs : List PyData}, (∀ x ∈ xs, Gk k x) → gds xs = true ∧ PyData.canLayAll0 xs = true ∧ PyData.depthAll xs ≤ k
  | [], _ => ⟨gds_nil, by rw [PyData.canLayAll0], by rw [PyData.depthAll]; exact Nat.zero_le _⟩
  | x :: r, h => by
    have h1 := h x (List.mem_cons_self ..)
    have h2 := gk_all fun y hy => h y (List.mem_cons_of_mem _ hy)
    refine ⟨by rw [gds_cons, h1.1, h2.1]; rfl, by rw [PyData.canLayAll0, h1.2.1, h2.2.1]; rfl, ?_⟩
    rw [PyData.depthAll]
    have := h1.2.2
    have := h2.2.2
    omega
theorem gk_list {k : Nat} {xs : List PyData} (hl : xs.length ≤ 30000) (h : ∀ x ∈ xs, Gk k x) : Gk (k + 1) (.list xs) := by
  have g := gk_all h
  refine ⟨by rw [gd_lst, g.1, decide_eq_true hl]; rfl, by rw [PyData.canLay0]; exact g.2.1, ?_⟩
  rw [PyData.depth]
  have := g.2.2
  omega
theorem gk_tup {k : Nat} {xs : List PyData} (hl : xs.length ≤ 30000) (h : ∀ x ∈ xs, Gk k x) : Gk (k + 1) (.tuple xs) := by
  have g := gk_all h
  refine ⟨by rw [gd_tuple, g.1, decide_eq_true hl]; rfl, by rw [PyData.canLay0]; exact g.2.1, ?_⟩
  rw [PyData.depth]
  have := g.2.2
  omega
theorem gk_str {x : Str} (h : gd (.str x) = true) : Gk 0 (.str x) := ⟨h, by rw [PyData.canLay0]; exact (gd_str h).2, by rw [PyData.depth] <;> first | exact Nat.le_refl _ | (intros; intro z; cases z)⟩
theorem gk_encR (q : Rat) : Gk 1 (encR q) := gk_tup (by simp) fun y hy => by
  simp only [List.mem_cons, List.not_mem_nil, or_false] at hy
  rcases hy with rfl | rfl <;> exact ⟨gd_int _, by simp [PyData.canLay0], by simp [PyData.depth]⟩
theorem Gk.eqv {k : Nat} {d : PyData} (h : Gk k d) : PyData.eqv d d = true := by
  exact PySem.SeqAt.eqv_refl_plain d (PySem.PyData.plain_of_canLay0 d h.2.1)
theorem Gk.shaped {k : Nat} {d : PyData} (h : Gk k d) (hk : k ≤ 60) : SeqAt.shaped d = true := by
  show (d.canLay0 && decide (d.depth ≤ 64)) = true
  rw [h.2.1, decide_eq_true (Nat.le_trans h.2.2 (by omega))]
  rfl
theorem gk_rats {qs : List Rat} (h : qs.length ≤ 30000) : Gk 2 (.list (qs.map encR)) := gk_list (k := 1) (by rw [List.length_map]; exact h) fun x hx => by
  obtain ⟨q, _, rfl⟩ := List.mem_map.mp hx
  exact gk_encR q
theorem mem2 {α : Type} {P : α → Prop} {a b : α} (h1 : P a) (h2 : P b) : ∀ y ∈ [a, b], P y := fun y hy => by
  simp only [List.mem_cons, List.not_mem_nil, or_false] at hy
  rcases hy with rfl | rfl <;> assumption
theorem mem3 {α : Type} {P : α → Prop} {a b c : α} (h1 : P a) (h2 : P b) (h3 : P c) : ∀ y ∈ [a, b, c], P y := fun y hy => by
  simp only [List.mem_cons, List.not_mem_nil, or_false] at hy
  rcases hy with rfl | rfl | rfl <;> assumption
theorem gk_row {m : MillD} {A : Nat} {bs : List BlkD} (ok : m.Ok) (h : RowOk m A bs) : Gk 6 (encRow bs) := by
  refine gk_list (k := 5) (by rw [List.length_map]; exact h.len) fun d hd => ?_
  obtain ⟨b, hb, rfl⟩ := List.mem_map.mp hd
  have hs := (h.st b hb).1
  refine gk_tup (k := 4) (by simp) (mem2 ⟨gd_int _, by simp [PyData.canLay0], by simp [PyData.depth]⟩ (gk_list (k := 3) (by rw [List.length_map]; exact hs.l) fun d hd => ?_))
  obtain ⟨z, hz, rfl⟩ := List.mem_map.mp hd
  exact gk_tup (k := 2) (by simp) (mem2 ((gk_str (title_name ok (hs.t z hz).1).2).mono (by omega)) ((gk_encR _).mono (by omega)))
theorem gk_due {m : MillD} {bs : List BlkD} {s : Wk} (h1 : s.held.length ≤ 30000) (h2 : s.least.length ≤ 30000) (h3 : (rowTot m.zero bs).length ≤ 30000) : Gk 4 (encP m bs (some s)) := by
  refine gk_list (k := 3) (by simp) (mem3 ((gk_rats h1).mono (by omega)) (gk_list (k := 2) ?_ fun d hd => ?_) (gk_list (k := 2) (by rw [List.length_map]; exact h3) fun d hd => ?_))
  · unfold encN
    rw [List.length_map, List.length_zip]
    omega
  · unfold encN at hd
    obtain ⟨z, _, rfl⟩ := List.mem_map.mp hd
    exact gk_tup (k := 1) (by simp) (mem2 (gk_encR _) (gk_encR _))
  · obtain ⟨p, _, rfl⟩ := List.mem_map.mp hd
    exact (gk_encR _).mono (by omega)
/-! ### the row's text is short -/
structure Ttl (x : Str) : Prop where
  nd : PyData.hasDict (.str x) = false
  sh : PyData.showable (.str x) = true
  len : shB (.str x) ≤ 100
theorem log_le {a : Nat} (h : a < 1099511627776) : a.log2 ≤ 39 := by
  by_cases h0 : a = 0
  · subst h0
    decide
  · have := (Nat.log2_lt h0 (k := 40)).mpr (by simpa using h)
    omega
theorem rp_step {z : Str × Rat} (h : Ttl z.1) (hs : Sx 1000000 z.2) : PyData.hasDict (encStep z) = false ∧ PyData.showable (encStep z) = true ∧ shB (encStep z) ≤ 400 ∧ (encStep z).depth ≤ 2 := by
  obtain ⟨b1, b2, b3⟩ := hs.bd
  have l1 : z.2.num.natAbs < 1099511627776 := by omega
  have l2 : ((z.2.den : Int)).natAbs < 1099511627776 := by rw [Int.natAbs_natCast]; omega
  have k1 := log_le l1
  have k2 := log_le l2
  rw [Int.natAbs_natCast] at k2
  have w1 : z.2.num.natAbs.log2 ≤ 10000 := by omega
  refine ⟨?_, ?_, ?_, ?_⟩
  · simp [encStep, encR, encF, toF, PyData.hasDict, PyData.hasDictAll, h.nd]
  · simp [encStep, encR, encF, toF, PyData.showable, PyData.showableAll, h.sh]
    omega
  · have := h.len
    simp only [encStep, encR, encF, toF, shB, shBs, Int.natAbs_natCast] at this ⊢
    omega
  · simp [encStep, encR, encF, PyData.depth, PyData.depthAll]
theorem rp_all {P : PyData → Prop} {c k : Nat} (hp : ∀ d, P d → d.hasDict = false ∧ d.showable = true ∧ shB d ≤ c ∧ d.depth ≤ k) : ∀ {ds : List PyData}, (∀ d ∈ ds, P d) → PyData.hasDictAll ds = false ∧ PyData.showableAll ds = true ∧ shBs ds ≤ ds.length * (c + 2) ∧ PyData.depthAll ds ≤ k
  | [], _ => ⟨by rw [PyData.hasDictAll], by rw [PyData.showableAll], by rw [shBs]; exact Nat.zero_le _, by rw [PyData.depthAll]; exact Nat.zero_le _⟩
  | d :: r, h => by
    obtain ⟨a1, a2, a3, a4⟩ := hp d (h d List.mem_cons_self)
    obtain ⟨b1, b2, b3, b4⟩ := rp_all hp fun y hy => h y (List.mem_cons_of_mem _ hy)
    refine ⟨by rw [PyData.hasDictAll, a1, b1] <;> rfl, by rw [PyData.showableAll, a2, b2] <;> rfl, ?_, ?_⟩
    · rw [shBs, List.length_cons, Nat.add_mul, Nat.one_mul]
      omega
    · rw [PyData.depthAll]
      omega
theorem rp_row {bs : List BlkD} (hl : bs.length ≤ 3) (hb : ∀ b ∈ bs, b.1 ≤ 4 ∧ b.2.length ≤ 3 ∧ ∀ z ∈ b.2, Ttl z.1 ∧ Sx 1000000 z.2) : Rp (encRow bs) := by
  have kb : ∀ d, (∃ b ∈ bs, encBlock b = d) → d.hasDict = false ∧ d.showable = true ∧ shB d ≤ 2000 ∧ d.depth ≤ 4 := by
    rintro d ⟨b, hbm, rfl⟩
    obtain ⟨h4, h3, hz⟩ := hb b hbm
    obtain ⟨c1, c2, c3, c4⟩ := rp_all (P := fun d => ∃ z ∈ b.2, encStep z = d) (c := 400) (k := 2) (fun d hd => by
      obtain ⟨z, hzm, rfl⟩ := hd
      exact rp_step (hz z hzm).1 (hz z hzm).2) (ds := b.2.map encStep) fun d hd => by
        obtain ⟨z, hzm, e⟩ := List.mem_map.mp hd
        exact ⟨z, hzm, e⟩
    rw [List.length_map] at c3
    have k1 := log_le (a := b.1) (by omega)
    have : b.2.length * 402 ≤ 3 * 402 := Nat.mul_le_mul_right _ h3
    refine ⟨?_, ?_, ?_, ?_⟩
    · simp [encBlock, PyData.hasDict, PyData.hasDictAll, c1]
    · simp [encBlock, PyData.showable, PyData.showableAll, c2]
      omega
    · simp only [encBlock, shB, shBs, Int.natAbs_natCast]
      omega
    · simp only [encBlock, PyData.depth, PyData.depthAll]
      omega
  obtain ⟨c1, c2, c3, c4⟩ := rp_all (P := fun d => ∃ b ∈ bs, encBlock b = d) kb (ds := bs.map encBlock) fun d hd => by
    obtain ⟨z, hzm, e⟩ := List.mem_map.mp hd
    exact ⟨z, hzm, e⟩
  rw [List.length_map] at c3
  have : bs.length * 2002 ≤ 3 * 2002 := Nat.mul_le_mul_right _ hl
  refine ⟨?_, ?_, ?_, ?_⟩
  · simp [encRow, PyData.hasDict, c1]
  · simp [encRow, PyData.showable, c2]
  · simp only [encRow, shB]
    omega
  · simp only [encRow, PyData.depth]
    omega
end R3

set_option Elab.async false
set_option linter.all false
set_option maxRecDepth 100000
set_option maxHeartbeats 4000000
namespace R3
open PySem PySem.Spec PyProof.Rows L2 Evl Dv
open Qa (toF Sx)
section
variable {P : Program} {w : World} {K : PySem.W.Frag} {mg : Str → Option Value} {base : Heap}
/-- what is told of a row that is one -/
def spToldG (K : PySem.W.Frag) (C : Addr) (f : Wk → List PyData) : Sp := fun vs H Q _ => ∃ (F : Hp) (ml : Addr) (hv rv : V) (m : MillD) (hs : List Rat) (bs : List BlkD) (A M B : Nat) (s : Wk), vs = [.ref ml, hv, rv] ∧ Ex F H ∧ RowIn K F C ml hv rv m hs bs A M B ∧ Wk.row m ⟨hs, hs, hs⟩ bs = some s ∧
  ∀ p ws F' H', Gr F H F' H' → H p = none → F' p = none → H' p = some (.lst ws) → DpAll K F' ws (f s) → Q (.ref p) H'
theorem told_down {C CR : Addr} {f : Wk → List PyData} {nm : Str} (h : CalX P w K mg base nm ["mill", "have", "row"] 10 (spTold K C CR f)) : Cal P w K mg base nm ["mill", "have", "row"] 10 (spToldG K C f) :=
  h.down fun vs H Q E ⟨F, ml, hv, rv, m, hs, bs, A, M, B, s, h1, h2, h3, h4, h5⟩ => ⟨F, ml, hv, rv, m, hs, bs, A, M, B, h1, h2, h3, (fun z => by rw [h4] at z; cases z), fun s' hs' => by
    rw [h4] at hs'
    cases hs'
    exact h5⟩
theorem el_told {σ : L2.St} {F : Hp} {C ml : Addr} {hv rv : V} {f : Wk → List PyData} {m : MillD} {hs : List Rat} {bs : List BlkD} {A M B : Nat} {s : Wk} {E : XK} {ta tb : TE} (hi : σ[1]? = some (some (.ref ml))) (ri : RowIn K F C ml hv rv m hs bs A M B) (hr : Wk.row m ⟨hs, hs, hs⟩ bs = some s)
    (ha : EvD K ta σ F (.list (hs.map encR))) (hb : EvD K tb σ F (encRow bs)) : EvL K (tCall (spToldG K C f) [] E (tCons (tVar 1) (tCons ta (tCons tb tNil)))) σ F (f s) := fun H e Q q =>
  ⟨_, hi, ha H e _ fun v F1 H1 g1 hv1 => (hb.mono g1.fx) H1 g1.fh _ fun u F2 H2 g2 hu2 => ⟨F2, ml, v, u, m, hs, bs, A, M, B, s, rfl, g2.fh, ⟨ri.hm.mono (g1.fx.trans g2.fx), ri.ok, dp_ex g2.fx hv1, ri.ho, hu2, ri.ro, ri.wb, ri.sx, ri.bd⟩, hr, fun p ws F3 H3 g3 h1 h2 h3 h4 => q p ws F3 H3 ((g1.trans g2).trans g3) (ex_none (g1.trans g2).hx h1) h2 h3 h4⟩⟩
/-- what is known of what _law_right is told -/
structure RightIn (m : MillD) (hs : List Rat) (bs : List BlkD) (A M B : Nat) : Prop where
  po : PartsOk m A M
  sd : Sided m
  bl : bs.length ≤ 3
  bb : ∀ b ∈ bs, b.1 ≤ 4 ∧ b.2.length ≤ 3 ∧ ∀ z ∈ b.2, z.1 ∈ m.titles ∧ Sx A z.2
  bd : B + 40 * (A * M + A * M) < 1000000000000
  rp : Rp (encRow bs)
theorem row_len {m : MillD} (sd : Sided m) : ∀ {bs : List BlkD} {s s' : Wk}, (∀ b ∈ bs, ∀ z ∈ b.2, z.1 ∈ m.titles) → s.Len m.stuffs.length → Wk.row m s bs = some s' → s'.Len m.stuffs.length
  | [], s, s', _, h, e => by
    cases e
    exact h
  | b :: r, s, s', hb, h, e => by
    have e : (if (s.led m b).fits m then Wk.row m (s.led m b) r else none) = some s' := e
    split at e
    · exact row_len sd (bs := r) (fun c hc => hb c (List.mem_cons_of_mem _ hc)) (led_len sd (hb b List.mem_cons_self) h) e
    · cases e
theorem told3 {F H F7 H7 : Hp} {pa pb pc p : Addr} {wa wb wc : List V} {da db dc : List PyData} (g : Gr F H F7 H7) (a1 : H pa = none) (b1 : H pb = none) (c1 : H pc = none) (a2 : F7 pa = none) (b2 : F7 pb = none) (c2 : F7 pc = none)
    (a3 : H7 pa = some (.lst wa)) (b3 : H7 pb = some (.lst wb)) (c3 : H7 pc = some (.lst wc)) (ab : pa ≠ pb) (ac : pa ≠ pc) (bc : pb ≠ pc) (hp : H7 p = none) (a4 : DpAll K F7 wa da) (b4 : DpAll K F7 wb db) (c4 : DpAll K F7 wc dc) :
    ∃ Ff, Gr F H Ff (upd H7 p (.lst [.ref pa, .ref pb, .ref pc])) ∧ Ex F7 Ff ∧ Dp K Ff (.ref p) (.list [.list da, .list db, .list dc]) ∧ p ≠ pa ∧ p ≠ pb ∧ p ≠ pc := by
  have npa : p ≠ pa := fun z => by rw [z, a3] at hp; cases hp
  have npb : p ≠ pb := fun z => by rw [z, b3] at hp; cases hp
  have npc : p ≠ pc := fun z => by rw [z, c3] at hp; cases hp
  have fp : F7 p = none := ex_none g.fh hp
  have g0 := g.trans (Gr.only g.fh hp (o := .lst [.ref pa, .ref pb, .ref pc]))
  have t1 := g0.take a1 a2 (o := .lst wa) (by rw [upd_ne npa.symm]; exact a3)
  have t2 := t1.take b1 (o := .lst wb) (by rw [upd_ne ab.symm]; exact b2) (by rw [upd_ne npb.symm]; exact b3)
  have t3 := t2.take c1 (o := .lst wc) (by rw [upd_ne bc.symm, upd_ne ac.symm]; exact c2) (by rw [upd_ne npc.symm]; exact c3)
  have t4 := t3.take (ex_none g.hx hp) (o := .lst [.ref pa, .ref pb, .ref pc]) (by rw [upd_ne npc, upd_ne npb, upd_ne npa]; exact fp) upd_same
  have x4 : Ex F7 (upd (upd (upd (upd F7 pa (.lst wa)) pb (.lst wb)) pc (.lst wc)) p (.lst [.ref pa, .ref pb, .ref pc])) := by
    refine (Ex.new a2).trans ((Ex.new ?_).trans ((Ex.new ?_).trans (Ex.new ?_)))
    · rw [upd_ne ab.symm]; exact b2
    · rw [upd_ne bc.symm, upd_ne ac.symm]; exact c2
    · rw [upd_ne npc, upd_ne npb, upd_ne npa]; exact fp
  refine ⟨_, t4, x4, .lst (SqL.of upd_same) (.cons (.lst (SqL.of ?_) (dps_ex x4 a4)) (.cons (.lst (SqL.of ?_) (dps_ex x4 b4)) (.cons (.lst (SqL.of ?_) (dps_ex x4 c4)) .nil))), npa, npb, npc⟩
  · rw [upd_ne npa.symm, upd_ne ac, upd_ne ab, upd_same]
  · rw [upd_ne npb.symm, upd_ne bc, upd_same]
  · rw [upd_ne npc.symm, upd_same]
def spRight (K : PySem.W.Frag) (C : Addr) : Sp := fun vs H Q _ => ∃ (F : Hp) (ml : Addr) (qv hv rv : V) (m : MillD) (hs : List Rat) (bs : List BlkD) (A M B : Nat), vs = [qv, .ref ml, hv, rv] ∧ Ex F H ∧ Dp K F qv (encPartsT m) ∧ RowIn K F C ml hv rv m hs bs A M B ∧ RightIn m hs bs A M B ∧ ∀ F' H', Gr F H F' H' → Q (.bl true) H'
theorem repr_b (b : Bool) : Rp (.bool b) := ⟨by rw [PyData.hasDict] <;> (intros; intro z; cases z), by cases b <;> decide +kernel, by rw [shB] <;> decide, by cases b <;> decide +kernel⟩
theorem sc__law_right : FnScope (["parts", "mill", "held", "row", "due", "given", "times", "steps", "door", "turn", "told"] : List Str) (["parts", "mill", "held", "row"] : List Str) (defScope sLawRight) := ⟨rfl, rfl, rfl, by decide +kernel, rfl, by decide +kernel, by decide +kernel⟩
theorem ok_law_right (D : Def K mg "_law_right" sLawRight ["parts", "mill", "held", "row"]) (B : Bl mg) {C : Addr} (C__law_gone : Cal P w K mg base "_law_gone" ["parts", "held", "row"] 5 (spD K fGone)) (C_is_row : Cal P w K mg base "is_row" ["mill", "have", "value"] 9 (spIsRow K C)) (C__law_caught_row : Cal P w K mg base "_law_caught_row" ["door", "mill", "held", "row"] 11 (spCaughtRow K C))
    (C_led : Cal P w K mg base "led" ["mill", "have", "row"] 10 (spToldG K C fun s => s.held.map encR)) (C_narrows : Cal P w K mg base "narrows" ["mill", "have", "row"] 10 (spToldG K C encN)) (C_done : Cal P w K mg base "done" ["mill", "row"] 7 (spDoneL K C)) :
    Cal P w K mg base "_law_right" ["parts", "mill", "held", "row"] 12 (spRight K C) := by
  refine cal_mk D sc__law_right (fun vs H Q E h => ?_) (fun f cdv A outer s H vs Q E hr h => ?_)
  · obtain ⟨F, ml, qv, hv, rv, m, hs, bs, A, M, B, rfl, _⟩ := h
    rfl
  obtain ⟨F, ml, qv, hv, rv, m, hs, bs, Aa, Mm, Bb, rfl, e, hqv, ri, rt, q⟩ := h
  refine ⟨_, (pss_cons (ps_par (i := 4) (j := 5) (by rfl) sc__law_right.nd rfl rfl (by decide) rfl rfl (pa_cons (pe_callC C__law_gone hr (pa_cons (pv 0) (pa_cons (pv 2) (pa_cons (pv 3) pa_nil)))) (pa_cons (pe_lst (pa_cons (pe_callTy call_list_of (by rfl) B.list (by decide +kernel) (pa_cons (pv 2) pa_nil)) (pa_cons (pe_lc (own := [("times", 6), ("steps", 7)]) (g := gTup K 2 (gCons (gName 6) (gCons (gName 7) gNil))) rfl sc__law_right.nd (pi_list (pv 3)) (blkOk_by (own := [("times", 6), ("steps", 7)]) (N := ["parts", "mill", "held", "row", "due", "given", "times", "steps", "door", "turn", "told"]) (sc := defScope sLawRight) (by decide +kernel)) (fun _ _ _ _ _ => (pg_tup (by rfl) (pgs_cons (pg_name (i := 6) sc__law_right.nd rfl (.inl rfl)) (pgs_cons (pg_name (i := 7) sc__law_right.nd rfl (.inl rfl)) pgs_nil))))  (fun _ _ _ _ _ => pts_nil) (fun _ _ _ _ _ => (pe_tup (pa_cons (pv 6) (pa_cons (pe_callTy (T := "list") (r := fun xs H Q => ∃ p ys, xs = [.ref p] ∧ (SqL K H p ys ∨ SqT K H p ys) ∧ ∀ l, H l = none → Q (.ref l) (upd H l (.lst ys))) call_list_of (by rfl) B.list (by decide +kernel) (pa_cons (pv 7) pa_nil)) pa_nil))))) pa_nil))) pa_nil)) (by rfl))
      (pss_cons (ps_if (pt_cmpR op_ne (pe_callB (call_reprD hr.2 hr.1.units) (by rfl) B.repr (by decide +kernel) (pa_cons (pe_callC C_is_row hr (pa_cons (pv 1) (pa_cons (pe_ix ix_list (pv 5) pe_int (fun _ _ => rfl)) (pa_cons (pe_ix ix_list (pv 5) pe_int (fun _ _ => rfl)) pa_nil)))) pa_nil)) (pe_callB (call_reprD hr.2 hr.1.units) (by rfl) B.repr (by decide +kernel) (pa_cons (pe_cmpR op_notN (pv 4) pe_non (nomark _)) pa_nil)) (nomark _)) (pss_one (ps_ret pe_bl)) pss_nil)
      (pss_cons (ps_if (pt_cmpR op_isN (pv 4) pe_non (nomark _)) (pss_one (ps_ret (pe_cmpR (op_eqD hr.1.units) (pe_lc (own := [("door", 8)]) (g := gName 8) rfl sc__law_right.nd (pi_range1 rfl B.range (pa_cons pe_int pa_nil)) (blkOk_by (own := [("door", 8)]) (N := ["parts", "mill", "held", "row", "due", "given", "times", "steps", "door", "turn", "told"]) (sc := defScope sLawRight) (by decide +kernel)) (fun _ _ _ _ _ => (pg_name (i := 8) sc__law_right.nd rfl (.inl rfl)))  (fun _ _ _ _ _ => (pts_one (pt_cmpR op_ne (pe_callC C__law_caught_row hr (pa_cons (pv 8) (pa_cons (pv 1) (pa_cons (pv 2) (pa_cons (pv 3) pa_nil))))) (pe_callB (id := "repr") (r := rReprD K) (call_reprD (by exact hr.2) (by exact hr.1.units)) (by rfl) B.repr (by decide +kernel) (pa_cons (pv 3) pa_nil)) (nomark _)))) (fun _ _ _ _ _ => (pv 8))) (pe_lst pa_nil) (nomark _)))) pss_nil)
      (pss_cons (ps_for PassesOwn.never rfl (pi_range1 rfl B.range (pa_cons pe_int pa_nil)) (pg_name (i := 9) sc__law_right.nd rfl (.inl rfl)) (pss_cons (ps_set (i := 10) sc__law_right.nd rfl (.inl rfl) (pe_lst (pa_cons (pe_callC C_led hr (pa_cons (pv 1) (pa_cons (pe_ix ix_list (pv 5) pe_int (fun _ _ => rfl)) (pa_cons (pe_ix ix_list (pv 5) pe_int (fun _ _ => rfl)) pa_nil)))) (pa_cons (pe_callC C_narrows hr (pa_cons (pv 1) (pa_cons (pe_ix ix_list (pv 5) pe_int (fun _ _ => rfl)) (pa_cons (pe_ix ix_list (pv 5) pe_int (fun _ _ => rfl)) pa_nil)))) (pa_cons (pe_callC C_done hr (pa_cons (pv 1) (pa_cons (pe_ix ix_list (pv 5) pe_int (fun _ _ => rfl)) pa_nil))) pa_nil)))))
      (pss_cons (ps_if (pt_cmpR (op_neD hr.1.units) (pv 10) (pv 4) (nomark _)) (pss_one (ps_ret pe_bl)) pss_nil)
      (pss_cons (ps_expr (pe_bm PySem.F.plainAttrs_list PySem.F.slot_list_append PySem.F.type_list_append mt_append (pe_ix ix_list (pv 10) pe_int (fun _ _ => rfl)) (pa_cons pe_non pa_nil)))
      (pss_cons (ps_expr (pe_bm PySem.F.plainAttrs_list PySem.F.slot_list_append PySem.F.type_list_append mt_append (pe_ix ix_list (pv 10) pe_int (fun _ _ => rfl)) (pa_cons pe_non pa_nil)))
      (pss_one (ps_expr (pe_bm PySem.F.plainAttrs_list PySem.F.slot_list_append PySem.F.type_list_append mt_append (pe_ix ix_list (pv 10) pe_int (fun _ _ => rfl)) (pa_cons pe_non pa_nil)))))))))
      (pss_one (ps_ret (pe_cmpR (op_eqD hr.1.units) (pv 5) (pe_lst (pa_cons (pv 2) (pa_cons (pv 3) pa_nil))) (nomark _)))))))), ?_⟩
  have st : start ["parts", "mill", "held", "row", "due", "given", "times", "steps", "door", "turn", "told"] [qv, .ref ml, hv, rv] = [some qv, some (.ref ml), some hv, some rv, none, none, none, none, none, none, none] := rfl
  rw [st]
  have wb := ri.wb
  have due := due_eq rt.sd ri.ho ri.ro
  obtain ⟨dd, hdd⟩ : ∃ dd, dd = encP m bs (Wk.row m ⟨hs, hs, hs⟩ bs) := ⟨_, rfl⟩
  have lcr := lc_rule (K := K) (F := F) (te := tTup (tCons (tVar 6) (tCons (tCB (fun xs H Q => ∃ p ys, xs = [.ref p] ∧ (SqL K H p ys ∨ SqT K H p ys) ∧ ∀ l, H l = none → Q (.ref l) (upd H l (.lst ys))) (tCons (tVar 7) tNil)) tNil))) (vs := [6, 7]) (tt := tYes) (g := gTup K 2 (gCons (gName 6) (gCons (gName 7) gNil))) (σ := [some qv, some (.ref ml), some hv, some rv, none, none, none, none, none, none, none]) bs encBlock encBlock (fun _ => true)
    (it_list (Dv.ev_var (i := 3) rfl ri.hr)) (by have := rt.bl; omega)
    (fun b hb v F4 e4 hv4 => by
      obtain ⟨y1, y2, hy1, hy2, ht⟩ := tup2 hv4
      exact ⟨[some qv, some (.ref ml), some hv, some rv, none, none, some y1, some y2, none, none, none], fun H e Q q => ht 6 7 _ H e _ q, rfl, fun H e Q q => q F4 H (Gr.refl e), fun _ => Dv.ev_tup (Dv.ea_cons (Dv.ev_var (i := 6) rfl hy1) (Dv.ea_cons (EvL.ev (el_list (Dv.ev_var (i := 7) rfl hy2) (.inl rfl))) Dv.ea_nil)) (by simp)⟩)
  rw [filt_true] at lcr
  refine seq_of (Dv.s_par (K := K) (F := F) (a := dd) (b := .list [.list (hs.map encR), encRow bs]) (Dv.ea_cons (ev_callD (f := fGone) (Dv.ea_cons (Dv.ev_var (i := 0) rfl hqv) (Dv.ea_cons (Dv.ev_var (i := 2) rfl ri.hh) (Dv.ea_cons (Dv.ev_var (i := 3) rfl ri.hr) Dv.ea_nil))) ⟨m, hs, bs, Bb, Aa, Mm, rfl, rt.po, ri.ho.len, ri.sx, rt.bl, rt.bb, rt.bd, by rw [hdd, due]⟩) (Dv.ea_cons (EvL.ev (Dv.el_lst (Dv.ea_cons (EvL.ev (el_list (Dv.ev_var (i := 2) rfl ri.hh) (.inl rfl))) (Dv.ea_cons (EvL.ev lcr) Dv.ea_nil)) (by simp))) Dv.ea_nil)) e fun dv gv F1 H1 g1 hdv hgv => ?_)
  dsimp only
  show tSeq _ _ _ [some qv, some (.ref ml), some hv, some rv, some dv, some gv, none, none, none, none, none] H1
  have ri1 := ri.mono g1.fx
  have gv0 : ∀ (σ : L2.St) (F' : Hp), Ex F1 F' → σ[5]? = some (some gv) → EvD K (tOp (rIxL K) (tVar 5) (tC (.int 0))) σ F' (.list (hs.map encR)) := fun σ F' e' hi => Dv.ev_ixL (Dv.ev_var hi (dp_ex e' hgv)) (Dv.ev_int 0) rfl
  have gv1 : ∀ (σ : L2.St) (F' : Hp), Ex F1 F' → σ[5]? = some (some gv) → EvD K (tOp (rIxL K) (tVar 5) (tC (.int 1))) σ F' (encRow bs) := fun σ F' e' hi => Dv.ev_ixL (Dv.ev_var hi (dp_ex e' hgv)) (Dv.ev_int 1) rfl
  have nb : nonB dd = !(Wk.row m ⟨hs, hs, hs⟩ bs).isSome := by
    rw [hdd]
    cases Wk.row m ⟨hs, hs, hs⟩ bs <;> rfl
  have t1 : EvD K (tCall (spIsRow K C) [] E0 (tCons (tVar 1) (tCons (tOp (rIxL K) (tVar 5) (tC (.int 0))) (tCons (tOp (rIxL K) (tVar 5) (tC (.int 1))) tNil)))) [some qv, some (.ref ml), some hv, some rv, some dv, some gv, none, none, none, none, none] F1 (.bool (Wk.row m ⟨hs, hs, hs⟩ bs).isSome) := fun H e Q q =>
    ⟨_, rfl, (gv0 _ F1 (Ex.refl _) rfl) H e _ fun v F2 H2 g2 hv2 => (gv1 _ F2 g2.fx rfl) H2 g2.fh _ fun u F3 H3 g3 hu3 => ⟨F3, ml, v, u, m, hs, rfl, g3.fh, .inr ⟨bs, Aa, Mm, Bb, ⟨ri1.hm.mono (g2.fx.trans g3.fx), ri.ok, dp_ex g3.fx hv2, ri.ho, hu3, ri.ro, ri.wb, ri.sx, ri.bd⟩, fun F4 H4 g4 => q _ F4 H4 ((g2.trans g3).trans g4) (.bl _)⟩⟩⟩
  refine seq_of (s_ifF (et_test (K := K) (Dv.ev_is (ev_neS (ev_repr t1 (repr_b _)) (ev_repr (ev_notNR (Dv.ev_var (i := 4) rfl hdv)) (repr_b _))) (by rw [nb, Bool.not_not, decide_eq_true rfl]; rfl))) g1.fh fun F2 H2 g2 => ?_)
  unfold tNext
  dsimp only
  have G2 := g1.trans g2
  have hdv2 := dp_ex g2.fx hdv
  have hgv2 := dp_ex g2.fx hgv
  cases hrow : Wk.row m ⟨hs, hs, hs⟩ bs with
  | none =>
    have isn : nonB dd = true := by rw [nb, hrow] <;> rfl
    refine seq_of (s_ifT (et_v (ev_isNR (Dv.ev_var (i := 4) rfl hdv2)) (congrArg PyData.bool isn)) G2.fh fun F3 H3 g3 => ?_)
    have G3 := G2.trans g3
    have lcd := lc_rule (K := K) (F := F3) (te := tVar 8) (vs := [8]) (tt := tTest (tOp rNe (tCall (spCaughtRow K C) [] E0 (tCons (tVar 8) (tCons (tVar 1) (tCons (tVar 2) (tCons (tVar 3) tNil))))) (tCB (rReprD K) (tCons (tVar 3) tNil)))) (g := gName 8) (σ := [some qv, some (.ref ml), some hv, some rv, some dv, some gv, none, none, none, none, none]) (List.range 2) (fun i : Nat => PyData.int (i : Int)) (fun i : Nat => PyData.int (i : Int)) (fun _ => false)
      (it_rng1 (n := 2) (Dv.ea_cons (Dv.ev_int 2) Dv.ea_nil) (by decide) (by decide)) (by decide)
      (fun x hx v F4 e4 hv4 => by
        have hx2 := List.mem_range.mp hx
        have ri4 := ri.mono (G3.fx.trans e4)
        cases hv4
        refine ⟨[some qv, some (.ref ml), some hv, some rv, some dv, some gv, none, none, some (.int (x : Int)), none, none], fun H e Q q => q, rfl, et_test (K := K) (Dv.ev_is (ev_neS (x := (encRow bs).shown) (y := (encRow bs).shown) (fun H e Q q => ⟨_, rfl, _, rfl, _, rfl, _, rfl, (x : Int), F4, ml, hv, rv, m, hs, bs, Aa, Mm, Bb, rfl, by omega, e, ri4, hrow, rt.rp, fun F5 H5 g5 => q _ F5 H5 g5 (.str _)⟩) (ev_repr (Dv.ev_var (i := 3) rfl ri4.hr) rt.rp)) (by rw [decide_eq_true rfl]; rfl)), fun z => by cases z⟩)
    rw [List.filter_eq_nil_iff.mpr (by intro a _ z; cases z)] at lcd
    refine Dv.s_ret (K := K) (d := .bool true) (Dv.ev_is (ev_eqD (EvL.ev lcd) (EvL.ev (Dv.el_lst Dv.ea_nil (by simp))) shaped_nil shaped_nil) (by rw [List.map_nil, eqv_nil] <;> rfl)) G3.fh fun v F8 H8 g8 hv8 => ?_
    cases hv8
    exact q F8 H8 (G3.trans g8)
  | some s =>
    have isn : nonB dd = false := by rw [nb, hrow] <;> rfl
    refine seq_of (s_ifF (et_v (ev_isNR (Dv.ev_var (i := 4) rfl hdv2)) (congrArg PyData.bool isn)) G2.fh fun F3 H3 g3 => ?_)
    dsimp only
    have G3 := G2.trans g3
    show tSeq _ _ _ [some qv, some (.ref ml), some hv, some rv, some dv, some gv, none, none, none, none, none] H3
    have hd3 : Dp K F3 dv (encP m bs (some s)) := by rw [← hrow, ← hdd]; exact dp_ex g3.fx hdv2
    have hg3 := dp_ex g3.fx hgv2
    refine seq_of (Dv.s_for (K := K) (F := F3) (it_rng1 (n := 2) (Dv.ea_cons (Dv.ev_int 2) Dv.ea_nil) (by decide) (by decide)) G3.fh
      (fun n σ' F' H' => ∃ s9 s10, σ' = [some qv, some (.ref ml), some hv, some rv, some dv, some gv, none, none, none, s9, s10] ∧ Gr F H F' H' ∧ Ex F3 F')
      (fun F' H' g4 => ⟨none, none, rfl, G3.trans g4, g4.fx⟩) ?_ (fun σ' F4 H4 e4 e4' pv' => ?_))
    · rintro Fb eb n σ' F' H' tv du F4 H4 hdu e1 e2 ⟨s9, s10, rfl, kk, e3⟩ g4 htv
      show tSeq _ _ _ [some qv, some (.ref ml), some hv, some rv, some dv, some gv, none, none, none, some tv, s10] H4
      have G4 := kk.trans g4
      have x34 : Ex F3 F4 := e3.trans g4.fx
      have ri4 := ri.mono G4.fx
      have xg : Ex F1 F4 := (g2.fx.trans g3.fx).trans x34
      have lt : ∀ f : Wk → List PyData, EvL K (tCall (spToldG K C f) [] E0 (tCons (tVar 1) (tCons (tOp (rIxL K) (tVar 5) (tC (.int 0))) (tCons (tOp (rIxL K) (tVar 5) (tC (.int 1))) tNil)))) [some qv, some (.ref ml), some hv, some rv, some dv, some gv, none, none, none, some tv, s10] F4 (f s) := fun f => el_told rfl ri4 hrow (gv0 _ F4 xg rfl) (gv1 _ F4 xg rfl)
      have ld : EvL K (tCall (spDoneL K C) [] E0 (tCons (tVar 1) (tCons (tOp (rIxL K) (tVar 5) (tC (.int 1))) tNil))) [some qv, some (.ref ml), some hv, some rv, some dv, some gv, none, none, none, some tv, s10] F4 ((rowTot m.zero bs).map fun p => encR p.2) := fun H e Q q =>
        ⟨_, rfl, (gv1 _ F4 xg rfl) H e _ fun u F2 H2 g2 hu2 => ⟨F2, ml, u, m, bs, Aa, bs.length * (12 * Aa), 12 * Aa, rfl, g2.fh, ri4.hm.mono g2.fx, ri.ok, hu2, ri.ro, fun b hb => by
          obtain ⟨b1, b2, _⟩ := rt.bb b hb
          have := rt.po.al
          refine ⟨?_, by omega⟩
          have h1 : b.2.length * (Aa * b.1) ≤ 3 * (Aa * b.1) := Nat.mul_le_mul_right _ b2
          have h2 : Aa * b.1 ≤ Aa * 4 := Nat.mul_le_mul_left _ b1
          omega, rfl, by
          have := rt.po.al
          have h1 : bs.length * (12 * Aa) ≤ 3 * (12 * Aa) := Nat.mul_le_mul_right _ rt.bl
          omega, fun p ws F3 H3 g3 h1 h2 h3 h4 => q p ws F3 H3 (g2.trans g3) (ex_none g2.hx h1) h2 h3 h4⟩⟩
      refine seq_of (asg_of ((lt _) H4 G4.fh _ fun pa wa F5 H5 g5 a1 a2 a3 a4 => ((lt _).mono g5.fx) H5 g5.fh _ fun pb wb F6 H6 g6 b1 b2 b3 b4 => (ld.mono (g5.fx.trans g6.fx)) H6 g6.fh _ fun pc wc F7 H7 g7 c1 c2 c3 c4 => ⟨sz_of (by simp), fun p hp => ?_⟩))
      have ka6 := g6.keep a3 a2
      have ka := g7.keep ka6.1 ka6.2
      have kb := g7.keep b3 b2
      have ab : pa ≠ pb := fun z => by rw [← z, a3] at b1; cases b1
      have ac : pa ≠ pc := fun z => by rw [← z, ka6.1] at c1; cases c1
      have bc : pb ≠ pc := fun z => by rw [← z, b3] at c1; cases c1
      have a1' := a1
      have b1' := ex_none g5.hx b1
      have c1' := ex_none (g5.trans g6).hx c1
      obtain ⟨Ff, gf, xf, df, npa, npb, npc⟩ := told3 ((g5.trans g6).trans g7) a1' b1' c1' ka.2 kb.2 c2 ka.1 kb.1 c3 ab ac bc hp (dps_ex (g6.fx.trans g7.fx) a4) (dps_ex g7.fx b4) c4
      have hu : upd H7 p (.lst [.ref pa, .ref pb, .ref pc]) p = some (.lst [.ref pa, .ref pb, .ref pc]) := upd_same
      have hua : upd H7 p (.lst [.ref pa, .ref pb, .ref pc]) pa = some (.lst wa) := by rw [upd_ne npa.symm]; exact ka.1
      have hub : upd H7 p (.lst [.ref pa, .ref pb, .ref pc]) pb = some (.lst wb) := by rw [upd_ne npb.symm]; exact kb.1
      have huc : upd H7 p (.lst [.ref pa, .ref pb, .ref pc]) pc = some (.lst wc) := by rw [upd_ne npc.symm]; exact c3
      generalize upd H7 p (.lst [.ref pa, .ref pb, .ref pc]) = Ht at *
      dsimp only
      show tSeq _ _ _ [some qv, some (.ref ml), some hv, some rv, some dv, some gv, none, none, none, some tv, some (.ref p)] Ht
      have ln := row_len rt.sd (fun b hb z hz => ((ri.ro.st b hb).1.t z hz).1) (start_len ri.ho) hrow
      have l8 := ri.ok.s2
      have kz : m.zero.map (·.1) = m.titles := by
        unfold MillD.zero
        rw [List.map_map]
        exact List.map_id _
      have tl : (rowTot m.zero bs).length ≤ 8 := by
        have kk := congrArg List.length (keys_row (t := m.zero) (bs := bs) fun b hb z hz => by rw [kz]; exact ((ri.ro.st b hb).1.t z hz).1)
        rw [List.length_map, kz] at kk
        rw [kk]
        unfold MillD.titles
        rw [List.length_map]
        exact ri.ok.r2
      have gd := gk_due (m := m) (bs := bs) (s := s) (by rw [ln.h]; omega) (by rw [ln.l]; omega) (by omega)
      refine seq_of (s_ifF (et_v (ev_neD (Dv.ev_var (i := 10) rfl df) (Dv.ev_var (i := 4) rfl (dp_ex (x34.trans gf.fx) hd3)) (gd.shaped (by omega)) (gd.shaped (by omega))) (congrArg (fun b => PyData.bool (!b)) gd.eqv)) gf.fh fun F8 H8 g8 => ?_)
      dsimp only
      have h8 := g8.hx _ _ hu
      have h8a := g8.hx _ _ hua
      have h8b := g8.hx _ _ hub
      have h8c := g8.hx _ _ huc
      have wal : wa.length < 100000 := by
        rw [dps_len a4, List.length_map, ln.h]
        omega
      have wbl : wb.length < 100000 := by
        rw [dps_len b4]
        unfold encN
        rw [List.length_map, List.length_zip, ln.l]
        omega
      have wcl : wc.length < 100000 := by
        rw [dps_len c4, List.length_map]
        omega
      show tSeq _ _ _ [some qv, some (.ref ml), some hv, some rv, some dv, some gv, none, none, none, some tv, some (.ref p)] H8
      refine seq_of (s_app0 (ix_ref (i := 10) rfl h8 rfl) h8a wal ?_)
      dsimp only
      refine seq_of (s_app0 (ix_ref (i := 10) rfl (by rw [upd_ne npa]; exact h8) rfl) (by rw [upd_ne ab.symm]; exact h8b) wbl ?_)
      dsimp only
      refine s_app0 (ix_ref (i := 10) rfl (by rw [upd_ne npb, upd_ne npa]; exact h8) rfl) (by rw [upd_ne bc.symm, upd_ne ac.symm]; exact h8c) wcl ?_
      have gb : Gr F' H' F4 H8 := Gr.back (F2 := F4) g4 (gf.hx.trans g8.hx)
      have gA := ((gb.mut (ex_none g4.hx a1') (ex_none g4.fh a1') (o := .lst (wa ++ [.non]))).mut (ex_none g4.hx b1') (ex_none g4.fh b1') (o := .lst (wb ++ [.non]))).mut (ex_none g4.hx c1') (ex_none g4.fh c1') (o := .lst (wc ++ [.non]))
      exact ⟨F4, e1.trans gA.fx, gA.fh, _, _, rfl, kk.trans gA, e3.trans gA.fx⟩
    · obtain ⟨s9, s10, rfl, kk, e3⟩ := pv'
      have hh4 := dp_ex kk.fx ri.hh
      have hr4 := dp_ex kk.fx ri.hr
      have gg4 : Gk 7 (.list [.list (hs.map encR), encRow bs]) := gk_list (k := 6) (by simp) (mem2 ((gk_rats (by rw [ri.ho.len]; have := ri.ok.s2; omega)).mono (by omega)) (gk_row ri.ok ri.ro))
      refine Dv.s_ret (K := K) (F := F4) (d := .bool true) (Dv.ev_is (Dv.ev_eqD (Dv.ev_var (i := 5) rfl (dp_ex e3 hg3)) (EvL.ev (Dv.el_lst (Dv.ea_cons (Dv.ev_var (i := 2) rfl hh4) (Dv.ea_cons (Dv.ev_var (i := 3) rfl hr4) Dv.ea_nil)) (by simp))) (gg4.shaped (by omega)) (gg4.shaped (by omega))) (by rw [gg4.eqv])) kk.fh fun y F5 H5 g5 hy => ?_
      cases hy
      exact q F5 H5 (kk.trans g5)
end
end R3

set_option Elab.async false
set_option linter.all false
set_option maxRecDepth 100000
set_option maxHeartbeats 4000000
/-! what is known of the mills, holdings and rows that are drawn -/
namespace R3
open PySem PySem.Spec PyProof.Rows L2 Evl Dv
open Qa (toF Sx)
theorem numOf_bd {x : Str} : ∀ {ps : List (Str × Int)}, (ps.map (·.1)).Nodup → (∀ z ∈ ps, 1 ≤ z.2 ∧ z.2 ≤ 3) → (numOf ps x).natAbs ≤ 3
  | [], _, _ => by
    show (0 : Int).natAbs ≤ 3
    decide
  | p :: r, hn, hz => by
    rw [List.map_cons, List.nodup_cons] at hn
    rw [numOf_cons]
    have h1 := hz p List.mem_cons_self
    by_cases e : p.1 = x
    · rw [if_pos e, numOf_none (by rw [← e]; exact hn.1)]
      omega
    · rw [if_neg e, Int.zero_add]
      exact numOf_bd hn.2 fun z h => hz z (List.mem_cons_of_mem _ h)
theorem Drawn.nodup {m : MillD} {wide many : Nat} (d : Drawn m wide many) (w3 : wide ≤ 3) : m.names.Nodup := by
  rw [d.names]
  exact nd_cad w3
theorem Drawn.sided {m : MillD} {wide many : Nat} (d : Drawn m wide many) (w1 : 1 ≤ wide) (w3 : wide ≤ 3) (m3 : many ≤ 3) : Sided m := ⟨d.ok w1 w3 m3, d.ro⟩
theorem Drawn.numL {m : MillD} {wide many : Nat} (d : Drawn m wide many) (w3 : wide ≤ 3) : NumL m 3 := fun r hr x => by
  obtain ⟨h1, h2⟩ := d.ro r hr
  have nd := d.nodup w3
  exact ⟨numOf_bd (nd.sublist h1.sub) h1.num, numOf_bd (nd.sublist h2.sub) h2.num⟩
theorem Drawn.numLe {m : MillD} {wide many : Nat} (d : Drawn m wide many) (w3 : wide ≤ 3) : NumLe m 3 := fun r hr => by
  obtain ⟨h1, h2⟩ := d.ro r hr
  have nd := d.nodup w3
  have key : ∀ ps, SideOk m.names ps → ∀ n ∈ numbersOf m.names ps, n.natAbs ≤ 3 := fun ps hp n hn => by
    obtain ⟨i, hi, rfl⟩ := List.mem_iff_getElem.mp hn
    have hi' : i < m.names.length := by rwa [numbersOf_len] at hi
    have e := numbers_at nd hi' hp.sub
    rw [List.getElem?_eq_getElem hi] at e
    have e' : (numbersOf m.names ps)[i] = numOf ps m.names[i] := e
    rw [e']
    exact numOf_bd (nd.sublist hp.sub) hp.num
  exact ⟨key _ h1, key _ h2⟩
theorem Drawn.partsOk {m : MillD} {wide many : Nat} (d : Drawn m wide many) (w1 : 1 ≤ wide) (w3 : wide ≤ 3) (m3 : many ≤ 3) : PartsOk m 240 3 :=
  ⟨d.ok w1 w3 m3, fun z hz r hr => by
    have := d.rooms z hz r hr
    omega, d.numL w3, fun r hr => by
    obtain ⟨h1, h2⟩ := d.ro r hr
    have := h1.few
    have := h2.few
    exact ⟨by omega, by omega⟩, by decide, by decide⟩
theorem Drawn.wkB {m : MillD} {wide many : Nat} (d : Drawn m wide many) (w3 : wide ≤ 3) (m3 : many ≤ 3) : WkB m 240 3 :=
  ⟨by unfold MillD.names; rw [List.length_map, d.slen]; omega, by rw [d.rl]; omega, d.numLe w3, by decide, by decide⟩
theorem drawn_hold {m : MillD} {wide many : Nat} (d : Drawn m wide many) (w3 : wide ≤ 3) {hs : List Rat} (hl : hs.length = m.stuffs.length) (h : ∀ x ∈ hs, 0 ≤ x ∧ Sx 360 x) (ro : ∀ z ∈ m.stuffs.zip hs, roomOk z.1.2 z.2 = true) : HoldOk m hs :=
  ⟨hl, by rw [d.slen]; omega, fun z hz r hr => by
    have := d.rooms z hz r hr
    omega, fun x hx => (h x hx).2.mono (by decide), fun x hx => (h x hx).1, ro⟩
theorem drawn_row {m : MillD} {bs : List BlkD} (hl : bs.length ≤ 3) (h : ∀ b ∈ bs, BlkD.Ok (m.recipes.map (·.1)) b) : RowOk m 240 bs :=
  ⟨fun b hb => by
    have o := h b hb
    refine ⟨⟨fun st hst => ⟨(o.st st hst).1, (o.st st hst).2.2⟩, by have := o.s3; omega⟩, fun z => by
      have := o.s1
      rw [z] at this
      exact absurd this (by decide), o.m1, by have := o.m4; omega, fun st hst => (o.st st hst).2.1⟩, by omega⟩
theorem bdAt_3 : ∀ {bs : List BlkD} {B : Nat}, (∀ b ∈ bs, b.1 ≤ 4 ∧ b.2.length ≤ 3) → bdAt 240 3 B bs + 3240 ≤ 9 ^ bs.length * (B + 3240)
  | [], B, _ => by
    show B + 3240 ≤ 9 ^ 0 * (B + 3240)
    omega
  | b :: r, B, h => by
    obtain ⟨h1, h2⟩ := h b List.mem_cons_self
    have ih := bdAt_3 (bs := r) (B := ledB (b.2.length * (240 * 3 + 240 * 3)) B b.1) fun c hc => h c (List.mem_cons_of_mem _ hc)
    refine Nat.le_trans ih ?_
    rw [List.length_cons, Nat.pow_succ, Nat.mul_assoc]
    refine Nat.mul_le_mul_left _ ?_
    unfold ledB
    have e1 : b.2.length * (240 * 3 + 240 * 3) ≤ 4320 := Nat.mul_le_mul_right (240 * 3 + 240 * 3) h2
    generalize b.2.length * (240 * 3 + 240 * 3) = c at *
    have e2 : (B + c + B) * b.1 ≤ (B + c + B) * 4 := Nat.mul_le_mul_left _ h1
    omega
theorem drawn_in {K : PySem.W.Frag} {F : Hp} {C ml : Addr} {hv rv : V} {m : MillD} {wide many : Nat} {hs : List Rat} {bs : List BlkD} (d : Drawn m wide many) (w1 : 1 ≤ wide) (w3 : wide ≤ 3) (m3 : many ≤ 3) (hm : MillAt K F C ml m) (hh : Dp K F hv (.list (hs.map encR))) (ho : HoldOk m hs) (hx : ∀ x ∈ hs, Sx 360 x)
    (hr : Dp K F rv (encRow bs)) (hl : bs.length ≤ 3) (hb : ∀ b ∈ bs, BlkD.Ok (m.recipes.map (·.1)) b) : RowIn K F C ml hv rv m hs bs 240 3 360 :=
  ⟨hm, d.ok w1 w3 m3, hh, ho, hr, drawn_row hl hb, d.wkB w3 m3, hx, by
    have h1 := bdAt_3 (bs := bs) (B := 360) fun b hb' => ⟨(hb b hb').m4, (hb b hb').s3⟩
    have h2 : 9 ^ bs.length ≤ 9 ^ 3 := Nat.pow_le_pow_right (by decide) hl
    have h3 : 9 ^ bs.length * (360 + 3240) ≤ 9 ^ 3 * (360 + 3240) := Nat.mul_le_mul_right _ h2
    omega⟩
theorem ttl_of {x : Str} (h : x = "r" ∨ x = "s" ∨ x = "t") : Ttl x := by
  rcases h with rfl | rfl | rfl <;> exact ⟨by decide +kernel, by decide +kernel, by decide +kernel⟩
theorem drawn_right {m : MillD} {wide many : Nat} {hs : List Rat} {bs : List BlkD} (d : Drawn m wide many) (w1 : 1 ≤ wide) (w3 : wide ≤ 3) (m3 : many ≤ 3) (hl : bs.length ≤ 3) (hb : ∀ b ∈ bs, BlkD.Ok (m.recipes.map (·.1)) b) : RightIn m hs bs 240 3 360 :=
  ⟨d.partsOk w1 w3 m3, d.sided w1 w3 m3, hl, fun b hb' => ⟨(hb b hb').m4, (hb b hb').s3, fun z hz => ⟨((hb b hb').st z hz).1, ((hb b hb').st z hz).2.2⟩⟩, by decide, rp_row hl fun b hb' => ⟨(hb b hb').m4, (hb b hb').s3, fun z hz => ⟨ttl_of (title_rst d m3 ((hb b hb').st z hz).1), ((hb b hb').st z hz).2.2.mono (by decide)⟩⟩⟩
theorem drawn_zz {m : MillD} {wide many : Nat} (d : Drawn m wide many) (m3 : many ≤ 3) : ("zz" : Str) ∉ m.titles := fun h => by
  rcases title_rst d m3 h with e | e | e <;> exact absurd e (by decide +kernel)
end R3

set_option Elab.async false
set_option linter.all false
set_option maxRecDepth 100000
set_option maxHeartbeats 4000000
namespace R3
open PySem PySem.Spec PyProof.Rows L2 Evl Dv
open Qa (toF Sx)
section
variable {P : Program} {w : World} {K : PySem.W.Frag} {mg : Str → Option Value} {base : Heap} {C : Addr}
def spLaw (K : PySem.W.Frag) : Sp := fun vs H Q _ => ∃ (a : Addr) (ns : List Int), vs = [.ref a] ∧ SqL K H a (ns.map V.int) ∧ ns.length ≤ 63 ∧ ∀ H', Q (.bl true) H'
theorem sc_law : FnScope (["script", "index", "generator", "parts", "mill", "turn", "held"] : List Str) (["script"] : List Str) (defScope sLaw) := ⟨rfl, rfl, rfl, by decide +kernel, rfl, by decide +kernel, by decide +kernel⟩
theorem ok_law (D : Def K mg "law" sLaw ["script"]) (B : Bl mg) (C__law_generator : Cal P w K mg base "_law_generator" ["script", "index"] 2 (spGen K)) (C__law_random : Cal P w K mg base "_law_random" ["generator", "bound"] 2 spRandom) (C__law_mill_drawn : Cal P w K mg base "_law_mill_drawn" ["generator", "wide", "many"] 4 (spMillDrawn K))
    (M_Mill : Mak P w K mg base "Mill" C ["stuffs", "recipes"] 5 (spMillInit K C)) (C__law_held_drawn : Cal P w K mg base "_law_held_drawn" ["generator", "stuffs"] 4 (spHeldDrawn K)) (C__law_row_drawn : Cal P w K mg base "_law_row_drawn" ["generator", "recipes"] 3 (spRowDrawn K))
    (C__law_right : Cal P w K mg base "_law_right" ["parts", "mill", "held", "row"] 12 (spRight K C)) (C__law_none : Cal P w K mg base "_law_none" ["mill", "held", "name"] 10 (spNone K C)) : Cal P w K mg base "law" ["script"] 13 (spLaw K) := by
  refine cal_mk D sc_law (fun vs H Q E h => ?_) (fun f cdv A outer s H vs Q E hr h => ?_)
  · obtain ⟨a, ns, rfl, _⟩ := h
    rfl
  obtain ⟨a, ns, rfl, hS, hl, q⟩ := h
  refine ⟨_, (pss_cons (ps_for PassesOwn.never rfl (pi_range1 rfl B.range (pa_cons pe_int pa_nil)) (pg_name (i := 1) sc_law.nd rfl (.inl rfl)) (pss_cons (ps_set (i := 2) sc_law.nd rfl (.inl rfl) (pe_callC C__law_generator hr (pa_cons (pv 0) (pa_cons (pv 1) pa_nil))))
      (pss_cons (ps_set (i := 3) sc_law.nd rfl (.inl rfl) (pe_callC C__law_mill_drawn hr (pa_cons (pv 2) (pa_cons (pe_op op_add pe_int (pe_callC C__law_random hr (pa_cons (pv 2) (pa_cons pe_int pa_nil)))) (pa_cons (pe_op op_add pe_int (pe_callC C__law_random hr (pa_cons (pv 2) (pa_cons pe_int pa_nil)))) pa_nil)))))
      (pss_cons (ps_set (i := 4) sc_law.nd rfl (.inl rfl) (pe_makC M_Mill hr (pa_cons (pe_ix ix_tup (pv 3) pe_int (fun _ _ => rfl)) (pa_cons (pe_ix ix_tup (pv 3) pe_int (fun _ _ => rfl)) pa_nil))))
      (pss_cons (ps_for PassesOwn.never rfl (pi_range1 rfl B.range (pa_cons pe_int pa_nil)) (pg_name (i := 5) sc_law.nd rfl (.inl rfl)) (pss_cons (ps_set (i := 6) sc_law.nd rfl (.inl rfl) (pe_callC C__law_held_drawn hr (pa_cons (pv 2) (pa_cons (pe_ix ix_tup (pv 3) pe_int (fun _ _ => rfl)) pa_nil))))
      (pss_one (ps_if (pt_not (pt_val (pe_callC C__law_right hr (pa_cons (pv 3) (pa_cons (pv 4) (pa_cons (pv 6) (pa_cons (pe_callC C__law_row_drawn hr (pa_cons (pv 2) (pa_cons (pe_ix ix_tup (pv 3) pe_int (fun _ _ => rfl)) pa_nil))) pa_nil))))))) (pss_one (ps_ret pe_bl)) pss_nil))))
      (pss_one (ps_if (PW.pt (pw_or (pt_not (pt_val (pe_callC C__law_right hr (pa_cons (pv 3) (pa_cons (pv 4) (pa_cons (pv 6) (pa_cons (pe_lst pa_nil) pa_nil))))))) (pw_or1 (pt_not (pt_val (pe_callC C__law_none hr (pa_cons (pv 4) (pa_cons (pv 6) (pa_cons (pe_ix ix_tup (pe_ix ix_list (pe_ix ix_tup (pv 3) pe_int (fun _ _ => rfl)) pe_int (fun _ _ => rfl)) pe_int (fun _ _ => rfl)) pa_nil))))))))) (pss_one (ps_ret pe_bl)) pss_nil)))))))
      (pss_one (ps_ret pe_bl))), ?_⟩
  have st : start ["script", "index", "generator", "parts", "mill", "turn", "held"] [.ref a] = [some (.ref a), none, none, none, none, none, none] := rfl
  rw [st]
  refine seq_of (Dv.s_for (K := K) (F := H) (it_rng1 (n := 3) (Dv.ea_cons (Dv.ev_int 3) Dv.ea_nil) (by decide) (by decide)) (Ex.refl H)
    (fun n σ' F' H' => ∃ s1 s2 s3 s4 s5 s6, σ' = [some (.ref a), s1, s2, s3, s4, s5, s6] ∧ Ex H F')
    (fun F' H' g1 => ⟨none, none, none, none, none, none, rfl, g1.fx⟩) ?_ (fun σ' F1 H1 e1 e1' pv => ?_))
  · rintro Fb eb n σ' F' H' u dd F1 H1 hdd e1 e2 ⟨s1, s2, s3, s4, s5, s6, rfl, e0⟩ g1 hu
    obtain ⟨hn, hdn⟩ := List.getElem?_eq_some_iff.mp hdd
    rw [List.length_map, List.length_range] at hn
    have hn3 : n < 3 := hn
    have hdn' : dd = .int (n : Int) := by rw [← hdn, List.getElem_map, List.getElem_range]
    subst hdn'
    cases hu
    have x1 : Ex H F1 := e0.trans g1.fx
    show tSeq (tAsg _ _) _ _ [some (.ref a), some (.int (n : Int)), s2, s3, s4, s5, s6] H1
    refine seq_of (asg_of ⟨_, rfl, _, rfl, a, ns, n, rfl, by omega, ex_l (x1.trans g1.fh) hS, hl, fun g gx gs H2 sm hg2 x0 s0 s1' => ?_⟩)
    have eF2 : Ex F1 (upd H2 g (.lst [.int gx, .int gs, .int (1000 * (n : Int))])) := fun b o hb => by
      have hb2 := sm b o (g1.fh b o hb)
      rw [upd_ne (ne_of_none hb2 hg2)]
      exact hb2
    have fg : F1 g = none := by
      cases z : F1 g with
      | none => rfl
      | some o =>
        have := sm g o (g1.fh g o z)
        rw [hg2] at this
        cases this
    have hgen : GenAt (upd H2 g (.lst [.int gx, .int gs, .int (1000 * (n : Int))])) g (1000 * n) := ⟨gx, gs, _, upd_same, x0, s0, s1', by omega, by omega⟩
    dsimp only
    show tSeq _ _ _ [some (.ref a), some (.int (n : Int)), some (.ref g), s3, s4, s5, s6] _
    -- parts
    have args := da_cons (K := K) (g := g) (σ := [some (.ref a), some (.int (n : Int)), some (.ref g), s3, s4, s5, s6]) (F := F1) (dr_add (m := 1) (n := 2) (m' := 0) (n' := 3) (dr_of (Dv.ev_int 1) ⟨1, rfl, by decide, by decide⟩) (dr_random (i := 2) rfl (by decide) (by decide) (by decide +kernel)))
      (da_cons (dr_add (m := 1) (n := 2) (m' := 0) (n' := 3) (dr_of (Dv.ev_int 1) ⟨1, rfl, by decide, by decide⟩) (dr_random (i := 2) rfl (by decide) (by decide) (by decide +kernel))) da_nil)
    refine seq_of (asg_of ⟨_, rfl, args _ (1000 * n) eF2 fg hgen (by omega) _ fun vs F3 H3 ds k3 hg3 pds hvs => ?_⟩)
    obtain ⟨d1, r1, rfl, ⟨i1, rfl, i10, i11⟩, d2, r2, rfl, ⟨i2, rfl, i20, i21⟩, rfl⟩ := pds
    obtain ⟨v1, v2, rfl, hv1, hv2⟩ := Dv.two hvs
    cases hv1
    cases hv2
    obtain ⟨wide, rfl⟩ := Int.eq_ofNat_of_zero_le (show 0 ≤ i1 by omega)
    obtain ⟨many, rfl⟩ := Int.eq_ofNat_of_zero_le (show 0 ≤ i2 by omega)
    refine ⟨F3, g, _, wide, many, rfl, by omega, by omega, by omega, k3.fh, k3.fg, hg3, by omega, fun qv F4 H4 m k4 hg4 dr hqv => ?_⟩
    have w1 : 1 ≤ wide := by omega
    have w3 : wide ≤ 3 := by omega
    have m1 : 1 ≤ many := by omega
    have m3 : many ≤ 3 := by omega
    have ok := dr.ok w1 w3 m3
    dsimp only
    show tSeq _ _ _ [some (.ref a), some (.int (n : Int)), some (.ref g), some qv, s4, s5, s6] H4
    have p0 : ∀ (σ : L2.St) (F' : Hp), Ex F4 F' → σ[3]? = some (some qv) → EvD K (tOp (rIxT K) (tVar 3) (tC (.int 0))) σ F' (.list (m.stuffs.map encStuff)) := fun σ F' e' hi => Dv.ev_ixT (Dv.ev_var hi (dp_ex e' hqv)) (Dv.ev_int 0) rfl
    have p1 : ∀ (σ : L2.St) (F' : Hp), Ex F4 F' → σ[3]? = some (some qv) → EvD K (tOp (rIxT K) (tVar 3) (tC (.int 1))) σ F' (.list (m.recipes.map encRecipe)) := fun σ F' e' hi => Dv.ev_ixT (Dv.ev_var hi (dp_ex e' hqv)) (Dv.ev_int 1) rfl
    refine seq_of (asg_of (ev_mill (K := K) (C := C) (E := E0) (Dv.ea_cons (p0 _ F4 (Ex.refl _) rfl) (Dv.ea_cons (p1 _ F4 (Ex.refl _) rfl) Dv.ea_nil)) ok H4 k4.fh _ fun ml F5 H5 g5 hm => ?_))
    have k5 := hg4.of g5 k4.fg
    dsimp only
    show tSeq _ _ _ [some (.ref a), some (.int (n : Int)), some (.ref g), some qv, some (.ref ml), s5, s6] H5
    refine seq_of (Dv.s_for (K := K) (F := F5) (it_rng1 (n := 4) (Dv.ea_cons (Dv.ev_int 4) Dv.ea_nil) (by decide) (by decide)) g5.fh
      (fun j σ' F' H' => ∃ s5 s6, σ' = [some (.ref a), some (.int (n : Int)), some (.ref g), some qv, some (.ref ml), s5, s6] ∧ Ex F5 F' ∧ F' g = none ∧ GenAt H' g (1000 * n + 30 + 60 * j) ∧
        (1 ≤ j → ∃ hv hs, s6 = some hv ∧ Dp K F' hv (.list (hs.map encR)) ∧ HoldOk m hs ∧ ∀ x ∈ hs, Sx 360 x))
      (fun F' H' g6 => ?_) ?_ (fun σ' F6 H6 e6 e6' pv6 => ?_))
    · have k6 := k5.2.of g6 k5.1.fg
      exact ⟨s5, s6, rfl, g6.fx, k6.1.fg, k6.2.mono (by omega), fun h => absurd h (by decide)⟩
    · rintro Fc ec j σ' F' H' tv td F6 H6 htd e6 e6' ⟨s5', s6', rfl, e56, fg6, hg6, _⟩ g6 htv
      have hj : j < 4 := by
        have := (List.getElem?_eq_some_iff.mp htd).1
        rwa [List.length_map, List.length_range] at this
      have k6 := hg6.of g6 fg6
      have x56 : Ex F5 F6 := e56.trans g6.fx
      show tSeq (tAsg _ _) _ _ [some (.ref a), some (.int (n : Int)), some (.ref g), some qv, some (.ref ml), some tv, s6'] H6
      refine seq_of (asg_of ⟨_, rfl, (p0 _ F6 (g5.fx.trans x56) rfl) H6 k6.1.fh _ fun sv F7 H7 g7 hsv => ?_⟩)
      have k7 := k6.2.of g7 k6.1.fg
      refine ⟨F7, g, _, sv, m.stuffs, rfl, k7.1.fh, k7.1.fg, k7.2, by omega, hsv, ok.s2, dr.rooms, fun hv F8 H8 hs k8 hg8 hl8 hx8 hr8 hd8 => ?_⟩
      have ho := drawn_hold dr w3 hl8 hx8 hr8
      have hx : ∀ x ∈ hs, Sx 360 x := fun x h => (hx8 x h).2
      dsimp only
      show tIfS _ _ _ _ [some (.ref a), some (.int (n : Int)), some (.ref g), some qv, some (.ref ml), some tv, some hv] H8
      have x58 : Ex F5 F8 := x56.trans (g7.fx.trans k8.fx)
      refine ⟨_, rfl, _, rfl, _, rfl, _, rfl, (p1 _ F8 (g5.fx.trans x58) rfl) H8 k8.fh _ fun rc F9 H9 g9 hrc => ?_⟩
      have k9 := hg8.of g9 k8.fg
      have sl := dr.slen
      refine ⟨F9, g, _, rc, m.recipes, rfl, k9.1.fh, k9.1.fg, k9.2, by omega, hrc, by rw [dr.rl]; exact m1, by rw [dr.rl]; exact m3, fun rv F10 H10 bs k10 hg10 hl10 hb10 hd10 => ?_⟩
      have x10 : Ex F8 F10 := g9.fx.trans k10.fx
      have xm : Ex F5 F10 := x58.trans x10
      refine ⟨F10, ml, qv, hv, rv, m, hs, bs, 240, 3, 360, rfl, k10.fh, dp_ex (g5.fx.trans xm) hqv, drawn_in dr w1 w3 m3 (hm.mono xm) (dp_ex x10 hd8) ho hx hd10 hl10 hb10, drawn_right dr w1 w3 m3 hl10 hb10, fun F11 H11 g11 => ⟨true, rfl, iteF ?_⟩⟩
      have k11 := hg10.of g11 k10.fg
      have xa : Ex F' F11 := g6.fx.trans (g7.fx.trans (k8.fx.trans (x10.trans g11.fx)))
      exact ⟨F11, e6.trans xa, g11.fh, _, _, rfl, e56.trans xa, k11.1.fg, k11.2.mono (by rw [sl]; omega), fun _ => ⟨hv, hs, rfl, dp_ex (x10.trans g11.fx) hd8, ho, hx⟩⟩
    · obtain ⟨s5', s6', rfl, e56, fg6, hg6, hh⟩ := pv6
      obtain ⟨hv, hs, rfl, hd, ho, hx⟩ := hh (by decide)
      have x36 : Ex F4 F6 := g5.fx.trans e56
      dsimp only
      show tIfS _ _ _ _ [some (.ref a), some (.int (n : Int)), some (.ref g), some qv, some (.ref ml), s5', some hv] H6
      refine ⟨_, rfl, _, rfl, _, rfl, (EvL.ev (Dv.el_lst (K := K) (F := F6) Dv.ea_nil (by simp))) H6 e6' _ fun rv F7 H7 g7 hrv => ?_⟩
      have x7 := g7.fx
      refine ⟨F7, ml, qv, hv, rv, m, hs, [], 240, 3, 360, rfl, g7.fh, dp_ex (x36.trans x7) hqv, drawn_in dr w1 w3 m3 (hm.mono (e56.trans x7)) (dp_ex x7 hd) ho hx hrv (by decide) (fun b hb => nomatch hb), drawn_right dr w1 w3 m3 (by decide) (fun b hb => nomatch hb), fun F8 H8 g8 => ⟨true, rfl, iteF ?_⟩⟩
      obtain ⟨r0, hr0⟩ : ∃ r0, m.recipes[0]? = some r0 := ⟨_, List.getElem?_eq_getElem (by rw [dr.rl]; omega)⟩
      have hmem : r0 ∈ m.recipes := List.mem_of_getElem? hr0
      have x8 := g7.trans g8
      refine ⟨_, rfl, _, rfl, (Dv.ev_ixT (K := K) (d := .str r0.1) (Dv.ev_ixL (d := encRecipe r0) (p1 _ F8 (x36.trans x8.fx) rfl) (Dv.ev_int 0) (atI_nat (by rw [List.getElem?_map, hr0] <;> rfl))) (Dv.ev_int 0) rfl) H8 g8.fh _ fun nv F9 H9 g9 hnv => ?_⟩
      cases hnv
      have x9 := x8.trans g9
      refine ⟨F9, ml, hv, m, hs, r0.1, rfl, g9.fh, hm.mono (e56.trans x9.fx), ok, dp_ex x9.fx hd, ho, List.mem_map.mpr ⟨r0, hmem, rfl⟩, drawn_zz dr m3, fun F10 H10 g10 => ⟨true, rfl, iteF ?_⟩⟩
      have xz : Ex F1 F10 := k3.fx.trans (k4.fx.trans (x36.trans (x9.trans g10).fx))
      exact ⟨F10, e1.trans (g1.fx.trans xz), g10.fh, _, _, _, _, _, _, rfl, x1.trans xz⟩
  obtain ⟨s1, s2, s3, s4, s5, s6, rfl, x1⟩ := pv
  dsimp only
  exact q H1
end
end R3

set_option Elab.async false
set_option linter.all false
set_option maxRecDepth 100000
set_option maxHeartbeats 4000000
/-! GENERAL: what an END has to tell of defs, of own errors and of classes. -/
namespace Hd
open PySem PySem.Spec PyProof.Rows PySem.Xn PySem.W
abbrev veT (ME : Addr) : List Value := [.ref ME, .type "ValueError", .type "Exception", .type "BaseException", .type "object"]
section
variable {P : Program} {K : Frag} {h : Heap} {mg : Str → Option Value} {cn fld qual file : Str} {C ME fI cda cc da N : Addr} {nm q0 : Str} {bs : List Value} {sn : List Str} {sub : List Value} {ab : Bool} {col : Option Bool}
  {dd od an cdd cld ddi : Option Addr} {k0 k1 k2 k3 k5 : Option Value} {oc doc pm ct ccl cl dcl : Value} {osl ccs csl dsl : Array (Option Value)} {p1 p2 p3 : Pos} {q : Nat → Pos} {vs : Array Value} {tf : Tok} {dn : Nat} {code : Value}
/-- what is alike for all the classes -/
structure Com (P : Program) (K : Frag) (mg : Str → Option Value) (ME : Addr) : Prop where
  al : alongIn K "__init__" (veT ME) = some (some (.builtin "ValueError.__init__"))
  opq : nsIn K cStatics "thirdparty.any" = some none
  noS : mg "super" = none
  hn : specialIn K (.builtin "object.__class__") "__get__" = some (some (.builtin "getset_descriptor.__get__"))
  ht : takesIn K (.builtin "object.__class__") = some true
/-- what is asked of each class -/
structure One (K : Frag) (mg : Str → Option Value) (cn : Str) (C : Addr) (bm : List Value) : Prop where
  g : mg cn = some (.ref C)
  l : ∃ nm q N bs sn sub ab col dd k0 k1 k2 k3 k5, K.lookup C = some (excClassObj nm q C N bs bm true sn sub ab col dd k0 k1 k2 k3 k5 "ValueError.__new__")
  ga : findIn K (.ref C) "__getattribute__" = some (some (.builtin "BaseException.__getattribute__"))
  gg : findIn K (.ref C) "__getattr__" = some none
  ha : findIn K (.ref C) "__class__" = some (some (.builtin "object.__class__"))
variable {bm : List Value}
theorem One.cd (O : One K mg cn C bm) : ∃ cd : ClassData, clsIn K C = some cd ∧ cd.mro = .ref C :: bm ∧ cd.hasDict = true := by
  obtain ⟨nm, q, N, bs, sn, sub, ab, col, dd, k0, k1, k2, k3, k5, e⟩ := O.l
  exact ⟨_, by unfold clsIn; rw [e] <;> rfl, rfl, rfl⟩
theorem One.mro (O : One K mg cn C bm) (b : Value) : mroIn K C b = some ((.ref C :: bm : List Value).contains b) := by
  obtain ⟨cd, e, m, _⟩ := O.cd
  unfold mroIn
  rw [e]
  show (if cd.mro.isEmpty = true then none else some (cd.mro.contains b)) = _
  rw [m] <;> rfl
theorem One.ty (O : One K mg cn C bm) : typeIn K (.ref C) = some (.type "type") := by
  obtain ⟨nm, q, N, bs, sn, sub, ab, col, dd, k0, k1, k2, k3, k5, e⟩ := O.l
  show (K.lookup C).map (·.cls) = _
  rw [e] <;> rfl
theorem One.exC (O : One K mg cn C bm) (c : Com P K mg ME) (h1 : bm.contains (.type "BaseException") = true) (h2 : bm.contains (.type "object") = true) : L2.ExC K C := by
  obtain ⟨cd, e, m, _⟩ := O.cd
  refine ⟨by rw [e] <;> rfl, O.ga, O.gg, ?_, O.ha, c.hn, c.ht, ?_⟩
  · show mroIn K C (.type "BaseException") = _
    rw [O.mro, List.contains_cons, h1]
    simp
  · rw [O.mro, List.contains_cons, h2]
    simp
theorem contains_ne {x c : Addr} {l : List Value} (h : x ≠ c) : ((.ref c :: l : List Value).contains (.ref x)) = l.contains (.ref x) := by
  rw [List.contains_cons]
  have e : ((Value.ref x) == (.ref c)) = false := by
    apply Bool.eq_false_iff.mpr
    intro z
    have := eq_of_beq z
    cases this
    exact h rfl
  rw [e, Bool.false_or]
theorem kit_own (O : One K mg cn C bm) {cn' : Str} {D : Addr} {bm' : List Value} (O' : One K mg cn' D bm') :
    kitOne K (.ref C) (.ref D) = some (decide (C = D) || bm.contains (.ref D)) := by
  unfold kitOne
  by_cases e : C = D
  · subst e
    rw [if_pos (by simp)]
    simp
  · rw [if_neg (fun z => e (by have := eq_of_beq z; cases this; rfl))]
    unfold kitCls
    have hd : ((clsIn K D).isSome && typeIn K (.ref D) == some (.type "type")) = true := by
      obtain ⟨cd, q, _⟩ := O'.cd
      rw [q, O'.ty]
      rfl
    try dsimp only
    rw [if_pos hd]
    show mroIn K C (.ref D) = _
    rw [O.mro, contains_ne (Ne.symm e)]
    simp [e]
theorem kit_VE (O : One K mg cn C bm) (h : bm.contains (.type "ValueError") = true) : kitOne K (.ref C) (.type "ValueError") = some true := by
  unfold kitOne
  rw [if_neg (fun z => by have := eq_of_beq z; cases this)]
  unfold kitCls
  dsimp only
  rw [if_pos (by decide +kernel)]
  show mroIn K C (.type "ValueError") = _
  rw [O.mro, List.contains_cons, h]
  simp
theorem ext_mk (c : Com P K mg ME) (O : One K mg cn C (veT ME))
    (sa : findIn K (.ref C) "__setattr__" = some (some (.builtin "object.__setattr__"))) (nb : findIn K (.ref C) fld = some none) (iC : findIn K (.ref C) "__init__" = some (some (.ref fI))) (kC : keepIn K (.ref C) = true)
    (l1 : K.lookup fI = some ⟨.type "function", od, .func (ksFn "__init__" qual (iA fld p1 p2 p3) (iB fld q) (iS fld) (.ref da) .none doc pm an (.ref cda) ct cc), osl⟩) (c1 : codeIn K (.ref cda) qual = true)
    (l2 : K.lookup cda = some ⟨ccl, cdd, .fields vs, ccs⟩) (v2 : vs[2]? = some (.str file tf)) (hf : ((P.main.file : Str) == file) = true)
    (l3 : K.lookup cc = some ⟨cl, cld, .cell (some (.ref C)), csl⟩) (l4 : K.lookup da = some ⟨dcl, ddi, .seq #[.none] dn, dsl⟩)
    (tx : TextOk fld q) (bd : BindOk fld (ksFn "__init__" qual (iA fld p1 p2 p3) (iB fld q) (iS fld) (.ref da) .none doc pm an (.ref cda) ct cc) da)
    (nc : (fld == ("__debug__" : Str)) = false ∧ ¬ (fld = ("self" : Str)) ∧ ¬ (fld = ("__class__" : Str)) ∧ ¬ (fld = ("super" : Str))) : ExT P K mg cn fld C fI where
  gC := O.g
  cls := by
    obtain ⟨nm, q, N, bs, sn, sub, ab, col, dd, k0, k1, k2, k3, k5, e⟩ := O.l
    exact ⟨nm, q, N, bs, _, sn, sub, ab, col, dd, k0, k1, k2, k3, k5, e, rfl, c.al⟩
  sa := sa
  ga := O.ga
  gg := O.gg
  noN := nb
  iC := iC
  tC := by
    show (K.lookup fI).map (·.cls) = _
    rw [l1] <;> rfl
  kC := kC
  exC := by
    show mroIn K C (.type "BaseException") = _
    rw [O.mro]
    rfl
  exV := by
    show mroIn K C (.type "ValueError") = _
    rw [O.mro]
    rfl
  exO := by
    rw [O.mro]
    rw [List.contains_cons]
    simp
  tyC := O.ty
  hdC := by
    obtain ⟨cd, e, m, d⟩ := O.cd
    unfold hasDictIn
    rw [e]
    exact d
  opq := c.opq
  noS := c.noS
  fn := ⟨_, od, qual, .ref da, doc, pm, an, cda, cc, ct, osl, p1, p2, p3, q, ccl, cdd, vs, ccs, file, tf, cl, cld, csl, dcl, ddi, dn, dsl, da, l1, c1, l2, v2, hf, l3, tx, bd, rfl, l4⟩
  nclash := nc
abbrev veT0 : List Value := [.type "ValueError", .type "Exception", .type "BaseException", .type "object"]
end
section
variable {P : Program} {K : Frag} {h : Heap} {mg : Str → Option Value} {cn fld qual file : Str} {C ME fI cda cc da N : Addr} {nm q0 : Str} {bs bm : List Value} {sn : List Str} {sub : List Value} {ab : Bool} {col : Option Bool}
  {dd od an cdd cld ddi : Option Addr} {k0 k1 k2 k3 k5 : Option Value} {oc doc pm ct ccl cl dcl : Value} {osl ccs csl dsl : Array (Option Value)} {p1 p2 p3 : Pos} {q : Nat → Pos} {vs : Array Value} {tf : Tok} {dn : Nat} {code : Value}
theorem one_mk (X : K.In h) (G : h.Ns mainGlobals mg) (a : nsIn K mainGlobals cn = some (some (.ref C)))
    (l : K.lookup C = some (excClassObj nm q0 C N bs bm true sn sub ab col dd k0 k1 k2 k3 k5 "ValueError.__new__"))
    (ga : findIn K (.ref C) "__getattribute__" = some (some (.builtin "BaseException.__getattribute__"))) (gg : findIn K (.ref C) "__getattr__" = some none) (ha : findIn K (.ref C) "__class__" = some (some (.builtin "object.__class__"))) : One K mg cn C bm :=
  ⟨mg_of X G a, ⟨_, _, _, _, _, _, _, _, _, _, _, _, _, _, l⟩, ga, gg, ha⟩
theorem ext_one (X : K.In h) (G : h.Ns mainGlobals mg) (c : Com P K mg ME) (a : nsIn K mainGlobals cn = some (some (.ref C)))
    (l : K.lookup C = some (excClassObj nm q0 C N bs (veT ME) true sn sub ab col dd k0 k1 k2 k3 k5 "ValueError.__new__"))
    (ga : findIn K (.ref C) "__getattribute__" = some (some (.builtin "BaseException.__getattribute__"))) (gg : findIn K (.ref C) "__getattr__" = some none) (ha : findIn K (.ref C) "__class__" = some (some (.builtin "object.__class__")))
    (sa : findIn K (.ref C) "__setattr__" = some (some (.builtin "object.__setattr__"))) (nb : findIn K (.ref C) fld = some none) (iC : findIn K (.ref C) "__init__" = some (some (.ref fI))) (kC : keepIn K (.ref C) = true)
    (l1 : K.lookup fI = some ⟨.type "function", od, .func (ksFn "__init__" qual (iA fld p1 p2 p3) (iB fld q) (iS fld) (.ref da) .none doc pm an (.ref cda) ct cc), osl⟩) (c1 : codeIn K (.ref cda) qual = true)
    (l2 : K.lookup cda = some ⟨ccl, cdd, .fields vs, ccs⟩) (v2 : vs[2]? = some (.str file tf)) (hf : ((P.main.file : Str) == file) = true)
    (l3 : K.lookup cc = some ⟨cl, cld, .cell (some (.ref C)), csl⟩) (l4 : K.lookup da = some ⟨dcl, ddi, .seq #[.none] dn, dsl⟩)
    (tx : TextOk fld q) (bd : BindOk fld (ksFn "__init__" qual (iA fld p1 p2 p3) (iB fld q) (iS fld) (.ref da) .none doc pm an (.ref cda) ct cc) da)
    (nc : (fld == ("__debug__" : Str)) = false ∧ ¬ (fld = ("self" : Str)) ∧ ¬ (fld = ("__class__" : Str)) ∧ ¬ (fld = ("super" : Str))) : ExT P K mg cn fld C fI ∧ One K mg cn C (veT ME) :=
  have O := one_mk X G a l ga gg ha
  ⟨ext_mk c O sa nb iC kC l1 c1 l2 v2 hf l3 l4 tx bd nc, O⟩
end
theorem bd_value {qual : Str} {p1 p2 p3 : Pos} {q : Nat → Pos} {doc pm ct : Value} {an : Option Addr} {cda cc da : Addr} : BindOk "value" (ksFn "__init__" qual (iA "value" p1 p2 p3) (iB "value" q) (iS "value") (.ref da) .none doc pm an (.ref cda) ct cc) da := ⟨fun _ _ => ⟨_, rfl, rfl⟩, fun _ _ => ⟨_, rfl, rfl⟩, fun _ => ⟨_, rfl, rfl⟩⟩
end Hd
namespace Hd
open PySem PySem.Spec PyProof.Rows L2
structure DefIn (K : PySem.W.Frag) (nm : Str) (st : Stmt) : Prop where
  ex : ∃ f fd, PySem.W.nsIn K mainGlobals nm = some (some (.ref f)) ∧ Fun K nm nm st f fd
theorem def_in {K : PySem.W.Frag} {nm : Str} {st : Stmt} {f : Addr} {oc : Value} {od an : Option Addr} {osl : Array (Option Value)} {kV doc pm cdv ct : Value} (a : PySem.W.nsIn K mainGlobals nm = some (some (.ref f)))
    (l : K.lookup f = some ⟨oc, od, .func (PySem.W.fnOf nm nm (defArgs st) (defBody st) (defScope st) .none kV doc pm an cdv ct), osl⟩)
    (c : PySem.W.codeIn K cdv nm = true) (k : PySem.W.keepIn K (.ref f) = true) : DefIn K nm st := ⟨_, _, a, fun_mk (st := st) l c k⟩
theorem def_of {K : PySem.W.Frag} {h : Heap} {mg : Str → Option Value} {nm : Str} {st : Stmt} {ps : List Str} (X : K.In h) (G : h.Ns mainGlobals mg) (d : DefIn K nm st) (b : ∀ f fd, Fun K nm nm st f fd → Binds K fd ps []) : Dv.Def K mg nm st ps := by
  obtain ⟨f, fd, a, F⟩ := d.ex
  exact ⟨f, fd, PySem.W.mg_of X G a, F, b f fd F⟩
/-- a class and its __init__ -/
structure ClsIn (K : PySem.W.Frag) (nm qi : Str) (st : Stmt) (C : Addr) : Prop where
  g : PySem.W.nsIn K mainGlobals nm = some (some (.ref C))
  cl : Cls K C
  ini : ∃ f fd, Mk K C f ∧ Fun K "__init__" qi st f fd
theorem cls_in {K : PySem.W.Frag} {nm qi : Str} {st : Stmt} {C f : Addr} {oc : Value} {od an : Option Addr} {osl : Array (Option Value)} {kV doc pm cdv ct : Value} (g : PySem.W.nsIn K mainGlobals nm = some (some (.ref C)))
    (pg : PySem.W.plainGet K C Str.empty = true) (hd : PySem.W.hasDictIn K C = true) (po : PySem.W.plainOver K C = true) (sa : PySem.W.findIn K (.ref C) "__setattr__" = some (some (.builtin "object.__setattr__")))
    (mk : PySem.W.makesIn K C = true) (i : PySem.W.findIn K (.ref C) "__init__" = some (some (.ref f))) (fn : PySem.W.isFn K (.ref f) = true) (kc : PySem.W.keepIn K (.ref C) = true)
    (l : K.lookup f = some ⟨oc, od, .func (PySem.W.fnOf "__init__" qi (defArgs st) (defBody st) (defScope st) .none kV doc pm an cdv ct), osl⟩)
    (c : PySem.W.codeIn K cdv qi = true) (k : PySem.W.keepIn K (.ref f) = true) : ClsIn K nm qi st C := ⟨g, ⟨pg, hd, po, sa⟩, _, _, ⟨mk, i, fn, kc⟩, fun_mk (st := st) l c k⟩
end Hd

set_option Elab.async false
set_option linter.all false
set_option maxRecDepth 100000
set_option maxHeartbeats 4000000
namespace Hd
open PySem PySem.Spec PyProof.Rows L2
/-- a method of a class -/
structure MethIn (K : PySem.W.Frag) (C : Addr) (m qual : Str) (st : Stmt) : Prop where
  ex : ∃ f fd, Meth K C m f ∧ Fun K m qual st f fd
theorem meth_in {K : PySem.W.Frag} {m qual : Str} {st : Stmt} {C f : Addr} {oc : Value} {od an : Option Addr} {osl : Array (Option Value)} {kV doc pm cdv ct : Value} (a : PySem.W.findIn K (.ref C) m = some (some (.ref f))) (fn : PySem.W.isFn K (.ref f) = true)
    (l : K.lookup f = some ⟨oc, od, .func (PySem.W.fnOf m qual (defArgs st) (defBody st) (defScope st) .none kV doc pm an cdv ct), osl⟩)
    (c : PySem.W.codeIn K cdv qual = true) (k : PySem.W.keepIn K (.ref f) = true) : MethIn K C m qual st := ⟨_, _, ⟨a, fn, k⟩, fun_mk (st := st) l c k⟩
theorem meth_of {K : PySem.W.Frag} {C : Addr} {m qual : Str} {st : Stmt} {ps : List Str} (d : MethIn K C m qual st) (b : ∀ f fd, Fun K m qual st f fd → Binds K fd ("self" :: ps) []) : Dv.DefM K C m qual st ps := by
  obtain ⟨f, fd, a, F⟩ := d.ex
  exact ⟨f, fd, a, F, b f fd F⟩
end Hd
namespace R3
open PySem PySem.Spec PyProof.Rows L2 Hd
def p0 : Pos := ⟨0, 0, 0, 0⟩
def qL : List (List Pos) := [[⟨30, 8, 30, 13⟩, ⟨30, 8, 30, 15⟩, ⟨30, 8, 30, 24⟩, ⟨30, 25, 30, 30⟩, ⟨30, 8, 30, 31⟩, ⟨31, 8, 31, 12⟩, ⟨31, 8, 31, 18⟩, ⟨31, 21, 31, 26⟩, ⟨31, 8, 31, 26⟩]]
def pL : List (List Pos) := [[⟨29, 17, 29, 21⟩, ⟨29, 23, 29, 28⟩, ⟨29, 29, 29, 33⟩]]
abbrev qq (i : Nat) : Nat → Pos := fun j => (qL.getD i []).getD j p0
abbrev pp (i j : Nat) : Pos := (pL.getD i []).getD j p0
theorem tx0 : PySem.Xn.TextOk "value" (qq 0) := ⟨⟨_, fun _ => rfl⟩, fun _ => rfl, fun _ => rfl, fun _ => rfl, fun _ => rfl⟩
theorem noth_mk {K : PySem.W.Frag} {mg : Str → Option Value} {a : Addr} {dd : Option Addr} {n : Nat} {sl : Array (Option Value)} {t0 t1 : Tok} (g : mg "NOTHING" = some (.ref a)) (l : K.lookup a = some ⟨.type "tuple", dd, .seq #[.int 0 t0, .int 1 t1] n, sl⟩) : Noth K mg :=
  ⟨a, g, fun F => .tup (xs := [.int 0, .int 1]) (.inr ⟨_, #[.int 0 t0, .int 1 t1], n, l, rfl, rfl, (show 2 ≤ sizeLine by decide +kernel), .cons ⟨_, rfl⟩ (.cons ⟨_, rfl⟩ .nil)⟩) (.cons (.int 0) (.cons (.int 1) .nil))⟩
section
variable {P : Program} {w : World} {K : PySem.W.Frag} {h : Heap} {mg : Str → Option Value} {fa C G W CR CE fM : Addr}
/-- what is written of the names that hold things -/
structure Words (K : PySem.W.Frag) : Prop where
  letters : ∃ t, PySem.W.nsIn K mainGlobals "LETTERS" = some (some (.str "abcdefghijklmnopqrstuvwxyz" t))
  figures : ∃ t, PySem.W.nsIn K mainGlobals "FIGURES" = some (some (.str "0123456789" t))
  mostName : ∃ t, PySem.W.nsIn K mainGlobals "MOST_NAME" = some (some (.int 8 t))
  mostStuffs : ∃ t, PySem.W.nsIn K mainGlobals "MOST_STUFFS" = some (some (.int 8 t))
  mostRecipes : ∃ t, PySem.W.nsIn K mainGlobals "MOST_RECIPES" = some (some (.int 8 t))
  mostNumber : ∃ t, PySem.W.nsIn K mainGlobals "MOST_NUMBER" = some (some (.int 1000000 t))
theorem words_mk {K : PySem.W.Frag} {t0 t1 t2 t3 t4 t5 : Tok} (w0 : PySem.W.nsIn K mainGlobals "LETTERS" = some (some (.str "abcdefghijklmnopqrstuvwxyz" t0))) (w1 : PySem.W.nsIn K mainGlobals "FIGURES" = some (some (.str "0123456789" t1))) (w2 : PySem.W.nsIn K mainGlobals "MOST_NAME" = some (some (.int 8 t2)))
    (w3 : PySem.W.nsIn K mainGlobals "MOST_STUFFS" = some (some (.int 8 t3))) (w4 : PySem.W.nsIn K mainGlobals "MOST_RECIPES" = some (some (.int 8 t4))) (w5 : PySem.W.nsIn K mainGlobals "MOST_NUMBER" = some (some (.int 1000000 t5))) : Words K := ⟨⟨_, w0⟩, ⟨_, w1⟩, ⟨_, w2⟩, ⟨_, w3⟩, ⟨_, w4⟩, ⟨_, w5⟩⟩
structure NoWords (K : PySem.W.Frag) : Prop where
  z_int : PySem.W.nsIn K mainGlobals "int" = some none
  z_bool : PySem.W.nsIn K mainGlobals "bool" = some none
  z_str : PySem.W.nsIn K mainGlobals "str" = some none
  z_list : PySem.W.nsIn K mainGlobals "list" = some none
  z_tuple : PySem.W.nsIn K mainGlobals "tuple" = some none
  z_dict : PySem.W.nsIn K mainGlobals "dict" = some none
  z_len : PySem.W.nsIn K mainGlobals "len" = some none
  z_range : PySem.W.nsIn K mainGlobals "range" = some none
  z_sum : PySem.W.nsIn K mainGlobals "sum" = some none
  z_max : PySem.W.nsIn K mainGlobals "max" = some none
  z_abs : PySem.W.nsIn K mainGlobals "abs" = some none
  z_isinstance : PySem.W.nsIn K mainGlobals "isinstance" = some none
  z_repr : PySem.W.nsIn K mainGlobals "repr" = some none
  z_zip : PySem.W.nsIn K mainGlobals "zip" = some none
  z_enumerate : PySem.W.nsIn K mainGlobals "enumerate" = some none
structure DefsIn (K : PySem.W.Frag) : Prop where
  d_is_whole : DefIn K "is_whole" sIsWhole
  d_is_name : DefIn K "is_name" sIsName
  d_common_divisor : DefIn K "common_divisor" sCommonDivisor
  d_fraction : DefIn K "fraction" sFraction
  d_is_fraction : DefIn K "is_fraction" sIsFraction
  d_is_amount : DefIn K "is_amount" sIsAmount
  d_plus : DefIn K "plus" sPlus
  d_minus : DefIn K "minus" sMinus
  d_scaled : DefIn K "scaled" sScaled
  d_below : DefIn K "below" sBelow
  d_lesser : DefIn K "lesser" sLesser
  d_greater : DefIn K "greater" sGreater
  d_check_size : DefIn K "check_size" sCheckSize
  d_is_number : DefIn K "is_number" sIsNumber
  d_is_stuff : DefIn K "is_stuff" sIsStuff
  d_are_parts : DefIn K "are_parts" sAreParts
  d_is_recipe : DefIn K "is_recipe" sIsRecipe
  d_check_mill : DefIn K "check_mill" sCheckMill
  d_are_holdings : DefIn K "are_holdings" sAreHoldings
  d_check_holdings : DefIn K "check_holdings" sCheckHoldings
  d_numbers_of : DefIn K "numbers_of" sNumbersOf
  d_is_step : DefIn K "is_step" sIsStep
  d_is_block : DefIn K "is_block" sIsBlock
  d_are_blocks : DefIn K "are_blocks" sAreBlocks
  d_moved : DefIn K "moved" sMoved
  d_walked : DefIn K "walked" sWalked
  d_check_row : DefIn K "check_row" sCheckRow
  d_led : DefIn K "led" sLed
  d_is_row : DefIn K "is_row" sIsRow
  d_done : DefIn K "done" sDone
  d_narrows : DefIn K "narrows" sNarrows
  d__law_caught_row : DefIn K "_law_caught_row" sLawCaughtRow
  d__law_common : DefIn K "_law_common" sLawCommon
  d__law_part : DefIn K "_law_part" sLawPart
  d__law_hash : DefIn K "_law_hash" sLawHash
  d__law_random : DefIn K "_law_random" sLawRandom
  d__law_amount_drawn : DefIn K "_law_amount_drawn" sLawAmountDrawn
  d__law_less : DefIn K "_law_less" sLawLess
  d__law_held_drawn : DefIn K "_law_held_drawn" sLawHeldDrawn
  d__law_parts_drawn : DefIn K "_law_parts_drawn" sLawPartsDrawn
  d__law_mill_drawn : DefIn K "_law_mill_drawn" sLawMillDrawn
  d__law_cell : DefIn K "_law_cell" sLawCell
  d__law_generator : DefIn K "_law_generator" sLawGenerator
  d__law_number_of : DefIn K "_law_number_of" sLawNumberOf
  d__law_by : DefIn K "_law_by" sLawBy
  d__law_plus : DefIn K "_law_plus" sLawPlus
  d__law_stepped : DefIn K "_law_stepped" sLawStepped
  d__law_row_drawn : DefIn K "_law_row_drawn" sLawRowDrawn
  d__law_gone : DefIn K "_law_gone" sLawGone
  d__law_right : DefIn K "_law_right" sLawRight
  d__law_none : DefIn K "_law_none" sLawNone
  d_law : DefIn K "law" sLaw
/-- what is asked of the classes -/
structure ClsOf (K : PySem.W.Frag) (C G W : Addr) : Prop where
  mill : ClsIn K "Mill" "Mill.__init__" sMillInit C
  ground : ClsIn K "Ground" "Ground.__init__" sGroundInit G
  walk : ClsIn K "Walk" "Walk.__init__" sWalkInit W
  m1 : PySem.W.findIn K (.ref C) "rooms" = some none
  m2 : PySem.W.findIn K (.ref C) "spots" = some none
  m3 : PySem.W.findIn K (.ref C) "rules" = some none
  g1 : PySem.W.findIn K (.ref G) "rooms" = some none
  g2 : PySem.W.findIn K (.ref G) "wide" = some none
  g3 : PySem.W.findIn K (.ref G) "titles" = some none
  g4 : PySem.W.findIn K (.ref G) "takes" = some none
  g5 : PySem.W.findIn K (.ref G) "gives" = some none
  g6 : PySem.W.findIn K (.ref G) "gains" = some none
  w1 : PySem.W.findIn K (.ref W) "ground" = some none
  w2 : PySem.W.findIn K (.ref W) "held" = some none
  w3 : PySem.W.findIn K (.ref W) "least" = some none
  w4 : PySem.W.findIn K (.ref W) "most" = some none
  k_looked : MethIn K W "looked" "Walk.looked" sWalkLooked
  k_done : MethIn K W "done" "Walk.done" sWalkDone
  k_once : MethIn K W "once" "Walk.once" sWalkOnce
  k_led : MethIn K W "led" "Walk.led" sWalkLed
  k_fits : MethIn K W "fits" "Walk.fits" sWalkFits
  ha : PySem.W.findIn K (.ref C) "__class__" = some (some (.builtin "object.__class__"))
  hm : PySem.W.mroIn K C (.type "object") = some true
  me : PySem.W.kitOne K (.ref C) (.ref C) = some true
theorem all_mk (X : K.In h) (Gl : h.Ns mainGlobals mg) (hfa : mg "law" = some (.ref fa)) (ht : (P.main.scope.names.lookup ("super" : Str)).isSome = false) (Z : NoWords K) (WO : Words K) (DD : DefsIn K) (CO : ClsOf K C G W)
    (c : Com P K mg CE) (eR : PySem.Xn.ExT P K mg "InvalidRow" "value" CR fM ∧ One K mg "InvalidRow" CR (veT CE)) (oE : One K mg "MillError" CE veT0) (hR : PySem.W.hasDictIn K CR = true) {aN : Addr} {ddN : Option Addr} {nN : Nat} {slN : Array (Option Value)} {t0 t1 : Tok} (gN : PySem.W.nsIn K mainGlobals "NOTHING" = some (some (.ref aN))) (lN : K.lookup aN = some ⟨.type "tuple", ddN, .seq #[.int 0 t0, .int 1 t1] nN, slN⟩) :
    ∃ fd : FuncData, (∀ (s : Shared) (v : Value), BindsTo s fd ⟨[v], []⟩ [("script", v)]) ∧ ∀ base : Heap, K.In base → base.Ns mainGlobals mg → FnOkG P w K mg base CX0 13 fa fd ["script"] (spLaw K) := by
  have nn : ∀ {n : Str}, PySem.W.nsIn K mainGlobals n = some none → mg n = none := fun e => PySem.W.mg_none_of X Gl e
  have B : Bl mg := ⟨nn Z.z_int, nn Z.z_bool, nn Z.z_str, nn Z.z_list, nn Z.z_tuple, nn Z.z_dict, nn Z.z_len, nn Z.z_range, nn Z.z_sum, nn Z.z_max, nn Z.z_abs, nn Z.z_isinstance, nn Z.z_repr, nn Z.z_zip, nn Z.z_enumerate⟩
  have CC : Cst mg := ⟨WO.letters.imp fun _ e => PySem.W.mg_of X Gl e, WO.figures.imp fun _ e => PySem.W.mg_of X Gl e, WO.mostName.imp fun _ e => PySem.W.mg_of X Gl e, WO.mostStuffs.imp fun _ e => PySem.W.mg_of X Gl e, WO.mostRecipes.imp fun _ e => PySem.W.mg_of X Gl e, WO.mostNumber.imp fun _ e => PySem.W.mg_of X Gl e⟩
  have NN : Noth K mg := noth_mk (PySem.W.mg_of X Gl gN) lN
  have gC := PySem.W.mg_of X Gl CO.mill.g
  have MC : MillC K C := ⟨CO.mill.cl, CO.m1, CO.m2, CO.m3⟩
  have GC : GroundC K G := ⟨CO.ground.cl, CO.g1, CO.g2, CO.g3, CO.g4, CO.g5, CO.g6⟩
  have WC : WalkC K W := ⟨CO.walk.cl, CO.w1, CO.w2, CO.w3, CO.w4⟩
  have IC : C8.InsC K C := ⟨CO.mill.cl, CO.ha, c.hn, c.ht, CO.hm, CO.me⟩
  have ERC : ErrC P K mg "InvalidRow" CR := ⟨⟨_, eR.1⟩, ht⟩
  have ER : ErrR K mg CR := ⟨eR.2.g, by
    refine PySem.W.exm_ref ?_ hR eR.2.ty ?_
    · show PySem.W.mroIn K CR (.type "BaseException") = _
      rw [eR.2.mro]
      rfl
    · show PySem.W.mroIn K CR (.ref CR) = _
      rw [eR.2.mro, List.contains_cons]
      simp, ⟨eR.1.ga, eR.1.gg, eR.1.exC, eR.1.hdC⟩, eR.1.noN⟩
  have D_is_whole := def_of (ps := ["value"]) X Gl DD.d_is_whole fun f fd F => F.binds fun _ _ _ _ _ _ us hl => match us, hl with | [_], _ => rfl
  have D_is_name := def_of (ps := ["value"]) X Gl DD.d_is_name fun f fd F => F.binds fun _ _ _ _ _ _ us hl => match us, hl with | [_], _ => rfl
  have D_common_divisor := def_of (ps := ["one", "other"]) X Gl DD.d_common_divisor fun f fd F => F.binds fun _ _ _ _ _ _ us hl => match us, hl with | [_, _], _ => rfl
  have D_fraction := def_of (ps := ["top", "under"]) X Gl DD.d_fraction fun f fd F => F.binds fun _ _ _ _ _ _ us hl => match us, hl with | [_, _], _ => rfl
  have D_is_fraction := def_of (ps := ["value"]) X Gl DD.d_is_fraction fun f fd F => F.binds fun _ _ _ _ _ _ us hl => match us, hl with | [_], _ => rfl
  have D_is_amount := def_of (ps := ["value"]) X Gl DD.d_is_amount fun f fd F => F.binds fun _ _ _ _ _ _ us hl => match us, hl with | [_], _ => rfl
  have D_plus := def_of (ps := ["one", "other"]) X Gl DD.d_plus fun f fd F => F.binds fun _ _ _ _ _ _ us hl => match us, hl with | [_, _], _ => rfl
  have D_minus := def_of (ps := ["one", "other"]) X Gl DD.d_minus fun f fd F => F.binds fun _ _ _ _ _ _ us hl => match us, hl with | [_, _], _ => rfl
  have D_scaled := def_of (ps := ["one", "number"]) X Gl DD.d_scaled fun f fd F => F.binds fun _ _ _ _ _ _ us hl => match us, hl with | [_, _], _ => rfl
  have D_below := def_of (ps := ["one", "other"]) X Gl DD.d_below fun f fd F => F.binds fun _ _ _ _ _ _ us hl => match us, hl with | [_, _], _ => rfl
  have D_lesser := def_of (ps := ["one", "other"]) X Gl DD.d_lesser fun f fd F => F.binds fun _ _ _ _ _ _ us hl => match us, hl with | [_, _], _ => rfl
  have D_greater := def_of (ps := ["one", "other"]) X Gl DD.d_greater fun f fd F => F.binds fun _ _ _ _ _ _ us hl => match us, hl with | [_, _], _ => rfl
  have D_check_size := def_of (ps := ["value", "least", "most"]) X Gl DD.d_check_size fun f fd F => F.binds fun _ _ _ _ _ _ us hl => match us, hl with | [_, _, _], _ => rfl
  have D_is_number := def_of (ps := ["value", "least"]) X Gl DD.d_is_number fun f fd F => F.binds fun _ _ _ _ _ _ us hl => match us, hl with | [_, _], _ => rfl
  have D_is_stuff := def_of (ps := ["value"]) X Gl DD.d_is_stuff fun f fd F => F.binds fun _ _ _ _ _ _ us hl => match us, hl with | [_], _ => rfl
  have D_are_parts := def_of (ps := ["value", "spots"]) X Gl DD.d_are_parts fun f fd F => F.binds fun _ _ _ _ _ _ us hl => match us, hl with | [_, _], _ => rfl
  have D_is_recipe := def_of (ps := ["value", "spots"]) X Gl DD.d_is_recipe fun f fd F => F.binds fun _ _ _ _ _ _ us hl => match us, hl with | [_, _], _ => rfl
  have D_check_mill := def_of (ps := ["value"]) X Gl DD.d_check_mill fun f fd F => F.binds fun _ _ _ _ _ _ us hl => match us, hl with | [_], _ => rfl
  have D_are_holdings := def_of (ps := ["mill", "value"]) X Gl DD.d_are_holdings fun f fd F => F.binds fun _ _ _ _ _ _ us hl => match us, hl with | [_, _], _ => rfl
  have D_check_holdings := def_of (ps := ["mill", "value"]) X Gl DD.d_check_holdings fun f fd F => F.binds fun _ _ _ _ _ _ us hl => match us, hl with | [_, _], _ => rfl
  have D_numbers_of := def_of (ps := ["mill", "parts"]) X Gl DD.d_numbers_of fun f fd F => F.binds fun _ _ _ _ _ _ us hl => match us, hl with | [_, _], _ => rfl
  have D_is_step := def_of (ps := ["mill", "value"]) X Gl DD.d_is_step fun f fd F => F.binds fun _ _ _ _ _ _ us hl => match us, hl with | [_, _], _ => rfl
  have D_is_block := def_of (ps := ["mill", "value"]) X Gl DD.d_is_block fun f fd F => F.binds fun _ _ _ _ _ _ us hl => match us, hl with | [_, _], _ => rfl
  have D_are_blocks := def_of (ps := ["mill", "value"]) X Gl DD.d_are_blocks fun f fd F => F.binds fun _ _ _ _ _ _ us hl => match us, hl with | [_, _], _ => rfl
  have D_moved := def_of (ps := ["holdings", "amount", "numbers"]) X Gl DD.d_moved fun f fd F => F.binds fun _ _ _ _ _ _ us hl => match us, hl with | [_, _, _], _ => rfl
  have D_walked := def_of (ps := ["mill", "have", "row"]) X Gl DD.d_walked fun f fd F => F.binds fun _ _ _ _ _ _ us hl => match us, hl with | [_, _, _], _ => rfl
  have D_check_row := def_of (ps := ["mill", "have", "row"]) X Gl DD.d_check_row fun f fd F => F.binds fun _ _ _ _ _ _ us hl => match us, hl with | [_, _, _], _ => rfl
  have D_led := def_of (ps := ["mill", "have", "row"]) X Gl DD.d_led fun f fd F => F.binds fun _ _ _ _ _ _ us hl => match us, hl with | [_, _, _], _ => rfl
  have D_is_row := def_of (ps := ["mill", "have", "value"]) X Gl DD.d_is_row fun f fd F => F.binds fun _ _ _ _ _ _ us hl => match us, hl with | [_, _, _], _ => rfl
  have D_done := def_of (ps := ["mill", "row"]) X Gl DD.d_done fun f fd F => F.binds fun _ _ _ _ _ _ us hl => match us, hl with | [_, _], _ => rfl
  have D_narrows := def_of (ps := ["mill", "have", "row"]) X Gl DD.d_narrows fun f fd F => F.binds fun _ _ _ _ _ _ us hl => match us, hl with | [_, _, _], _ => rfl
  have D__law_caught_row := def_of (ps := ["door", "mill", "held", "row"]) X Gl DD.d__law_caught_row fun f fd F => F.binds fun _ _ _ _ _ _ us hl => match us, hl with | [_, _, _, _], _ => rfl
  have D__law_common := def_of (ps := ["one", "other"]) X Gl DD.d__law_common fun f fd F => F.binds fun _ _ _ _ _ _ us hl => match us, hl with | [_, _], _ => rfl
  have D__law_part := def_of (ps := ["over", "under"]) X Gl DD.d__law_part fun f fd F => F.binds fun _ _ _ _ _ _ us hl => match us, hl with | [_, _], _ => rfl
  have D__law_hash := def_of (ps := ["seed", "index"]) X Gl DD.d__law_hash fun f fd F => F.binds fun _ _ _ _ _ _ us hl => match us, hl with | [_, _], _ => rfl
  have D__law_random := def_of (ps := ["generator", "bound"]) X Gl DD.d__law_random fun f fd F => F.binds fun _ _ _ _ _ _ us hl => match us, hl with | [_, _], _ => rfl
  have D__law_amount_drawn := def_of (ps := ["generator", "most"]) X Gl DD.d__law_amount_drawn fun f fd F => F.binds fun _ _ _ _ _ _ us hl => match us, hl with | [_, _], _ => rfl
  have D__law_less := def_of (ps := ["one", "other"]) X Gl DD.d__law_less fun f fd F => F.binds fun _ _ _ _ _ _ us hl => match us, hl with | [_, _], _ => rfl
  have D__law_held_drawn := def_of (ps := ["generator", "stuffs"]) X Gl DD.d__law_held_drawn fun f fd F => F.binds fun _ _ _ _ _ _ us hl => match us, hl with | [_, _], _ => rfl
  have D__law_parts_drawn := def_of (ps := ["generator", "stuffs", "most"]) X Gl DD.d__law_parts_drawn fun f fd F => F.binds fun _ _ _ _ _ _ us hl => match us, hl with | [_, _, _], _ => rfl
  have D__law_mill_drawn := def_of (ps := ["generator", "wide", "many"]) X Gl DD.d__law_mill_drawn fun f fd F => F.binds fun _ _ _ _ _ _ us hl => match us, hl with | [_, _, _], _ => rfl
  have D__law_cell := def_of (ps := ["script", "index"]) X Gl DD.d__law_cell fun f fd F => F.binds fun _ _ _ _ _ _ us hl => match us, hl with | [_, _], _ => rfl
  have D__law_generator := def_of (ps := ["script", "index"]) X Gl DD.d__law_generator fun f fd F => F.binds fun _ _ _ _ _ _ us hl => match us, hl with | [_, _], _ => rfl
  have D__law_number_of := def_of (ps := ["parts", "name"]) X Gl DD.d__law_number_of fun f fd F => F.binds fun _ _ _ _ _ _ us hl => match us, hl with | [_, _], _ => rfl
  have D__law_by := def_of (ps := ["one", "number"]) X Gl DD.d__law_by fun f fd F => F.binds fun _ _ _ _ _ _ us hl => match us, hl with | [_, _], _ => rfl
  have D__law_plus := def_of (ps := ["one", "other"]) X Gl DD.d__law_plus fun f fd F => F.binds fun _ _ _ _ _ _ us hl => match us, hl with | [_, _], _ => rfl
  have D__law_stepped := def_of (ps := ["parts", "held", "step"]) X Gl DD.d__law_stepped fun f fd F => F.binds fun _ _ _ _ _ _ us hl => match us, hl with | [_, _, _], _ => rfl
  have D__law_row_drawn := def_of (ps := ["generator", "recipes"]) X Gl DD.d__law_row_drawn fun f fd F => F.binds fun _ _ _ _ _ _ us hl => match us, hl with | [_, _], _ => rfl
  have D__law_gone := def_of (ps := ["parts", "held", "row"]) X Gl DD.d__law_gone fun f fd F => F.binds fun _ _ _ _ _ _ us hl => match us, hl with | [_, _, _], _ => rfl
  have D__law_right := def_of (ps := ["parts", "mill", "held", "row"]) X Gl DD.d__law_right fun f fd F => F.binds fun _ _ _ _ _ _ us hl => match us, hl with | [_, _, _, _], _ => rfl
  have D__law_none := def_of (ps := ["mill", "held", "name"]) X Gl DD.d__law_none fun f fd F => F.binds fun _ _ _ _ _ _ us hl => match us, hl with | [_, _, _], _ => rfl
  have D_law := def_of (ps := ["script"]) X Gl DD.d_law fun f fd F => F.binds fun _ _ _ _ _ _ us hl => match us, hl with | [_], _ => rfl
  have DM_looked := meth_of (ps := []) CO.k_looked fun f fd F => F.binds fun _ _ _ _ _ _ us hl => match us, hl with | [_], _ => rfl
  have DM_done := meth_of (ps := ["name", "amount"]) CO.k_done fun f fd F => F.binds fun _ _ _ _ _ _ us hl => match us, hl with | [_, _, _], _ => rfl
  have DM_once := meth_of (ps := ["steps"]) CO.k_once fun f fd F => F.binds fun _ _ _ _ _ _ us hl => match us, hl with | [_, _], _ => rfl
  have DM_led := meth_of (ps := ["block"]) CO.k_led fun f fd F => F.binds fun _ _ _ _ _ _ us hl => match us, hl with | [_, _], _ => rfl
  have DM_fits := meth_of (ps := []) CO.k_fits fun f fd F => F.binds fun _ _ _ _ _ _ us hl => match us, hl with | [_], _ => rfl
  obtain ⟨f0, fd0, a0, F0, b0⟩ := D_law.ex
  have e0 := hfa.symm.trans a0
  cases e0
  refine ⟨fd0, fun s v => ?_, fun base _ _ => ?_⟩
  · obtain ⟨⟨oc, od, kV, doc, pm, an, cdv, ct, osl, rfl, lk, hcd⟩, _⟩ := F0
    exact .of_eq rfl
  obtain ⟨fI, fdI, MkC, FI⟩ := CO.mill.ini
  obtain ⟨fJ, fdJ, MkG, FJ⟩ := CO.ground.ini
  obtain ⟨fW, fdW, MkW, FW⟩ := CO.walk.ini
  have gG := PySem.W.mg_of X Gl CO.ground.g
  have gW := PySem.W.mg_of X Gl CO.walk.g
  have C_common_divisor := ok_common_divisor (P := P) (w := w) (base := base)  D_common_divisor
  have C_fraction := ok_fraction (P := P) (w := w) (base := base)  D_fraction B C_common_divisor
  have C_plus := ok_plus (P := P) (w := w) (base := base)  D_plus C_fraction
  have C_scaled := ok_scaled (P := P) (w := w) (base := base)  D_scaled C_fraction
  have C_is_whole := ok_is_whole (P := P) (w := w) (base := base)  D_is_whole B
  have C_is_fraction := ok_is_fraction (P := P) (w := w) (base := base)  D_is_fraction B C_common_divisor C_is_whole
  have C_is_amount := ok_is_amount (P := P) (w := w) (base := base)  D_is_amount C_is_fraction
  have C_is_name := ok_is_name (P := P) (w := w) (base := base)  D_is_name B CC
  have C_is_number := ok_is_number (P := P) (w := w) (base := base)  D_is_number CC C_is_whole
  have C_is_stuff := ok_is_stuff (P := P) (w := w) (base := base)  D_is_stuff B C_is_name C_is_number
  have C_are_parts := ok_are_parts (P := P) (w := w) (base := base)  D_are_parts B C_is_name C_is_number
  have C_is_recipe := ok_is_recipe (P := P) (w := w) (base := base)  D_is_recipe B C_is_name C_are_parts
  have C_check_size := ok_check_size (P := P) (w := w) (base := base)  D_check_size B
  have M_Mill : Dv.Mak P w K mg base "Mill" C ["stuffs", "recipes"] 5 (spMillInit K C) := ⟨fI, fdI, gC, MkC, FI.binds fun _ _ _ _ _ _ us hl => match us, hl with | [_, _, _], _ => rfl, ok_mill_init FI MC B CC C_check_size C_is_stuff C_is_recipe⟩
  have C_numbers_of := ok_numbers_of (P := P) (w := w) (base := base)  D_numbers_of B MC
  have M_Ground : Dv.Mak P w K mg base "Ground" G ["mill"] 2 (spGround K C G) := ⟨fJ, fdJ, gG, MkG, FJ.binds fun _ _ _ _ _ _ us hl => match us, hl with | [_, _], _ => rfl, ok_ground_init FJ MC GC B C_numbers_of⟩
  have C_check_mill := ok_check_mill (P := P) (w := w) (base := base)  D_check_mill B gC IC
  have C__law_hash := ok_law_hash (P := P) (w := w) (base := base)  D__law_hash B
  have C__law_random := ok_law_random (P := P) (w := w) (base := base)  D__law_random B C__law_hash
  have C__law_cell := ok_law_cell (P := P) (w := w) (base := base)  D__law_cell B
  have C__law_generator := ok_law_generator (P := P) (w := w) (base := base)  D__law_generator B C__law_cell
  have C__law_parts_drawn := ok_law_parts_drawn (P := P) (w := w) (base := base)  D__law_parts_drawn B C__law_random
  have C__law_mill_drawn := ok_law_mill_drawn (P := P) (w := w) (base := base)  D__law_mill_drawn B C__law_random C__law_parts_drawn
  have C_minus := ok_minus (P := P) (w := w) (base := base)  D_minus C_fraction
  have C_below := ok_below (P := P) (w := w) (base := base)  D_below
  have C_lesser := ok_lesser (P := P) (w := w) (base := base)  D_lesser C_below
  have C_greater := ok_greater (P := P) (w := w) (base := base)  D_greater C_below
  have C_is_step := ok_is_step (P := P) (w := w) (base := base)  D_is_step B NN MC C_is_name C_is_amount
  have C_is_block := ok_is_block (P := P) (w := w) (base := base)  D_is_block B C_is_whole C_is_step
  have C_are_blocks := ok_are_blocks (P := P) (w := w) (base := base)  D_are_blocks B C_is_block
  have C_are_holdings := ok_are_holdings (P := P) (w := w) (base := base)  D_are_holdings B MC C_is_amount C_below
  have C_moved := ok_moved (P := P) (w := w) (base := base)  D_moved B C_plus C_scaled
  have M_looked := ok_looked (P := P) (w := w) (base := base) (G := G) DM_looked B WC C_lesser C_greater
  have M_done := ok_walk_done (P := P) (w := w) (base := base)  DM_done B WC GC C_moved M_looked
  have M_once := ok_once (P := P) (w := w) (base := base)  DM_once B WC M_done
  have M_led := ok_walk_led (P := P) (w := w) (base := base)  DM_led B WC M_once C_plus C_minus C_scaled
  have M_fits := ok_fits (P := P) (w := w) (base := base)  DM_fits B WC GC C_below
  have M_Walk : Dv.Mak P w K mg base "Walk" W ["mill", "have"] 4 (spWalkInit K C G W) := ⟨fW, fdW, gW, MkW, FW.binds fun _ _ _ _ _ _ us hl => match us, hl with | [_, _, _], _ => rfl, ok_walk_init FW B WC M_Ground⟩
  have C_walked := ok_walked (P := P) (w := w) (base := base)  D_walked B WC C_are_blocks M_Walk M_led M_fits
  have C_check_holdings := ok_check_holdings (P := P) (w := w) (base := base)  D_check_holdings C_are_holdings
  have C_is_row := ok_is_row (P := P) (w := w) (base := base)  D_is_row C_check_mill C_check_holdings C_walked
  have X_check_row := ok_check_row (P := P) (w := w) (base := base)  D_check_row ERC C_check_mill C_check_holdings C_walked
  have X_led := ok_led (P := P) (w := w) (base := base)  D_led WC X_check_row
  have C_led := told_down X_led
  have X_narrows := ok_narrows (P := P) (w := w) (base := base)  D_narrows B WC X_check_row
  have C_narrows := told_down X_narrows
  have C_done := ok_done (P := P) (w := w) (base := base)  D_done B NN MC C_check_mill C_are_blocks C_plus C_scaled
  have C__law_common := ok_law_common (P := P) (w := w) (base := base)  D__law_common
  have C__law_part := ok_law_part (P := P) (w := w) (base := base)  D__law_part B C__law_common
  have C__law_plus := ok_law_plus (P := P) (w := w) (base := base)  D__law_plus C__law_part
  have C__law_by := ok_law_by (P := P) (w := w) (base := base)  D__law_by C__law_part
  have C__law_less := ok_law_less (P := P) (w := w) (base := base)  D__law_less
  have C__law_number_of := ok_law_number_of (P := P) (w := w) (base := base)  D__law_number_of B
  have C__law_amount_drawn := ok_law_amount_drawn (P := P) (w := w) (base := base)  D__law_amount_drawn C__law_random C__law_part
  have C__law_held_drawn := ok_law_held_drawn (P := P) (w := w) (base := base)  D__law_held_drawn B C__law_random C__law_amount_drawn C__law_less
  have C__law_row_drawn := ok_law_row_drawn (P := P) (w := w) (base := base)  D__law_row_drawn B C__law_random C__law_part
  have C__law_stepped := ok_law_stepped (P := P) (w := w) (base := base)  D__law_stepped B C__law_plus C__law_by C__law_less C__law_number_of
  have C__law_gone := ok_law_gone (P := P) (w := w) (base := base)  D__law_gone B C__law_plus C__law_less C__law_stepped
  have C__law_caught_row := ok_law_caught_row (P := P) (w := w) (base := base)  D__law_caught_row B ER X_led X_narrows
  have C__law_none := ok_law_none (P := P) (w := w) (base := base)  D__law_none B C_is_row
  have C__law_right := ok_law_right (P := P) (w := w) (base := base)  D__law_right B C__law_gone C_is_row C__law_caught_row C_led C_narrows C_done
  have key := ok_law (P := P) (w := w) (base := base) D_law B C__law_generator C__law_random C__law_mill_drawn M_Mill C__law_held_drawn C__law_row_drawn C__law_right C__law_none
  obtain ⟨f1, fd1, a1, kp1, b1, OK, oc1, od1, osl1, l1⟩ := key.ex
  rw [a0] at a1
  cases a1
  obtain ⟨oc, od, kV, doc, pm, an, cdv, ct, osl, e1, lk, hcd⟩ := F0.ex
  rw [l1] at lk
  cases lk
  exact OK
end
theorem walk {l : PySem.W.OpenLaw} {q : Program} {loose : List Str} {XP : (Str → Option Value) → Heap → Prop} {YP : World → Heap → Prop} {d : DefRec} {K : Params → PySem.W.Frag} (hn : l.most = some 63) (hdf : d.params.defaults = [])
    (hY : ∀ (w : World) (h : Heap), YP w h → (K w.params).In h)
    (F : ∀ (w : World) (mg : Str → Option Value) (fa : Addr) (h : Heap), (K w.params).In h → h.Ns mainGlobals mg → mg d.name = some (.ref fa) →
      ∃ fd : FuncData, (∀ (s : Shared) (u : Value), BindsTo s fd ⟨[u], []⟩ [("script", u)]) ∧ ∀ base : Heap, (K w.params).In base → base.Ns mainGlobals mg → FnOkG l.prog w (K w.params) mg base CX0 13 fa fd ["script"] (spLaw (K w.params))) :
    PySem.W.WalkO q loose XP YP l.row.toRowW d [] (fun f vs => PySem.call f vs) :=
  L2.walk_ofG (n := 63) (k := 13) (x := "script") (CX := fun _ => CX0) (sp := fun w => spLaw (K w.params)) hn (by decide) hdf ⟨rfl, by decide, by decide⟩ hY F (fun _ _ a ns hl _ hS => ⟨a, ns, rfl, hS, hl, fun _ => rfl⟩) fun _ _ _ _ _ z => z
end R3

set_option Elab.async false
set_option linter.all false
open PySem PySem.W PyProof.Rows
set_option maxRecDepth 100000 in
set_option maxHeartbeats 0 in
theorem PySem.Challenge.cw_wholemills_k11_rows_led_holds : PySem.Challenge.rw_wholemills_k11_rows_led.Holds := by
  w_on; o_law; k_head; (case hw => w_witness2)
  k_fill
  refine R3.walk (l := PySem.Challenge.rw_wholemills_k11_rows_led) rfl rfl (fun w h Y => PySem.W.kIn_of Y) ?F
  case F =>
    intro w mg fa h KX G hmg
    refine' R3.all_mk KX G hmg ?ht ?Z ?W ?DD ?CO ?com ?eR ?oE ?hR ?gN ?lN
    (case ht => kernel_rfl)
    (case oE => refine' Hd.one_mk (cn := "MillError") KX G ?a ?l ?ga ?gg ?ha; (case a => k_is); (case l => k_is); (case ga => k_is); (case gg => k_is); (case ha => k_is))
    (case com => refine' Hd.Com.mk ?al ?opq (PySem.W.mg_none_of KX G ?noS) ?hn ?ht2; (case al => kernel_rfl); (case opq => k_is); (case noS => k_is); (case hn => k_is); (case ht2 => k_is))
    (case eR =>
      refine' Hd.ext_one (cn := "InvalidRow") (fld := "value") (p1 := R3.pp 0 0) (p2 := R3.pp 0 1) (p3 := R3.pp 0 2) (q := R3.qq 0) KX G ?com ?a ?l ?ga ?gg ?ha ?sa ?nb ?iC ?kC ?l1 ?c1 ?l2 ?v2 ?hf ?l3 ?l4 R3.tx0 Hd.bd_value ⟨by decide, by decide, by decide, by decide⟩
      (case com => refine' Hd.Com.mk ?al ?opq (PySem.W.mg_none_of KX G ?noS) ?hn ?ht2; (case al => kernel_rfl); (case opq => k_is); (case noS => k_is); (case hn => k_is); (case ht2 => k_is))
      (case a => k_is); (case l => k_is); (case ga => k_is); (case gg => k_is); (case ha => k_is); (case sa => k_is); (case nb => k_is); (case iC => k_is); (case kC => k_is)
      (case l1 => k_is); (case c1 => k_is); (case l2 => k_is); (case v2 => rfl); (case hf => kernel_rfl); (case l3 => k_is); (case l4 => k_is))
    (case CO =>
      refine' R3.ClsOf.mk ?mill ?ground ?walk ?m1 ?m2 ?m3 ?g1 ?g2 ?g3 ?g4 ?g5 ?g6 ?w1 ?w2 ?w3 ?w4 ?k_looked ?k_done ?k_once ?k_led ?k_fits ?ha ?hm ?me
      (case mill => refine' Hd.cls_in ?g ?pg ?hd ?po ?sa ?mk ?i ?fn ?kc ?l ?c ?k; (case g => k_is); (case pg => k_is); (case hd => k_is); (case po => k_is); (case sa => k_is); (case mk => k_is); (case i => k_is); (case fn => k_is); (case kc => k_is); (case l => k_is); (case c => k_is); (case k => k_is))
      (case ground => refine' Hd.cls_in ?g ?pg ?hd ?po ?sa ?mk ?i ?fn ?kc ?l ?c ?k; (case g => k_is); (case pg => k_is); (case hd => k_is); (case po => k_is); (case sa => k_is); (case mk => k_is); (case i => k_is); (case fn => k_is); (case kc => k_is); (case l => k_is); (case c => k_is); (case k => k_is))
      (case walk => refine' Hd.cls_in ?g ?pg ?hd ?po ?sa ?mk ?i ?fn ?kc ?l ?c ?k; (case g => k_is); (case pg => k_is); (case hd => k_is); (case po => k_is); (case sa => k_is); (case mk => k_is); (case i => k_is); (case fn => k_is); (case kc => k_is); (case l => k_is); (case c => k_is); (case k => k_is))
      (case m1 => k_is)
      (case m2 => k_is)
      (case m3 => k_is)
      (case g1 => k_is)
      (case g2 => k_is)
      (case g3 => k_is)
      (case g4 => k_is)
      (case g5 => k_is)
      (case g6 => k_is)
      (case w1 => k_is)
      (case w2 => k_is)
      (case w3 => k_is)
      (case w4 => k_is)
      (case k_looked => refine' Hd.meth_in ?a ?fn ?l ?c ?k; (case a => k_is); (case fn => k_is); (case l => k_is); (case c => k_is); (case k => k_is))
      (case k_done => refine' Hd.meth_in ?a ?fn ?l ?c ?k; (case a => k_is); (case fn => k_is); (case l => k_is); (case c => k_is); (case k => k_is))
      (case k_once => refine' Hd.meth_in ?a ?fn ?l ?c ?k; (case a => k_is); (case fn => k_is); (case l => k_is); (case c => k_is); (case k => k_is))
      (case k_led => refine' Hd.meth_in ?a ?fn ?l ?c ?k; (case a => k_is); (case fn => k_is); (case l => k_is); (case c => k_is); (case k => k_is))
      (case k_fits => refine' Hd.meth_in ?a ?fn ?l ?c ?k; (case a => k_is); (case fn => k_is); (case l => k_is); (case c => k_is); (case k => k_is))
      (case ha => first | k_is | kernel_rfl)
      (case hm => first | k_is | kernel_rfl)
      (case me => first | k_is | kernel_rfl))
    (case Z => refine' R3.NoWords.mk ?z0 ?z1 ?z2 ?z3 ?z4 ?z5 ?z6 ?z7 ?z8 ?z9 ?z10 ?z11 ?z12 ?z13 ?z14; (case z0 => k_is); (case z1 => k_is); (case z2 => k_is); (case z3 => k_is); (case z4 => k_is); (case z5 => k_is); (case z6 => k_is); (case z7 => k_is); (case z8 => k_is); (case z9 => k_is); (case z10 => k_is); (case z11 => k_is); (case z12 => k_is); (case z13 => k_is); (case z14 => k_is))
    (case W => refine' R3.words_mk ?w0 ?w1 ?w2 ?w3 ?w4 ?w5; (case w0 => k_is); (case w1 => k_is); (case w2 => k_is); (case w3 => k_is); (case w4 => k_is); (case w5 => k_is))
    (case gN => k_is); (case lN => k_is); (case hR => k_is)
    (case DD =>
      refine' R3.DefsIn.mk ?d0 ?d1 ?d2 ?d3 ?d4 ?d5 ?d6 ?d7 ?d8 ?d9 ?d10 ?d11 ?d12 ?d13 ?d14 ?d15 ?d16 ?d17 ?d18 ?d19 ?d20 ?d21 ?d22 ?d23 ?d24 ?d25 ?d26 ?d27 ?d28 ?d29 ?d30 ?d31 ?d32 ?d33 ?d34 ?d35 ?d36 ?d37 ?d38 ?d39 ?d40 ?d41 ?d42 ?d43 ?d44 ?d45 ?d46 ?d47 ?d48 ?d49 ?d50 ?d51
      (case d0 => refine' Hd.def_in ?a ?l ?c ?k; (case a => k_is); (case l => k_is); (case c => k_is); (case k => k_is))
      (case d1 => refine' Hd.def_in ?a ?l ?c ?k; (case a => k_is); (case l => k_is); (case c => k_is); (case k => k_is))
      (case d2 => refine' Hd.def_in ?a ?l ?c ?k; (case a => k_is); (case l => k_is); (case c => k_is); (case k => k_is))
      (case d3 => refine' Hd.def_in ?a ?l ?c ?k; (case a => k_is); (case l => k_is); (case c => k_is); (case k => k_is))
      (case d4 => refine' Hd.def_in ?a ?l ?c ?k; (case a => k_is); (case l => k_is); (case c => k_is); (case k => k_is))
      (case d5 => refine' Hd.def_in ?a ?l ?c ?k; (case a => k_is); (case l => k_is); (case c => k_is); (case k => k_is))
      (case d6 => refine' Hd.def_in ?a ?l ?c ?k; (case a => k_is); (case l => k_is); (case c => k_is); (case k => k_is))
      (case d7 => refine' Hd.def_in ?a ?l ?c ?k; (case a => k_is); (case l => k_is); (case c => k_is); (case k => k_is))
      (case d8 => refine' Hd.def_in ?a ?l ?c ?k; (case a => k_is); (case l => k_is); (case c => k_is); (case k => k_is))
      (case d9 => refine' Hd.def_in ?a ?l ?c ?k; (case a => k_is); (case l => k_is); (case c => k_is); (case k => k_is))
      (case d10 => refine' Hd.def_in ?a ?l ?c ?k; (case a => k_is); (case l => k_is); (case c => k_is); (case k => k_is))
      (case d11 => refine' Hd.def_in ?a ?l ?c ?k; (case a => k_is); (case l => k_is); (case c => k_is); (case k => k_is))
      (case d12 => refine' Hd.def_in ?a ?l ?c ?k; (case a => k_is); (case l => k_is); (case c => k_is); (case k => k_is))
      (case d13 => refine' Hd.def_in ?a ?l ?c ?k; (case a => k_is); (case l => k_is); (case c => k_is); (case k => k_is))
      (case d14 => refine' Hd.def_in ?a ?l ?c ?k; (case a => k_is); (case l => k_is); (case c => k_is); (case k => k_is))
      (case d15 => refine' Hd.def_in ?a ?l ?c ?k; (case a => k_is); (case l => k_is); (case c => k_is); (case k => k_is))
      (case d16 => refine' Hd.def_in ?a ?l ?c ?k; (case a => k_is); (case l => k_is); (case c => k_is); (case k => k_is))
      (case d17 => refine' Hd.def_in ?a ?l ?c ?k; (case a => k_is); (case l => k_is); (case c => k_is); (case k => k_is))
      (case d18 => refine' Hd.def_in ?a ?l ?c ?k; (case a => k_is); (case l => k_is); (case c => k_is); (case k => k_is))
      (case d19 => refine' Hd.def_in ?a ?l ?c ?k; (case a => k_is); (case l => k_is); (case c => k_is); (case k => k_is))
      (case d20 => refine' Hd.def_in ?a ?l ?c ?k; (case a => k_is); (case l => k_is); (case c => k_is); (case k => k_is))
      (case d21 => refine' Hd.def_in ?a ?l ?c ?k; (case a => k_is); (case l => k_is); (case c => k_is); (case k => k_is))
      (case d22 => refine' Hd.def_in ?a ?l ?c ?k; (case a => k_is); (case l => k_is); (case c => k_is); (case k => k_is))
      (case d23 => refine' Hd.def_in ?a ?l ?c ?k; (case a => k_is); (case l => k_is); (case c => k_is); (case k => k_is))
      (case d24 => refine' Hd.def_in ?a ?l ?c ?k; (case a => k_is); (case l => k_is); (case c => k_is); (case k => k_is))
      (case d25 => refine' Hd.def_in ?a ?l ?c ?k; (case a => k_is); (case l => k_is); (case c => k_is); (case k => k_is))
      (case d26 => refine' Hd.def_in ?a ?l ?c ?k; (case a => k_is); (case l => k_is); (case c => k_is); (case k => k_is))
      (case d27 => refine' Hd.def_in ?a ?l ?c ?k; (case a => k_is); (case l => k_is); (case c => k_is); (case k => k_is))
      (case d28 => refine' Hd.def_in ?a ?l ?c ?k; (case a => k_is); (case l => k_is); (case c => k_is); (case k => k_is))
      (case d29 => refine' Hd.def_in ?a ?l ?c ?k; (case a => k_is); (case l => k_is); (case c => k_is); (case k => k_is))
      (case d30 => refine' Hd.def_in ?a ?l ?c ?k; (case a => k_is); (case l => k_is); (case c => k_is); (case k => k_is))
      (case d31 => refine' Hd.def_in ?a ?l ?c ?k; (case a => k_is); (case l => k_is); (case c => k_is); (case k => k_is))
      (case d32 => refine' Hd.def_in ?a ?l ?c ?k; (case a => k_is); (case l => k_is); (case c => k_is); (case k => k_is))
      (case d33 => refine' Hd.def_in ?a ?l ?c ?k; (case a => k_is); (case l => k_is); (case c => k_is); (case k => k_is))
      (case d34 => refine' Hd.def_in ?a ?l ?c ?k; (case a => k_is); (case l => k_is); (case c => k_is); (case k => k_is))
      (case d35 => refine' Hd.def_in ?a ?l ?c ?k; (case a => k_is); (case l => k_is); (case c => k_is); (case k => k_is))
      (case d36 => refine' Hd.def_in ?a ?l ?c ?k; (case a => k_is); (case l => k_is); (case c => k_is); (case k => k_is))
      (case d37 => refine' Hd.def_in ?a ?l ?c ?k; (case a => k_is); (case l => k_is); (case c => k_is); (case k => k_is))
      (case d38 => refine' Hd.def_in ?a ?l ?c ?k; (case a => k_is); (case l => k_is); (case c => k_is); (case k => k_is))
      (case d39 => refine' Hd.def_in ?a ?l ?c ?k; (case a => k_is); (case l => k_is); (case c => k_is); (case k => k_is))
      (case d40 => refine' Hd.def_in ?a ?l ?c ?k; (case a => k_is); (case l => k_is); (case c => k_is); (case k => k_is))
      (case d41 => refine' Hd.def_in ?a ?l ?c ?k; (case a => k_is); (case l => k_is); (case c => k_is); (case k => k_is))
      (case d42 => refine' Hd.def_in ?a ?l ?c ?k; (case a => k_is); (case l => k_is); (case c => k_is); (case k => k_is))
      (case d43 => refine' Hd.def_in ?a ?l ?c ?k; (case a => k_is); (case l => k_is); (case c => k_is); (case k => k_is))
      (case d44 => refine' Hd.def_in ?a ?l ?c ?k; (case a => k_is); (case l => k_is); (case c => k_is); (case k => k_is))
      (case d45 => refine' Hd.def_in ?a ?l ?c ?k; (case a => k_is); (case l => k_is); (case c => k_is); (case k => k_is))
      (case d46 => refine' Hd.def_in ?a ?l ?c ?k; (case a => k_is); (case l => k_is); (case c => k_is); (case k => k_is))
      (case d47 => refine' Hd.def_in ?a ?l ?c ?k; (case a => k_is); (case l => k_is); (case c => k_is); (case k => k_is))
      (case d48 => refine' Hd.def_in ?a ?l ?c ?k; (case a => k_is); (case l => k_is); (case c => k_is); (case k => k_is))
      (case d49 => refine' Hd.def_in ?a ?l ?c ?k; (case a => k_is); (case l => k_is); (case c => k_is); (case k => k_is))
      (case d50 => refine' Hd.def_in ?a ?l ?c ?k; (case a => k_is); (case l => k_is); (case c => k_is); (case k => k_is))
      (case d51 => refine' Hd.def_in ?a ?l ?c ?k; (case a => k_is); (case l => k_is); (case c => k_is); (case k => k_is)))
#print axioms PySem.Challenge.cw_wholemills_k11_rows_led_holds

