import PyProof.Rows.All
import Wide.All
import OpenK.AllK
import Wide.FinOn
import PyProof.EqAt
import PyProof.EqKinds
import PyProof.TupleCall
import PyProof.ZipIter
import PyProof.Rows.CallKwBuiltin
import HandS.ForMost
import HandS.Zip
import HandS.Evl
import HandS.Walk
import HandS.WideBits
import HandS.Wide
import HandS.ForExc
import HandS.ExcSuper
import HandS.ExcValue
import HandS.ExcField
import HandS.IsInst
import KE.KExcIs
import HandS.RaiseMore
import KE.KExcSuper
import KE.KSuper
import HandS.Defaults
import PySem.Challenge.RW_wholemills_k40_edges_and_brinks
import HandS.Steps
import PyProof.Draws
import PyProof.EnumMake
import HandS.DictComp
import HandS.WordsDict
import KE.KDictList
import HandS.Sort
import HandS.Conv
import HandS.Codes
import HandS.ExcOwn
import HandS.WordsExc
import HandS.CallSlots
import HandS.Iter
import HandS.Rev
import KE.KDictCopyH
import KE.KDictWalk
import HandS.Style
import HandS.Star
import PyProof.Rows.SeqMore
import KE.DataEq
import HandS.ExcIs
set_option Elab.async false
set_option linter.all false
set_option maxRecDepth 100000
set_option maxHeartbeats 4000000
/-! zip(a, b, strict=True) of two lists of one length. -/
namespace PySem
namespace ZS
open Sem (wp)
abbrev kwS : List (Str × Value) := [(Str.ofString "strict", .bool true)]
theorem typeCall_zip (a b : Value) : checkTypeCall "zip" ⟨[a, b], kwS⟩ = pure () := by kernel_rfl
theorem newCall_zip (a b : Value) : checkBuiltinCall "zip.__new__" ⟨[.type "zip", a, b], kwS⟩ = pure () := by kernel_rfl
theorem args_init (a b c : Value) : argsOk "object.__init__" ⟨[a, b, c], kwS⟩ := by
  unfold argsOk; rw [signature?_of (id := "object.__init__") (n := ['_', '_', 't', 'i', 'n', 'i', '_', '_']) (o := ['t', 'c', 'e', 'j', 'b', 'o']) (by kernel_rfl) F.owner_object]; kernel_rfl
abbrev IsZipS (h : Heap) (z TI TO : Addr) (f0 : Value) : Prop :=
  h.get? z = some { cls := .type "zip", dict := none, data := .fields #[f0, .bool false, .bool true, .ref TI, .ref TO], slots := #[] }
section
variable {prog : Program} {w : World} {A : Around} {E : Value → Shared → Prop} {s : Shared}
theorem nextOrEnd_item {it l : Addr} {i : Nat} {items} {x : Value} {Q : Option Value → Shared → Prop} (hit : s.heap.IsListIter it l i)
    (hl : s.heap.IsList l items) (hx : items[i]? = some x)
    (hQ : ∀ h', h'.IsListIter it l (i + 1) → Heap.SameBut it s.heap h' → Q (some x) { s with heap := h' }) :
    wpAny (model prog w) A (Builtin.SmallTypes.nextOrEnd (.ref it)) Q E s := by
  unfold Builtin.SmallTypes.nextOrEnd
  refine wpAny_bind (wpAny_attempt ?_)
  exact wpAny_nextOf_list_item hit hl hx fun h' a b => wpAny_pure (hQ h' a b)
theorem nextOrEnd_end {it l : Addr} {i : Nat} {items} {Q : Option Value → Shared → Prop} (hh : A.handled = none)
    (hit : s.heap.IsListIter it l i) (hl : s.heap.IsList l items) (hx : items[i]? = none)
    (hQ : ∀ h', Heap.ExtBut it s.heap h' → Q none { s with heap := h' }) :
    wpAny (model prog w) A (Builtin.SmallTypes.nextOrEnd (.ref it)) Q E s := by
  unfold Builtin.SmallTypes.nextOrEnd
  refine wpAny_bind (wpAny_attempt ?_)
  refine wpAny_nextOf_list_end hh hit hl hx fun h' e hk he => ?_
  obtain ⟨o, ho, hc⟩ := he
  refine wpAny_bind (wpAny_isInstance (T := "StopIteration") (b := true) ⟨o, ho, hc⟩ isSubtype_stop ?_)
  exact wpAny_pure (hQ _ hk)

theorem if_n {α : Type} {c : Prop} {_ : Decidable c} {t e : Sem α} {Q : α → Shared → Prop} (hc : ¬ c) (h : wpAny (model prog w) A e Q E s) : wpAny (model prog w) A (if c then t else e) Q E s := by
  rw [if_neg hc]
  exact h
theorem stop_it {α : Type} {Q : α → Shared → Prop} (hh : A.handled = none)
    (hE : ∀ h' e, (∀ c o, s.heap.get? c = some o → h'.get? c = some o) → (∃ o, h'.get? e = some o ∧ o.cls = .type "StopIteration") → E (.ref e) { s with heap := h' }) :
    wpAny (model prog w) A (Builtin.SmallTypes.stopIteration : Sem α) Q E s := by
  show wpAny _ _ (newExc (.type "StopIteration") [] >>= _) _ _ _
  refine wpAny_bind ?_
  simp only [newExc, newTuple]
  refine wpAny_bind (wpAny_newObj_type ?_ (by size_fits))
  refine wpAny_bind (m := firstArgMember _ _) (wpAny_of_eq (a := Value.none) (by first | rfl | (simp only [firstArgMember]; rfl)) ?_)
  refine wpAny_newObj_type ?_ (by size_fits)
  simp only [raiseNew]
  refine wpAny_bind (wpAny_handled ?_)
  rw [hh]
  refine wpAny_bind (wpAny_pure (wpAny_throw ?_))
  exact hE _ _ (fun c o x => Heap.get?_push_of_some _ (Heap.get?_push_of_some _ x)) ⟨_, Heap.get?_push_size _ rfl, rfl⟩
theorem next_item {z TI TO i1 i2 l1 l2 : Addr} {k1 k2 : Nat} {xs ys : Array Value} {x y a b : Value} {Q : Value → Shared → Prop} (D : ZipApart z TI TO i1 i2 l1 l2)
    (hz : IsZipS s.heap z TI TO .none) (hTI : IsPair s.heap TI (.ref i1) (.ref i2)) (hTO : IsPair s.heap TO a b)
    (h1 : s.heap.IsListIter i1 l1 k1) (h2 : s.heap.IsListIter i2 l2 k2) (hl1 : s.heap.IsList l1 xs) (hl2 : s.heap.IsList l2 ys) (hx : xs[k1]? = some x) (hy : ys[k2]? = some y)
    (hQ : ∀ h', IsZipS h' z TI TO (rawInt s.heap.objs.size) → IsPair h' TO x y → h'.IsListIter i1 l1 (k1 + 1) → h'.IsListIter i2 l2 (k2 + 1) → IsPair h' s.heap.objs.size x y → h'.objs.size = s.heap.objs.size + 1 →
      (∀ c o, c ≠ z → c ≠ TO → c ≠ i1 → c ≠ i2 → s.heap.get? c = some o → h'.get? c = some o) → Q (.ref s.heap.objs.size) { s with heap := h' }) :
    wpAny (model prog w) A (Builtin.«zip.__next__» ⟨[.ref z], []⟩) (fun fin s' => ∃ v, fin = .done (.ret v) ∧ Q v s') E s := by
  show wpAny _ _ (field (.ref z) 2 >>= _) _ _ _
  refine wpAny_bind (wpAny_field hz rfl (x := .bool true) rfl ?_)
  show wpAny _ _ (field (.ref z) 3 >>= _) _ _ _
  refine wpAny_bind (wpAny_field hz rfl (x := .ref TI) rfl ?_)
  refine wpAny_bind (wpAny_seqItems hTI rfl ?_)
  show wpAny _ _ (Builtin.SmallTypes.ownedTupleIsFree (.ref z) >>= _) _ _ _
  refine wpAny_bind ?_
  unfold Builtin.SmallTypes.ownedTupleIsFree
  refine wpAny_bind (wpAny_field hz rfl (x := .none) rfl (wpAny_pure ?_))
  simp only [if_true]
  refine wpAny_bind (wpAny_rule ?_)
  refine wpAny_bind (wpAny_field hz rfl (x := .ref TO) rfl ?_)
  refine wpAny_bind (wpAny_setField_rec hz (by simp) fun h₁ hz₁ hs₁ => ?_)
  replace hz₁ : IsZipS h₁ z TI TO .ellipsis := hz₁
  refine wpAny_bind ?_
  simp only [List.zipIdx_cons, List.zipIdx_nil, List.forIn_cons, List.forIn_nil]
  refine wpAny_bind (wpAny_bind (wpAny_onRaise ?_))
  show wpAny _ _ (Builtin.SmallTypes.nextOrEnd (.ref i1)) _ _ _
  refine nextOrEnd_item (h1.extBut hs₁.extBut D.i1z) (hl1.extBut hs₁.extBut D.l1z) hx fun h₂ h1₂ hs₂ => ?_
  have hTO₂ : IsPair h₂ TO a b := hs₂.extBut _ _ D.TOi1 (hs₁.extBut _ _ D.TOz hTO)
  refine wpAny_bind (wpAny_seqItems hTO₂ rfl ?_)
  refine wpAny_bind (wpAny_updateSeq_pair hTO₂ fun h₃ hTO₃ hs₃ => ?_)
  replace hTO₃ : IsPair h₃ TO x b := hTO₃
  refine wpAny_bind (wpAny_letGo (wpAny_pure ?_))
  refine wpAny_bind (wpAny_bind (wpAny_onRaise ?_))
  show wpAny _ _ (Builtin.SmallTypes.nextOrEnd (.ref i2)) _ _ _
  refine nextOrEnd_item (((h2.extBut hs₁.extBut D.i2z).extBut hs₂.extBut D.i12.symm).extBut hs₃.extBut D.TOi2.symm)
    (((hl2.extBut hs₁.extBut D.l2z).extBut hs₂.extBut D.l2i1).extBut hs₃.extBut D.l2TO) hy fun h₄ h2₄ hs₄ => ?_
  have hTO₄ : IsPair h₄ TO x b := hs₄.extBut _ _ D.TOi2 hTO₃
  refine wpAny_bind (wpAny_seqItems hTO₄ rfl ?_)
  refine wpAny_bind (wpAny_updateSeq_pair hTO₄ fun h₅ hTO₅ hs₅ => ?_)
  replace hTO₅ : IsPair h₅ TO x y := hTO₅
  refine wpAny_bind (wpAny_letGo (wpAny_pure (wpAny_pure ?_)))
  refine wpAny_bind (wpAny_seqItems hTO₅ rfl ?_)
  refine wpAny_bind (wpAny_newTuple ?_)
  have hsz : h₅.objs.size = s.heap.objs.size := by rw [hs₅.1, hs₄.1, hs₃.1, hs₂.1, hs₁.1]
  have hz₅ : IsZipS h₅ z TI TO .ellipsis := hs₅.extBut _ _ D.TOz.symm (hs₄.extBut _ _ D.i2z.symm (hs₃.extBut _ _ D.TOz.symm (hs₂.extBut _ _ D.i1z.symm hz₁)))
  have hk₅ : ∀ c o, c ≠ z → c ≠ TO → c ≠ i1 → c ≠ i2 → s.heap.get? c = some o → h₅.get? c = some o := fun c o c1 c2 c3 c4 e =>
    hs₅.extBut _ _ c2 (hs₄.extBut _ _ c4 (hs₃.extBut _ _ c2 (hs₂.extBut _ _ c3 (hs₁.extBut _ _ c1 e))))
  have h1₅ : h₅.IsListIter i1 l1 (k1 + 1) := ((h1₂.extBut hs₃.extBut D.TOi1.symm).extBut hs₄.extBut D.i12).extBut hs₅.extBut D.TOi1.symm
  have h2₅ : h₅.IsListIter i2 l2 (k2 + 1) := h2₄.extBut hs₅.extBut D.TOi2.symm
  have hzlt : z < h₅.objs.size := Heap.lt_size hz₅
  have hTOlt : TO < h₅.objs.size := Heap.lt_size hTO₅
  have hi1lt : i1 < h₅.objs.size := by obtain ⟨_, e, _⟩ := h1₅; exact Heap.lt_size e
  have hi2lt : i2 < h₅.objs.size := by obtain ⟨_, e, _⟩ := h2₅; exact Heap.lt_size e
  show wpAny _ _ (Builtin.SmallTypes.ownedTupleHandOut (.ref z) (.ref h₅.objs.size) >>= _) _ _ _
  refine wpAny_bind ?_
  unfold Builtin.SmallTypes.ownedTupleHandOut
  have hz₆ : IsZipS (h₅.push { cls := .type "tuple", data := .seq #[x, y] }) z TI TO .ellipsis := Heap.get?_push_of_some _ hz₅
  refine wpAny_bind (wpAny_setField_rec hz₆ (by simp) fun h₇ hz₇ hs₇ => ?_)
  replace hz₇ : IsZipS h₇ z TI TO (rawInt h₅.objs.size) := hz₇
  refine wpAny_setField_rec hz₇ (by simp) fun h₈ hz₈ hs₈ => ?_
  replace hz₈ : IsZipS h₈ z TI TO (rawInt h₅.objs.size) := hz₈
  have up : ∀ c o, c ≠ z → h₅.get? c = some o → h₈.get? c = some o := fun c o c1 e => hs₈.extBut _ _ c1 (hs₇.extBut _ _ c1 (Heap.get?_push_of_some _ e))
  have hT₈ : IsPair h₈ h₅.objs.size x y := hs₈.extBut _ _ (Nat.ne_of_gt hzlt) (hs₇.extBut _ _ (Nat.ne_of_gt hzlt) (Heap.get?_push_size _ rfl))
  have hz8 : h₈.objs.size = h₅.objs.size + 1 := by rw [hs₈.1, hs₇.1, Heap.size_push]
  rw [hsz] at hz₈ hT₈ hz8
  refine wpAny_pure ⟨_, rfl, ?_⟩
  show Q (.ref h₅.objs.size) _
  rw [hsz]
  exact hQ h₈ hz₈ (up _ _ D.TOz hTO₅) (h1₅.at fun o e => up _ o D.i1z e) (h2₅.at fun o e => up _ o D.i2z e) hT₈ hz8 fun c o c1 c2 c3 c4 e => up c o c1 (hk₅ c o c1 c2 c3 c4 e)

theorem next_end {z TI TO i1 i2 l1 l2 : Addr} {k1 k2 : Nat} {xs ys : Array Value} {a b : Value} {Q : Fin → Shared → Prop} (hh : A.handled = none) (D : ZipApart z TI TO i1 i2 l1 l2)
    (hz : IsZipS s.heap z TI TO .none) (hTI : IsPair s.heap TI (.ref i1) (.ref i2)) (hTO : IsPair s.heap TO a b)
    (h1 : s.heap.IsListIter i1 l1 k1) (h2 : s.heap.IsListIter i2 l2 k2) (hl1 : s.heap.IsList l1 xs) (hl2 : s.heap.IsList l2 ys) (hx : xs[k1]? = none) (hy : ys[k2]? = none)
    (hE : ∀ h' e, (∀ c o, c ≠ z → c ≠ TO → c ≠ i1 → c ≠ i2 → s.heap.get? c = some o → h'.get? c = some o) → (∃ o, h'.get? e = some o ∧ o.cls = .type "StopIteration") → E (.ref e) { s with heap := h' }) :
    wpAny (model prog w) A (Builtin.«zip.__next__» ⟨[.ref z], []⟩) Q E s := by
  show wpAny _ _ (field (.ref z) 2 >>= _) _ _ _
  refine wpAny_bind (wpAny_field hz rfl (x := .bool true) rfl ?_)
  show wpAny _ _ (field (.ref z) 3 >>= _) _ _ _
  refine wpAny_bind (wpAny_field hz rfl (x := .ref TI) rfl ?_)
  refine wpAny_bind (wpAny_seqItems hTI rfl ?_)
  show wpAny _ _ (Builtin.SmallTypes.ownedTupleIsFree (.ref z) >>= _) _ _ _
  refine wpAny_bind ?_
  unfold Builtin.SmallTypes.ownedTupleIsFree
  refine wpAny_bind (wpAny_field hz rfl (x := .none) rfl (wpAny_pure ?_))
  simp only [if_true]
  refine wpAny_bind (wpAny_rule ?_)
  refine wpAny_bind (wpAny_field hz rfl (x := .ref TO) rfl ?_)
  refine wpAny_bind (wpAny_setField_rec hz (by simp) fun h₁ hz₁ hs₁ => ?_)
  replace hz₁ : IsZipS h₁ z TI TO .ellipsis := hz₁
  refine wpAny_bind ?_
  simp only [List.zipIdx_cons, List.zipIdx_nil, List.forIn_cons, List.forIn_nil]
  refine wpAny_bind (wpAny_bind (wpAny_onRaise ?_))
  show wpAny _ _ (Builtin.SmallTypes.nextOrEnd (.ref i1)) _ _ _
  refine nextOrEnd_end hh (h1.extBut hs₁.extBut D.i1z) (hl1.extBut hs₁.extBut D.l1z) hx fun h₂ hs₂ => ?_
  have hz₂ : IsZipS h₂ z TI TO .ellipsis := hs₂ _ _ D.i1z.symm hz₁
  refine wpAny_bind (wpAny_setField_rec hz₂ (by simp) fun h₃ hz₃ hs₃ => ?_)
  have k₃ : ∀ c o, c ≠ z → c ≠ i1 → s.heap.get? c = some o → h₃.get? c = some o := fun c o c1 c3 x => hs₃.extBut _ _ c1 (hs₂ _ _ c3 (hs₁.extBut _ _ c1 x))
  have hi2z : h₃.IsListIter i2 l2 k2 := h2.at fun o q => k₃ _ o D.i2z D.i12.symm q
  have hl2z : h₃.IsList l2 ys := hl2.at fun o q => k₃ _ o D.l2z D.l2i1 q
  refine wpAny_bind ?_
  refine wpAny_bind ?_
  simp only [List.drop_succ_cons, List.drop_zero, List.zipIdx_cons, List.zipIdx_nil]
  simp only [List.forIn_cons, List.forIn_nil]
  refine wpAny_bind (wpAny_bind ?_)
  refine nextOrEnd_end hh hi2z hl2z hy fun h₄ hs₄ => ?_
  refine wpAny_pure ?_
  refine wpAny_pure ?_
  refine wpAny_bind (wpAny_rule ?_)
  refine stop_it hh fun h₅ e k₅ he => ?_
  exact hE h₅ e (fun c o c1 _ c3 c4 x => k₅ _ _ (hs₄ _ _ c4 (k₃ _ _ c1 c3 x))) he
theorem pyNext_item {z TI TO i1 i2 l1 l2 : Addr} {k1 k2 : Nat} {xs ys : Array Value} {x y a b : Value} {Q : Option Value → Shared → Prop} (D : ZipApart z TI TO i1 i2 l1 l2)
    (hz : IsZipS s.heap z TI TO .none) (hTI : IsPair s.heap TI (.ref i1) (.ref i2)) (hTO : IsPair s.heap TO a b)
    (h1 : s.heap.IsListIter i1 l1 k1) (h2 : s.heap.IsListIter i2 l2 k2) (hl1 : s.heap.IsList l1 xs) (hl2 : s.heap.IsList l2 ys) (hx : xs[k1]? = some x) (hy : ys[k2]? = some y)
    (hQ : ∀ h', IsZipS h' z TI TO (rawInt s.heap.objs.size) → IsPair h' TO x y → h'.IsListIter i1 l1 (k1 + 1) → h'.IsListIter i2 l2 (k2 + 1) → IsPair h' s.heap.objs.size x y → h'.objs.size = s.heap.objs.size + 1 →
      (∀ c o, c ≠ z → c ≠ TO → c ≠ i1 → c ≠ i2 → s.heap.get? c = some o → h'.get? c = some o) → Q (some (.ref s.heap.objs.size)) { s with heap := h' }) :
    wpAny (model prog w) A (pyNext (.ref z)) Q E s := by
  have hT : s.TypeIs (.ref z) "zip" := ⟨_, hz, rfl⟩
  unfold pyNext
  exact wpAny_bind (wpAny_attempt (wpAny_callSpecial?_slot (name := Str.ofString "__next__") hT F.slot_zip_next
    (wpAny_call_entry F.slot_zip_next hT F.entry_zip_next
      (next_item D hz hTI hTO h1 h2 hl1 hl2 hx hy fun h' a1 a2 a3 a4 a5 a6 a7 => wpAny_pure (hQ h' a1 a2 a3 a4 a5 a6 a7)) (F.args_zip_next_1 _))))
theorem pyNext_end {z TI TO i1 i2 l1 l2 : Addr} {k1 k2 : Nat} {xs ys : Array Value} {a b : Value} {Q : Option Value → Shared → Prop} (hh : A.handled = none) (D : ZipApart z TI TO i1 i2 l1 l2)
    (hz : IsZipS s.heap z TI TO .none) (hTI : IsPair s.heap TI (.ref i1) (.ref i2)) (hTO : IsPair s.heap TO a b)
    (h1 : s.heap.IsListIter i1 l1 k1) (h2 : s.heap.IsListIter i2 l2 k2) (hl1 : s.heap.IsList l1 xs) (hl2 : s.heap.IsList l2 ys) (hx : xs[k1]? = none) (hy : ys[k2]? = none)
    (hQ : ∀ h', (∀ c o, c ≠ z → c ≠ TO → c ≠ i1 → c ≠ i2 → s.heap.get? c = some o → h'.get? c = some o) → Q none { s with heap := h' }) : wpAny (model prog w) A (pyNext (.ref z)) Q E s := by
  have hT : s.TypeIs (.ref z) "zip" := ⟨_, hz, rfl⟩
  unfold pyNext
  refine wpAny_bind (wpAny_attempt (wpAny_callSpecial?_slot (name := Str.ofString "__next__") hT F.slot_zip_next
    (wpAny_call_entry F.slot_zip_next hT F.entry_zip_next (next_end hh D hz hTI hTO h1 h2 hl1 hl2 hx hy fun h' e hk he => ?_) (F.args_zip_next_1 _))))
  obtain ⟨o, ho, hc⟩ := he
  refine wpAny_bind (wpAny_isInstance (T := "StopIteration") (b := true) ⟨o, ho, hc⟩ isSubtype_stop ?_)
  exact wpAny_pure (hQ _ hk)
theorem letGo_zip {elts : List Expr} {x1} {pos : Pos} {z TI TO T : Addr} {Q : Unit → Shared → Prop} (hz : IsZipS s.heap z TI TO (rawInt T))
    (hQ : ∀ h', IsZipS h' z TI TO .none → Heap.SameBut z s.heap h' → Q () { s with heap := h' }) :
    wpAny (model prog w) A (letOwnedTupleGo (.Tuple elts x1 pos) (.ref z) (.ref T)) Q E s := by
  unfold letOwnedTupleGo
  refine wpAny_bind (wpAny_load hz ?_)
  show wpAny _ _ (if (["enumerate", "zip", "dict_itemiterator", "dict_reverseitemiterator", "odict_iterator", "itertools.zip_longest", "itertools.pairwise"].contains "zip" &&
      (#[rawInt T, .bool false, .bool true, .ref TI, .ref TO] : Array Value)[0]? == some (rawInt T)) = true then _ else _) Q E s
  rw [if_pos (by simp)]
  refine wpAny_bind (wpAny_rule ?_)
  show wpAny _ _ (setField (.ref z) 0 .none) Q E s
  exact wpAny_setField_rec hz (by simp) fun h' hz' hs' => hQ h' hz' hs'
theorem pyIter_zip {z TI TO : Addr} {f0 : Value} {Q : Value → Shared → Prop} (hz : IsZipS s.heap z TI TO f0) (h : Q (.ref z) s) : wpAny (model prog w) A (pyIter (.ref z)) Q E s := by
  have hT : s.TypeIs (.ref z) "zip" := ⟨_, hz, rfl⟩
  refine wpAny_pyIter_slot hT F.slot_zip_iter (wpAny_call_entry F.slot_zip_iter hT F.entry_zip_iter ?_ (F.args_zip_iter_1 _))
  show wpAny _ _ (ret (.ref z)) _ _ s
  exact wpAny_pure ⟨_, rfl, "zip", _, hT, F.slot_zip_next.lookup, h⟩
end
abbrev zH5 (h : Heap) (l1 l2 : Addr) : Heap := (zipH4 h l1 l2).push { cls := .type "zip", data := .fields #[.none, .bool false, .bool true, .ref (zipH2 h l1 l2).objs.size, .ref (zipH3 h l1 l2).objs.size] }
theorem meets_new (l1 l2 : Addr) (xs ys : Array Value) :
    Meets (Builtin.«zip.__new__» ⟨[.type "zip", .ref l1, .ref l2], kwS⟩) (fun _ R s => s.heap.IsList l1 xs ∧ s.heap.IsList l2 ys ∧
      R (.ok (.ret (.ref (zipH4 s.heap l1 l2).objs.size))) { s with heap := zH5 s.heap l1 l2 }) :=
  .of_wp fun prog w A R s h => by
    obtain ⟨hp, g, d, tk, os⟩ := s; obtain ⟨hl1, hl2, h⟩ := h
    have hsub := sub_zip
    have hL1 : Heap.IsList (Shared.heap ⟨hp, g, d, tk, os⟩) l1 xs := hl1
    have hL2 : Heap.IsList (Shared.heap ⟨hp.push { cls := .type "list_iterator", data := .fields #[.ref l1, .int 0 0] }, g, d, tk, os⟩) l2 ys := Heap.IsList.push hl2 _
    wp_walk using wpAny_pyIter_list hL1, wpAny_pyIter_list hL2
    exact ⟨_, rfl, h⟩
theorem object_init_meets {T newId : String} {self : Value} {rest : List Value} {kw : List (Str × Value)} (hl : typeLookup (.type T) "__init__" = pure (some (.builtin "object.__init__")))
    (hm : Bind.madeBy (.type T) = pure (some newId)) (hne : (some newId != some "object.__new__") = true) :
    Meets (Builtin.«object.__init__» ⟨self :: rest, kw⟩) (fun _ R s => s.TypeIs self T ∧ R (.ok (.ret .none)) s) := by
  refine Meets.of_wp fun prog w A R s hs => ?_
  obtain ⟨hT, hq⟩ := hs
  cases rest with
  | nil =>
    cases kw with
    | nil => exact wpAny_pure ⟨_, rfl, hq⟩
    | cons k ks =>
      repeat (any_goals (first | assumption | wp_step))
      exact ⟨_, rfl, hq⟩
  | cons a rest =>
    repeat (any_goals (first | assumption | wp_step))
    exact ⟨_, rfl, hq⟩
section
variable {prog : Program} {w : World} {A : Around} {E : Value → Shared → Prop} {s : Shared}
theorem callType_meets {T newId initId : String} {Bn Bi : Builtin} {args : List Value} {kw : List (Str × Value)} {S : Spec} {Q Q₁ : Value → Shared → Prop} (ft : TypeCalled T newId initId)
    (hct : checkTypeCall T ⟨args, kw⟩ = pure ()) (hcn : checkBuiltinCall newId ⟨.type T :: args, kw⟩ = pure ())
    (entryN : entryFor table newId = some Bn) (entryI : entryFor table initId = some Bi) (g : Meets (Bn ⟨.type T :: args, kw⟩) S)
    (h : S A.in1 (wants Q₁ E) s)
    (hnext : ∀ obj s₁, Q₁ obj s₁ → s₁.TypeIs obj T ∧ argsOk initId ⟨obj :: args, kw⟩ ∧ ∃ Si, Meets (Bi ⟨obj :: args, kw⟩) Si ∧ Si A.in1 (wants (fun r s₂ => r = .none ∧ Q obj s₂) E) s₁) :
    wpAny (model prog w) A (call (.type T) args kw) Q E s := by
  obtain ⟨c, tl, hmro⟩ := ft.mro
  have hmade := ft.made
  have hsub := ft.sub
  refine wpAny_call (codeAny_of_tree ?_)
  show wpAny _ _ (callAny (.type T) _) _ _ _
  refine wpAny_pure ⟨Code.quiet_builtin _ (by decide +kernel), codeAny_builtin F.entry_type_call ?_⟩
  rw [Around.under_plain (weight_type_call_type T args kw) (units_type_call_type T args kw)]
  have h1 := ft.notType
  have h2 := ft.canCreate
  repeat (any_goals (first | assumption | wp_step))
  refine codeAny_mono (codeAny_call_builtin ft.plain entryN (wpAny_of_eq hcn (g prog w A.in1 _ s h))) fun r s₁ hr => ?_
  cases r with
  | error e => exact hr
  | ok fl =>
    cases fl with
    | ret obj =>
      obtain ⟨hT, hok, Si, gi, hsi⟩ := hnext _ _ hr
      have hli := ft.init.lookup
      have hbi := ft.init.bind obj
      repeat (any_goals (first | assumption | wp_step))
      refine codeAny_mono (codeAny_call_builtin ft.init.plain entryI (ft.init.check _ _ _ _ _ _ _ _ hT hok (gi prog w A.in1 _ s₁ hsi))) fun r₂ s₂ hr₂ => ?_
      cases r₂ with
      | error e => exact hr₂
      | ok fl₂ =>
        cases fl₂ with
        | ret r =>
          obtain ⟨rfl, hq⟩ := hr₂
          repeat (any_goals (first | assumption | wp_step))
        | _ => exact hr₂.elim
    | _ => exact hr.elim
theorem call_zipS {l1 l2 : Addr} {xs ys : Array Value} {Q : Value → Shared → Prop} (hl1 : s.heap.IsList l1 xs) (hl2 : s.heap.IsList l2 ys)
    (h : ∀ h', IsZipS h' (s.heap.objs.size + 4) (s.heap.objs.size + 2) (s.heap.objs.size + 3) .none → IsPair h' (s.heap.objs.size + 2) (.ref s.heap.objs.size) (.ref (s.heap.objs.size + 1)) →
      IsPair h' (s.heap.objs.size + 3) .none .none → h'.IsListIter s.heap.objs.size l1 0 → h'.IsListIter (s.heap.objs.size + 1) l2 0 → h'.objs.size = s.heap.objs.size + 5 →
      (∀ c o, s.heap.get? c = some o → h'.get? c = some o) → Q (.ref (s.heap.objs.size + 4)) { s with heap := h' }) :
    wpAny (model prog w) A (call (.type "zip") [.ref l1, .ref l2] kwS) Q E s := by
  refine callType_meets F.called_zip (typeCall_zip _ _) (newCall_zip _ _) F.entry_zip_new F.entry_object_init (meets_new l1 l2 xs ys) (Q₁ := fun obj s₁ => s₁.TypeIs obj "zip" ∧ Q obj s₁) ⟨hl1, hl2, ?_⟩ fun obj _ hq =>
    ⟨hq.1, args_init obj _ _, _, object_init_meets F.called_zip.init.lookup F.called_zip.made (by decide), hq.1, rfl, hq.2⟩
  have z1 : (zipH1 s.heap l1).objs.size = s.heap.objs.size + 1 := Heap.size_push ..
  have z2 : (zipH2 s.heap l1 l2).objs.size = s.heap.objs.size + 2 := by rw [Heap.size_push, z1]
  have z3 : (zipH3 s.heap l1 l2).objs.size = s.heap.objs.size + 3 := by rw [Heap.size_push, z2]
  have z4 : (zipH4 s.heap l1 l2).objs.size = s.heap.objs.size + 4 := by rw [Heap.size_push, z3]
  have z5 : (zH5 s.heap l1 l2).objs.size = s.heap.objs.size + 5 := by rw [Heap.size_push, z4]
  have g5 : (zH5 s.heap l1 l2).get? (zipH4 s.heap l1 l2).objs.size = some _ := Heap.get?_push_size _ rfl
  have g4 : (zH5 s.heap l1 l2).get? (zipH3 s.heap l1 l2).objs.size = some _ := Heap.get?_push_of_some _ (Heap.get?_push_size _ rfl)
  have g3 : (zH5 s.heap l1 l2).get? (zipH2 s.heap l1 l2).objs.size = some _ := Heap.get?_push_of_some _ (Heap.get?_push_of_some _ (Heap.get?_push_size _ rfl))
  have g2 : (zH5 s.heap l1 l2).get? (zipH1 s.heap l1).objs.size = some _ := Heap.get?_push_of_some _ (Heap.get?_push_of_some _ (Heap.get?_push_of_some _ (Heap.get?_push_size _ rfl)))
  have g1 : (zH5 s.heap l1 l2).get? s.heap.objs.size = some _ := Heap.get?_push_of_some _ (Heap.get?_push_of_some _ (Heap.get?_push_of_some _ (Heap.get?_push_of_some _ (Heap.get?_push_size _ rfl))))
  show _ ∧ _
  rw [z2, z3, z4] at g5
  rw [z1, z2] at g3
  rw [z3] at g4
  rw [z1] at g2
  rw [z4]
  exact ⟨⟨_, g5, rfl⟩, h _ g5 g3 g4 ⟨_, g1, rfl, rfl⟩ ⟨_, g2, rfl, rfl⟩ z5 fun c o x =>
    Heap.get?_push_of_some _ (Heap.get?_push_of_some _ (Heap.get?_push_of_some _ (Heap.get?_push_of_some _ (Heap.get?_push_of_some _ x))))⟩
end
end ZS
end PySem

set_option Elab.async false
set_option linter.all false
set_option maxRecDepth 100000
set_option maxHeartbeats 4000000
namespace PySem
namespace ZS
section
variable {M : Model} {A : Around} {E : Value → Shared → Prop} {s : Shared} {env : Env}
theorem callWith_kwT {pos : Pos} {T : String} {e : Expr} {rest : List Expr} {kws : List Keyword} {Q : Value → Shared → Prop}
    (h : wpAny M A (spliced (backTo pos (starEach (e :: rest) env))) (fun vs s₁ => wpAny M A (evalAll ((backToKw pos (keywordEach kws env)).map (·.2)))
      (fun kvs s₂ => wpAny M A (call (.type T) vs (((backToKw pos (keywordEach kws env)).filterMap (·.1)).zip kvs)) Q E s₂) E s₁) E s)
    (he : backTo pos (starEach (e :: rest) env) = (false, eval e env) :: backTo pos (starEach rest env) := by rfl)
    (hplain : (backTo pos (starEach (e :: rest) env)).any (·.1) = false := by rfl)
    (hall : (backToKw pos (keywordEach kws env)).all (·.1.isSome) = true := by rfl)
    (hkw : (backToKw pos (keywordEach kws env)).any (·.1.isNone) = false := by rfl) :
    wpAny M A (callWith pos (.type T) [] (backTo pos (starEach (e :: rest) env)) (backToKw pos (keywordEach kws env))) Q E s := by
  have h2 : wpAny M A (evalArgs (.type T) true (backTo pos (starEach (e :: rest) env)) (backToKw pos (keywordEach kws env))) (fun a s₁ => wpAny M A (call (.type T) ([] ++ a.pos) a.kw) Q E s₁) E s := by
    rw [he] at h ⊢
    exact PyProof.Rows.evalArgs_kwB hall h
  unfold callWith
  refine wpAny_bind (wpAny_holding (wpAny_mono h2 (fun a s₁ h₁ => wpAny_bind (wpAny_standAt ?_)) fun _ _ x => x))
  simp only [hplain, hkw, Bool.or_false]
  refine wpAny_bind (wpAny_pure ?_)
  exact wpAny_bind (wpAny_mono h₁ (fun r s₂ hr => wpAny_bind (wpAny_holding (wpAny_point (wpAny_pure hr)))) fun _ _ x => x)
end
end ZS
end PySem
namespace L2
open PySem PySem.Spec PyProof.Rows
/-- the lists at a and b, of one length, as they stand at each turn -/
def Itzs (K : PySem.W.Frag) (a b : Addr) : It :=
  ⟨fun i H => ∃ (xs ys : List V) (x y : V), SqL K H a xs ∧ SqL K H b ys ∧ xs[i]? = some x ∧ ys[i]? = some y,
    fun i H v H' => ∃ T x y, v = .ref T ∧ H T = none ∧ H' = upd H T (.tup [x, y]) ∧ (∀ xs, SqL K H a xs → xs[i]? = some x) ∧ ∀ ys, SqL K H b ys → ys[i]? = some y,
    fun i H => ∃ xs ys : List V, SqL K H a xs ∧ SqL K H b ys ∧ (xs.length ≤ i ∧ ys.length ≤ i)⟩
theorem turn_zipS {P : Program} {w : World} {K : PySem.W.Frag} {elts : List Expr} {kk : Nat} {tpos : Pos} {a b z TI TO i1 i2 : Addr} (D : ZipApart z TI TO i1 i2 a b) :
    Turn P w K (.Tuple elts kk tpos) (Itzs K a b) [z, TI, TO, i1, i2] z (fun i h => ZS.IsZipS h z TI TO .none ∧ IsPair h TI (.ref i1) (.ref i2) ∧ (∃ x y, IsPair h TO x y) ∧ h.IsListIter i1 a i ∧ h.IsListIter i2 b i) where
  mem := by simp
  obj := fun i h st c hc => by
    obtain ⟨hz, hTI, ⟨x, y, hTO⟩, ⟨o1, e1, _, d1⟩, ⟨o2, e2, _, d2⟩⟩ := st
    have e' : c = z ∨ c = TI ∨ c = TO ∨ c = i1 ∨ c = i2 := by simpa using hc
    rcases e' with q | q | q | q | q
    · rw [q]; exact ⟨_, hz, fun v q => nomatch q⟩
    · rw [q]; exact ⟨_, hTI, fun v q => nomatch q⟩
    · rw [q]; exact ⟨_, hTO, fun v q => nomatch q⟩
    · rw [q]; exact ⟨o1, e1, fun v q => by rw [d1] at q; cases q⟩
    · rw [q]; exact ⟨o2, e2, fun v q => by rw [d2] at q; cases q⟩
  keep := fun i h h' st k => by
    obtain ⟨hz, hTI, ⟨x, y, hTO⟩, h1, h2⟩ := st
    exact ⟨k z (by simp) _ hz, k TI (by simp) _ hTI, ⟨x, y, k TO (by simp) _ hTO⟩, h1.at fun o q => k i1 (by simp) o q, h2.at fun o q => k i2 (by simp) o q⟩
  item := by
    intro X hP hw hK hc i pins s σ H E I hf st hg
    subst hP hw hK
    obtain ⟨hz, hTI, ⟨x0, y0, hTO⟩, h1, h2⟩ := st
    obtain ⟨xs, ys, x, y, hqx, hqy, hx, hy⟩ := hg
    obtain ⟨its, rv, p, _⟩ := I.list hqx
    obtain ⟨its2, rv2, p2, _⟩ := I.list hqy
    obtain ⟨u, hu, ru⟩ := rv.get hx
    obtain ⟨u2, hu2, ru2⟩ := rv2.get hy
    have hzl : z < s.heap.objs.size := Heap.lt_size hz
    refine ZS.pyNext_item D hz hTI hTO h1 h2 p.isList p2.isList (x := u) (y := u2) (by simpa using hu) (by simpa using hu2) fun h' z' TO' h1' h2' hT hsz hk => ?_
    refine ⟨_, rfl, ZS.letGo_zip (s := { s with heap := h' }) z' fun h'' z'' sb => ?_⟩
    have hT2 : h''.get? s.heap.objs.size = some { cls := .type "tuple", data := .seq #[u, u2] } := (sb.2 _ (Nat.ne_of_gt hzl)).trans hT
    have new : ObjOk X.prog X.w (upd H s.heap.objs.size (.tup [x, y])) h'' s.heap.objs.size (.tup [x, y]) :=
      ⟨by show 2 ≤ sizeLine; decide, [u, u2], .cons ru (.cons ru2 .nil), ⟨_, hT2, rfl, _, rfl⟩⟩
    have I1 : Inv X pins σ (upd H s.heap.objs.size (.tup [x, y])) { s with heap := h'' } :=
      I.turnedNew (t' := s.toks) (ch := [z, TI, TO, i1, i2]) (fun c o hb q => (sb.2 c (fun q' => hb (by simp [q']))).trans (hk c o (fun q' => hb (by simp [q'])) (fun q' => hb (by simp [q'])) (fun q' => hb (by simp [q'])) (fun q' => hb (by simp [q'])) q)) hf (Nat.le_refl _) new
    refine ⟨.ref s.heap.objs.size, _, I1, rfl, ⟨_, x, y, rfl, I.hok.fresh (Nat.le_refl _), rfl, fun l hl => by rw [I.list_inj hl hqx]; exact hx, fun l hl => by rw [I.list_inj hl hqy]; exact hy⟩, ⟨z'', ?_, ⟨u, u2, ?_⟩, ?_, ?_⟩, fun c hcm => ?_⟩
    · exact (sb.2 _ D.TIz).trans (hk _ _ D.TIz D.TITO D.TIi1 D.TIi2 hTI)
    · exact (sb.2 _ D.TOz).trans TO'
    · exact h1'.at fun o q => (sb.2 _ D.i1z).trans q
    · exact h2'.at fun o q => (sb.2 _ D.i2z).trans q
    · have hlt : c < s.heap.objs.size := by
        have e' : c = z ∨ c = TI ∨ c = TO ∨ c = i1 ∨ c = i2 := by simpa using hcm
        rcases e' with q | q | q | q | q
        · rw [q]; exact hzl
        · rw [q]; exact Heap.lt_size hTI
        · rw [q]; exact Heap.lt_size hTO
        · rw [q]; obtain ⟨_, e1, _⟩ := h1; exact Heap.lt_size e1
        · rw [q]; obtain ⟨_, e2, _⟩ := h2; exact Heap.lt_size e2
      rw [upd_ne (Nat.ne_of_lt hlt)]
      exact (hf c hcm).1
  done := by
    intro X hP hw hK hc i pins s σ H E I hf st hg
    subst hP hw hK
    obtain ⟨hz, hTI, ⟨x0, y0, hTO⟩, h1, h2⟩ := st
    obtain ⟨xs, ys, hqx, hqy, hend, hend2⟩ := hg
    obtain ⟨its, rv, p, _⟩ := I.list hqx
    obtain ⟨its2, rv2, p2, _⟩ := I.list hqy
    have l1 := rv.length
    have l2 := rv2.length
    have e1 : its.toArray[i]? = none := by simp; omega
    have e2 : its2.toArray[i]? = none := by simp; omega
    exact ZS.pyNext_end (I.ok.hd hc) D hz hTI hTO h1 h2 p.isList p2.isList e1 e2 fun h' hk => ⟨rfl, I.turnedL (t' := s.toks) (ch := [z, TI, TO, i1, i2]) (fun c o hb q =>
      hk c o (fun q' => hb (by simp [q'])) (fun q' => hb (by simp [q'])) (fun q' => hb (by simp [q'])) (fun q' => hb (by simp [q'])) q) hf⟩
  self := fun A i s Q E st h => ZS.pyIter_zip st.1 h
def iZipS (K : PySem.W.Frag) (ta : TA) : TI := fun σ H R => ta σ H fun vs H1 => ∃ a b xs ys, vs = [.ref a, .ref b] ∧ SqL K H1 a xs ∧ SqL K H1 b ys ∧ R (Itzs K a b) H1
theorem pi_zipS {X : Cx} {e e2 : Expr} {ta : TA} {p pos tpos cp kp : Pos} {elts : List Expr} {kk ck : Nat} (hg : Gl X "zip") (hm : X.mg "zip" = none) (ha : PA X [e, e2] ta)
    (hs : backTo pos (starEach [e, e2] X.env) = (false, eval e X.env) :: backTo pos (starEach [e2] X.env) := by rfl) (hpl : (backTo pos (starEach [e, e2] X.env)).any (·.1) = false := by rfl) :
    PI X (.Tuple elts kk tpos) (.Call (.Name "zip" p) [e, e2] [⟨some "strict", .Constant (.bool true) ck cp, kp⟩] pos) (iZipS X.K ta) := by
  refine ⟨fun pins s σ H R I h => ?_⟩
  refine wpAny_Call_Name_kw (ld_blt I hg hm PyProof.Rows.boot_zip (ZS.callWith_kwT (thn (ha.run pos pins s σ H _ I h) fun us s1 ⟨vs, H1, I1, r1, q1⟩ => ?_) hs hpl))
  refine PyProof.Rows.kws_cons ?_
  refine wpAny_pure (PyProof.Rows.kws_nil ?_)
  obtain ⟨a, b, xs, ys, ex, hqx, hqy, q⟩ := q1
  subst ex
  cases r1 with
  | cons r rr =>
    cases rr with
    | cons r' rr =>
      cases rr
      cases r
      cases r'
      obtain ⟨its, rv, p1, _⟩ := I1.list hqx
      obtain ⟨its2, rv2, p2, _⟩ := I1.list hqy
      have la : a < s1.heap.objs.size := p1.lt
      have lb : b < s1.heap.objs.size := p2.lt
      refine ZS.call_zipS p1.isList p2.isList fun h' hz hTI hTO h1 h2 hsz hk => ZS.pyIter_zip hz ?_
      have I2 : Inv X pins σ H1 { s1 with heap := h' } := I1.kept (t' := s1.toks) hk
      refine ⟨s1.heap.objs.size + 4, [s1.heap.objs.size + 4, s1.heap.objs.size + 2, s1.heap.objs.size + 3, s1.heap.objs.size, s1.heap.objs.size + 1], _, _, H1, rfl, I2, turn_zipS (PySem.W.ktu_apart s1.heap.objs.size a b la lb), ⟨hz, hTI, ⟨_, _, hTO⟩, h1, h2⟩, fun c hcm => ?_, q⟩
      have e' : c = s1.heap.objs.size + 4 ∨ c = s1.heap.objs.size + 2 ∨ c = s1.heap.objs.size + 3 ∨ c = s1.heap.objs.size ∨ c = s1.heap.objs.size + 1 := by simpa using hcm
      have hle : s1.heap.objs.size ≤ c := by
        rcases e' with z | z | z | z | z
        · rw [z]; exact Nat.le_add_right _ _
        · rw [z]; exact Nat.le_add_right _ _
        · rw [z]; exact Nat.le_add_right _ _
        · rw [z]; exact Nat.le_refl _
        · rw [z]; exact Nat.le_add_right _ _
      exact I1.fpOk hle (I1.hok.fresh hle)
end L2

set_option Elab.async false
set_option linter.all false
set_option maxRecDepth 100000
set_option maxHeartbeats 4000000
/-! Readings on data: F the part of the heap that stays as it is, H the whole. -/
namespace Dv
open PySem L2 Evl
/-- from F, H to F', H': nothing that was there has changed; what F gained is new in H -/
structure Gr (F H F' H' : Hp) : Prop where
  fx : Ex F F'
  fh : Ex F' H'
  hx : Ex H H'
  fr : ∀ a, F a = none → F' a ≠ none → H a = none
theorem Gr.refl {F H : Hp} (e : Ex F H) : Gr F H F H := ⟨Ex.refl F, e, Ex.refl H, fun a h1 h2 => absurd h1 h2⟩
theorem ex_none {H H' : Hp} {a : Addr} (e : Ex H H') (h : H' a = none) : H a = none := fresh_back e h
theorem Gr.trans {F H F1 H1 F2 H2 : Hp} (a : Gr F H F1 H1) (b : Gr F1 H1 F2 H2) : Gr F H F2 H2 :=
  ⟨a.fx.trans b.fx, b.fh, a.hx.trans b.hx, fun x h1 h2 => by
    cases h : F1 x with
    | none => exact ex_none a.hx (b.fr x h h2)
    | some o => exact a.fr x h1 (by rw [h]; exact fun z => nomatch z)⟩
theorem Gr.new {F H : Hp} {p : Addr} {o : HO} (e : Ex F H) (h : H p = none) : Gr F H (upd F p o) (upd H p o) :=
  ⟨Ex.new (ex_none e h), fun a u ha => by
    by_cases q : a = p
    · subst q
      rw [upd_same] at ha ⊢
      exact ha
    · rw [upd_ne q] at ha ⊢
      exact e a u ha, Ex.new h, fun a h1 h2 => by
    by_cases q : a = p
    · rw [q]; exact h
    · rw [upd_ne q] at h2
      exact absurd h1 h2⟩
/-- an object of H alone -/
theorem Gr.only {F H : Hp} {p : Addr} {o : HO} (e : Ex F H) (h : H p = none) : Gr F H F (upd H p o) :=
  ⟨Ex.refl F, fun a u ha => by rw [upd_ne (ne_of_none (e a u ha) h)]; exact e a u ha, Ex.new h, fun a h1 h2 => absurd h1 h2⟩
/-- an object that is new since H and not of F' may change -/
theorem Gr.mut {F H F' H' : Hp} {p : Addr} {o : HO} (g : Gr F H F' H') (h : H p = none) (hf : F' p = none) : Gr F H F' (upd H' p o) :=
  ⟨g.fx, Ex.mut g.fh hf, Ex.mut g.hx h, g.fr⟩
/-- and may be taken into F' as it stands -/
theorem Gr.take {F H F' H' : Hp} {p : Addr} {o : HO} (g : Gr F H F' H') (h : H p = none) (hf : F' p = none) (hp : H' p = some o) : Gr F H (upd F' p o) H' :=
  ⟨fun a u ha => by rw [upd_ne (ne_of_none (g.fx a u ha) hf)]; exact g.fx a u ha, fun a u ha => by
    by_cases q : a = p
    · rw [q] at ha ⊢
      rw [upd_same] at ha
      cases ha
      exact hp
    · rw [upd_ne q] at ha
      exact g.fh a u ha, g.hx, fun a h1 h2 => by
    by_cases q : a = p
    · rw [q]; exact h
    · rw [upd_ne q] at h2
      exact g.fr a h1 h2⟩
def uni (F1 F' : Hp) : Hp := fun a => match F1 a with | some o => some o | none => F' a
theorem ex_uni1 (F1 F' : Hp) : Ex F1 (uni F1 F') := fun a o h => by unfold uni; rw [h]
theorem ex_uni2 {F1 F' H : Hp} (e1 : Ex F1 H) (e2 : Ex F' H) : Ex F' (uni F1 F') := fun a o h => by
  unfold uni
  cases q : F1 a with
  | none => exact h
  | some u =>
    have := e1 a u q
    rw [e2 a o h] at this
    exact congrArg some (Option.some.inj this).symm
theorem uni_ex {F1 F' H : Hp} (e1 : Ex F1 H) (e2 : Ex F' H) : Ex (uni F1 F') H := fun a o h => by
  unfold uni at h
  cases q : F1 a with
  | none => rw [q] at h; exact e2 a o h
  | some u => rw [q] at h; cases h; exact e1 a _ q
theorem Gr.weak {F F1 H F' H' : Hp} (e : Ex F F1) (e1 : Ex F1 H) (g : Gr F H F' H') : Gr F1 H (uni F1 F') H' :=
  ⟨ex_uni1 _ _, uni_ex (e1.trans g.hx) g.fh, g.hx, fun a h1 h2 => by
    unfold uni at h2
    rw [h1] at h2
    cases q : F a with
    | none => exact g.fr a q h2
    | some o => rw [e a o q] at h1; cases h1⟩
theorem Gr.keep {F H F' H' : Hp} {p : Addr} {o : HO} (g : Gr F H F' H') (h : H p = some o) (hf : F p = none) : H' p = some o ∧ F' p = none :=
  ⟨g.hx p o h, by
    cases q : F' p with
    | none => rfl
    | some u =>
      have := g.fr p hf (by rw [q]; exact fun z => nomatch z)
      rw [h] at this
      cases this⟩
section
variable {K : PySem.W.Frag} {σ : L2.St} {F F1 H H1 : Hp}
mutual
theorem dp_ex (e : Ex F F1) : ∀ {d : PyData} {v : V}, Dp K F v d → Dp K F1 v d
  | .none, _, h => by cases h; exact .non
  | .bool b, _, h => by cases h; exact .bl b
  | .int i, _, h => by cases h; exact .int i
  | .str x, _, h => by cases h; exact .str x
  | .list ds, _, h => by
    cases h with
    | lst hs ha => exact .lst (ex_l e hs) (dps_ex e ha)
  | .tuple ds, _, h => by
    cases h with
    | tup hs ha => exact .tup (ex_t e hs) (dps_ex e ha)
  | .dict _, _, h => by cases h
theorem dps_ex (e : Ex F F1) : ∀ {ds : List PyData} {vs : List V}, DpAll K F vs ds → DpAll K F1 vs ds
  | [], _, h => by cases h; exact .nil
  | d :: ds, _, h => by
    cases h with
    | cons h1 h2 => exact .cons (dp_ex e h1) (dps_ex e h2)
end
theorem dps_len : ∀ {ds : List PyData} {vs : List V}, DpAll K F vs ds → vs.length = ds.length
  | [], _, h => by cases h; rfl
  | d :: ds, _, h => by
    cases h with
    | cons h1 h2 => rw [List.length_cons, List.length_cons, dps_len h2]
theorem dps_at : ∀ {ds : List PyData} {vs : List V} {i : Nat} {d : PyData}, DpAll K F vs ds → ds[i]? = some d → ∃ v, vs[i]? = some v ∧ Dp K F v d
  | [], _, _, _, _, e => by cases e
  | d :: ds, _, i, _, h, e => by
    cases h with
    | cons h1 h2 =>
      cases i with
      | zero => cases e; exact ⟨_, rfl, h1⟩
      | succ i => exact dps_at (i := i) h2 e
theorem dps_app : ∀ {ds es : List PyData} {vs ws : List V}, DpAll K F vs ds → DpAll K F ws es → DpAll K F (vs ++ ws) (ds ++ es)
  | [], _, _, _, h, h' => by cases h; exact h'
  | d :: ds, _, _, _, h, h' => by
    cases h with
    | cons h1 h2 => exact .cons h1 (dps_app h2 h')

/-! ### what evaluates to what -/
variable (K) in
def EvD (te : TE) (σ : L2.St) (F : Hp) (d : PyData) : Prop := ∀ H, Ex F H → ∀ Q : VK, (∀ v F' H', Gr F H F' H' → Dp K F' v d → Q v H') → te σ H Q
variable (K) in
/-- a new list, not yet of F' -/
def EvL (te : TE) (σ : L2.St) (F : Hp) (ds : List PyData) : Prop := ∀ H, Ex F H → ∀ Q : VK, (∀ p vs F' H', Gr F H F' H' → H p = none → F' p = none → H' p = some (.lst vs) → DpAll K F' vs ds → Q (.ref p) H') → te σ H Q
def EtD (tt : TT) (σ : L2.St) (F : Hp) (b : Bool) : Prop := ∀ H, Ex F H → ∀ Q : Bool → Hp → Prop, (∀ F' H', Gr F H F' H' → Q b H') → tt σ H Q
variable (K) in
def EaD (ta : TA) (σ : L2.St) (F : Hp) (ds : List PyData) : Prop := ∀ H, Ex F H → ∀ Q : List V → Hp → Prop, (∀ vs F' H', Gr F H F' H' → DpAll K F' vs ds → Q vs H') → ta σ H Q
def EoD (to : TO) (σ : L2.St) (F : Hp) (o : Option Int) : Prop := ∀ H, Ex F H → ∀ Q : Option Int → Hp → Prop, (∀ F' H', Gr F H F' H' → Q o H') → to σ H Q
variable {te ta tb : TE} {d a b : PyData} {ds : List PyData}
theorem EvD.mono (e : Ex F F1) (h : EvD K te σ F d) : EvD K te σ F1 d := fun H eH Q q => h H (e.trans eH) Q fun v F' H' g hv => q v _ H' (g.weak e eH) (dp_ex (ex_uni2 (eH.trans g.hx) g.fh) hv)
theorem EtD.mono {tt : TT} {b : Bool} (e : Ex F F1) (h : EtD tt σ F b) : EtD tt σ F1 b := fun H eH Q q => h H (e.trans eH) Q fun F' H' g => q _ H' (g.weak e eH)
theorem EoD.mono {tt : TO} {b : Option Int} (e : Ex F F1) (h : EoD tt σ F b) : EoD tt σ F1 b := fun H eH Q q => h H (e.trans eH) Q fun F' H' g => q _ H' (g.weak e eH)
theorem EaD.mono {ta : TA} (e : Ex F F1) (h : EaD K ta σ F ds) : EaD K ta σ F1 ds := fun H eH Q q => h H (e.trans eH) Q fun v F' H' g hv => q v _ H' (g.weak e eH) (dps_ex (ex_uni2 (eH.trans g.hx) g.fh) hv)
theorem EvL.mono (e : Ex F F1) (h : EvL K te σ F ds) : EvL K te σ F1 ds := fun H eH Q q => h H (e.trans eH) Q fun p vs F' H' g h1 h2 h3 h4 => q p vs _ H' (g.weak e eH) h1 (by
  unfold uni
  rw [ex_none eH h1]
  exact h2) h3 (dps_ex (ex_uni2 (eH.trans g.hx) g.fh) h4)
theorem EvL.ev (h : EvL K te σ F ds) : EvD K te σ F (.list ds) := fun H eH Q q => h H eH Q fun p vs F' H' g h1 h2 h3 h4 =>
  q _ _ _ (g.take h1 h2 h3) (.lst (sq_of upd_same) (dps_ex (Ex.new h2) h4))
theorem ev_var {i : Nat} {v : V} (h : σ[i]? = some (some v)) (hv : Dp K F v d) : EvD K (tVar i) σ F d := fun H eH Q q => ⟨v, h, q v F H (Gr.refl eH) hv⟩
theorem ev_c {v : V} (hv : Dp K F v d) : EvD K (tC v) σ F d := fun H eH Q q => q v F H (Gr.refl eH) hv
theorem ev_op {r : R2} (ha : EvD K ta σ F a) (hb : EvD K tb σ F b)
    (hr : ∀ v u F1 H1, Ex F F1 → Ex F1 H1 → Dp K F1 v a → Dp K F1 u b → ∀ Q : VK, (∀ x F' H', Gr F1 H1 F' H' → Dp K F' x d → Q x H') → r v u H1 Q) : EvD K (tOp r ta tb) σ F d := fun H eH Q q =>
  ha H eH _ fun v F1 H1 g1 hv => (hb.mono g1.fx) H1 g1.fh _ fun u F2 H2 g2 hu => hr v u F2 H2 (g1.fx.trans g2.fx) g2.fh (dp_ex g2.fx hv) hu Q fun x F' H' g3 hx => q x F' H' (g1.trans (g2.trans g3)) hx
theorem ev_un {r : V → Hp → VK → Prop} (ha : EvD K ta σ F a)
    (hr : ∀ v F1 H1, Ex F F1 → Ex F1 H1 → Dp K F1 v a → ∀ Q : VK, (∀ x F' H', Gr F1 H1 F' H' → Dp K F' x d → Q x H') → r v H1 Q) : EvD K (tUn r ta) σ F d := fun H eH Q q =>
  ha H eH _ fun v F1 H1 g1 hv => hr v F1 H1 g1.fx g1.fh hv Q fun x F' H' g3 hx => q x F' H' (g1.trans g3) hx
theorem ea_nil : EaD K tNil σ F [] := fun H eH Q q => q [] F H (Gr.refl eH) .nil
theorem ea_cons {tr : TA} (ha : EvD K ta σ F a) (hr : EaD K tr σ F ds) : EaD K (tCons ta tr) σ F (a :: ds) := fun H eH Q q =>
  ha H eH _ fun v F1 H1 g1 hv => (hr.mono g1.fx) H1 g1.fh _ fun vs F2 H2 g2 hvs => q _ F2 H2 (g1.trans g2) (.cons (dp_ex g2.fx hv) hvs)
theorem ev_tup {ta : TA} (h : EaD K ta σ F ds) (hl : ds.length ≤ 100000) : EvD K (tTup ta) σ F (.tuple ds) := fun H eH Q q =>
  h H eH _ fun vs F1 H1 g1 hv => ⟨by rw [dps_len hv]; exact sz_of hl, fun p hp => q _ _ _ (g1.trans (Gr.new g1.fh hp)) (.tup (st_of upd_same) (dps_ex (Ex.new (ex_none g1.fh hp)) hv))⟩
theorem el_lst {ta : TA} (h : EaD K ta σ F ds) (hl : ds.length ≤ 100000) : EvL K (tLst ta) σ F ds := fun H eH Q q =>
  h H eH _ fun vs F1 H1 g1 hv => ⟨by rw [dps_len hv]; exact sz_of hl, fun p hp => q p vs F1 _ (g1.trans (Gr.only g1.fh hp)) (ex_none g1.hx hp) (ex_none g1.fh hp) upd_same hv⟩
theorem eo_none : EoD tNoPart σ F none := fun H eH Q q => q F H (Gr.refl eH)
theorem eo_some {i : Int} (h : EvD K te σ F (.int i)) : EoD (tPart te) σ F (some i) := fun H eH Q q => h H eH _ fun v F1 H1 g1 hv => by
  cases hv
  exact ⟨i, rfl, q F1 H1 g1⟩
end
end Dv

set_option Elab.async false
set_option linter.all false
set_option maxRecDepth 100000
set_option maxHeartbeats 4000000
namespace Dv
open PySem L2 Evl
section
variable {K : PySem.W.Frag} {σ : L2.St} {F F1 H H1 : Hp} {te ta tb : TE} {d a b : PyData} {ds es : List PyData} {i j : Int} {tt tu : TT} {p q : Bool}
/-! ### numbers -/
theorem ev_int (i : Int) : EvD K (tC (.int i)) σ F (.int i) := ev_c (.int i)
theorem ev_str (x : Str) : EvD K (tC (.str x)) σ F (.str x) := ev_c (.str x)
theorem ev_bl (b : Bool) : EvD K (tC (.bl b)) σ F (.bool b) := ev_c (.bl b)
theorem ev_non : EvD K (tC .non) σ F .none := ev_c .non
theorem ev_I0 {g : Int → Int → V} {k : PyData} (hk : ∀ F, Dp K F (g i j) k) (ha : EvD K ta σ F (.int i)) (hb : EvD K tb σ F (.int j)) : EvD K (tOp (rI0 g) ta tb) σ F k :=
  ev_op ha hb fun v u F1 H1 _ e hv hu Q q => by
    cases hv
    cases hu
    exact ⟨i, j, rfl, rfl, q _ F1 H1 (Gr.refl e) (hk F1)⟩
theorem ev_I {C : Int → Int → Prop} {g : Int → Int → V} {k : PyData} (hc : C i j) (hk : ∀ F, Dp K F (g i j) k) (ha : EvD K ta σ F (.int i)) (hb : EvD K tb σ F (.int j)) : EvD K (tOp (rI C g) ta tb) σ F k :=
  ev_op ha hb fun v u F1 H1 _ e hv hu Q q => by
    cases hv
    cases hu
    exact ⟨i, j, rfl, rfl, hc, q _ F1 H1 (Gr.refl e) (hk F1)⟩
theorem ev_U {g : Int → V} {k : PyData} (hk : ∀ F, Dp K F (g i) k) (ha : EvD K ta σ F (.int i)) : EvD K (tUn (rU g) ta) σ F k :=
  ev_un ha fun v F1 H1 _ e hv Q q => by
    cases hv
    exact ⟨i, rfl, q _ F1 H1 (Gr.refl e) (hk F1)⟩
theorem ev_eqI (ha : EvD K ta σ F (.int i)) (hb : EvD K tb σ F (.int j)) : EvD K (tOp rEq ta tb) σ F (.bool (i == j)) :=
  ev_op ha hb fun v u F1 H1 _ e hv hu Q q => by
    cases hv
    cases hu
    refine ⟨rfl, q _ F1 H1 (Gr.refl e) ?_⟩
    rw [dec_int]
    exact .bl _
theorem ev_neI (ha : EvD K ta σ F (.int i)) (hb : EvD K tb σ F (.int j)) : EvD K (tOp rNe ta tb) σ F (.bool (i != j)) :=
  ev_op ha hb fun v u F1 H1 _ e hv hu Q q => by
    cases hv
    cases hu
    refine ⟨rfl, q _ F1 H1 (Gr.refl e) ?_⟩
    rw [dec_int]
    exact .bl _
/-! ### tests -/
theorem et_test (h : EvD K te σ F (.bool p)) : EtD (tTest te) σ F p := fun H e Q q => h H e _ fun v F' H' g hv => by
  cases hv
  exact ⟨p, rfl, q F' H' g⟩
theorem et_B (h : EvD K te σ F (.bool p)) : EtD (tB te) σ F p := fun H e Q q => h H e _ fun v F' H' g hv => by
  cases hv
  exact ⟨p, rfl, q F' H' g⟩
theorem et_and (h1 : EtD tt σ F p) (h2 : p = true → EtD tu σ F q) : EtD (tAnd tt tu) σ F (p && q) := fun H e Q k => h1 H e _ fun F1 H1 g1 => by
  cases p with
  | true =>
    show tu σ H1 Q
    exact ((h2 rfl).mono g1.fx) H1 g1.fh Q fun F2 H2 g2 => k F2 H2 (g1.trans g2)
  | false =>
    show Q false H1
    exact k F1 H1 g1
theorem et_or (h1 : EtD tt σ F p) (h2 : p = false → EtD tu σ F q) : EtD (tOr tt tu) σ F (p || q) := fun H e Q k => h1 H e _ fun F1 H1 g1 => by
  cases p with
  | true =>
    show Q true H1
    exact k F1 H1 g1
  | false =>
    show tu σ H1 Q
    exact ((h2 rfl).mono g1.fx) H1 g1.fh Q fun F2 H2 g2 => k F2 H2 (g1.trans g2)
theorem et_not (h : EtD tt σ F p) : EtD (tNot tt) σ F (!p) := fun H e Q k => h H e _ fun F1 H1 g1 => k F1 H1 g1
theorem et_is (h : EtD tt σ F p) (e : p = q) : EtD tt σ F q := e ▸ h
theorem ev_is (h : EvD K te σ F a) (e : a = b) : EvD K te σ F b := e ▸ h
theorem el_is (h : EvL K te σ F ds) (e : ds = es) : EvL K te σ F es := e ▸ h
theorem ev_andV (h1 : EvD K ta σ F (.bool p)) (h2 : p = true → EvD K tb σ F (.bool q)) : EvD K (tAndV ta tb) σ F (.bool (p && q)) := fun H e Q k => h1 H e _ fun v F1 H1 g1 hv => by
  cases hv
  refine ⟨p, rfl, ?_⟩
  cases p with
  | true =>
    show tb σ H1 Q
    exact ((h2 rfl).mono g1.fx) H1 g1.fh Q fun v F2 H2 g2 hv => k v F2 H2 (g1.trans g2) hv
  | false =>
    show Q (.bl false) H1
    exact k _ F1 H1 g1 (.bl _)
theorem ev_orV (h1 : EvD K ta σ F (.bool p)) (h2 : p = false → EvD K tb σ F (.bool q)) : EvD K (tOrV ta tb) σ F (.bool (p || q)) := fun H e Q k => h1 H e _ fun v F1 H1 g1 hv => by
  cases hv
  refine ⟨p, rfl, ?_⟩
  cases p with
  | true =>
    show Q (.bl true) H1
    exact k _ F1 H1 g1 (.bl _)
  | false =>
    show tb σ H1 Q
    exact ((h2 rfl).mono g1.fx) H1 g1.fh Q fun v F2 H2 g2 hv => k v F2 H2 (g1.trans g2) hv
theorem ev_notV (h1 : EvD K ta σ F (.bool p)) : EvD K (tNotV ta) σ F (.bool (!p)) := fun H e Q k => h1 H e _ fun v F1 H1 g1 hv => by
  cases hv
  exact ⟨p, rfl, k _ F1 H1 g1 (.bl _)⟩
theorem ev_if (h : EtD tt σ F p) (h1 : p = true → EvD K ta σ F d) (h2 : p = false → EvD K tb σ F d) : EvD K (tIf tt ta tb) σ F d := fun H e Q k => h H e _ fun F1 H1 g1 => by
  cases p with
  | true =>
    show ta σ H1 Q
    exact ((h1 rfl).mono g1.fx) H1 g1.fh Q fun v F2 H2 g2 hv => k v F2 H2 (g1.trans g2) hv
  | false =>
    show tb σ H1 Q
    exact ((h2 rfl).mono g1.fx) H1 g1.fh Q fun v F2 H2 g2 hv => k v F2 H2 (g1.trans g2) hv
/-! ### sequences -/
theorem dps_atI {vs : List V} (h : DpAll K F vs ds) (e : atI ds i = some d) : ∃ v, atI vs i = some v ∧ Dp K F v d := by
  unfold atI at e ⊢
  rw [dps_len h]
  cases q : ixN ds.length i with
  | none => rw [q] at e; cases e
  | some j =>
    rw [q] at e
    exact dps_at h e
theorem ev_ixL (ha : EvD K ta σ F (.list ds)) (hb : EvD K tb σ F (.int i)) (e : atI ds i = some d) : EvD K (tOp (rIxL K) ta tb) σ F d :=
  ev_op ha hb fun v u F1 H1 _ eH hv hu Q q => by
    cases hv with
    | lst hs hd =>
      cases hu
      obtain ⟨v, hv, hd⟩ := dps_atI hd e
      exact ⟨_, _, i, v, rfl, rfl, ex_l eH hs, hv, q v F1 H1 (Gr.refl eH) hd⟩
theorem ev_ixT (ha : EvD K ta σ F (.tuple ds)) (hb : EvD K tb σ F (.int i)) (e : atI ds i = some d) : EvD K (tOp (rIxT K) ta tb) σ F d :=
  ev_op ha hb fun v u F1 H1 _ eH hv hu Q q => by
    cases hv with
    | tup hs hd =>
      cases hu
      obtain ⟨v, hv, hd⟩ := dps_atI hd e
      exact ⟨_, _, i, v, rfl, rfl, ex_t eH hs, hv, q v F1 H1 (Gr.refl eH) hd⟩
theorem ev_ix (ha : EvD K ta σ F a) (hb : EvD K tb σ F (.int i)) (h : ∃ ds, (a = .list ds ∨ a = .tuple ds) ∧ atI ds i = some d) : EvD K (tOp (rIx K) ta tb) σ F d :=
  ev_op ha hb fun v u F1 H1 _ eH hv hu Q q => by
    obtain ⟨ds, rfl | rfl, e⟩ := h
    · cases hv with
      | lst hs hd =>
        cases hu
        obtain ⟨v, hv, hd⟩ := dps_atI hd e
        exact .inl ⟨_, _, i, v, rfl, rfl, ex_l eH hs, hv, q v F1 H1 (Gr.refl eH) hd⟩
    · cases hv with
      | tup hs hd =>
        cases hu
        obtain ⟨v, hv, hd⟩ := dps_atI hd e
        exact .inr (.inl ⟨_, _, i, v, rfl, rfl, ex_t eH hs, hv, q v F1 H1 (Gr.refl eH) hd⟩)
theorem ev_ixS {x : Str} {c : Nat} (ha : EvD K ta σ F (.str x)) (hb : EvD K tb σ F (.int i)) (hz : x.length ≤ 100000) (e : atI x.cps.toList i = some c) : EvD K (tOp rIxS ta tb) σ F (.str ⟨#[c]⟩) :=
  ev_op ha hb fun v u F1 H1 _ eH hv hu Q q => by
    cases hv
    cases hu
    exact ⟨x, i, c, rfl, rfl, sz_of hz, e, q _ F1 H1 (Gr.refl eH) (.str _)⟩
/-- == of data -/
theorem ev_eqD (ha : EvD K ta σ F a) (hb : EvD K tb σ F b) (sa : SeqAt.shaped a = true) (sb : SeqAt.shaped b = true) : EvD K (tOp (rEqD K) ta tb) σ F (.bool (PyData.eqv a b)) :=
  ev_op ha hb fun v u F1 H1 _ eH hv hu Q q => ⟨a, b, dp_ex eH hv, dp_ex eH hu, sa, sb, q _ F1 H1 (Gr.refl eH) (.bl _)⟩
theorem ev_neD (ha : EvD K ta σ F a) (hb : EvD K tb σ F b) (sa : SeqAt.shaped a = true) (sb : SeqAt.shaped b = true) : EvD K (tOp (rNeD K) ta tb) σ F (.bool (!PyData.eqv a b)) :=
  ev_op ha hb fun v u F1 H1 _ eH hv hu Q q => ⟨a, b, dp_ex eH hv, dp_ex eH hu, sa, sb, q _ F1 H1 (Gr.refl eH) (.bl _)⟩
theorem ev_isN (ha : EvD K ta σ F a) : EvD K (tIsN ta) σ F (.bool (match a with | .none => true | _ => false)) := fun H e Q k => ha H e _ fun v F1 H1 g1 hv => by
  refine k _ F1 H1 g1 ?_
  cases hv <;> exact .bl _
theorem ev_notN (ha : EvD K ta σ F a) : EvD K (tNotN ta) σ F (.bool (match a with | .none => false | _ => true)) := fun H e Q k => ha H e _ fun v F1 H1 g1 hv => by
  refine k _ F1 H1 g1 ?_
  cases hv <;> exact .bl _
/-! ### built-in calls -/
theorem ev_cb {r : List V → Hp → VK → Prop} {tas : TA} (h : EaD K tas σ F ds)
    (hr : ∀ vs F1 H1, Ex F F1 → Ex F1 H1 → DpAll K F1 vs ds → ∀ Q : VK, (∀ x F' H', Gr F1 H1 F' H' → Dp K F' x d → Q x H') → r vs H1 Q) : EvD K (tCB r tas) σ F d := fun H eH Q q =>
  h H eH _ fun vs F1 H1 g1 hv => hr vs F1 H1 g1.fx g1.fh hv Q fun x F' H' g3 hx => q x F' H' (g1.trans g3) hx
theorem ev_call {sp : Sp} {dvs : List V} {E : XK} {tas : TA} (h : EaD K tas σ F ds)
    (hr : ∀ vs F1 H1, Ex F F1 → Ex F1 H1 → DpAll K F1 vs ds → ∀ Q : VK, (∀ x F' H', Gr F1 H1 F' H' → Dp K F' x d → Q x H') → sp (vs ++ dvs) H1 Q E) : EvD K (tCall sp dvs E tas) σ F d := fun H eH Q q =>
  h H eH _ fun vs F1 H1 g1 hv => hr vs F1 H1 g1.fx g1.fh hv Q fun x F' H' g3 hx => q x F' H' (g1.trans g3) hx
/-- a def that answers data to data: told by f where the arguments are as pre says -/
def spD (K : PySem.W.Frag) (f : List PyData → PyData → Prop) : Sp := fun vs H Q _ => ∃ F ds d, Ex F H ∧ DpAll K F vs ds ∧ f ds d ∧ ∀ v F' H', Gr F H F' H' → Dp K F' v d → Q v H'
theorem ev_callD {f : List PyData → PyData → Prop} {E : XK} {tas : TA} (h : EaD K tas σ F ds) (hf : f ds d) : EvD K (tCall (spD K f) [] E tas) σ F d :=
  ev_call h fun vs F1 H1 _ e hv Q q => ⟨F1, ds, d, e, by rw [List.append_nil]; exact hv, hf, q⟩
/-- one that makes a new list -/
def spN (K : PySem.W.Frag) (f : List PyData → List PyData → Prop) : Sp := fun vs H Q _ => ∃ F ds es, Ex F H ∧ DpAll K F vs ds ∧ f ds es ∧ ∀ p ws F' H', Gr F H F' H' → H p = none → F' p = none → H' p = some (.lst ws) → DpAll K F' ws es → Q (.ref p) H'
theorem el_callN {f : List PyData → List PyData → Prop} {E : XK} {tas : TA} (h : EaD K tas σ F ds) (hf : f ds es) : EvL K (tCall (spN K f) [] E tas) σ F es := fun H eH Q q =>
  h H eH _ fun vs F1 H1 g1 hv => ⟨F1, ds, es, g1.fh, by rw [List.append_nil]; exact hv, hf, fun p ws F' H' g2 h1 h2 h3 h4 => q p ws F' H' (g1.trans g2) (ex_none g1.hx h1) h2 h3 h4⟩
/-! ### walks -/
variable (K) in
def WD (J : It) (F : Hp) (ds : List PyData) : Prop := ∃ G Y, Walk J ds.length G Y ∧ (∀ H, Ex F H → G H) ∧ ∀ F1 i H x H', i < ds.length → Ex F F1 → Ex F1 H → Y i H x H' → ∃ F2 d, ds[i]? = some d ∧ Gr F1 H F2 H' ∧ Dp K F2 x d
variable (K) in
def ItD (wi : TI) (σ : L2.St) (F : Hp) (ds : List PyData) : Prop := ∀ H, Ex F H → ∀ R : It → Hp → Prop, (∀ J F' H', Gr F H F' H' → WD K J F' ds → R J H') → wi σ H R
/-- a target: what it sets of a datum -/
theorem lc_rule {α : Type} {wi : TI} {g : TG} {vs : List Nat} (xs : List α) (enc h : α → PyData) (f : α → Bool) (hi : ItD K wi σ F (xs.map enc)) (hz : xs.length ≤ 40000)
    (hb : ∀ x, x ∈ xs → ∀ v F1, Ex F F1 → Dp K F1 v (enc x) → ∃ σ2, (∀ H, Ex F1 H → ∀ Q : L2.St → Hp → Prop, Q σ2 H → g v (wipe σ vs) H Q) ∧ wipe σ2 vs = wipe σ vs ∧ EtD tt σ2 F1 (f x) ∧ (f x = true → EvD K te σ2 F1 (h x))) :
    EvL K (tLc wi g tt te vs) σ F ((xs.filter f).map h) := fun H eH Q q => hi H eH _ fun J F1 H1 g1 wd => by
  obtain ⟨G, Y, W, hG, hY⟩ := wd
  rw [List.length_map] at W
  intro D hD
  have fD : F1 D = none := ex_none g1.fh hD
  refine lc_it W (Pv := fun i H' => ∃ F' ws, Gr F1 H1 F' H' ∧ F' D = none ∧ H' D = some (.lst ws) ∧ DpAll K F' ws (((xs.take i).filter f).map h)) ⟨F1, [], Gr.only g1.fh hD, fD, upd_same, by rw [List.take_zero]; exact .nil⟩
    (fun i H' _ p => ?_) (fun i v H2 H3 hin p y => ?_) (fun H' p => ?_)
  · obtain ⟨F', ws, g, _⟩ := p
    exact hG _ (g.fx.trans g.fh)
  · obtain ⟨F2, ws, g2, f2, h2, hw⟩ := p
    obtain ⟨F3, d, hd, g3, hv⟩ := hY F2 i H2 v H3 (by rw [List.length_map]; exact hin) g2.fx g2.fh y
    rw [List.getElem?_map, List.getElem?_eq_getElem hin] at hd
    cases hd
    have hx : xs[i] ∈ xs := List.getElem_mem hin
    obtain ⟨σ2, hg, hwp, ht, he⟩ := hb xs[i] hx v F3 (g1.fx.trans (g2.fx.trans g3.fx)) hv
    refine hg H3 g3.fh _ ⟨hwp, ht H3 g3.fh _ fun F4 H4 g4 => ?_⟩
    have k3 := (g3.trans g4).keep h2 f2
    have tk : (xs.take (i + 1)) = xs.take i ++ [xs[i]] := List.take_succ_eq_append_getElem hin
    have wl : ws.length ≤ 40000 := by
      rw [dps_len hw, List.length_map]
      have := List.length_filter_le f (xs.take i)
      rw [List.length_take] at this
      omega
    cases hf : f xs[i] with
    | true =>
      show te σ2 H4 _
      refine ((he hf).mono g4.fx) H4 g4.fh _ fun v' F5 H5 g5 hv' => ?_
      have k5 := g5.keep k3.1 k3.2
      refine ⟨ws, k5.1, sz_lt (by omega), F5, ws ++ [v'], (g2.trans ((g3.trans g4).trans g5)).mut hD k5.2, k5.2, upd_same, ?_⟩
      rw [tk, List.filter_append, List.map_append, List.filter_cons, if_pos hf]
      exact dps_app (dps_ex ((g3.fx.trans g4.fx).trans g5.fx) hw) (.cons hv' .nil)
    | false =>
      show ∃ F' ws, _
      refine ⟨F4, ws, g2.trans (g3.trans g4), k3.2, k3.1, ?_⟩
      rw [tk, List.filter_append, List.map_append, List.filter_cons, if_neg (by rw [hf]; decide)]
      show DpAll K F4 ws (_ ++ [])
      rw [List.append_nil]
      exact dps_ex (g3.fx.trans g4.fx) hw
  · obtain ⟨F', ws, g, fd, hd, hw⟩ := p
    rw [List.take_length] at hw
    exact q D ws F' H' (g1.trans g) (ex_none g1.hx hD) fd hd hw
end
end Dv

set_option Elab.async false
set_option linter.all false
set_option maxRecDepth 100000
set_option maxHeartbeats 4000000
namespace Dv
open PySem L2 Evl
section
variable {K : PySem.W.Frag} {σ : L2.St} {F F1 H H1 : Hp} {te ta tb : TE} {d a b : PyData} {ds es : List PyData} {i j : Int} {tt tu : TT} {p q : Bool}
/-! ### what is walked -/
theorem dps_get {vs : List V} {i : Nat} {v : V} (h : DpAll K F vs ds) (e : vs[i]? = some v) : ∃ d, ds[i]? = some d ∧ Dp K F v d := by
  have hi : i < ds.length := by
    rw [← dps_len h]
    exact (List.getElem?_eq_some_iff.mp e).1
  obtain ⟨v', h1, h2⟩ := dps_at h (List.getElem?_eq_getElem hi)
  rw [e] at h1
  cases h1
  exact ⟨_, List.getElem?_eq_getElem hi, h2⟩
theorem it_list (h : EvD K te σ F (.list ds)) : ItD K (iList K te) σ F ds := fun H eH R q => h H eH _ fun v F1 H1 g1 hv => by
  cases hv with
  | lst hs hd =>
    rename_i p xs
    refine ⟨p, rfl, ⟨xs, ex_l g1.fh hs⟩, q _ F1 H1 g1 ⟨_, _, by rw [← dps_len hd]; exact walk_list (xs := xs), fun H e => ex_l e hs, fun F2 i H2 x H3 _ e1 e2 y => ?_⟩⟩
    obtain ⟨rfl, hx⟩ := y
    obtain ⟨d, h1, h2⟩ := dps_get hd hx
    exact ⟨F2, d, h1, Gr.refl e2, dp_ex e1 h2⟩
theorem it_tup (h : EvD K te σ F (.tuple ds)) : ItD K (iTup K te) σ F ds := fun H eH R q => h H eH _ fun v F1 H1 g1 hv => by
  cases hv with
  | tup hs hd =>
    rename_i p xs
    refine ⟨p, rfl, ⟨xs, ex_t g1.fh hs⟩, q _ F1 H1 g1 ⟨_, _, by rw [← dps_len hd]; exact walk_tup (xs := xs), fun H e => ex_t e hs, fun F2 i H2 x H3 _ e1 e2 y => ?_⟩⟩
    obtain ⟨rfl, hx⟩ := y
    obtain ⟨d, h1, h2⟩ := dps_get hd hx
    exact ⟨F2, d, h1, Gr.refl e2, dp_ex e1 h2⟩
theorem it_rng1 {tas : TA} {n : Int} (h : EaD K tas σ F [.int n]) (h0 : -100000 ≤ n) (h1 : n ≤ 100000) : ItD K (iRng1 tas) σ F ((List.range n.toNat).map fun i : Nat => PyData.int (i : Int)) := fun H eH R q => h H eH _ fun vs F1 H1 g1 hv => by
  cases hv with
  | cons hv hr =>
    cases hr
    cases hv
    refine ⟨n, rfl, by omega, by omega, q _ F1 H1 g1 ⟨_, _, by rw [List.length_map, List.length_range]; exact walk_range, fun _ _ => trivial, fun F2 i H2 x H3 hi _ e2 y => ?_⟩⟩
    obtain ⟨rfl, rfl⟩ := y
    rw [List.length_map, List.length_range] at hi
    refine ⟨F2, .int (i : Int), by rw [List.getElem?_map, List.getElem?_range hi] <;> rfl, Gr.refl e2, ?_⟩
    show Dp K F2 (.int (0 + (i : Int))) _
    rw [Int.zero_add]
    exact .int _
theorem it_rng2 {tas : TA} {m n : Int} (h : EaD K tas σ F [.int m, .int n]) (h0 : -100000 ≤ m ∧ m ≤ 100000) (h1 : -100000 ≤ n ∧ n ≤ 100000) : ItD K (iRng2 tas) σ F ((List.range (n - m).toNat).map fun i : Nat => PyData.int (m + (i : Int))) := fun H eH R q => h H eH _ fun vs F1 H1 g1 hv => by
  cases hv with
  | cons hv hr =>
    cases hr with
    | cons hu hr =>
      cases hr
      cases hv
      cases hu
      refine ⟨m, n, rfl, by omega, q _ F1 H1 g1 ⟨_, _, by rw [List.length_map, List.length_range]; exact walk_range, fun _ _ => trivial, fun F2 i H2 x H3 hi _ e2 y => ?_⟩⟩
      obtain ⟨rfl, rfl⟩ := y
      rw [List.length_map, List.length_range] at hi
      exact ⟨F2, .int (m + (i : Int)), by rw [List.getElem?_map, List.getElem?_range hi] <;> rfl, Gr.refl e2, .int _⟩
theorem walk_zipS {a b : Addr} {xs ys : List V} (hl : xs.length = ys.length) : Walk (Itzs K a b) xs.length (fun H => SqL K H a xs ∧ SqL K H b ys) (YPair (fun i => xs[i]?) (fun i => ys[i]?)) :=
  ⟨fun i H hi q => ⟨xs, ys, xs[i], ys[i]'(by omega), q.1, q.2, List.getElem?_eq_getElem hi, List.getElem?_eq_getElem (by omega)⟩, fun H q => ⟨xs, ys, q.1, q.2, Nat.le_refl _, by omega⟩, fun i H x H' hi q y => by
    obtain ⟨T, x, y, rfl, hT, rfl, f1, f2⟩ := y
    exact ⟨T, x, y, rfl, hT, rfl, f1 xs q.1, f2 ys q.2⟩⟩
theorem pair_wd {J : It} {n : Nat} {G : Hp → Prop} {xs ys : List V} {ds es : List PyData} (W : Walk J n G (YPair (fun i => xs[i]?) (fun i => ys[i]?))) (hG : ∀ H, Ex F H → G H) (hx : DpAll K F xs ds) (hy : DpAll K F ys es) (hn : n = min ds.length es.length) :
    WD K J F ((ds.zip es).map fun z => .tuple [z.1, z.2]) := by
  refine ⟨G, _, by rw [List.length_map, List.length_zip, ← hn]; exact W, hG, fun F2 i H2 x H3 hi e1 e2 y => ?_⟩
  obtain ⟨T, x, y, rfl, hT, rfl, f1, f2⟩ := y
  obtain ⟨d1, a1, b1⟩ := dps_get hx f1
  obtain ⟨d2, a2, b2⟩ := dps_get hy f2
  refine ⟨_, .tuple [d1, d2], ?_, Gr.new e2 hT, .tup (st_of upd_same) (.cons (dp_ex (e1.trans (Ex.new (ex_none e2 hT))) b1) (.cons (dp_ex (e1.trans (Ex.new (ex_none e2 hT))) b2) .nil))⟩
  have hz : (ds.zip es)[i]? = some (d1, d2) := by
    rw [List.getElem?_zip_eq_some]
    exact ⟨a1, a2⟩
  rw [List.getElem?_map, hz] <;> rfl
theorem it_zipS {tas : TA} (h : EaD K tas σ F [.list ds, .list es]) (hl : ds.length = es.length) : ItD K (iZipS K tas) σ F ((ds.zip es).map fun z => .tuple [z.1, z.2]) := fun H eH R q => h H eH _ fun vs F1 H1 g1 hv => by
  cases hv with
  | cons hv hr =>
    cases hr with
    | cons hu hr =>
      cases hr
      cases hv with
      | lst hs hd =>
        cases hu with
        | lst hs2 hd2 =>
          have l1 := dps_len hd
          have l2 := dps_len hd2
          refine ⟨_, _, _, _, rfl, ex_l g1.fh hs, ex_l g1.fh hs2, q _ F1 H1 g1 (pair_wd (walk_zipS (by omega)) (fun H e => ⟨ex_l e hs, ex_l e hs2⟩) hd hd2 (by omega))⟩
theorem it_zip {tas : TA} (h : EaD K tas σ F [.list ds, .list es]) : ItD K (iZip K tas) σ F ((ds.zip es).map fun z => .tuple [z.1, z.2]) := fun H eH R q => h H eH _ fun vs F1 H1 g1 hv => by
  cases hv with
  | cons hv hr =>
    cases hr with
    | cons hu hr =>
      cases hr
      cases hv with
      | lst hs hd =>
        cases hu with
        | lst hs2 hd2 =>
          have l1 := dps_len hd
          have l2 := dps_len hd2
          refine ⟨_, _, _, _, rfl, ex_l g1.fh hs, ex_l g1.fh hs2, q _ F1 H1 g1 (pair_wd (walk_zip (n := min ds.length es.length) (by omega)) (fun H e => ⟨ex_l e hs, ex_l e hs2⟩) hd hd2 rfl)⟩
theorem it_is {wi : TI} (h : ItD K wi σ F ds) (e : ds = es) : ItD K wi σ F es := e ▸ h
/-! ### targets -/
/-- x1, x2 = a pair -/
theorem tup2 {v : V} (h : Dp K F v (.tuple [a, b])) : ∃ x y, Dp K F x a ∧ Dp K F y b ∧ ∀ (i j : Nat) (σ : L2.St) (H : Hp), Ex F H → ∀ Q : L2.St → Hp → Prop, Q ((σ.set i (some x)).set j (some y)) H → gTup K 2 (gCons (gName i) (gCons (gName j) gNil)) v σ H Q := by
  cases h with
  | tup hs hd =>
    cases hd with
    | cons h1 hr =>
      cases hr with
      | cons h2 hr =>
        cases hr
        exact ⟨_, _, h1, h2, fun i j σ H e Q q => ⟨_, _, rfl, ex_t e hs, rfl, _, _, rfl, _, _, rfl, rfl, q⟩⟩
theorem tup3 {v : V} {c : PyData} (h : Dp K F v (.tuple [a, b, c])) : ∃ x y z, Dp K F x a ∧ Dp K F y b ∧ Dp K F z c ∧
    ∀ (i j k : Nat) (σ : L2.St) (H : Hp), Ex F H → ∀ Q : L2.St → Hp → Prop, Q (((σ.set i (some x)).set j (some y)).set k (some z)) H → gTup K 3 (gCons (gName i) (gCons (gName j) (gCons (gName k) gNil))) v σ H Q := by
  cases h with
  | tup hs hd =>
    cases hd with
    | cons h1 hr =>
      cases hr with
      | cons h2 hr =>
        cases hr with
        | cons h3 hr =>
          cases hr
          exact ⟨_, _, _, h1, h2, h3, fun i j k σ H e Q q => ⟨_, _, rfl, ex_t e hs, rfl, _, _, rfl, _, _, rfl, _, _, rfl, rfl, q⟩⟩
/-! ### statements -/
variable {D : Ends} {ts tw : TS} {g : TG}
theorem s_asg {i : Nat} (h : EvD K te σ F d) (e : Ex F H) (k : ∀ v F' H', Gr F H F' H' → Dp K F' v d → D.nx (σ.set i (some v)) H') : tAsg te (gName i) D σ H := h H e _ fun v F' H' g hv => k v F' H' g hv
theorem s_asgL {i : Nat} (h : EvL K te σ F ds) (e : Ex F H) (k : ∀ p vs F' H', Gr F H F' H' → H p = none → F' p = none → H' p = some (.lst vs) → DpAll K F' vs ds → D.nx (σ.set i (some (.ref p))) H') : tAsg te (gName i) D σ H :=
  h H e _ fun p vs F' H' g h1 h2 h3 h4 => k p vs F' H' g h1 h2 h3 h4
theorem s_ret (h : EvD K te σ F d) (e : Ex F H) (k : ∀ v F' H', Gr F H F' H' → Dp K F' v d → D.rt v H') : tRet te D σ H := h H e _ k
theorem s_retL (h : EvL K te σ F ds) (e : Ex F H) (k : ∀ p vs F' H', Gr F H F' H' → H p = none → F' p = none → H' p = some (.lst vs) → DpAll K F' vs ds → D.rt (.ref p) H') : tRet te D σ H :=
  h H e _ fun p vs F' H' g h1 h2 h3 h4 => k p vs F' H' g h1 h2 h3 h4
theorem s_if (h : EtD tt σ F p) (e : Ex F H) (h1 : p = true → ∀ F' H', Gr F H F' H' → ts D σ H') (h2 : p = false → ∀ F' H', Gr F H F' H' → tw D σ H') : tIfS tt ts tw D σ H := h H e _ fun F' H' g => by
  cases p with
  | true =>
    show ts D σ H'
    exact h1 rfl F' H' g
  | false =>
    show tw D σ H'
    exact h2 rfl F' H' g
theorem s_par {i j : Nat} {tas : TA} (h : EaD K tas σ F [a, b]) (e : Ex F H) (k : ∀ v u F' H', Gr F H F' H' → Dp K F' v a → Dp K F' u b → D.nx ((σ.set i (some v)).set j (some u)) H') : tPar i j tas D σ H := h H e _ fun vs F' H' g hv => by
  cases hv with
  | cons h1 hr =>
    cases hr with
    | cons h2 hr =>
      cases hr
      exact ⟨_, _, rfl, k _ _ F' H' g h1 h2⟩
/-- xs.append(e), xs a list of H alone -/
theorem s_app {l : Addr} {xs : List V} {i : Nat} (hl : H l = some (.lst xs)) (fl : F l = none) (hi : σ[i]? = some (some (.ref l))) (h : EvD K te σ F d) (e : Ex F H) (hz : xs.length < 100000)
    (k : ∀ v F' H', Gr F H F' H' → Dp K F' v d → F' l = none → H' l = some (.lst xs) → D.nx σ (upd H' l (.lst (xs ++ [v])))) : tDrop (tBM K "list" rAppend (tVar i) (tCons te tNil)) D σ H :=
  ⟨_, hi, Or.inl ⟨rfl, xs, sq_of hl⟩, h H e _ fun v F' H' g hv => ⟨l, xs, v, rfl, rfl, (g.keep hl fl).1, sz_lt hz, k v F' H' g hv (g.keep hl fl).2 (g.keep hl fl).1⟩⟩
/-- a for over data: Pv by the turn, the slots, F and H -/
def NxP (Fb : Hp) (Pv : L2.St → Hp → Hp → Prop) : L2.St → Hp → Prop := fun σ H => ∃ F', Ex Fb F' ∧ Ex F' H ∧ Pv σ F' H
theorem s_for {wi : TI} (h : ItD K wi σ F ds) (e : Ex F H) (Pv : Nat → L2.St → Hp → Hp → Prop) (h0 : ∀ F' H', Gr F H F' H' → Pv 0 σ F' H')
    (hs : ∀ Fb, Ex F Fb → ∀ n σ' F' H' v d F2 H2, ds[n]? = some d → Ex Fb F' → Ex F' H' → Pv n σ' F' H' → Gr F' H' F2 H2 → Dp K F2 v d →
      g v σ' H2 fun σ2 H3 => ts { D with nx := NxP Fb (Pv (n + 1)), ct := NxP Fb (Pv (n + 1)), bk := D.nx } σ2 H3)
    (hd : ∀ σ' F' H', Ex F F' → Ex F' H' → Pv ds.length σ' F' H' → D.nx σ' H') : tFor wi g ts D σ H := h H e _ fun J F1 H1 g1 wd => by
  obtain ⟨G, Y, W, hG, hY⟩ := wd
  exact for_it W (fun n => NxP F1 (Pv n)) ⟨F1, Ex.refl _, g1.fh, h0 F1 H1 g1⟩ (fun n σ' H' _ p => by
    obtain ⟨F', e1, e2, p⟩ := p
    exact hG _ (e1.trans e2)) (fun n v σ' H' H2 hn p y => by
    obtain ⟨F', e1, e3, p⟩ := p
    obtain ⟨F2, d, hd, g2, hv⟩ := hY F' n H' v H2 hn e1 e3 y
    exact hs F1 g1.fx n σ' F' H' v d F2 H2 hd e1 e3 p g2 hv) (fun σ' H' p => by
    obtain ⟨F', e1, e2, p⟩ := p
    exact hd σ' F' H' (g1.fx.trans e1) e2 p)
/-- while, by a word that falls -/
theorem s_while (W : Nat → L2.St → Hp → Hp → Prop) (m0 : Nat) (h0 : W m0 σ F H) (e : Ex F H)
    (hs : ∀ m σ' F' H', W m σ' F' H' → Ex F F' → Ex F' H' → ∃ b, EtD tt σ' F' b ∧ (b = true → ∀ F1 H1, Gr F' H' F1 H1 → ∃ N : L2.St → Hp → Prop, (∀ σ2 H2, N σ2 H2 → ∃ m' F2, m' < m ∧ W m' σ2 F2 H2 ∧ Ex F F2 ∧ Ex F2 H2) ∧ ts { D with nx := N, ct := N, bk := D.nx } σ' H1) ∧
      (b = false → ∀ F1 H1, Gr F' H' F1 H1 → D.nx σ' H1)) : tWhile tt ts D σ H :=
  ⟨fun m σ H => ∃ F', W m σ F' H ∧ Ex F F' ∧ Ex F' H, ⟨m0, F, h0, Ex.refl F, e⟩, fun m σ' H' hw => by
    obtain ⟨F', w, e1, e2⟩ := hw
    obtain ⟨b, hb, h1, h2⟩ := hs m σ' F' H' w e1 e2
    refine hb H' e2 _ fun F1 H1 g => ?_
    cases b with
    | true =>
      obtain ⟨N, n1, n2⟩ := h1 rfl F1 H1 g
      exact ⟨N, fun σ2 H2 n => let ⟨m', F2, a, b, c, d⟩ := n1 σ2 H2 n; ⟨m', a, F2, b, c, d⟩, n2⟩
    | false => exact h2 rfl F1 H1 g⟩
end
end Dv

set_option Elab.async false
set_option linter.all false
set_option maxRecDepth 100000
set_option maxHeartbeats 4000000
/-! An own exception over ValueError whose __init__(self, f=None) says super().__init__(f) and self.f = f: made, read, told by isinstance. -/
namespace PySem
namespace Xn
open PySem.W PySem.Calls PyProof.Rows PySem.HandSPX
/-! ### the text of __init__ -/
def iA (fld : Str) (p1 p2 p3 : Pos) : Arguments := { posonlyargs := [], args := [{ arg := "self", annotation := none, pos := p1 }, { arg := fld, annotation := none, pos := p2 }], vararg := none, kwonlyargs := [], kw_defaults := [], kwarg := none, defaults := [.Constant .none 0 p3] }
def iB (fld : Str) (q : Nat → Pos) : List Stmt :=
  [.Expr (.Call (.Attribute (.Call (.Name "super" (q 0)) [] [] (q 1)) "__init__" (q 2)) [.Name fld (q 3)] [] (q 4)) (q 4),
   .Assign [.Attribute (.Name "self" (q 5)) fld (q 6)] (.Name fld (q 7)) (q 8)]
def iS (fld : Str) : Scope := { kind := .function, names := [(PySem.Str.ofString "self", .local), (fld, .local), (PySem.Str.ofString "__class__", .free), (PySem.Str.ofString "super", .globalImplicit)], isGenerator := false, isCoroutine := false, more := [] }
/-- what is asked of the places in the text: closed by rfl where they are written -/
structure TextOk (fld : Str) (q : Nat → Pos) : Prop where
  ev : ∃ pl : Sem Bool, ∀ env : Env, eval (.Call (.Attribute (.Call (.Name "super" (q 0)) [] [] (q 1)) "__init__" (q 2)) [.Name fld (q 3)] [] (q 4)) env = (do
      let ov ← attributeBase (.Call (.Name "super" (q 0)) [] [] (q 1)) "__init__" env (eval (.Call (.Name "super" (q 0)) [] [] (q 1)) env)
      standAt (q 2).atName
      let (f, first) ← holding [ov] (getMethod ov "__init__" pl)
      callWith (q 4) f first (backTo (q 4) (starEach [.Name fld (q 3)] env)) [])
  sw1 : ∀ env : Env, swapsWith (.Call (.Attribute (.Call (.Name "super" (q 0)) [] [] (q 1)) "__init__" (q 2)) [.Name fld (q 3)] [] (q 4)) none (q 4).line env = pure false
  st : ∀ env : Env, starEach [.Name fld (q 3)] env = (false, eval (.Name fld (q 3)) env) :: starEach [] env
  pl : ∀ env : Env, (backTo (q 4) (starEach [] env)).any (·.1) = false
  sw2 : ∀ env : Env, swapsWith (.Name fld (q 7)) (some (.Attribute (.Name "self" (q 5)) fld (q 6))) (q 8).line env = pure false
/-- how its arguments are bound -/
structure BindOk (fld : Str) (fd : FuncData) (da : Addr) : Prop where
  two : ∀ x v : Value, ∃ k, bindArgs fd ⟨[x, v], []⟩ = seqItems? (.ref da) >>= k ∧ k (some #[.none]) = pure [(("self" : Str), x), (fld, v)]
  kw : ∀ x v : Value, ∃ k, bindArgs fd ⟨[x], [(fld, v)]⟩ = seqItems? (.ref da) >>= k ∧ k (some #[.none]) = pure [(("self" : Str), x), (fld, v)]
  one : ∀ x : Value, ∃ k, bindArgs fd ⟨[x], []⟩ = seqItems? (.ref da) >>= k ∧ k (some #[.none]) = pure [(("self" : Str), x), (fld, Value.none)]
/-- what the written part says of the class at C, field fld, its __init__ at fI -/
structure ExT (P : Program) (K : Frag) (mg : Str → Option Value) (cn fld : Str) (C fI : Addr) : Prop where
  gC : mg cn = some (.ref C)
  cls : ∃ nm q N bs bm sn sub ab col dd k0 k1 k2 k3 k5, K.lookup C = some (excClassObj nm q C N bs bm true sn sub ab col dd k0 k1 k2 k3 k5 "ValueError.__new__") ∧ refsVE bm = true ∧ alongIn K "__init__" bm = some (some (.builtin "ValueError.__init__"))
  sa : findIn K (.ref C) "__setattr__" = some (some (.builtin "object.__setattr__"))
  ga : findIn K (.ref C) "__getattribute__" = some (some (.builtin "BaseException.__getattribute__"))
  gg : findIn K (.ref C) "__getattr__" = some none
  noN : findIn K (.ref C) fld = some none
  iC : findIn K (.ref C) "__init__" = some (some (.ref fI))
  tC : typeIn K (.ref fI) = some (.type "function")
  kC : keepIn K (.ref C) = true
  exC : subIn K (.ref C) (.type "BaseException") = some true
  exV : subIn K (.ref C) (.type "ValueError") = some true
  exO : mroIn K C (.ref C) = some true
  tyC : typeIn K (.ref C) = some (.type "type")
  hdC : hasDictIn K C = true
  opq : nsIn K cStatics "thirdparty.any" = some none
  noS : mg "super" = none
  fn : ∃ (oc : Value) (od : Option Addr) (qual : Str) (dV doc pm : Value) (an : Option Addr) (cda cc : Addr) (ct : Value) (osl : Array (Option Value)) (p1 p2 p3 : Pos) (q : Nat → Pos)
    (ccl : Value) (cdd : Option Addr) (vs : Array Value) (ccs : Array (Option Value)) (file : Str) (tf : Tok) (cl : Value) (cld : Option Addr) (csl : Array (Option Value)) (dcl : Value) (ddi : Option Addr) (dn : Nat) (dsl : Array (Option Value)) (da : Addr),
    K.lookup fI = some ⟨oc, od, .func (ksFn "__init__" qual (iA fld p1 p2 p3) (iB fld q) (iS fld) dV .none doc pm an (.ref cda) ct cc), osl⟩ ∧ codeIn K (.ref cda) qual = true ∧
    K.lookup cda = some ⟨ccl, cdd, .fields vs, ccs⟩ ∧ vs[2]? = some (.str file tf) ∧ ((P.main.file : Str) == file) = true ∧
    K.lookup cc = some ⟨cl, cld, .cell (some (.ref C)), csl⟩ ∧ TextOk fld q ∧ BindOk fld (ksFn "__init__" qual (iA fld p1 p2 p3) (iB fld q) (iS fld) dV .none doc pm an (.ref cda) ct cc) da ∧ dV = .ref da ∧ K.lookup da = some ⟨dcl, ddi, .seq #[.none] dn, dsl⟩
  nclash : (fld == ("__debug__" : Str)) = false ∧ ¬ (fld = ("self" : Str)) ∧ ¬ (fld = ("__class__" : Str)) ∧ ¬ (fld = ("super" : Str))
theorem one_size (v : Value) : [v].length ≤ sizeLine := by
  rw [sizeLine_eq]
  exact (by decide : 1 ≤ 16777216)
/-- what __init__ leaves of a fresh exception at x -/
structure InitEnd (h h' : Heap) (x C dx t1 : Addr) (fld : Str) (v : Value) : Prop where
  keep : ∀ b o, b ≠ x → h.get? b = some o → h'.get? b = some o
  obj : h'.get? x = some { cls := .ref C, dict := some dx, data := .fields #[.ref t1, .none, .none, .none, .bool false, .none] }
  dbig : h.objs.size ≤ dx
  dne : dx ≠ x
  ns : h'.Ns1 dx (fun y => if y = fld then some v else none)
/-- a made one -/
structure OwnMade (h h' : Heap) (e C d : Addr) (fld : Str) (v : Value) : Prop where
  keep : ∀ b o, h.get? b = some o → h'.get? b = some o
  new : h.objs.size ≤ e
  obj : ∃ t1, h'.get? e = some { cls := .ref C, dict := some d, data := .fields #[.ref t1, .none, .none, .none, .bool false, .none] }
  dbig : h.objs.size ≤ d
  dne : d ≠ e
  ns : h'.Ns1 d (fun y => if y = fld then some v else none)
/-- the module's names and the built-in ones, by the heap -/
structure Nms (h : Heap) (mg : Str → Option Value) : Prop where
  g : h.Ns mainGlobals mg
  b : ∃ mb, h.Ns builtinsNs mb ∧ ∀ x : Str, x ≠ "__name__" → mb x = bootBuiltins x
theorem Nms.keeps {h h' : Heap} {mg : Str → Option Value} (n : Nms h mg) (k : ∀ b o, h.get? b = some o → h'.get? b = some o) : Nms h' mg :=
  ⟨n.g.keeps k, let ⟨mb, a, b⟩ := n.b; ⟨mb, a.keeps k, b⟩⟩
section
variable {prog : Program} {w : World} {A : Around} {E : Value → Shared → Prop} {R : Result → Shared → Prop} {s : Shared} {K : Frag} {mg : Str → Option Value} {cn fld : Str} {C fI : Addr}
theorem call_mw {h : Heap} {g : Array GenState} {d : Drawn} {t : Nat} {os : OsState} {nm q : Str} {N : Addr} {bs bm : List Value} {hdct : Bool} {sn : List Str} {sub : List Value} {ab : Bool} {col : Option Bool} {dd : Option Addr} {k0 k1 k2 k3 k5 : Option Value} {u e t0 : Addr} {rest : List Value} {Q : Value → Shared → Prop}
    (hC : h.get? C = some (excClassObj nm q C N bs bm hdct sn sub ab col dd k0 k1 k2 k3 k5 "ValueError.__new__")) (he : h.get? e = some (excO C t0)) (hu : h.get? u = some (kxs_mw "ValueError.__init__" e)) (hrest : rest.length ≤ sizeLine)
    (hq : ∀ h' t1, (∀ b o, b ≠ e → h.get? b = some o → h'.get? b = some o) → h'.get? e = some (excO C t1) → Q .none ⟨h', g, d, t, os⟩) :
    wpAny (model prog w) A (call (.ref u) rest) Q E ⟨h, g, d, t, os⟩ := by
  refine wpAny_call (codeAny_of_tree ?_)
  show wpAny _ A.in1 (callAny (.ref u) ⟨rest, []⟩) _ _ _
  simp only [callAny]
  refine wpAny_bind (wpAny_load hu ?_)
  simp only [kxs_mw, show (Value.type "method-wrapper" == Value.type "method" || Value.type "method-wrapper" == Value.type "builtin_function_or_method" || Value.type "method-wrapper" == Value.type "method-wrapper") = true by decide, if_true]
  refine W.KFB.if_so (by decide) ?_
  refine wpAny_bind (check_bound_init F.excBase_ValueError.toExcCallFacts hC he rfl ?_)
  refine wpAny_bind (wpAny_pure (wpAny_pure ?_))
  refine ⟨Code.quiet_builtin _ (by decide +kernel), codeAny_builtin F.excBase_ValueError.initEntry ?_⟩
  rw [Around.under_plainId F.excBase_ValueError.init.plain _]
  wp_walk
  refine hq _ h.objs.size (fun b o hb ho => ?_) ?_
  · rw [Heap.get?_update_other _ _ (Ne.symm hb)]
    exact Heap.get?_push_of_some _ ho
  · rw [Heap.get?_update_self _ (Heap.get?_push_of_some _ he) rfl]
    rfl

theorem kept_but {K : Frag} {h h' : Heap} {x : Addr} (X : K.In h) (hx : K.lookup x = none) (k : ∀ b o, b ≠ x → h.get? b = some o → h'.get? b = some o) : K.In h' := fun a o e =>
  k a o (fun z => by rw [z, hx] at e; cases e) (X a o e)
theorem xn_init (T : ExT prog K mg cn fld C fI) {x t0 : Addr} {v : Value} (X : K.In s.heap) (G : Nms s.heap mg) (hlim : s.heap.NoLimit) (hx : s.heap.get? x = some (excO C t0)) (hnx : K.lookup x = none) (hroom : A.depth < recursionLimit)
    (htop : (prog.main.scope.names.lookup ("super" : Str)).isSome = false)
    {args : Args} (hbind : ∀ fd : FuncData, (∃ o : Obj, K.lookup fI = some o ∧ o.data = .func fd) → BindsTo s fd args [("self", .ref x), (fld, v)])
    (hq : ∀ h' tk dx t1, InitEnd s.heap h' x C dx t1 fld v → R (.ok (.ret .none)) { s with heap := h', toks := tk }) :
    codeAny (model prog w) A (.call (.ref fI) args) R s := by
  obtain ⟨oc, od, qual, dV, doc, pm, an, cda, cc, ct, osl, p1, p2, p3, q, ccl, cdd, vs, ccs, file, tf, cl, cld, csl, dcl, ddi, dn, dsl, da, ho, hcd, hcda, hvs, hfile, hcc, hTx, hBd, hdV, hda⟩ := T.fn
  obtain ⟨pl, hev⟩ := hTx.ev
  obtain ⟨nm, qn, N, bs, bm, sn, sub, ab, col, dd, k0, k1, k2, k3, k5, hC, hbm, hal⟩ := T.cls
  obtain ⟨n1, n2, n3, n4⟩ := T.nclash
  have n2' : ¬ (("self" : Str) = fld) := fun e => n2 e.symm
  have hcl : clsIn K C = some { name := nm, bases := bs, mro := .ref C :: bm, ns := N, qualname := qn, hasDict := true, slotNames := sn, subclasses := sub, abstract := ab, collection := col, hasDel := false } := by unfold clsIn; rw [hC] <;> rfl
  have lkS : (iS fld).names.lookup ("self" : Str) = some .local := by simp [iS, List.lookup]
  have lkF : (iS fld).names.lookup fld = some .local := by
    show List.lookup fld [(PySem.Str.ofString "self", NameKind.local), (fld, .local), (PySem.Str.ofString "__class__", .free), (PySem.Str.ofString "super", .globalImplicit)] = _
    have e : (fld == PySem.Str.ofString "self") = false := by simpa using n2
    rw [List.lookup_cons, e, List.lookup_cons]
    simp
  have lkC : (iS fld).names.lookup ("__class__" : Str) = some .free := by
    show List.lookup (PySem.Str.ofString "__class__") [(PySem.Str.ofString "self", NameKind.local), (fld, .local), (PySem.Str.ofString "__class__", .free), (PySem.Str.ofString "super", .globalImplicit)] = _
    have e : (PySem.Str.ofString "__class__" == PySem.Str.ofString "self") = false := by decide +kernel
    have e2 : (PySem.Str.ofString "__class__" == fld) = false := by simpa using fun e => n3 e.symm
    rw [List.lookup_cons, e, List.lookup_cons, e2, List.lookup_cons]
    simp
  have lkSu : (iS fld).names.lookup ("super" : Str) = some .globalImplicit := by
    show List.lookup (PySem.Str.ofString "super") [(PySem.Str.ofString "self", NameKind.local), (fld, .local), (PySem.Str.ofString "__class__", .free), (PySem.Str.ofString "super", .globalImplicit)] = _
    have e : (PySem.Str.ofString "super" == PySem.Str.ofString "self") = false := by decide +kernel
    have e2 : (PySem.Str.ofString "super" == fld) = false := by simpa using fun e => n4 e.symm
    have e3 : (PySem.Str.ofString "super" == PySem.Str.ofString "__class__") = false := by decide +kernel
    rw [List.lookup_cons, e, List.lookup_cons, e2, List.lookup_cons, e3, List.lookup_cons]
    simp
  have hcellN : ∀ y ∈ (iS fld).names, y.2 ≠ .cell := by
    intro y hy
    rcases List.mem_cons.mp hy with rfl | hy
    · intro z; cases z
    rcases List.mem_cons.mp hy with rfl | hy
    · intro z; cases z
    rcases List.mem_cons.mp hy with rfl | hy
    · intro z; cases z
    rcases List.mem_cons.mp hy with rfl | hy
    · intro z; cases z
    · cases hy
  refine ks_codeAny_call_defAt (fd := ksFn "__init__" qual (iA fld p1 p2 p3) (iB fld q) (iS fld) dV .none doc pm an (.ref cda) ct cc) (body := iB fld q) (binds := [("self", .ref x), (fld, v)]) hroom (X _ _ ho) rfl hlim (codeRec_of X hcd) rfl
    (hbind _ ⟨_, ho, rfl⟩) hcellN (fun y hy => ?_) (fun h₁ hns hk₁ => ?_) rfl rfl rfl
  · rcases List.mem_cons.mp hy with rfl | hy
    · exact lkS
    · rcases List.mem_cons.mp hy with rfl | hy
      · exact lkF
      · cases hy
  have X₁ : K.In h₁ := X.keeps hk₁
  have G₁ : Nms h₁ mg := G.keeps hk₁
  have hx₁ := hk₁ _ _ hx
  have mS : (fun y => ([(("self" : Str), Value.ref x), (fld, v)] : List (Str × Value)).reverse.lookup y) "self" = some (.ref x) := by
    show List.lookup ("self" : Str) [(fld, v), (("self" : Str), Value.ref x)] = _
    have e : (("self" : Str) == fld) = false := by simpa using n2'
    rw [List.lookup_cons, e, List.lookup_cons]
    simp
  have mF : (fun y => ([(("self" : Str), Value.ref x), (fld, v)] : List (Str × Value)).reverse.lookup y) fld = some v := by
    show List.lookup fld [(fld, v), (("self" : Str), Value.ref x)] = _
    rw [List.lookup_cons]
    simp
  have hL : s.heap.objs.size ≠ x := Nat.ne_of_gt (Heap.lt_size hx)
  have hLlt : s.heap.objs.size < h₁.objs.size := hns.lt
  obtain ⟨mb, hb, hbb⟩ := G₁.b
  have hcC₁ := X₁ _ _ hC
  have iV : Looks (model prog w) h₁ (isInstance (.ref x) (.type "ValueError")) true := by
    have I : InstAt h₁ x (excO C t0) C none := ⟨hx₁, rfl, rfl, trivial⟩
    exact I.type.andThen (looks_subIn X₁ T.exV)
  -- super().__init__(value)
  unfold iB
  refine ks_wpAt_execs_cons (ks_wpAt_Expr_any (ks_wpAt_MethodCall (pl := pl) ?_ (hev _)) rfl (hTx.sw1 _))
  refine ks_wpAt_super_base (env := ksEnv qual (iS fld) s.heap.objs.size fI (.ref cda) cc) lkSu lkC rfl rfl (X₁ _ _ ho) rfl rfl rfl (X₁ _ _ hcda) rfl hvs hfile htop ?_
  refine ks_loadName_global rfl lkSu (loadGlobal_builtin (env := ksEnv qual (iS fld) s.heap.objs.size fI (.ref cda) cc) G₁.g T.noS hb ((hbb _ (by decide +kernel)).trans (by first | boot_by_name | rfl | kernel_rfl)) ⟨rfl, ?_⟩)
  refine wpAny_loadName_free rfl lkC rfl ⟨_, X₁ _ _ hcc, rfl⟩ ?_
  refine wpAny_loadName_local rfl lkS hns mS ?_
  refine ks_wpAny_isType_cls hcC₁ rfl ⟨rfl, ?_⟩
  refine ks_wpAny_call_super hcC₁ rfl hx₁ rfl (fun c e => by cases e) (looks_mroIn X₁ T.exO) (fun h₂ e₂ k₂ => ?_)
  have X₂ : K.In h₂ := X₁.keeps k₂
  refine kxs_getMethod kxs_ValueError e₂ (looks_opaque X₂ T.opq) (l₀ := .ref C :: bm) ?_ (l := bm) (by simp [List.dropWhile_cons]) X₂ hal (iV.keeps k₂) ?_ (by decide +kernel) ?_
  · exact fun A Q E s k q => wpAny_bind ((looks_clsIn X₂ hcl) A _ E s k (wpAny_pure q))
  · rintro rfl
    rw [hcC₁] at hx₁
    cases hx₁
  -- the argument, the call
  have hx₂ := k₂ _ _ hx₁
  have k₃ : ∀ b o, h₂.get? b = some o → (h₂.push (kxs_mw "ValueError.__init__" x)).get? b = some o := fun b o e => Heap.get?_push_of_some _ e
  have hu : (h₂.push (kxs_mw "ValueError.__init__" x)).get? h₂.objs.size = some (kxs_mw "ValueError.__init__" x) := Heap.get?_push_at rfl rfl
  have X₃ := X₂.keeps k₃
  show wpAny _ _ (callWith (q 4) (.ref h₂.objs.size) [] (backTo (q 4) (starEach [.Name fld (q 3)] _)) []) _ _ _
  rw [hTx.st]
  refine kxs_callWith (i := "ValueError.__init__") (x := x) (by show (false || (backTo (q 4) (starEach [] _)).any (·.1)) = false; rw [hTx.pl]; rfl) ?_
  refine evalArgs_plain ?_
  refine Calls.spliced_cons ?_
  refine ESX.ldL (v := v) (hns.keeps fun b o e => k₃ b o (k₂ b o e)) mF ?_ rfl lkF n1
  refine Calls.spliced_nil ?_
  refine ⟨hu, ?_⟩
  refine call_mw (X₃ _ _ hC) (k₃ _ _ hx₂) hu (one_size v) fun h₄ t₁ k₄ hx₄ => ?_
  have kk : ∀ b o, b ≠ x → h₁.get? b = some o → h₄.get? b = some o := fun b o hb e => k₄ b o hb (k₃ b o (k₂ b o e))
  have X₄ : K.In h₄ := kept_but X₁ hnx kk
  have hns₄ : h₄.Ns s.heap.objs.size (fun y => ([(("self" : Str), Value.ref x), (fld, v)] : List (Str × Value)).reverse.lookup y) := by
    obtain ⟨o, es, ep, e, r⟩ := hns
    exact ⟨o, es, ep, kk _ _ hL e, r⟩
  refine wpAt_of_wpAny ?_
  show wpAny _ _ (execs [_] _) _ _ _
  refine wpAny_execs_cons (plainObj_wpAny_Assign_Attribute ?_ (hTx.sw2 _))
  refine ESX.ldL (v := v) hns₄ mF (ESX.ldL (v := .ref x) hns₄ mS ?_ rfl lkS (by decide)) rfl lkF n1
  refine set_plain X₄ (ox := excO C t₁) (od := none) ⟨hx₄, rfl, rfl, trivial⟩ T.sa ?_
  refine exc_osa X₄ hx₄ hcl (show refsVE (.ref C :: bm) = true from hbm) rfl T.noN (fun h₅ tk₅ dx k₅ dn dne hx₅ hn₅ => ?_)
  show wpAny _ _ (execs _ _) _ _ _
  have z1 : s.heap.objs.size ≤ h₄.objs.size := Nat.le_of_lt hns₄.lt
  exact wpAny_execs_nil (hq h₅ tk₅ dx t₁ ⟨fun b o hb e => k₅ b o hb (kk b o hb (hk₁ b o e)), hx₅, Nat.le_trans z1 dn, dne, hn₅⟩)
end

/-! ### C(f=v): the call with the field's name -/
section
variable {M : Model} {A : Around} {E : Value → Shared → Prop} {h : Heap} {g : Array GenState} {d : Drawn} {t : Nat} {os : OsState}
variable {nm q : Str} {C N : Addr} {bs bm bmB : List Value} {hdct : Bool} {sn : List Str} {sub : List Value} {ab : Bool} {col : Option Bool} {dd : Option Addr} {k0 k1 k2 k3 k5 : Option Value} {B newId initId : String}
theorem check_new_ownK (F : ExcBaseFacts B newId initId bmB) (hT : ∀ X : String, bm.contains (.type X) = bmB.contains (.type X)) {rest : List Value} {kw : List (Str × Value)} {Q : Unit → Shared → Prop}
    (hC : h.get? C = some (excClassObj nm q C N bs bm hdct sn sub ab col dd k0 k1 k2 k3 k5 newId)) (hq : Q () ⟨h, g, d, t, os⟩) : wpAny M A (checkBuiltinCall newId ⟨.ref C :: rest, kw⟩) Q E ⟨h, g, d, t, os⟩ := by
  have hcont : (Value.ref C :: bm).contains (.type B) = true := by rw [List.contains_cons, hT, F.hasB, Bool.or_true]
  have hstar := F.noStar
  simp only [checkBuiltinCall, F.newKind, F.newSplit, F.newRow]
  repeat (first | refine wpAny_loadPart_at hC ?_ | (refine wpAny_isSubtype_exc hC ?_; rw [hcont]) | refine wpAny_staticBase_exc hC ?_ | refine wpAny_madeBy_exc hC ?_ | simp only [bne_self_eq_false, Bool.false_eq_true, if_false] | wp_step)
  exact hq
end
section
variable {prog : Program} {w : World} {A : Around} {E : Value → Shared → Prop} {R : Result → Shared → Prop} {h : Heap} {g : Array GenState} {d : Drawn} {t : Nat} {os : OsState}
variable {nm q : Str} {C N : Addr} {bs bm bmB : List Value} {hdct : Bool} {sn : List Str} {sub : List Value} {ab : Bool} {col : Option Bool} {dd : Option Addr} {k0 k1 k2 k3 k5 : Option Value} {B newId initId : String}
theorem new_ownK (F : ExcBaseFacts B newId initId bmB) (hT : ∀ X : String, bm.contains (.type X) = bmB.contains (.type X)) {rest : List Value} {kw : List (Str × Value)}
    (hC : h.get? C = some (excClassObj nm q C N bs bm hdct sn sub ab col dd k0 k1 k2 k3 k5 newId))
    (hq : R (.ok (.ret (.ref (h.objs.size + 1)))) ⟨(h.push { cls := .type "tuple", data := .seq rest.toArray }).push
      { cls := .ref C, data := .fields #[.ref h.objs.size, .none, .none, .none, .bool false, .none] }, g, d, t, os⟩) (hrest : rest.length ≤ sizeLine) :
    codeAny (model prog w) A (.builtin newId ⟨.ref C :: rest, kw⟩) R ⟨h, g, d, t, os⟩ := by
  have hends := F.ends
  have hcB : (Value.ref C :: bm).contains (.type B) = true := by rw [List.contains_cons, hT, F.hasB, Bool.or_true]
  have hcA : (Value.ref C :: bm).contains (.type "AttributeError") = false := by rw [List.contains_cons, hT, F.noAttr]; rfl
  have hcN : (Value.ref C :: bm).contains (.type "NameError") = false := by rw [List.contains_cons, hT, F.noName]; rfl
  refine codeAny_builtinAt F.entry ?_
  unfold Builtin.«BaseException.__new__»
  refine wpAt_bind ?_
  show wpAt _ _ _ (stack >>= _) _ _ _
  refine wpAt_bind (wpAt_stack fun p below => wpAt_of_wpAny ?_)
  wp_walk
  refine wpAt_of_wpAny ?_
  rw [F.owner]
  repeat (first | with_reducible refine wpAny_madeHere_exc F.canon hC ?_ | with_reducible refine wpAny_loadPart_at hC ?_ | (with_reducible refine wpAny_isSubtype_exc hC ?_; first | rw [hcB] | rw [hcA] | rw [hcN]) | wp_step)
  show R _ _
  rw [Heap.size_push]
  exact hq
theorem type_call_ownK (F : ExcBaseFacts B newId initId bmB) (hT : ∀ X : String, bm.contains (.type X) = bmB.contains (.type X)) {rest : List Value} {kw : List (Str × Value)} {fI : Addr} {Q : Fin → Shared → Prop}
    (hC : h.get? C = some (excClassObj nm q C N bs bm hdct sn sub ab col dd k0 k1 k2 k3 k5 newId))
    (hi : W.Looks (model prog w) h (typeLookup (.ref C) "__init__") (some (.ref fI))) (hb : ∀ self, W.Looks (model prog w) h (bindSpecial (.ref fI) self) (.ref fI, [self])) (hrest : rest.length ≤ sizeLine)
    (hq : codeAny (model prog w) A (.call (.ref fI) ⟨.ref (h.objs.size + 1) :: rest, kw⟩)
      (fun r s' => match r with | .ok (.ret v) => v = .none ∧ Q (.done (.ret (.ref (h.objs.size + 1)))) s' | .ok _ => False | .error e => E e s')
      ⟨(h.push (W.kdv_tup rest)).push (excO C h.objs.size), g, d, t, os⟩) :
    wpAny (model prog w) A (Builtin.«type.__call__» ⟨.ref C :: rest, kw⟩) Q E ⟨h, g, d, t, os⟩ := by
  repeat (first | with_reducible refine wpAny_loadPart_at hC ?_ | with_reducible refine wpAny_madeBy_exc hC ?_ | wp_step)
  refine codeAny_call_builtin_code (Code.quiet_builtin _ F.quiet) (check_new_ownK F hT hC ?_)
  refine new_ownK F hT hC ?_ hrest
  show wpAny _ _ _ _ _ _
  have k : ∀ b o, h.get? b = some o → ((h.push (W.kdv_tup rest)).push (excO C h.objs.size)).get? b = some o := fun b o e => Heap.get?_push_of_some _ (Heap.get?_push_of_some _ e)
  have hC₁ := k _ _ hC
  have hget : ((h.push (W.kdv_tup rest)).push (excO C h.objs.size)).get? (h.objs.size + 1) = some (excO C h.objs.size) := by heap_get
  have hcC : (Value.ref C :: bm).contains (.ref C) = true := by simp
  have i1 := hi.keeps k
  have b1 := (hb (.ref (h.objs.size + 1))).keeps k
  unfold isInstance
  repeat (first | with_reducible refine wpAny_loadPart_at hget ?_ | (with_reducible refine wpAny_isSubtype_exc hC₁ ?_; rw [hcC]) | wp_step)
  show wpAny _ _ (typeLookup (.ref C) _) _ _ _
  refine i1.at ?_
  refine wpAny_holding (wpAny_bind (b1.at ?_))
  refine wpAny_bind (wpAny_call (codeAny_mono hq fun r s' z => ?_))
  rcases r with e | (v | _ | _ | _) <;> first | exact z | exact z.elim | skip
  obtain ⟨rfl, z⟩ := z
  first
    | exact wpAny_pure (wpAny_pure z)
    | (wp_walk; exact z)
theorem call_ownK (F : ExcBaseFacts B newId initId bmB) (hT : ∀ X : String, bm.contains (.type X) = bmB.contains (.type X)) {rest : List Value} {kw : List (Str × Value)} {fI : Addr}
    (hC : h.get? C = some (excClassObj nm q C N bs bm hdct sn sub ab col dd k0 k1 k2 k3 k5 newId))
    (hi : W.Looks (model prog w) h (typeLookup (.ref C) "__init__") (some (.ref fI))) (hb : ∀ self, W.Looks (model prog w) h (bindSpecial (.ref fI) self) (.ref fI, [self])) (hrest : rest.length ≤ sizeLine)
    (hq : codeAny (model prog w) (A.under (.builtin "type.__call__" ⟨.ref C :: rest, kw⟩)) (.call (.ref fI) ⟨.ref (h.objs.size + 1) :: rest, kw⟩) (W.InitBack (h.objs.size + 1) R)
      ⟨(h.push (W.kdv_tup rest)).push (excO C h.objs.size), g, d, t, os⟩) :
    codeAny (model prog w) A (.call (.ref C) ⟨rest, kw⟩) R ⟨h, g, d, t, os⟩ := by
  have f1 := tc_lookup
  have f2 := tc_bind (.ref C)
  have f3 := tc_sub
  have hTy : (⟨h, g, d, t, os⟩ : Shared).TypeIs (.ref C) "type" := ⟨_, hC, rfl⟩
  refine codeAny_of_tree ?_
  show wpAny _ _ (callAny (.ref C) _) _ _ _
  repeat (any_goals (first | assumption | with_reducible refine wpAny_loadPart_at hC ?_ | wp_step))
  refine ⟨rfl, ?_⟩
  have typ : W.Looks (model prog w) h (isInstance (.ref C) (.type "type")) true := by
    intro A' Q' E' s' k' q'
    have hT' : s'.TypeIs (.ref C) "type" := ⟨_, k' _ _ hC, rfl⟩
    unfold isInstance
    refine wpAny_bind (wpAny_typeOf hT' ?_)
    refine wpAny_of_eq tc_sub ?_
    exact q'

  refine codeAny_call_builtin_at (Code.quiet_builtin _ (by decide +kernel)) entry_typeCall (W.check_slot tc_kind tc_split typ (W.tc_args _ _ _) (type_call_ownK F hT hC hi hb hrest ?_))
  refine codeAny_mono hq fun r s' z => ?_
  rcases r with e | (v | _ | _ | _) <;> exact z
end

end Xn
end PySem

set_option Elab.async false
set_option linter.all false
set_option maxRecDepth 100000
set_option maxHeartbeats 4000000
namespace PySem
namespace Xn
open PySem.W PySem.Calls PyProof.Rows PySem.HandSPX

section
variable {prog : Program} {w : World} {A : Around} {R : Result → Shared → Prop} {s : Shared} {K : Frag} {mg : Str → Option Value} {cn fld : Str} {C fI : Addr}
/-- a new exception of the class: by position (args [v], no keyword), by name, or bare -/
theorem xn_made (T : ExT prog K mg cn fld C fI) {v : Value} {rest : List Value} {kw : List (Str × Value)} (hform : (rest = [v] ∧ kw = []) ∨ (rest = [] ∧ kw = [(fld, v)]) ∨ (rest = [] ∧ kw = [] ∧ v = .none))
    (X : K.In s.heap) (G : Nms s.heap mg) (hlim : s.heap.NoLimit) (hroom : A.depth + 1 < recursionLimit) (htop : (prog.main.scope.names.lookup ("super" : Str)).isSome = false)
    (hq : ∀ h' tk e d, OwnMade s.heap h' e C d fld v → R (.ok (.ret (.ref e))) { s with heap := h', toks := tk }) :
    codeAny (model prog w) A (.call (.ref C) ⟨rest, kw⟩) R s := by
  obtain ⟨nm, q, N, bs, bm, sn, sub, ab, col, dd, k0, k1, k2, k3, k5, hC, hbm, hal⟩ := T.cls
  obtain ⟨hp, g, dr, tk, os⟩ := s
  have k : ∀ b o, hp.get? b = some o → ((hp.push (kdv_tup rest)).push (excO C hp.objs.size)).get? b = some o := fun b o e => Heap.get?_push_of_some _ (Heap.get?_push_of_some _ e)
  have hget : ((hp.push (kdv_tup rest)).push (excO C hp.objs.size)).get? (hp.objs.size + 1) = some (excO C hp.objs.size) := by heap_get
  have hnx : K.lookup (hp.objs.size + 1) = none := by
    cases e : K.lookup (hp.objs.size + 1) with
    | none => rfl
    | some o =>
      have z : hp.get? (hp.objs.size + 1) = some o := X _ _ e
      exact absurd (Nat.lt_of_succ_lt (Heap.lt_size z)) (Nat.lt_irrefl _)
  have hrest : rest.length ≤ sizeLine := by
    rcases hform with ⟨rfl, _⟩ | ⟨rfl, _⟩ | ⟨rfl, _⟩
    · exact one_size v
    · exact Nat.zero_le _
    · exact Nat.zero_le _
  refine call_ownK F.excBase_ValueError (fun X => refsVE_contains X bm hbm) (X _ _ hC) (looks_findIn X T.iC) (fun self => bind_fn X self T.tC) hrest ?_
  refine xn_init (v := v) (s := ⟨(hp.push (kdv_tup rest)).push (excO C hp.objs.size), g, dr, tk, os⟩) T (X.keeps k) (G.keeps k) (hlim.keeps k) hget hnx ?_ htop ?_ fun h' tk' dx t1 ⟨k', hx, dn, dne, hns⟩ => ?_
  · show (A.under _).depth < recursionLimit
    have : (A.under (.builtin "type.__call__" ⟨.ref C :: rest, kw⟩)).depth = A.depth + 1 := by
      first | rfl | simp [Around.under, Code.weight, Code.isCreation, Code.isGuard, Code.isCaller, Code.frames, Code.isFrame, guardIds]
    rw [this]
    exact hroom
  · intro fd ⟨o, ho, hfd⟩
    obtain ⟨oc, od, qual, dV, doc, pm, an, cda, cc, ct, osl, p1, p2, p3, q, ccl, cdd, vs, ccs, file, tf, cl, cld, csl, dcl, ddi, dn, dsl, da, ho', hcd, hcda, hvs, hfile, hcc, hTx, hBd, hdV, hda⟩ := T.fn
    rw [ho] at ho'
    cases ho'
    cases hfd
    have X' := X.keeps k
    rcases hform with ⟨rfl, rfl⟩ | ⟨rfl, rfl⟩ | ⟨rfl, rfl, rfl⟩
    · obtain ⟨kk, e1, e2⟩ := hBd.two (.ref (hp.objs.size + 1)) v
      exact L2.BindsTo.of_looks fun M => by rw [e1]; exact L2.looks_items X' hda rfl (.of_pure e2)
    · obtain ⟨kk, e1, e2⟩ := hBd.kw (.ref (hp.objs.size + 1)) v
      exact L2.BindsTo.of_looks fun M => by rw [e1]; exact L2.looks_items X' hda rfl (.of_pure e2)
    · obtain ⟨kk, e1, e2⟩ := hBd.one (.ref (hp.objs.size + 1))
      exact L2.BindsTo.of_looks fun M => by rw [e1]; exact L2.looks_items X' hda rfl (.of_pure e2)
  · have old : ∀ b o, hp.get? b = some o → h'.get? b = some o := fun b o e => k' b o (Nat.ne_of_lt (Nat.lt_succ_of_lt (Heap.lt_size e))) (k b o e)
    have z : hp.objs.size + 1 + 1 ≤ dx := by
      first
        | (simpa only [Heap.size_push] using dn)
        | exact dn
        | (have q := dn; rw [Heap.size_push, Heap.size_push] at q; exact q)
    exact ⟨rfl, hq h' tk' (hp.objs.size + 1) dx ⟨old, Nat.le_succ _, ⟨t1, hx⟩, Nat.le_trans (Nat.le_trans (Nat.le_succ _) (Nat.le_succ _)) z, dne, hns⟩⟩
end
end Xn
end PySem

set_option Elab.async false
set_option linter.all false
set_option maxRecDepth 100000
set_option maxHeartbeats 4000000
namespace L2
open PySem PySem.Spec PyProof.Rows
/-- an exception object of the class at C, its own dict at d, at a -/
def ExI (C d a : Addr) : HO := .ext fun h => ∃ t1, h.get? a = some { cls := .ref C, dict := some d, data := .fields #[.ref t1, .none, .none, .none, .bool false, .none] }
theorem exI_ok {P : Program} {w : World} {H : Hp} {h : Heap} {C d a : Addr} {t1 : Addr} (e : h.get? a = some { cls := .ref C, dict := some d, data := .fields #[.ref t1, .none, .none, .none, .bool false, .none] }) : ObjOk P w H h a (ExI C d a) :=
  ⟨⟨t1, e⟩, ⟨_, e⟩, fun _ _ ⟨t, q⟩ k => ⟨t, k _ q⟩⟩
theorem relO_one {fld : Str} {v : V} {v' : Value} (r : RelV v v') (f : Str) : RelO (List.lookup f [(fld, v)]) (if f = fld then some v' else none) := by
  by_cases hw : f = fld
  · subst hw
    rw [if_pos rfl]
    have q : List.lookup f [(f, v)] = some v := by simp [List.lookup]
    rw [q]
    exact r
  · rw [if_neg hw]
    have qw : (f == fld) = false := by simpa using hw
    have q2 : List.lookup f [(fld, v)] = none := by simp [List.lookup, qw]
    rw [q2]
    trivial
/-- C(v) in every form -/
def tXn (C : Addr) (fld : Str) (ta : St → Hp → (V → Hp → Prop) → Prop) : TE := fun σ H Q => ta σ H fun v H1 => ∀ e d, H1 e = none → H1 d = none → d ≠ e →
  Q (.ref e) (upd (upd H1 d (.xd [(fld, v)])) e (ExI C d e))
section
variable {X : Cx} {cn fld : Str} {C fI : Addr} {k : Nat}
theorem xn_fin (T : PySem.Xn.ExT X.prog X.K X.mg cn fld C fI) {pins : List (Addr × Obj)} {σ : St} {H : Hp} {s : Shared} {Q : VK} {v : V} {v' : Value} {h' : Heap} {tk : Nat} {e d : Addr} (I : Inv X pins σ H s) (rv : RelV v v') (M : PySem.Xn.OwnMade s.heap h' e C d fld v')
    (q : ∀ e d, H e = none → H d = none → d ≠ e → Q (.ref e) (upd (upd H d (.xd [(fld, v)])) e (ExI C d e))) : EP X pins σ Q (.ref e) { s with heap := h', toks := tk } := by
  obtain ⟨t1, hoe⟩ := M.obj
  have hns := M.ns
  obtain ⟨hp, g, dr, tk0, os⟩ := s
  obtain ⟨G', g1, g2⟩ := restrict h' fun b => decide (b ≠ e)
  have gk : ∀ b, b ≠ e → G'.get? b = h'.get? b := fun b hb => g1 b (decide_eq_true hb)
  have ge : G'.get? e = none := g2 e (by simp)
  have old : ∀ b o, hp.get? b = some o → G'.get? b = some o := fun b o q => (gk b (Nat.ne_of_lt (Nat.lt_of_lt_of_le (Heap.lt_size q) M.new))).trans (M.keep b o q)
  have ob : ObjOk X.prog X.w (upd H d (.xd [(fld, v)])) G' d (.xd [(fld, v)]) :=
    ⟨_, hns.at (fun o q => (gk d M.dne).trans q), fun f => relO_one rv f⟩
  have J : Inv X pins σ (upd H d (.xd [(fld, v)])) ⟨G', g, dr, tk, os⟩ := I.laid (t' := tk) old M.dbig ob
  have hne : (upd H d (.xd [(fld, v)])) e = none := by
    rw [upd_ne (Ne.symm M.dne)]
    exact I.hok.fresh M.new
  have J2 : Inv X pins σ (upd (upd H d (.xd [(fld, v)])) e (ExI C d e)) ⟨h', g, dr, tk, os⟩ :=
    J.laidN (t' := tk) (h' := h') (fun b o q => by
      by_cases hb : b = e
      · have q' : G'.get? b = some o := q
        rw [hb, ge] at q'; cases q'
      · exact (gk b hb).symm.trans q) ge hne (exI_ok hoe)
  exact ⟨.ref e, _, J2, rfl, q e d (I.hok.fresh M.new) (I.hok.fresh M.dbig) M.dne⟩
theorem Inv.nms {pins : List (Addr × Obj)} {σ : St} {H : Hp} {s : Shared} (I : Inv X pins σ H s) : PySem.Xn.Nms s.heap X.mg :=
  ⟨I.mod.glob.keeps I.bk, let ⟨mb, a, b⟩ := I.mod.blt; ⟨mb, a.keeps I.bk, b⟩⟩
/-- C(e) -/
def t1A (ta : TA) : St → Hp → (V → Hp → Prop) → Prop := fun σ H Q => ta σ H fun vs H1 => ∃ v, vs = [v] ∧ Q v H1
theorem pe_xn1 {a : Expr} {ta : TA} {p pos : Pos} (T : PySem.Xn.ExT X.prog X.K X.mg cn fld C fI) (hr : Room k X.A) (ht : (X.prog.main.scope.names.lookup ("super" : Str)).isSome = false) (ha : PA X [a] ta) (hg : Gl X cn := by rfl) (hdb : (cn == ("__debug__" : Str)) = false := by decide)
    (he : starEach (a :: []) X.env = (false, eval a X.env) :: starEach [] X.env := by rfl) (hpl : (backTo pos (starEach [] X.env)).any (·.1) = false := by rfl) :
    PE X (.Call (.Name cn p) [a] [] pos) (tXn C fld (t1A ta)) := by
  refine ⟨fun pins s σ H Q I h => ?_⟩
  refine wpAny_Call_Name_kw (ld_glob I hg T.gC ?_ hdb)
  refine PySem.W.callWith_K (h₀ := X.base) I.ok.mod.kin T.kC (thn (ha.run pos pins s σ H _ I h) fun us s1 hh => ?_) he hpl
  obtain ⟨vs, H1, I1, r1, v, ev, q1⟩ := hh
  subst ev
  refine ⟨I1.kIn, ?_⟩
  cases r1 with
  | cons rv rn =>
    rename_i v' us'
    cases rn
    show wpAny _ _ (call (.ref C) [v']) _ _ _
    exact wpAny_call (PySem.Xn.xn_made T (.inl ⟨rfl, rfl⟩) I1.kIn I1.nms I1.nolimit (by have := hr.dp; omega) ht fun h' tk' e d M => xn_fin T I1 rv M q1)
/-- C() -/
theorem pe_xn0 {p pos : Pos} (T : PySem.Xn.ExT X.prog X.K X.mg cn fld C fI) (hr : Room k X.A) (ht : (X.prog.main.scope.names.lookup ("super" : Str)).isSome = false) (hg : Gl X cn := by rfl) (hdb : (cn == ("__debug__" : Str)) = false := by decide) :
    PE X (.Call (.Name cn p) [] [] pos) (tXn C fld fun _ H Q => Q .non H) := by
  refine ⟨fun pins s σ H Q I h => ?_⟩
  refine wpAny_Call_Name_kw (ld_glob I hg T.gC ?_ hdb)
  refine PySem.W.callWith_K0 I.kIn T.kC ?_
  show wpAny _ _ (call (.ref C) []) _ _ _
  exact wpAny_call (PySem.Xn.xn_made T (v := .none) (.inr (.inr ⟨rfl, rfl, rfl⟩)) I.kIn I.nms I.nolimit (by have := hr.dp; omega) ht fun h' tk' e d M => xn_fin T I (v := .non) rfl M h)
/-- C(f=e) -/
theorem pe_xnK {kws : List Keyword} {tk : TA} {p pos : Pos} (T : PySem.Xn.ExT X.prog X.K X.mg cn fld C fI) (hr : Room k X.A) (ht : (X.prog.main.scope.names.lookup ("super" : Str)).isSome = false) (hkw : PK X kws tk) (hg : Gl X cn := by rfl) (hdb : (cn == ("__debug__" : Str)) = false := by decide)
    (hall : (backToKw pos (keywordEach kws X.env)).all (·.1.isSome) = true := by rfl) (hks : (backToKw pos (keywordEach kws X.env)).filterMap (·.1) = [fld] := by rfl)
    (hpl : ((backTo pos (starEach [] X.env)).any (·.1) || (backToKw pos (keywordEach kws X.env)).any (·.1.isNone)) = false := by rfl) :
    PE X (.Call (.Name cn p) [] kws pos) (tXn C fld (t1A tk)) := by
  refine ⟨fun pins s σ H Q I h => ?_⟩
  refine wpAny_Call_Name_kw (ld_glob I hg T.gC ?_ hdb)
  refine PySem.W.callWith_KW0 (h₀ := X.base) I.ok.mod.kin T.kC hall ?_ hpl
  refine thn (hkw.run pos pins s σ H _ I h) fun ws s2 hh => ?_
  obtain ⟨zs, H2, I2, rz, v, ev, q2⟩ := hh
  subst ev
  refine ⟨I2.kIn, ?_⟩
  rw [hks]
  cases rz with
  | cons rv rn =>
    rename_i v' us'
    cases rn
    show wpAny _ _ (call (.ref C) [] [(fld, v')]) _ _ _
    exact wpAny_call (PySem.Xn.xn_made T (.inr (.inl ⟨rfl, rfl⟩)) I2.kIn I2.nms I2.nolimit (by have := hr.dp; omega) ht fun h' tk' e d M => xn_fin T I2 rv M q2)
/-- e.f of a made exception that stands in H -/
def tXnF (K : PySem.W.Frag) (f : Str) (te : TE) : TE := fun σ H Q => te σ H fun x H1 => ∃ (a C d : Addr) (fs : List (Str × V)) (v : V), x = .ref a ∧ H1 a = some (ExI C d a) ∧ H1 d = some (.xd fs) ∧ fs.lookup f = some v ∧ XfC K C ∧ PySem.W.findIn K (.ref C) f = some none ∧ Q v H1
theorem pe_xnF {e : Expr} {te : TE} {pos : Pos} {n : Str} (he : PE X e te) (hb : attributeBase e n X.env (eval e X.env) = eval e X.env := by rfl) : PE X (.Attribute e n pos) (tXnF X.K n te) := by
  refine ⟨fun pins s σ H Q I h => ?_⟩
  refine attr_of hb (thn (he.run pins s σ H _ I h) fun u s1 hh => ?_)
  obtain ⟨x, H1, I1, rx, a, C, dd, fs, v, ex, ha, ea, l, T, hno, q⟩ := hh
  subst ex
  obtain rfl : u = Value.ref a := rx
  obtain ⟨⟨t1, hoa⟩, _, _⟩ := I1.hok a _ ha
  have hx : ObjOk X.prog X.w H1 s1.heap dd (.xd fs) := I1.hok dd _ ea
  obtain ⟨mA, hns, hr⟩ := hx
  obtain ⟨od, ho, hl⟩ := lookIn_ns hns
  obtain ⟨u, hu, ru⟩ := RelO.some_of (v := v) (o := mA n) (by rw [← l]; exact hr n)
  have J : PySem.W.InstAt s1.heap a _ C (some od) := ⟨hoa, rfl, rfl, ho⟩
  exact HandSPX.exc_get I1.kIn J T.ga T.gg T.exC (PySem.W.findObj_own T.hdC hno rfl (by rw [hl, hu])) (handed_of ru) ⟨v, H1, I1.tok _, ru, q⟩
/-- isinstance(e, c) of a made exception that stands in H -/
structure ExC (K : PySem.W.Frag) (C : Addr) : Prop where
  hcl : (PySem.W.clsIn K C).isSome = true
  hg : PySem.W.findIn K (.ref C) "__getattribute__" = some (some (.builtin "BaseException.__getattribute__"))
  hk : PySem.W.findIn K (.ref C) "__getattr__" = some none
  hs : PySem.W.subIn K (.ref C) (.type "BaseException") = some true
  ha : PySem.W.findIn K (.ref C) "__class__" = some (some (.builtin "object.__class__"))
  hn : PySem.W.specialIn K (.builtin "object.__class__") "__get__" = some (some (.builtin "getset_descriptor.__get__"))
  ht : PySem.W.takesIn K (.builtin "object.__class__") = some true
  hm : PySem.W.mroIn K C (.type "object") = some true
def rIsX (K : PySem.W.Frag) : List V → Hp → VK → Prop := fun xs H Q => ∃ (a C d : Addr) (c : V) (cv : Value) (b : Bool), xs = [.ref a, c] ∧ H a = some (ExI C d a) ∧ (∃ fs, H d = some (.xd fs)) ∧ ClsV c cv ∧ ExC K C ∧ PySem.W.kitOne K (.ref C) cv = some b ∧ Q (.bl b) H
theorem call_isX : CallR X (.builtin "isinstance") (rIsX X.K) := by
  intro pins s σ H xs us Q I r h
  obtain ⟨a, C, d, c, cv, b, rfl, ha, ⟨fs, hd⟩, hcv, T, e, q⟩ := h
  obtain ⟨u1, u2, rfl, r1, r2⟩ := vals2 r
  have e2 := hcv.eq r2
  subst e2
  obtain rfl : u1 = Value.ref a := r1
  obtain ⟨⟨t1, hoa⟩, _, _⟩ := I.hok a _ ha
  obtain ⟨mA, hns, _⟩ : ObjOk X.prog X.w H s.heap d (.xd fs) := I.hok d _ hd
  obtain ⟨od, hod, _⟩ := lookIn_ns hns
  have J : PySem.W.InstAt s.heap a _ C (some od) := ⟨hoa, rfl, rfl, hod⟩
  exact PySem.W.kia_one (PySem.W.kitx_exc T.hcl T.hg T.hk T.hs T.ha T.hn T.ht T.hm) I.kIn J e (fun z => nomatch z) fun tk => ⟨.bl b, H, I.tok tk, rfl, q⟩
end
end L2

set_option Elab.async false
set_option linter.all false
set_option maxRecDepth 100000
set_option maxHeartbeats 4000000
/-! The hand layer's calls once more, where it is told that no repr runs around (A.guards). -/
namespace L2
open PySem PySem.Spec PyProof.Rows
abbrev RoomG (k : Nat) (A : Around) : Prop := Room k A ∧ A.guards = some []
theorem RoomG.mono {j k : Nat} {A : Around} (r : RoomG k A) (h : j ≤ k) : RoomG j A := ⟨r.1.mono h, r.2⟩
structure FnOkG (P : Program) (w : World) (K : PySem.W.Frag) (mg : Str → Option Value) (base : Heap) (CX : CXT) (k : Nat) (f : Addr) (fd : FuncData) (ps : List Str) (sp : Sp) : Prop where
  len : ∀ vs H Q E, sp vs H Q E → vs.length = ps.length
  run : ∀ (A : Around) (outer : List Env) (s : Shared) (H : Hp) (args : Args) (us : List Value) (vs : List V) (Q : VK) (E : XK), RoomG k A → Env0 P w K mg base A outer s H → BindsTo s fd args (ps.zip us) → Vals vs us → sp vs H Q E →
    codeAny (model P w) A (.call (.ref f) args) (CR CX outer P w H s Q E) s
theorem FnOk.g {P : Program} {w : World} {K : PySem.W.Frag} {mg : Str → Option Value} {base : Heap} {CX : CXT} {k : Nat} {f : Addr} {fd : FuncData} {ps : List Str} {sp : Sp} (F : FnOk P w K mg base CX k f fd ps sp) : FnOkG P w K mg base CX k f fd ps sp :=
  ⟨F.len, fun A outer s H args us vs Q E hr => F.run A outer s H args us vs Q E hr.1⟩
theorem FnOkG.imp {P : Program} {w : World} {K : PySem.W.Frag} {mg : Str → Option Value} {base : Heap} {CX : CXT} {k : Nat} {f : Addr} {fd : FuncData} {ps : List Str} {sp sp' : Sp} (F : FnOkG P w K mg base CX k f fd ps sp)
    (h : ∀ vs H Q E, sp' vs H Q E → sp vs H Q E) : FnOkG P w K mg base CX k f fd ps sp' :=
  ⟨fun vs H Q E q => F.len vs H Q E (h _ _ _ _ q), fun A outer s H args us vs Q E hr he hb hv hs => F.run A outer s H args us vs Q E hr he hb hv (h _ _ _ _ hs)⟩
section
variable {X : Cx} {CX : CXT} {k : Nat} {f C : Addr} {fd : FuncData} {ps : List Str} {sp : Sp} {dvs : List V} {ds : List Value} {E : XK} {x m : Str} {p pos apos : Pos} {e o : Expr} {es : List Expr} {ta : TE} {t : TA}
theorem run_fnG {pins : List (Addr × Obj)} {σ : St} {H : Hp} {s : Shared} {Q : VK} {us : List Value} {vs : List V} (F : FnOkG X.prog X.w X.K X.mg X.base CX k f fd ps sp) (hr : RoomG k X.A) (hb : Binds X.K fd ps ds) (hd : Vals dvs ds) (hx : Passes CX X E)
    (I : Inv X pins σ H s) (r : Vals vs us) (h : sp (vs ++ dvs) H Q E) : wpAny (model X.prog X.w) X.A (call (.ref f) us) (EP X pins σ Q) X.xe s := by
  have r2 : Vals (vs ++ dvs) (us ++ ds) := r.append hd
  have hl : (us ++ ds).length = ps.length := by rw [← r2.length]; exact F.len _ _ _ _ h
  refine wpAny_call (codeAny_mono (F.run X.A X.stack s H ⟨us, []⟩ (us ++ ds) (vs ++ dvs) Q E hr I.env0 (hb s us I.kIn hl) r2 h) fun r s' hq => ?_)
  cases r with
  | error e => exact hx pins σ H s e s' I hq
  | ok fl =>
    cases fl with
    | ret u => exact I.after hq
    | next => exact False.elim hq
    | brk => exact False.elim hq
    | cont => exact False.elim hq

theorem pe_callG (F : FnOkG X.prog X.w X.K X.mg X.base CX k f fd ps sp) (hr : RoomG k X.A) (hg : Gl X x) (hm : X.mg x = some (.ref f)) (hk : PySem.W.keepIn X.K (.ref f) = true) (hb : Binds X.K fd ps ds) (hd : Vals dvs ds) (hx : Passes CX X E)
    (ha : PA X (e :: es) t) (hdb : (x == ("__debug__" : Str)) = false := by decide) (he : starEach (e :: es) X.env = (false, eval e X.env) :: starEach es X.env := by rfl) (hpl : (backTo pos (starEach es X.env)).any (·.1) = false := by rfl) :
    PE X (.Call (.Name x p) (e :: es) [] pos) (tCall sp dvs E t) := by
  refine ⟨fun pins s σ H Q I h => ?_⟩
  refine wpAny_Call_Name_kw (ld_glob I hg hm ?_ hdb)
  refine PySem.W.callWith_K (h₀ := X.base) I.ok.mod.kin hk (thn (ha.run pos pins s σ H _ I h) fun us s1 ⟨vs, H1, I1, r, q⟩ => ⟨I1.kIn, ?_⟩) he hpl
  exact run_fnG F hr hb hd hx I1 r q
theorem pe_call0G (F : FnOkG X.prog X.w X.K X.mg X.base CX k f fd ps sp) (hr : RoomG k X.A) (hg : Gl X x) (hm : X.mg x = some (.ref f)) (hk : PySem.W.keepIn X.K (.ref f) = true) (hb : Binds X.K fd ps ds) (hd : Vals dvs ds) (hx : Passes CX X E)
    (hdb : (x == ("__debug__" : Str)) = false := by decide) : PE X (.Call (.Name x p) [] [] pos) (tCall sp dvs E tNil) := by
  refine ⟨fun pins s σ H Q I h => ?_⟩
  refine wpAny_Call_Name_kw (ld_glob I hg hm ?_ hdb)
  exact PySem.W.callWith_K0 I.kIn hk (run_fnG (us := []) F hr hb hd hx I .nil h)

/-- o.m(e, ..) -/
theorem pe_methG {pl : Sem Bool} (he : PE X o ta) (c : Cls X.K C) (hm : Meth X.K C m f) (F : FnOkG X.prog X.w X.K X.mg X.base CX k f fd ps sp) (hr : RoomG k X.A) (hb : Binds X.K fd ps ds) (hd : Vals dvs ds) (hx : Passes CX X E) (ha : PA X (e :: es) t)
    (hst : starEach (e :: es) X.env = (false, eval e X.env) :: starEach es X.env := by rfl) (hpl : (backTo pos (starEach es X.env)).any (·.1) = false := by rfl)
    (ht : eval (.Call (.Attribute o m apos) (e :: es) [] pos) X.env = (do
      let ov ← eval o X.env
      standAt apos.atName
      let (f, first) ← holding [ov] (getMethod ov m pl)
      callWith pos f first (backTo pos (starEach (e :: es) X.env)) (backToKw pos (keywordEach [] X.env))) := by rfl) :
    PE X (.Call (.Attribute o m apos) (e :: es) [] pos) (tMeth C m sp dvs E ta t) := by
  refine ⟨fun pins s σ H Q I h => ?_⟩
  refine PySem.W.methodCall_KW (pl := pl) (thn (he.run pins s σ H _ I h) fun u s1 ⟨x, H1, I1, rx, a, dx, fs, ex, ea, l, q⟩ => ?_) ht
  subst ex
  obtain rfl : u = Value.ref a := rx
  refine getmeth_ok I1 ea c hm l ?_
  refine PySem.W.callWith_K (first := [.ref a]) (h₀ := X.base) I.ok.mod.kin hm.kp (thn (ha.run pos pins s1 σ H1 _ I1 q) fun us s2 ⟨vs, H2, I2, r, q2⟩ => ⟨I2.kIn, ?_⟩) hst hpl
  exact run_fnG (us := .ref a :: us) (vs := .ref a :: vs) F hr hb hd hx I2 (.cons rfl r) q2
/-- o.m() -/
theorem pe_meth0G {pl : Sem Bool} (he : PE X o ta) (c : Cls X.K C) (hm : Meth X.K C m f) (F : FnOkG X.prog X.w X.K X.mg X.base CX k f fd ps sp) (hr : RoomG k X.A) (hb : Binds X.K fd ps ds) (hd : Vals dvs ds) (hx : Passes CX X E)
    (ht : eval (.Call (.Attribute o m apos) [] [] pos) X.env = (do
      let ov ← eval o X.env
      standAt apos.atName
      let (f, first) ← holding [ov] (getMethod ov m pl)
      callWith pos f first (backTo pos (starEach [] X.env)) (backToKw pos (keywordEach [] X.env))) := by rfl) :
    PE X (.Call (.Attribute o m apos) [] [] pos) (tMeth C m sp dvs E ta tNil) := by
  refine ⟨fun pins s σ H Q I h => ?_⟩
  refine PySem.W.methodCall_KW (pl := pl) (thn (he.run pins s σ H _ I h) fun u s1 ⟨x, H1, I1, rx, a, dx, fs, ex, ea, l, q⟩ => ?_) ht
  subst ex
  obtain rfl : u = Value.ref a := rx
  refine getmeth_ok I1 ea c hm l ?_
  exact PySem.W.callWith_K0 (first := [.ref a]) I1.kIn hm.kp (run_fnG (us := [.ref a]) (vs := [.ref a]) F hr hb hd hx I1 (.cons rfl .nil) q)

theorem run_makeG {pins : List (Addr × Obj)} {σ : St} {H : Hp} {s : Shared} {Q : VK} {us : List Value} {vs : List V} (M : Mk X.K C f) (F : FnOkG X.prog X.w X.K X.mg X.base CX k f fd ps sp) (hr : RoomG (k + 1) X.A) (hb : Binds X.K fd ps ds) (hd : Vals dvs ds)
    (hx : Passes CX X E) (I : Inv X pins σ H s) (r : Vals vs us)
    (h : ∀ x dx, H x = none → H dx = none → dx ≠ x → sp (.ref x :: (vs ++ dvs)) (upd (upd H dx (.own x)) x (.ins C dx [])) (fun v H2 => v = .non ∧ Q (.ref x) H2) E) :
    wpAny (model X.prog X.w) X.A (call (.ref C) us) (EP X pins σ Q) X.xe s := by
  have hq := h (s.heap.objs.size + 1) s.heap.objs.size (I.hok.fresh (Nat.le_succ _)) (I.hok.fresh (Nat.le_refl _)) (Nat.ne_of_lt (Nat.lt_succ_self _))
  have I2 := Inv.made (C := C) I
  have r2 : Vals (V.ref (s.heap.objs.size + 1) :: (vs ++ dvs)) (Value.ref (s.heap.objs.size + 1) :: (us ++ ds)) := .cons rfl (r.append hd)
  have hl : (Value.ref (s.heap.objs.size + 1) :: us ++ ds).length = ps.length := by
    have e := r2.length
    rw [F.len _ _ _ _ hq] at e
    exact e.symm
  refine wpAny_call (make_map (f := f) I.kIn M.makes M.init (beq_iff_eq.mp M.fn) (codeAny_mono (F.run _ X.stack _ _ ⟨Value.ref (s.heap.objs.size + 1) :: us, []⟩ (Value.ref (s.heap.objs.size + 1) :: (us ++ ds)) _ _ E ⟨hr.1.make C us [], hr.2⟩
    (I2.env0.make C us []) (hb _ (Value.ref (s.heap.objs.size + 1) :: us) I2.kIn hl) r2 hq) fun r s' hq' => ?_))
  cases r with
  | error e => exact hx pins σ _ _ e s' I2 hq'
  | ok fl =>
    cases fl with
    | ret u =>
      obtain ⟨v, H', I3, rv, ev, q3⟩ := I2.after hq'
      subst ev
      exact ⟨rv, ⟨V.ref (s.heap.objs.size + 1), H', I3, rfl, q3⟩⟩
    | next => exact False.elim hq'
    | brk => exact False.elim hq'
    | cont => exact False.elim hq'
theorem pe_makeG (M : Mk X.K C f) (F : FnOkG X.prog X.w X.K X.mg X.base CX k f fd ps sp) (hr : RoomG (k + 1) X.A) (hg : Gl X x) (hm : X.mg x = some (.ref C)) (hb : Binds X.K fd ps ds) (hd : Vals dvs ds) (hx : Passes CX X E)
    (ha : PA X (e :: es) t) (hdb : (x == ("__debug__" : Str)) = false := by decide) (he : starEach (e :: es) X.env = (false, eval e X.env) :: starEach es X.env := by rfl) (hpl : (backTo pos (starEach es X.env)).any (·.1) = false := by rfl) :
    PE X (.Call (.Name x p) (e :: es) [] pos) (tMake C sp dvs E t) := by
  refine ⟨fun pins s σ H Q I h => ?_⟩
  refine wpAny_Call_Name_kw (ld_glob I hg hm ?_ hdb)
  refine PySem.W.callWith_K (h₀ := X.base) I.ok.mod.kin M.kp (thn (ha.run pos pins s σ H _ I h) fun us s1 ⟨vs, H1, I1, r, q⟩ => ⟨I1.kIn, ?_⟩) he hpl
  exact run_makeG M F hr hb hd hx I1 r q
theorem pe_make0G (M : Mk X.K C f) (F : FnOkG X.prog X.w X.K X.mg X.base CX k f fd ps sp) (hr : RoomG (k + 1) X.A) (hg : Gl X x) (hm : X.mg x = some (.ref C)) (hb : Binds X.K fd ps ds) (hd : Vals dvs ds) (hx : Passes CX X E)
    (hdb : (x == ("__debug__" : Str)) = false := by decide) : PE X (.Call (.Name x p) [] [] pos) (tMake C sp dvs E tNil) := by
  refine ⟨fun pins s σ H Q I h => ?_⟩
  refine wpAny_Call_Name_kw (ld_glob I hg hm ?_ hdb)
  exact PySem.W.callWith_K0 I.kIn M.kp (run_makeG (us := []) M F hr hb hd hx I .nil h)
end
theorem fn_ofG {CX : CXT} {P : Program} {w : World} {K : PySem.W.Frag} {mg : Str → Option Value} {base : Heap} {k : Nat} {f : Addr} {name qual : Str} {params : Arguments} {body : List Stmt} {scope : Scope} {dV kV doc pm cdv ct oc : Value} {an od : Option Addr}
    {osl : Array (Option Value)} {N ps : List Str} {sp : Sp} (lk : K.lookup f = some ⟨oc, od, .func (PySem.W.fnOf name qual params body scope dV kV doc pm an cdv ct), osl⟩) (hcd : PySem.W.codeIn K cdv qual = true) (S : FnScope N ps scope)
    (len : ∀ vs H Q E, sp vs H Q E → vs.length = ps.length)
    (hbody : ∀ (A : Around) (outer : List Env) (s : Shared) (H : Hp) (vs : List V) (Q : VK) (E : XK), RoomG k (A.deeper (envOfC qual scope s.heap.objs.size f cdv)) → sp vs H Q E →
      ∃ t, PSs (cxOf CX P w K mg base N qual scope f cdv A outer s H E) body t ∧ t { nx := fun _ H' => Q .non H', rt := Q } (start N vs) H) :
    FnOkG P w K mg base CX (k + 1) f (PySem.W.fnOf name qual params body scope dV kV doc pm an cdv ct) ps sp := by
  refine ⟨len, fun A outer s H args us vs Q E hr e0 hb r hsp => ?_⟩
  have hl := len _ _ _ _ hsp
  have KX : K.In s.heap := e0.mod.kin.keeps fun b o e => (e0.bs b o e).1
  have lim : s.heap.NoLimit := e0.mod.nolimit.keeps fun b o e => (e0.bs b o e).1
  have hkind : ∀ y ∈ ps.zip us, scope.names.lookup y.1 = some .local ∨ (scope.names.lookup y.1 = some .cell ∧ ((cellsFrom (s.heap.objs.size + 1) scope.names []).lookup y.1).isSome = true) := fun ⟨n, v⟩ hy => by
    rcases S.par n (List.of_mem_zip hy).1 with q | q
    · exact .inl q
    · exact .inr ⟨q, PySem.W.cellsFrom_some _ _ _ (.inl q)⟩
  refine codeAny_call_function hr.1.depth (KX _ _ lk) rfl S.co S.gen rfl (PySem.W.codeRec_of KX hcd) (hb _ _ _ _ ?_)
  refine wpAny_newFunctionEnv_cells S.kind hkind fun env he s1 x => ?_
  subst he
  refine ⟨lim.keeps x.toInCall.keep, codeAny_func ?_⟩
  obtain ⟨t, ht, hq⟩ := hbody A outer s H vs Q E ⟨hr.1.deeper _, hr.2⟩ hsp
  have I : Inv (cxOf CX P w K mg base N qual scope f cdv A outer s H E) [] (start N vs) H s1 := inv_start S hr.1.hd e0 hl r x
  refine wpAny_mono (ht.run [] s1 (start N vs) H _ I hq) (fun fl s' hs => ?_) fun e s' hs => hs
  have fin : ∀ {σ' : St} {H' : Hp} {v : V} {u : Value}, Inv (cxOf CX P w K mg base N qual scope f cdv A outer s H E) [] σ' H' s' → RelV v u → Q v H' → CE outer P w H s Q u s' :=
    fun {σ' H' v u} J rv q => ⟨v, H', J.os, J.bare, J.base, J.hok, rv, q⟩
  cases fl with
  | ret u =>
    obtain ⟨v, σ', H', J, rv, q⟩ := hs
    exact fin J rv q
  | next =>
    obtain ⟨σ', H', J, q⟩ := hs
    exact fin (v := V.non) (u := Value.none) J rfl q
  | brk =>
    obtain ⟨_, _, _, q⟩ := hs
    exact False.elim q
  | cont =>
    obtain ⟨_, _, _, q⟩ := hs
    exact False.elim q

theorem Fun.okG {P : Program} {w : World} {K : PySem.W.Frag} {mg : Str → Option Value} {base : Heap} {x qual : Str} {st : Stmt} {f : Addr} {fd : FuncData} {N ps : List Str} {k : Nat} {sp : Sp} (F : Fun K x qual st f fd) (S : FnScope N ps (defScope st)) (len : ∀ vs H Q E, sp vs H Q E → vs.length = ps.length)
    (hbody : ∀ (cdv : Value) (A : Around) (outer : List Env) (s : Shared) (H : Hp) (vs : List V) (Q : VK) (E : XK), RoomG k (A.deeper (envOfC qual (defScope st) s.heap.objs.size f cdv)) → sp vs H Q E →
      ∃ t, PSs (cxOf CX0 P w K mg base N qual (defScope st) f cdv A outer s H E).nox (defBody st) t ∧ t { nx := fun _ H' => Q .non H', rt := Q } (start N vs) H) : FnOkG P w K mg base CX0 (k + 1) f fd ps sp := by
  obtain ⟨oc, od, kV, doc, pm, an, cdv, ct, osl, rfl, lk, hcd⟩ := F.ex
  refine fn_ofG lk hcd S len fun A outer s H vs Q E hr hsp => ?_
  obtain ⟨t, h, q⟩ := hbody cdv A outer s H vs Q E hr hsp
  exact ⟨t, h.nox, q⟩
theorem Fun.okXG {P : Program} {w : World} {K : PySem.W.Frag} {mg : Str → Option Value} {base : Heap} {x qual : Str} {st : Stmt} {f : Addr} {fd : FuncData} {N ps : List Str} {k : Nat} {sp : Sp} (F : Fun K x qual st f fd) (S : FnScope N ps (defScope st)) (len : ∀ vs H Q E, sp vs H Q E → vs.length = ps.length)
    (hbody : ∀ (cdv : Value) (A : Around) (outer : List Env) (s : Shared) (H : Hp) (vs : List V) (Q : VK) (E : XK), RoomG k (A.deeper (envOfC qual (defScope st) s.heap.objs.size f cdv)) → sp vs H Q E →
      ∃ t, PSs (cxOf (L2.CX P w) P w K mg base N qual (defScope st) f cdv A outer s H E) (defBody st) t ∧ t { nx := fun _ H' => Q .non H', rt := Q } (start N vs) H) : FnOkG P w K mg base (L2.CX P w) (k + 1) f fd ps sp := by
  obtain ⟨oc, od, kV, doc, pm, an, cdv, ct, osl, rfl, lk, hcd⟩ := F.ex
  exact fn_ofG lk hcd S len fun A outer s H vs Q E hr hsp => hbody cdv A outer s H vs Q E hr hsp
theorem law_callG {P : Program} {w : World} {K : PySem.W.Frag} {mg mb : Str → Option Value} {CX : CXT} {k : Nat} {fa a : Addr} {fd : FuncData} {x : Str} {sp : Sp} {s₁ : Shared} {vs : List Value} {ns : List Int}
    (KX : K.In s₁.heap) (hns : s₁.heap.Ns mainGlobals mg) (hb : s₁.heap.Ns builtinsNs mb) (hbb : ∀ x : Str, x ≠ "__name__" → mb x = bootBuiltins x) (hlim : s₁.heap.NoLimit) (hg : s₁.gens = #[])
    (ha : s₁.heap.get? a = some { cls := .type "list", data := .seq vs.toArray }) (hi : IntsAre vs ns) (hl : ns.length ≤ sizeLine) (hr : Room k callerA)
    (F : ∀ base : Heap, K.In base → base.Ns mainGlobals mg → FnOkG P w K mg base CX k fa fd [x] sp) (hbind : ∀ (s : Shared) (u : Value), BindsTo s fd ⟨[u], []⟩ [(x, u)])
    (hsp : ∀ H : Hp, Only H → SqL K H a (ns.map V.int) → sp [.ref a] H (fun v _ => v = .bl true) fun _ _ _ => False)
    (hCX : ∀ H e s', CX [] H s₁ (fun _ _ _ => False) e s' → False) :
    codeAny (model P w) callerA (.call (.ref fa) ⟨[.ref a], []⟩) (fun r s' => r = .ok (.ret (.bool true)) ∧ OldK s₁.heap s'.heap ∧ s'.os = s₁.os ∧ AllBare s'.gens) s₁ := by
  have rv := vals_ints hi
  have lenV := hi.length
  -- from an abstract heap in which nothing but the script may be tracked
  have core : ∀ H : Hp, Only H → SqL K H a (ns.map V.int) → HOk P w H s₁.heap → (∀ b, H b ≠ none → b = a) → (H a ≠ none → K.lookup a = none) →
      codeAny (model P w) callerA (.call (.ref fa) ⟨[.ref a], []⟩) (fun r s' => r = .ok (.ret (.bool true)) ∧ OldK s₁.heap s'.heap ∧ s'.os = s₁.os ∧ AllBare s'.gens) s₁ := by
    intro H hO hS hok hA hK
    have base_of : ∀ {b : Addr} {o : Obj}, s₁.heap.get? b = some o → H b = none → (hidT s₁.heap H).get? b = some o := fun e n => hidT_get e n
    have noA : ∀ {b : Addr} {o : Obj} {es : Array DictEntry} {ep : Nat}, s₁.heap.get? b = some o → o.data = .dict es ep → H b = none := fun {b o es ep} e d => by
      cases q : H b with
      | none => rfl
      | some u =>
        have e' : b = a := hA b (by rw [q]; simp)
        subst e'
        rw [ha] at e; cases e
        have d' : Data.seq vs.toArray _ = Data.dict es ep := d
        cases d'
    have nsK : ∀ {b : Addr} {m : Str → Option Value}, s₁.heap.Ns b m → (hidT s₁.heap H).Ns b m := fun {b m} ⟨o, es, ep, e, d, r⟩ => ⟨o, es, ep, base_of e (noA e d), d, r⟩
    have hKb : K.In (hidT s₁.heap H) := fun b o e => base_of (KX b o e) (by
      cases q : H b with
      | none => rfl
      | some u =>
        have e' : b = a := hA b (by rw [q]; simp)
        subst e'
        rw [hK (by rw [q]; simp)] at e; cases e)
    have hM : Mod K mg (hidT s₁.heap H) := ⟨hKb, nsK hns, ⟨mb, nsK hb, hbb⟩, let ⟨mc, h1, h2⟩ := hlim; ⟨mc, nsK h1, h2⟩⟩
    have e0 : Env0 P w K mg (hidT s₁.heap H) callerA [] s₁ H := ⟨rfl, hM, fun b o e => of_hidT e, Nat.le_of_eq (hidT_size _ _), trivial, fun b hb => absurd (show b ∈ ([] : List Addr) from hb) (by simp), hok, .of_eq hg⟩
    refine codeAny_mono ((F _ hKb (nsK hns)).run callerA [] s₁ H ⟨[.ref a], []⟩ [.ref a] [.ref a] _ _ ⟨hr, rfl⟩ e0 (hbind s₁ (.ref a)) (.cons rfl .nil) (hsp H hO hS)) fun r s' h => ?_
    cases r with
    | error e => exact (hCX H e s' h).elim
    | ok fl =>
      cases fl with
      | next => exact False.elim h
      | brk => exact False.elim h
      | cont => exact False.elim h
      | ret u =>
        obtain ⟨v, H', os, bare, un, hok', r', q⟩ := h
        have q' : v = .bl true := q
        subst q'
        obtain rfl : u = Value.bool true := r'
        refine ⟨rfl, OldK.of_keep fun b o e => ?_, os, bare⟩
        cases q : H b with
        | none => exact un.keep b o e q (by intro z; exact absurd (show b ∈ ([] : List Addr) from z) (by simp)) (by simp)
        | some u =>
          rcases hO b with z | ⟨ob, xs, z⟩
          · rw [q] at z; cases z
          · have z2 := un.frzs b ob _ z
            obtain ⟨e1, _⟩ := hok b _ z
            obtain ⟨e2, _⟩ := hok' b _ z2
            rw [e] at e1; cases e1
            exact e2
  cases hk : K.lookup a with
  | some o =>
    -- the script is one of the module's own objects
    have e := KX a o hk
    rw [ha] at e
    cases e
    refine core (fun _ => none) (fun _ => .inl rfl) (.inr ⟨_, vs.toArray, _, hk, rfl, rfl, rfl, by rw [List.size_toArray, lenV]; exact hl, by simpa using rv⟩) (fun b u z => by have z' : (none : Option HO) = some u := z; cases z') (fun b z => absurd rfl z) fun z => absurd rfl z
  | none =>
    refine core (fun b => if b = a then some (.frz { cls := .type "list", data := .seq vs.toArray } (.lst (ns.map V.int))) else none) (fun b => ?_) (.inl (.inr ⟨{ cls := .type "list", data := .seq vs.toArray }, if_pos rfl⟩)) (fun b u z => ?_) (fun b z => ?_) fun _ => hk
    · by_cases hb : b = a
      · exact .inr ⟨_, _, if_pos hb⟩
      · exact .inl (if_neg hb)
    · by_cases hb : b = a
      · have z' := (if_pos hb).symm.trans z
        cases z'
        subst hb
        exact ⟨ha, by rw [List.length_map]; exact hl, vs, _, rv, ha⟩
      · have z' := (if_neg hb).symm.trans z
        cases z'
    · by_cases hb : b = a
      · exact hb
      · exact absurd (if_neg hb) z
theorem walk_ofG {l : PySem.W.OpenLaw} {n k : Nat} {q : Program} {loose : List Str} {XP : (Str → Option Value) → Heap → Prop} {YP : World → Heap → Prop} {d : DefRec} {K : Params → PySem.W.Frag} {CX : World → CXT} {sp : World → Sp} {x : Str}
    (hn : l.most = some n) (hn2 : n ≤ sizeLine) (hdf : d.params.defaults = []) (hr : Room k callerA)
    (hY : ∀ (w : World) (h : Heap), YP w h → (K w.params).In h)
    (F : ∀ (w : World) (mg : Str → Option Value) (fa : Addr) (h : Heap), (K w.params).In h → h.Ns mainGlobals mg → mg d.name = some (.ref fa) →
      ∃ fd : FuncData, (∀ (s : Shared) (u : Value), BindsTo s fd ⟨[u], []⟩ [(x, u)]) ∧
        ∀ base : Heap, (K w.params).In base → base.Ns mainGlobals mg → FnOkG l.prog w (K w.params) mg base (CX w) k fa fd [x] (sp w))
    (hsp : ∀ (w : World) (H : Hp) (a : Addr) (ns : List Int), ns.length ≤ n → Only H → SqL (K w.params) H a (ns.map V.int) → sp w [.ref a] H (fun v _ => v = .bl true) fun _ _ _ => False)
    (hCX : ∀ (w : World) (H : Hp) (s : Shared) (e : Value) (s' : Shared), CX w [] H s (fun _ _ _ => False) e s' → False) :
    PySem.W.WalkO q loose XP YP l.row.toRowW d [] (fun f vs => PySem.call f vs) := by
  refine Att.attach_call hn hdf fun w s₀ s₁ mg mb fa o pm cd doc a vs ns G Y ho hd hcd hmg hobj hints hlen hg => ?_
  have KX := hY w _ Y
  obtain ⟨fd, hb, hF⟩ := F w mg fa _ KX G.T.g hmg
  exact law_callG KX G.T.g G.T.b G.T.builtins G.T.nolimit hg hobj hints (Nat.le_trans hlen hn2) hr hF hb (fun H hO hS => hsp w H a ns hlen hO hS) fun H e s' => hCX w H s₁ e s'

end L2

set_option Elab.async false
set_option linter.all false
set_option maxRecDepth 100000
set_option maxHeartbeats 4000000
namespace L2
open PySem PySem.Spec PyProof.Rows
def keyD : Key → PyData
  | .inl i => .int i
  | .inr x => .str x
/-- a scalar -/
inductive Sc : V → PyData → Prop
  | non : Sc .non .none
  | bl (b : Bool) : Sc (.bl b) (.bool b)
  | int (i : Int) : Sc (.int i) (.int i)
  | str (x : Str) : Sc (.str x) (.str x)
theorem Sc.reads {h : Heap} : ∀ {v : V} {d : PyData} {u : Value}, Sc v d → RelV v u → Reads h u d []
  | _, _, _, .non, r => by cases r; exact .none
  | _, _, _, .bl b, r => by cases r; exact .bool b
  | _, _, _, .int i, r => by obtain ⟨t, rfl⟩ := r; exact .int i t
  | _, _, _, .str x, r => by obtain ⟨t, rfl⟩ := r; exact .str x t
theorem Sc.readsAll {h : Heap} : ∀ {vs : List V} {ds : List PyData} {us : List Value}, Paired Sc vs ds → Vals vs us → ReadsAll h us ds []
  | _, _, _, .nil, .nil => .nil
  | _, _, _, .cons a b, .cons r t => by
    have := ReadsAll.cons (a.reads (h := h) r) (Sc.readsAll b t)
    simpa using this
/-- repr of data without dicts, or of a dict of scalars -/
def rReprD (K : PySem.W.Frag) : List V → Hp → VK → Prop := fun xs H Q => ∃ (v : V) (d : PyData), xs = [v] ∧
  ((Dp K H v d ∧ d.hasDict = false) ∨ ∃ (a : Addr) (kvs : List (Key × V)) (ds : List PyData), v = .ref a ∧ H a = some (.dK kvs) ∧ Paired Sc (kvs.map (·.2)) ds ∧ d = .dict ((kvs.map fun p => keyD p.1).zip ds)) ∧
  d.showable = true ∧ d.shown.length ≤ sizeLine ∧ d.depth ≤ 50 ∧ Q (.str d.shown) H
theorem keys_read {P : Program} {w : World} {h : Heap} : ∀ {es : List DictEntry} {kvs : List (Key × Value)}, Pairs (mixKind P w) es kvs → ReadsAll h (es.map (·.key)) (kvs.map fun p => keyD p.1) [] ∧ es.map (·.val) = kvs.map (·.2)
  | _, _, .nil => ⟨.nil, rfl⟩
  | _, _, .cons (e := e) (kv := kv) a b c => by
    obtain ⟨r1, r2⟩ := keys_read c
    refine ⟨?_, by rw [List.map_cons, List.map_cons, b, r2]⟩
    have k1 : Reads h e.key (keyD kv.1) [] := by
      rcases keyIs_shape (show keyIs kv.1 e.key = true from a) with ⟨i, t, e1, e2⟩ | ⟨x, t, e1, e2⟩
      · rw [e1, e2]
        exact .int i t
      · rw [e1, e2]
        exact .str x t
    have := ReadsAll.cons k1 r1
    simpa using this
section
variable {X : Cx}
theorem call_reprD (hg : X.A.guards = some []) (hu : X.A.units + 64 < cLine) : CallR X (.builtin "repr") (rReprD X.K) := by
  intro pins s σ H xs us Q I r h
  obtain ⟨v, d, rfl, hv, hs, hz, hdp, q⟩ := h
  obtain ⟨u, rfl, rv⟩ := vals1 r
  have fin : ∀ (as : List Addr), Reads s.heap u d as → (d.hasDict = true → sysModules ∉ as) → wpAny (model X.prog X.w) X.A (call (.builtin "repr") [u]) (EP X pins σ Q) X.xe s := by
    intro as hr hno
    cases hr with
    | none => exact PySem.P.repr_of_none ⟨.str _, H, I.tok _, ⟨_, rfl⟩, q⟩
    | bool b => exact PySem.P.repr_of_bool ⟨.str _, H, I.tok _, ⟨_, rfl⟩, q⟩
    | int i t => exact PySem.P.repr_of_int (by simpa [PyData.showable] using hs) ⟨.str _, H, I.tok _, ⟨_, rfl⟩, q⟩
    | str x t => exact PySem.P.repr_of_str ⟨.str _, H, I.tok _, ⟨_, rfl⟩, q⟩ hz
    | list a b c e => exact repr_of_reads' (.list a b c e) hs hno hg (by omega) (fun _ _ z => z) (fun h' u' tk k => ⟨.str _, H, I.kept (t' := tk) k, ⟨_, rfl⟩, q⟩) hz
    | tuple a b c e => exact repr_of_reads' (.tuple a b c e) hs hno hg (by omega) (fun _ _ z => z) (fun h' u' tk k => ⟨.str _, H, I.kept (t' := tk) k, ⟨_, rfl⟩, q⟩) hz
    | dict a b c e f => exact repr_of_reads' (.dict a b c e f) hs hno hg (by omega) (fun _ _ z => z) (fun h' u' tk k => ⟨.str _, H, I.kept (t' := tk) k, ⟨_, rfl⟩, q⟩) hz
  rcases hv with ⟨hd, hno⟩ | ⟨a, kvs, ds, rfl, ha, hp, rfl⟩
  · obtain ⟨as, hr⟩ := Dp.reads I d v u hd rv
    exact fin as hr fun z => by rw [hno] at z; cases z
  · obtain rfl : u = Value.ref a := rv
    obtain ⟨_, hsys, vs, kv, o, es, ep, ho, hE, hD, _, hP, _⟩ : ObjOk X.prog X.w H s.heap a (.dK kvs) := I.hok a _ ha
    obtain ⟨kr, vr⟩ := keys_read (h := s.heap) hP
    have e1 : ∀ {l1 : List (Key × V)} {l2 : List (Key × Value)}, KV l1 l2 → (l2.map fun p => keyD p.1) = (l1.map fun p => keyD p.1) ∧ Vals (l1.map (·.2)) (l2.map (·.2)) := by
      intro l1 l2 hk
      induction hk with
      | nil => exact ⟨rfl, .nil⟩
      | cons a _ ih => exact ⟨by rw [List.map_cons, List.map_cons, a.1, ih.1], .cons a.2 ih.2⟩
    obtain ⟨ek, ev⟩ := e1 kv
    have hlen : (kvs.map fun p => keyD p.1).length = ds.length := by
      have := Paired.length hp
      simpa using this
    have vr2 : ReadsAll s.heap (es.toList.map (·.val)) ds [] := by
      rw [vr]
      exact Sc.readsAll hp ev
    have R : Reads s.heap (.ref a) (.dict ((kvs.map fun p => keyD p.1).zip ds)) (a :: [] ++ []) :=
      .dict ho hE.1 hD (by rw [List.map_fst_zip (Nat.le_of_eq hlen), ← ek]; exact kr) (by rw [List.map_snd_zip (Nat.le_of_eq hlen.symm)]; exact vr2)
    exact fin _ R fun _ z => by
      have : sysModules = a := by simpa using z
      rw [this] at hsys
      simp at hsys
end
end L2

set_option Elab.async false
set_option linter.all false
set_option maxRecDepth 100000
set_option maxHeartbeats 4000000
namespace Dv
open PySem L2 Evl
/-- the type of a datum by its name -/
def tyD : PyData → String
  | .none => "NoneType"
  | .bool _ => "bool"
  | .int _ => "int"
  | .str _ => "str"
  | .list _ => "list"
  | .tuple _ => "tuple"
  | .dict _ => "dict"
def isD (d : PyData) (T : String) : Bool := tyD d == T || (T == "int" && tyD d == "bool")
section
variable {K : PySem.W.Frag} {σ : L2.St} {F F1 H H1 : Hp} {te ta tb : TE} {d a b : PyData} {ds es : List PyData} {i j : Int} {tt tu : TT} {p q : Bool}
theorem tyx_of {v : V} (h : Dp K H v d) : TyX K H v (.type (tyD d)) := by
  cases h with
  | non => exact .base .non
  | bl b => exact .base (.bl b)
  | int i => exact .base (.int i)
  | str x => exact .base (.str x)
  | lst hs _ =>
    rcases hs with (h | ⟨o, h⟩) | ⟨o, its, n, hk, hc, _⟩
    · exact .base (.lst h)
    · exact .base (.frz h)
    · exact .kList hk hc
  | tup hs _ =>
    rcases hs with (h | ⟨o, h⟩) | ⟨o, its, n, hk, hc, _⟩
    · exact .base (.tup h)
    · exact .fTuple h
    · exact .kTuple hk hc
/-- the answers of isinstance for the built-in types -/
def tys : List String := ["int", "bool", "str", "list", "tuple", "dict"]
theorem kit_ty {T : String} (hT : T ∈ tys) (hd : ∀ kv, d ≠ .dict kv) : PySem.W.kitOne K (.type (tyD d)) (.type T) = some (isD d T) := by
  have e : ∀ t ∈ ["NoneType", "bool", "int", "str", "list", "tuple"], ∀ T ∈ tys, PySem.W.kitOne ([] : PySem.W.Frag) (.type t) (.type T) = some (t == T || (T == "int" && t == "bool")) := by decide +kernel
  have e2 : PySem.W.kitOne K (.type (tyD d)) (.type T) = PySem.W.kitOne ([] : PySem.W.Frag) (.type (tyD d)) (.type T) := rfl
  rw [e2]
  refine e _ ?_ T hT
  cases d <;> simp [tyD]
  exact absurd rfl (hd _)
theorem dp_nodict {v : V} (h : Dp K H v d) : ∀ kv, d ≠ .dict kv := by
  intro kv e
  subst e
  cases h
theorem ev_isi {T : String} (h : EvD K ta σ F d) (hT : T ∈ tys) : EvD K (tCB (rIsi K) (tCons ta (tCons (tC (.ty T)) tNil))) σ F (.bool (isD d T)) := fun H e Q q =>
  h H e _ fun v F' H' g hv => ⟨v, .ty T, _, _, _, rfl, .ty T, tyx_of (dp_ex g.fh hv), kit_ty hT (dp_nodict hv), q _ F' H' g (.bl _)⟩
theorem ev_abs (h : EvD K ta σ F (.int i)) : EvD K (tCB (fun xs H Q => ∃ i, xs = [.int i] ∧ Q (.int (if i < 0 then -i else i)) H) (tCons ta tNil)) σ F (.int (i.natAbs : Int)) := fun H e Q q =>
  h H e _ fun v F' H' g hv => by
    cases hv
    refine ⟨i, rfl, q _ F' H' g ?_⟩
    have : (if i < 0 then -i else i) = (i.natAbs : Int) := by split <;> omega
    rw [this]
    exact .int _
theorem ev_int1 (h : EvD K ta σ F (.int i)) : EvD K (tCB (fun xs H Q => (∃ i, xs = [.int i] ∧ Q (.int i) H) ∨ ∃ k, xs = [.bl k] ∧ Q (.int (if k then 1 else 0)) H) (tCons ta tNil)) σ F (.int i) := fun H e Q q =>
  h H e _ fun v F' H' g hv => by
    cases hv
    exact .inl ⟨i, rfl, q _ F' H' g (.int _)⟩
/-- len -/
def lenD : PyData → Option Nat
  | .list ds => some ds.length
  | .tuple ds => some ds.length
  | .str x => some x.length
  | _ => none
theorem ev_len {n : Nat} (h : EvD K ta σ F d) (hl : lenD d = some n) (hn : n ≤ 100000) : EvD K (tCB (fun xs H Q => ∃ x n, xs = [x] ∧ LenV K x H n ∧ Q (.int n) H) (tCons ta tNil)) σ F (.int (n : Int)) := fun H e Q q =>
  h H e _ fun v F' H' g hv => by
    refine ⟨v, n, rfl, ?_, q _ F' H' g (.int _)⟩
    have hv' := dp_ex g.fh hv
    cases hv' with
    | str x => cases hl; exact ⟨sz_of hn, rfl⟩
    | lst hs ha => cases hl; exact .inl ⟨_, hs, (dps_len ha).symm⟩
    | tup hs ha => cases hl; exact .inr ⟨_, hs, (dps_len ha).symm⟩
    | non => cases hl
    | bl b => cases hl
    | int i => cases hl
/-- list(..) of a list or a tuple: a new list; tuple(..) of a list -/
theorem el_list (h : EvD K ta σ F d) (hd : d = .list ds ∨ d = .tuple ds) : EvL K (tCB (fun xs H Q => ∃ p ys, xs = [.ref p] ∧ (SqL K H p ys ∨ SqT K H p ys) ∧ ∀ l, H l = none → Q (.ref l) (upd H l (.lst ys))) (tCons ta tNil)) σ F ds := fun H e Q q =>
  h H e _ fun v F' H' g hv => by
    rcases hd with rfl | rfl
    · cases hv with
      | lst hs ha => exact ⟨_, _, rfl, .inl (ex_l g.fh hs), fun l hl => q l _ F' _ (g.trans (Gr.only g.fh hl)) (ex_none g.hx hl) (ex_none g.fh hl) upd_same ha⟩
    · cases hv with
      | tup hs ha => exact ⟨_, _, rfl, .inr (ex_t g.fh hs), fun l hl => q l _ F' _ (g.trans (Gr.only g.fh hl)) (ex_none g.hx hl) (ex_none g.fh hl) upd_same ha⟩
theorem ev_tuple (h : EvD K ta σ F (.list ds)) : EvD K (tCB (fun xs H Q => ∃ p ys, xs = [.ref p] ∧ ((SqL K H p ys ∧ ∀ l, H l = none → Q (.ref l) (upd H l (.tup ys))) ∨ (SqT K H p ys ∧ Q (.ref p) H))) (tCons ta tNil)) σ F (.tuple ds) := fun H e Q q =>
  h H e _ fun v F' H' g hv => by
    cases hv with
    | lst hs ha => exact ⟨_, _, rfl, .inl ⟨ex_l g.fh hs, fun l hl => q _ _ _ (g.trans (Gr.new g.fh hl)) (.tup (st_of upd_same) (dps_ex (Ex.new (ex_none g.fh hl)) ha))⟩⟩
/-- slices of a list -/
def cutD (ds : List PyData) (lo hi : Option Int) : List PyData := (ds.drop (HT.sIx ds.length 0 lo)).take (HT.sIx ds.length ds.length hi - HT.sIx ds.length 0 lo)
theorem dps_drop : ∀ (n : Nat) {ds : List PyData} {vs : List V}, DpAll K F vs ds → DpAll K F (vs.drop n) (ds.drop n)
  | 0, _, _, h => h
  | n + 1, [], _, h => by cases h; exact .nil
  | n + 1, _ :: _, _, h => by cases h with | cons h1 h2 => exact dps_drop n h2
theorem dps_take : ∀ (n : Nat) {ds : List PyData} {vs : List V}, DpAll K F vs ds → DpAll K F (vs.take n) (ds.take n)
  | 0, _, _, _ => .nil
  | n + 1, [], _, h => by cases h; exact .nil
  | n + 1, _ :: _, _, h => by cases h with | cons h1 h2 => exact .cons h1 (dps_take n h2)
theorem el_sl {tl th : TO} {lo hi : Option Int} (h : EvD K te σ F (.list ds)) (h1 : EoD tl σ F lo) (h2 : EoD th σ F hi) : EvL K (tSl (rSlL K) te tl th) σ F (cutD ds lo hi) := fun H e Q q =>
  h H e _ fun v F1 H1 g1 hv => (h1.mono g1.fx) H1 g1.fh _ fun F2 H2 g2 => (h2.mono (g1.fx.trans g2.fx)) H2 g2.fh _ fun F3 H3 g3 => by
    cases hv with
    | lst hs ha =>
      have e3 := (g2.fx.trans g3.fx)
      have l := dps_len ha
      refine ⟨_, _, rfl, ex_l (e3.trans g3.fh) hs, fun p hp => q p _ F3 _ ((g1.trans (g2.trans g3)).trans (Gr.only g3.fh hp)) (ex_none (g1.trans (g2.trans g3)).hx hp) (ex_none g3.fh hp) upd_same ?_⟩
      unfold cutV cutD
      rw [l]
      exact dps_take _ (dps_drop _ (dps_ex e3 ha))
end
end Dv

set_option Elab.async false
set_option linter.all false
set_option maxRecDepth 100000
set_option maxHeartbeats 4000000
namespace Dv
open PySem PySem.Spec PyProof.Rows L2 Evl
/-- a def that can be called: its name stands for it, and it does what sp says -/
structure Cal (P : Program) (w : World) (K : PySem.W.Frag) (mg : Str → Option Value) (base : Heap) (nm : Str) (ps : List Str) (k : Nat) (sp : Sp) : Prop where
  ex : ∃ f fd, mg nm = some (.ref f) ∧ PySem.W.keepIn K (.ref f) = true ∧ Binds K fd ps [] ∧ FnOkG P w K mg base CX0 k f fd ps sp ∧ ∃ oc od osl, K.lookup f = some ⟨oc, od, .func fd, osl⟩
/-- what the module says of a def -/
structure Def (K : PySem.W.Frag) (mg : Str → Option Value) (nm : Str) (st : Stmt) (ps : List Str) : Prop where
  ex : ∃ f fd, mg nm = some (.ref f) ∧ Fun K nm nm st f fd ∧ Binds K fd ps []
section
variable {P : Program} {w : World} {K : PySem.W.Frag} {mg : Str → Option Value} {base : Heap} {nm : Str} {st : Stmt} {N ps : List Str} {k : Nat} {sp : Sp}
theorem cal_mk (D : Def K mg nm st ps) (S : FnScope N ps (defScope st)) (len : ∀ vs H Q E, sp vs H Q E → vs.length = ps.length)
    (hbody : ∀ (f : Addr) (cdv : Value) (A : Around) (outer : List Env) (s : Shared) (H : Hp) (vs : List V) (Q : VK) (E : XK), RoomG k (A.deeper (envOfC nm (defScope st) s.heap.objs.size f cdv)) → sp vs H Q E →
      ∃ t, PSs (cxOf CX0 P w K mg base N nm (defScope st) f cdv A outer s H E).nox (defBody st) t ∧ t { nx := fun _ H' => Q .non H', rt := Q } (start N vs) H) : Cal P w K mg base nm ps (k + 1) sp := by
  obtain ⟨f, fd, g, F, b⟩ := D.ex
  obtain ⟨oc, od, kV, doc, pm, an, cdv, ct, osl, e, lk, hcd⟩ := F.ex
  exact ⟨f, fd, g, F.kp, b, F.okG S len (hbody f), oc, od, osl, lk⟩
theorem len_D {f : List PyData → PyData → Prop} {n : Nat} (h : ∀ ds d, f ds d → ds.length = n) : ∀ vs H Q E, spD K f vs H Q E → vs.length = n := fun _ _ _ _ ⟨_, _, _, _, hv, hf, _⟩ => (dps_len hv).trans (h _ _ hf)
theorem len_N {f : List PyData → List PyData → Prop} {n : Nat} (h : ∀ ds d, f ds d → ds.length = n) : ∀ vs H Q E, spN K f vs H Q E → vs.length = n := fun _ _ _ _ ⟨_, _, _, _, hv, hf, _⟩ => (dps_len hv).trans (h _ _ hf)
end
section
variable {X : Cx} {x : Str} {p pos : Pos} {e : Expr} {es : List Expr} {t : TA} {k j : Nat} {ps : List Str} {sp : Sp}
theorem pe_callC (C : Cal X.prog X.w X.K X.mg X.base x ps k sp) (hr : RoomG j X.A) (ha : PA X (e :: es) t) (hg : Gl X x := by rfl) (hj : k ≤ j := by decide) (hdb : (x == ("__debug__" : Str)) = false := by decide)
    (he : starEach (e :: es) X.env = (false, eval e X.env) :: starEach es X.env := by rfl) (hpl : (backTo pos (starEach es X.env)).any (·.1) = false := by rfl) : PE X (.Call (.Name x p) (e :: es) [] pos) (tCall sp [] E0 t) := by
  obtain ⟨f, fd, g, kp, b, G, _⟩ := C.ex
  exact pe_callG G (hr.mono hj) hg g kp b .nil pass0 ha hdb he hpl
end
section
variable {K : PySem.W.Frag} {σ : L2.St} {F : Hp} {te ta tb : TE} {d a b : PyData} {tt tu : TT} {p q : Bool}
/-! ### tests whose first part decides -/
theorem et_orT (h : EtD tt σ F true) : EtD (tOr tt tu) σ F true := et_or (q := true) h fun z => nomatch z
theorem et_orF (h : EtD tt σ F false) (h2 : EtD tu σ F q) : EtD (tOr tt tu) σ F q := et_or h fun _ => h2
theorem et_andF (h : EtD tt σ F false) : EtD (tAnd tt tu) σ F false := et_and (q := false) h fun z => nomatch z
theorem et_andT (h : EtD tt σ F true) (h2 : EtD tu σ F q) : EtD (tAnd tt tu) σ F q := et_and h fun _ => h2
theorem ev_orT (h : EvD K ta σ F (.bool true)) : EvD K (tOrV ta tb) σ F (.bool true) := ev_orV (q := true) h fun z => nomatch z
theorem ev_orF (h : EvD K ta σ F (.bool false)) (h2 : EvD K tb σ F (.bool q)) : EvD K (tOrV ta tb) σ F (.bool q) := ev_orV h fun _ => h2
theorem ev_andF (h : EvD K ta σ F (.bool false)) : EvD K (tAndV ta tb) σ F (.bool false) := ev_andV (q := false) h fun z => nomatch z
theorem ev_andT (h : EvD K ta σ F (.bool true)) (h2 : EvD K tb σ F (.bool q)) : EvD K (tAndV ta tb) σ F (.bool q) := ev_andV h fun _ => h2
theorem ev_ifT (h : EtD tt σ F true) (h1 : EvD K ta σ F d) : EvD K (tIf tt ta tb) σ F d := ev_if h (fun _ => h1) fun z => nomatch z
theorem ev_ifF (h : EtD tt σ F false) (h1 : EvD K tb σ F d) : EvD K (tIf tt ta tb) σ F d := ev_if h (fun z => nomatch z) fun _ => h1
theorem s_ifT {ts tw : TS} {D : Ends} {H : Hp} (h : EtD tt σ F true) (e : Ex F H) (k : ∀ F' H', Gr F H F' H' → ts D σ H') : tIfS tt ts tw D σ H := s_if h e (fun _ => k) fun z => nomatch z
theorem s_ifF {ts tw : TS} {D : Ends} {H : Hp} (h : EtD tt σ F false) (e : Ex F H) (k : ∀ F' H', Gr F H F' H' → tw D σ H') : tIfS tt ts tw D σ H := s_if h e (fun z => nomatch z) fun _ => k
theorem et_notT (h : EtD tt σ F true) : EtD (tNot tt) σ F false := et_not h
theorem et_notF (h : EtD tt σ F false) : EtD (tNot tt) σ F true := et_not h
theorem et_v (h : EvD K te σ F d) (e : d = .bool p) : EtD (tTest te) σ F p := et_test (by rw [← e]; exact h)
theorem one {vs : List V} {a : PyData} (h : DpAll K F vs [a]) : ∃ x, vs = [x] ∧ Dp K F x a := by
  cases h with
  | cons h1 h =>
  cases h
  exact ⟨_, rfl, h1⟩
theorem two {vs : List V} {a b : PyData} (h : DpAll K F vs [a, b]) : ∃ x y, vs = [x, y] ∧ Dp K F x a ∧ Dp K F y b := by
  cases h with
  | cons h1 h =>
  cases h with
  | cons h2 h =>
  cases h
  exact ⟨_, _, rfl, h1, h2⟩
theorem three {vs : List V} {a b c : PyData} (h : DpAll K F vs [a, b, c]) : ∃ x y z, vs = [x, y, z] ∧ Dp K F x a ∧ Dp K F y b ∧ Dp K F z c := by
  cases h with
  | cons h1 h =>
  obtain ⟨x, y, rfl, h2, h3⟩ := two h
  exact ⟨_, _, _, rfl, h1, h2, h3⟩
end
end Dv

set_option Elab.async false
set_option linter.all false
set_option maxRecDepth 100000
set_option maxHeartbeats 4000000
namespace R3
open PySem PySem.Spec PyProof.Rows L2 Dv
def top (i : Nat) : Stmt := PySem.Challenge.pw_wholemills_k40_edges_and_brinks.main.body.getD i (.Pass ⟨0, 0, 0, 0⟩)
abbrev sWall : Stmt := top 0
abbrev sIsWhole : Stmt := top 12
abbrev sIsName : Stmt := top 13
abbrev sCommonDivisor : Stmt := top 14
abbrev sFraction : Stmt := top 15
abbrev sIsFraction : Stmt := top 16
abbrev sIsAmount : Stmt := top 17
abbrev sMinus : Stmt := top 18
abbrev sScaled : Stmt := top 19
abbrev sBelow : Stmt := top 20
abbrev sLesser : Stmt := top 21
abbrev sCheckSize : Stmt := top 27
abbrev sIsNumber : Stmt := top 28
abbrev sIsStuff : Stmt := top 29
abbrev sAreParts : Stmt := top 30
abbrev sIsRecipe : Stmt := top 31
abbrev sCheckMill : Stmt := top 32
abbrev sNumbersOf : Stmt := top 33
abbrev sIsBounds : Stmt := top 35
abbrev sIsBox : Stmt := top 36
abbrev sCheckBox : Stmt := top 37
abbrev sCheckClosed : Stmt := top 39
abbrev sSidesOf : Stmt := top 40
abbrev sEdgesOf : Stmt := top 41
abbrev sEdges : Stmt := top 42
abbrev sCheckRecipe : Stmt := top 45
abbrev sBrinks : Stmt := top 46
abbrev sLawHash : Stmt := top 48
abbrev sLawRandom : Stmt := top 49
abbrev sLawEdges : Stmt := top 50
abbrev sLawFraction : Stmt := top 51
abbrev sLawLess : Stmt := top 52
abbrev sLawFewer : Stmt := top 53
abbrev sLawMost : Stmt := top 54
abbrev sLawRest : Stmt := top 55
abbrev sLawBrinkSides : Stmt := top 56
abbrev sLawBrinks : Stmt := top 57
abbrev sLawRecipe : Stmt := top 58
abbrev sLawSum : Stmt := top 59
abbrev sLawMoved : Stmt := top 60
abbrev sLawSide : Stmt := top 61
abbrev sLawFits : Stmt := top 62
abbrev sLawTurn : Stmt := top 63
abbrev sLawStepped : Stmt := top 64
abbrev sLawGenerator : Stmt := top 65
abbrev sLawProduct : Stmt := top 66
abbrev sLawBetween : Stmt := top 67
abbrev sLawMore : Stmt := top 68
abbrev sLawBoxDrawn : Stmt := top 69
abbrev sLawStuffsDrawn : Stmt := top 70
abbrev sLawRecipeDrawn : Stmt := top 71
abbrev sLawEdgesGood : Stmt := top 72
abbrev sLawBrinksGood : Stmt := top 73
abbrev sLawCaught : Stmt := top 74
abbrev sLawRefused : Stmt := top 75
abbrev sLaw : Stmt := top 76
/-- the built-in names that the module does not hold -/
structure Bl (mg : Str → Option Value) : Prop where
  int : mg "int" = none
  bool : mg "bool" = none
  str : mg "str" = none
  list : mg "list" = none
  tuple : mg "tuple" = none
  dict : mg "dict" = none
  len : mg "len" = none
  range : mg "range" = none
  sum : mg "sum" = none
  max : mg "max" = none
  abs : mg "abs" = none
  isi : mg "isinstance" = none
  repr : mg "repr" = none
  zip : mg "zip" = none
  enum : mg "enumerate" = none
section
variable {P : Program} {w : World} {K : PySem.W.Frag} {mg : Str → Option Value} {base : Heap}
/-! ### common_divisor, fraction -/
def spGcd : Sp := fun vs H Q _ => ∃ a b : Nat, vs = [.int a, .int b] ∧ Q (.int (Nat.gcd a b : Nat)) H
theorem sc_common_divisor : FnScope (["one", "other"] : List Str) (["one", "other"] : List Str) (defScope sCommonDivisor) := ⟨rfl, rfl, rfl, by decide +kernel, rfl, by decide +kernel, by decide +kernel⟩
theorem ok_common_divisor (D : Def K mg "common_divisor" sCommonDivisor ["one", "other"]) : Cal P w K mg base "common_divisor" ["one", "other"] 1 spGcd := by
  refine cal_mk D sc_common_divisor (fun vs H Q E h => ?_) (fun f cdv A outer s H vs Q E hr h => ?_)
  · obtain ⟨a, b, rfl, _⟩ := h
    rfl
  · obtain ⟨a, b, rfl, q⟩ := h
    refine ⟨_, (pss_cons (ps_while PassesOwn.never (pt_cmpR op_ne (pv 1) pe_int (nomark _)) (pss_one (ps_par (i := 0) (j := 1) (by rfl) sc_common_divisor.nd rfl rfl (by decide) rfl rfl (pa_cons (pv 1) (pa_cons (pe_op op_mod (pv 0) (pv 1)) pa_nil)) (by rfl))))
      (pss_one (ps_ret (pv 0)))), ?_⟩
    refine ⟨fun m σ H' => ∃ x y : Nat, σ = [some (.int x), some (.int y)] ∧ Nat.gcd x y = Nat.gcd a b ∧ m = y ∧ H' = H, ⟨b, a, b, rfl, rfl, rfl, rfl⟩, ?_⟩
    rintro m σ H' ⟨x, y, rfl, hg, rfl, rfl⟩
    refine ⟨_, rfl, rfl, _, rfl, ?_⟩
    have e : (!decide (V.int (m : Int) = V.int 0)) = decide (m ≠ 0) := by
      rw [dec_int, Bool.eq_iff_iff]
      simp
    rw [e]
    by_cases h0 : m = 0
    · subst h0
      rw [decide_eq_false (by simp)]
      refine iteF ?_
      refine ⟨_, rfl, ?_⟩
      rw [← hg, Nat.gcd_zero_right] at q
      exact q
    · rw [decide_eq_true h0]
      refine iteT ?_
      refine ⟨fun σ' H2 => ∃ x' y' : Nat, σ' = [some (.int x'), some (.int y')] ∧ Nat.gcd x' y' = Nat.gcd a b ∧ y' < m ∧ H2 = H', ?_, ?_⟩
      · rintro σ' H2 ⟨x', y', h1, h2, h3, h4⟩
        exact ⟨y', h3, x', y', h1, h2, rfl, h4⟩
      · refine ⟨_, rfl, _, rfl, _, rfl, _, _, rfl, rfl, (by omega), _, _, rfl, m, x % m, ?_, ?_, Nat.mod_lt _ (by omega), rfl⟩
        · rfl
        · rw [Nat.gcd_comm m, ← Nat.gcd_rec, Nat.gcd_comm m x, hg]
theorem ev_gcd {σ : L2.St} {F : Hp} {ta tb : TE} {i j : Int} {E : XK} (hi : 0 ≤ i) (hj : 0 ≤ j) (ha : EvD K ta σ F (.int i)) (hb : EvD K tb σ F (.int j)) : EvD K (tCall spGcd [] E (tCons ta (tCons tb tNil))) σ F (.int (Nat.gcd i.natAbs j.natAbs : Nat)) :=
  ev_call (Dv.ea_cons ha (Dv.ea_cons hb Dv.ea_nil)) fun vs F1 H1 _ e1 hv Q q => by
    cases hv with
    | cons h1 hv =>
    cases hv with
    | cons h2 hv =>
    cases hv
    cases h1
    cases h2
    refine ⟨i.natAbs, j.natAbs, ?_, q _ F1 H1 (Gr.refl e1) (.int _)⟩
    rw [show ((i.natAbs : Nat) : Int) = i by omega, show ((j.natAbs : Nat) : Int) = j by omega] <;> rfl
/-- top over under, in least terms -/
def frac (t : Int) (u : Int) : Int × Int := (t / (Nat.gcd t.natAbs u.natAbs : Int), u / (Nat.gcd t.natAbs u.natAbs : Int))
def encF (x : Int × Int) : PyData := .tuple [.int x.1, .int x.2]
def fFrac : List PyData → PyData → Prop := fun ds d => ∃ t u : Int, ds = [.int t, .int u] ∧ 0 < u ∧ u < 1073741824 ∧ d = encF (frac t u)
theorem two {F : Hp} {vs : List V} {a b : PyData} (h : DpAll K F vs [a, b]) : ∃ x y, vs = [x, y] ∧ Dp K F x a ∧ Dp K F y b := by
  cases h with
  | cons h1 h =>
  cases h with
  | cons h2 h =>
  cases h
  exact ⟨_, _, rfl, h1, h2⟩
theorem one {F : Hp} {vs : List V} {a : PyData} (h : DpAll K F vs [a]) : ∃ x, vs = [x] ∧ Dp K F x a := by
  cases h with
  | cons h1 h =>
  cases h
  exact ⟨_, rfl, h1⟩
theorem sc_fraction : FnScope (["top", "under", "common"] : List Str) (["top", "under"] : List Str) (defScope sFraction) := ⟨rfl, rfl, rfl, by decide +kernel, rfl, by decide +kernel, by decide +kernel⟩
theorem ok_fraction (D : Def K mg "fraction" sFraction ["top", "under"]) (B : Bl mg) (C_common_divisor : Cal P w K mg base "common_divisor" ["one", "other"] 1 spGcd) : Cal P w K mg base "fraction" ["top", "under"] 2 (spD K fFrac) := by
  refine cal_mk D sc_fraction (len_D (by rintro _ _ ⟨t, u, rfl, _⟩; rfl)) (fun f cdv A outer s H vs Q E hr h => ?_)
  obtain ⟨F, ds, d, e, hv, ⟨t, u, rfl, hu, hu2, rfl⟩, q⟩ := h
  obtain ⟨x, y, rfl, h1, h2⟩ := two hv
  refine ⟨_, (pss_cons (ps_set (i := 2) sc_fraction.nd rfl (.inl rfl) (pe_callC C_common_divisor hr (pa_cons (pe_callB call_abs (by rfl) B.abs (by decide +kernel) (pa_cons (pv 0) pa_nil)) (pa_cons (pv 1) pa_nil))))
      (pss_one (ps_ret (pe_tup (pa_cons (pe_op op_fdiv (pv 0) (pv 2)) (pa_cons (pe_op op_fdiv (pv 1) (pv 2)) pa_nil)))))), ?_⟩
  have hg : 0 < Nat.gcd t.natAbs u.natAbs := Nat.gcd_pos_of_pos_right _ (by omega)
  have hg2 : Nat.gcd t.natAbs u.natAbs ≤ u.natAbs := Nat.gcd_le_right _ (by omega)
  refine Dv.s_asg (K := K) (F := F) (d := .int (Nat.gcd t.natAbs u.natAbs : Nat)) (Dv.ev_is (ev_gcd (by omega) (by omega) (ev_abs (Dv.ev_var rfl h1)) (Dv.ev_var rfl h2)) (by simp)) e ?_
  intro v F1 H1 g1 hv
  refine Dv.s_ret (K := K) (d := encF (frac t u)) (Dv.ev_tup (Dv.ea_cons (Dv.ev_I ⟨by omega, by omega⟩ (fun _ => .int _) (Dv.ev_var rfl (dp_ex g1.fx h1)) (Dv.ev_var rfl hv)) (Dv.ea_cons (Dv.ev_I ⟨by omega, by omega⟩ (fun _ => .int _) (Dv.ev_var rfl (dp_ex g1.fx h2)) (Dv.ev_var rfl hv)) Dv.ea_nil)) (by simp)) g1.fh ?_
  intro v F2 H2 g2 hv
  exact q v F2 H2 (g1.trans g2) hv
/-! ### plus, scaled -/
def fplus (x y : Int × Int) : Int × Int := frac (x.1 * y.2 + y.1 * x.2) (x.2 * y.2)
def fscaled (x : Int × Int) (n : Int) : Int × Int := frac (x.1 * n) x.2
/-- a fraction whose numbers are small -/
def Sm (x : Int × Int) : Prop := 0 < x.2 ∧ x.2 < 32768 ∧ -1000000000000 < x.1 ∧ x.1 < 1000000000000
def fPlus : List PyData → PyData → Prop := fun ds d => ∃ x y : Int × Int, ds = [encF x, encF y] ∧ Sm x ∧ Sm y ∧ d = encF (fplus x y)
end
end R3

set_option Elab.async false
set_option linter.all false
set_option maxRecDepth 100000
set_option maxHeartbeats 4000000
namespace R3
open PySem PySem.Spec PyProof.Rows L2 Dv
section
variable {P : Program} {w : World} {K : PySem.W.Frag} {mg : Str → Option Value} {base : Heap}
theorem one_times {n : Int} (x : Int × Int) : True := trivial
def fScaled : List PyData → PyData → Prop := fun ds d => ∃ (x : Int × Int) (n : Int), ds = [encF x, .int n] ∧ 0 < x.2 ∧ x.2 < 1073741824 ∧ (-1000000000000 < n ∧ n < 1000000000000) ∧ d = encF (fscaled x n)
theorem sc_scaled : FnScope (["one", "number"] : List Str) (["one", "number"] : List Str) (defScope sScaled) := ⟨rfl, rfl, rfl, by decide +kernel, rfl, by decide +kernel, by decide +kernel⟩
theorem ok_scaled (D : Def K mg "scaled" sScaled ["one", "number"]) (C_fraction : Cal P w K mg base "fraction" ["top", "under"] 2 (spD K fFrac)) : Cal P w K mg base "scaled" ["one", "number"] 3 (spD K fScaled) := by
  refine cal_mk D sc_scaled (len_D (by rintro _ _ ⟨t, u, rfl, _⟩; rfl)) (fun f cdv A outer s H vs Q E hr h => ?_)
  obtain ⟨F, ds, d, e, hv, ⟨⟨a, b⟩, n, rfl, s1, s2, ⟨s3, s4⟩, rfl⟩, q⟩ := h
  obtain ⟨x, y, rfl, h1, h2⟩ := Dv.two hv
  dsimp only at s1 s2
  refine ⟨_, (pss_one (ps_ret (pe_callC C_fraction hr (pa_cons (pe_op op_mul (pe_ix ix_tup (pv 0) pe_int (fun _ _ => rfl)) (pv 1)) (pa_cons (pe_ix ix_tup (pv 0) pe_int (fun _ _ => rfl)) pa_nil))))), ?_⟩
  refine Dv.s_ret (K := K) (d := encF (fscaled (a, b) n)) (ev_callD (Dv.ea_cons (Dv.ev_I (.inr ⟨by omega, by omega⟩) (fun _ => .int _) (Dv.ev_ixT (d := .int a) (Dv.ev_var rfl h1) (Dv.ev_int 0) rfl) (Dv.ev_var rfl h2)) (Dv.ea_cons (Dv.ev_ixT (d := .int b) (Dv.ev_var rfl h1) (Dv.ev_int 1) rfl) Dv.ea_nil)) ⟨_, _, rfl, s1, s2, rfl⟩) e ?_
  exact fun v F2 H2 g2 hv => q v F2 H2 g2 hv
/-! ### is_whole, is_fraction, is_amount -/
def isWhole (d : PyData) : Bool := isD d "int" && !isD d "bool"
def fWhole : List PyData → PyData → Prop := fun ds d => ∃ x, ds = [x] ∧ d = .bool (isWhole x)
theorem sc_is_whole : FnScope (["value"] : List Str) (["value"] : List Str) (defScope sIsWhole) := ⟨rfl, rfl, rfl, by decide +kernel, rfl, by decide +kernel, by decide +kernel⟩
theorem ok_is_whole (D : Def K mg "is_whole" sIsWhole ["value"]) (B : Bl mg) : Cal P w K mg base "is_whole" ["value"] 1 (spD K fWhole) := by
  refine cal_mk D sc_is_whole (len_D (by rintro _ _ ⟨t, rfl, _⟩; rfl)) (fun f cdv A outer s H vs Q E hr h => ?_)
  obtain ⟨F, ds, d, e, hv, ⟨d, rfl, rfl⟩, q⟩ := h
  obtain ⟨x, rfl, h1⟩ := Dv.one hv
  refine ⟨_, (pss_one (ps_ret (pe_and (pe_callB call_isi (by rfl) B.isi (by decide +kernel) (pa_cons (pv 0) (pa_cons (pe_bltn (v := .ty "int") (by rfl) B.int (by decide +kernel) rfl) pa_nil))) (pe_one (pe_not (pe_callB call_isi (by rfl) B.isi (by decide +kernel) (pa_cons (pv 0) (pa_cons (pe_bltn (v := .ty "bool") (by rfl) B.bool (by decide +kernel) rfl) pa_nil)))))))), ?_⟩
  exact Dv.s_ret (K := K) (d := .bool (isWhole d)) (Dv.ev_andV (ev_isi (Dv.ev_var rfl h1) (by decide)) fun _ => Dv.ev_notV (ev_isi (Dv.ev_var rfl h1) (by decide))) e fun v F2 H2 g2 hv => q v F2 H2 g2 hv
theorem whole_int {d : PyData} (h : isWhole d = true) : ∃ i, d = .int i := by
  cases d <;> first | exact ⟨_, rfl⟩ | (simp [isWhole, isD, tyD] at h)
/-- a fraction in least terms -/
def isFrac : PyData → Bool
  | .tuple [.int a, .int b] => decide (1 ≤ b) && (Nat.gcd a.natAbs b.natAbs == 1)
  | _ => false
def fIsFrac : List PyData → PyData → Prop := fun ds d => ∃ x, ds = [x] ∧ (∀ es, x = .tuple es → es.length ≤ 100000) ∧ d = .bool (isFrac x)
theorem sc_is_fraction : FnScope (["value"] : List Str) (["value"] : List Str) (defScope sIsFraction) := ⟨rfl, rfl, rfl, by decide +kernel, rfl, by decide +kernel, by decide +kernel⟩
theorem ok_is_fraction (D : Def K mg "is_fraction" sIsFraction ["value"]) (B : Bl mg) (C_common_divisor : Cal P w K mg base "common_divisor" ["one", "other"] 1 spGcd) (C_is_whole : Cal P w K mg base "is_whole" ["value"] 1 (spD K fWhole)) :
    Cal P w K mg base "is_fraction" ["value"] 2 (spD K fIsFrac) := by
  refine cal_mk D sc_is_fraction (len_D (by rintro _ _ ⟨t, rfl, _⟩; rfl)) (fun f cdv A outer s H vs Q E hr h => ?_)
  obtain ⟨F, ds, d, e, hv, ⟨d, rfl, hsz, rfl⟩, q⟩ := h
  obtain ⟨x, rfl, h1⟩ := Dv.one hv
  refine ⟨_, (pss_cons (ps_if (PW.pt (pw_or (pt_not (pt_val (pe_callB call_isi (by rfl) B.isi (by decide +kernel) (pa_cons (pv 0) (pa_cons (pe_bltn (v := .ty "tuple") (by rfl) B.tuple (by decide +kernel) rfl) pa_nil))))) (pw_or (pt_cmpR op_ne (pe_callB call_len (by rfl) B.len (by decide +kernel) (pa_cons (pv 0) pa_nil)) pe_int (nomark _)) (pw_or (pt_not (pt_val (pe_callC C_is_whole hr (pa_cons (pe_ix ix_tup (pv 0) pe_int (fun _ _ => rfl)) pa_nil)))) (pw_or1 (pt_not (pt_val (pe_callC C_is_whole hr (pa_cons (pe_ix ix_tup (pv 0) pe_int (fun _ _ => rfl)) pa_nil))))))))) (pss_one (ps_ret pe_bl)) pss_nil)
      (pss_one (ps_ret (pe_and (pe_cmpR op_ge (pe_ix ix_tup (pv 0) pe_int (fun _ _ => rfl)) pe_int (nomark _)) (pe_one (pe_cmpR op_eq (pe_callC C_common_divisor hr (pa_cons (pe_callB call_abs (by rfl) B.abs (by decide +kernel) (pa_cons (pe_ix ix_tup (pv 0) pe_int (fun _ _ => rfl)) pa_nil)) (pa_cons (pe_ix ix_tup (pv 0) pe_int (fun _ _ => rfl)) pa_nil))) pe_int (nomark _))))))), ?_⟩
  have no : isFrac d = false → ∀ F1 H1, Gr F H F1 H1 → Q (.bl false) H1 := fun h F1 H1 g => q _ F1 H1 g (by rw [h]; exact .bl false)
  have vx := Dv.ev_var (σ := [some x]) (i := 0) rfl h1
  by_cases ht : ∃ es, d = .tuple es
  · obtain ⟨es, rfl⟩ := ht
    have hl := hsz es rfl
    have tT := et_notT (Dv.et_test (ev_isi (T := "tuple") vx (by decide)))
    by_cases h2 : es.length = 2
    · match es, h2 with
      | [a, b], _ =>
        have ln := et_v (p := false) (Dv.ev_neI (ev_len vx rfl (by simp)) (Dv.ev_int 2)) rfl
        have va := Dv.ev_ixT (d := a) vx (Dv.ev_int 0) rfl
        have vb := Dv.ev_ixT (d := b) vx (Dv.ev_int 1) rfl
        by_cases ha : isWhole a = true
        · by_cases hb : isWhole b = true
          · obtain ⟨i, rfl⟩ := whole_int ha
            obtain ⟨j, rfl⟩ := whole_int hb
            refine s_ifF (et_orF tT (et_orF ln (et_orF (et_notT (et_v (ev_callD (Dv.ea_cons va Dv.ea_nil) ⟨_, rfl, rfl⟩) rfl)) (et_notT (et_v (ev_callD (Dv.ea_cons vb Dv.ea_nil) ⟨_, rfl, rfl⟩) rfl))))) e fun F1 H1 g1 => ?_
            have vb' := vb.mono g1.fx
            have va' := va.mono g1.fx
            by_cases hj : 1 ≤ j
            · exact Dv.s_ret (K := K) (d := .bool (isFrac (.tuple [.int i, .int j]))) (Dv.ev_andV (Dv.ev_I0 (k := .bool (decide (1 ≤ j))) (fun _ => .bl _) vb' (Dv.ev_int 1)) fun _ => Dv.ev_is (Dv.ev_eqI (ev_gcd (by omega) (by omega) (ev_abs va') vb') (Dv.ev_int 1)) (by
                congr 1
                rw [Bool.eq_iff_iff]
                simp
                omega)) g1.fh fun v F2 H2 g2 hv => q v F2 H2 (g1.trans g2) hv
            · have e0 : isFrac (.tuple [.int i, .int j]) = false := by simp [isFrac, hj]
              exact Dv.s_ret (K := K) (d := .bool false) (ev_andF (Dv.ev_is (Dv.ev_I0 (k := .bool (decide (1 ≤ j))) (fun _ => .bl _) vb' (Dv.ev_int 1)) (by rw [decide_eq_false hj]))) g1.fh fun v F2 H2 g2 hv => q v F2 H2 (g1.trans g2) (by rw [e0]; exact hv)
          · have hb : isWhole b = false := by simpa using hb
            have e0 : isFrac (.tuple [a, b]) = false := by
              cases a <;> cases b <;> first | rfl | (exfalso; revert hb; decide) | (exfalso; revert hb; simp [isWhole, isD, tyD])
            exact s_ifT (et_orF tT (et_orF ln (et_orF (et_notT (et_v (ev_callD (Dv.ea_cons va Dv.ea_nil) ⟨_, rfl, rfl⟩) (by rw [ha]))) (et_notF (et_v (ev_callD (Dv.ea_cons vb Dv.ea_nil) ⟨_, rfl, rfl⟩) (by rw [hb])))))) e fun F1 H1 g1 => no e0 F1 H1 g1
        · have ha : isWhole a = false := by simpa using ha
          have e0 : isFrac (.tuple [a, b]) = false := by
            cases a <;> cases b <;> first | rfl | (exfalso; revert ha; decide) | (exfalso; revert ha; simp [isWhole, isD, tyD])
          exact s_ifT (et_orF tT (et_orF ln (et_orT (et_notF (et_v (ev_callD (Dv.ea_cons va Dv.ea_nil) ⟨_, rfl, rfl⟩) (by rw [ha])))))) e fun F1 H1 g1 => no e0 F1 H1 g1
    · have e0 : isFrac (.tuple es) = false := by
        unfold isFrac
        split
        · rename_i q
          cases q
          exact absurd rfl h2
        · rfl
      exact s_ifT (et_orF tT (et_orT (et_v (Dv.ev_neI (ev_len vx rfl hl) (Dv.ev_int 2)) (by
        congr 1
        simp only [bne_iff_ne, ne_eq]
        omega)))) e fun F1 H1 g1 => no e0 F1 H1 g1
  · have e0 : isFrac d = false := by
      unfold isFrac
      split
      · exact absurd ⟨_, rfl⟩ ht
      · rfl
    have e1 : isD d "tuple" = false := by
      cases d <;> first | rfl | exact absurd ⟨_, rfl⟩ ht
    exact s_ifT (et_orT (et_notF (et_v (ev_isi (T := "tuple") vx (by decide)) (by rw [e1])))) e fun F1 H1 g1 => no e0 F1 H1 g1
def isAmt (d : PyData) : Bool := isFrac d && (match d with | .tuple (.int a :: _) => decide (0 ≤ a) | _ => false)
def fIsAmt : List PyData → PyData → Prop := fun ds d => ∃ x, ds = [x] ∧ (∀ es, x = .tuple es → es.length ≤ 100000) ∧ d = .bool (isAmt x)
theorem frac_shape {d : PyData} (h : isFrac d = true) : ∃ a b : Int, d = .tuple [.int a, .int b] ∧ 1 ≤ b := by
  unfold isFrac at h
  split at h
  · rename_i a b
    rw [Bool.and_eq_true] at h
    exact ⟨a, b, rfl, of_decide_eq_true h.1⟩
  · cases h
theorem sc_is_amount : FnScope (["value"] : List Str) (["value"] : List Str) (defScope sIsAmount) := ⟨rfl, rfl, rfl, by decide +kernel, rfl, by decide +kernel, by decide +kernel⟩
theorem ok_is_amount (D : Def K mg "is_amount" sIsAmount ["value"]) (C_is_fraction : Cal P w K mg base "is_fraction" ["value"] 2 (spD K fIsFrac)) : Cal P w K mg base "is_amount" ["value"] 3 (spD K fIsAmt) := by
  refine cal_mk D sc_is_amount (len_D (by rintro _ _ ⟨t, rfl, _⟩; rfl)) (fun f cdv A outer s H vs Q E hr h => ?_)
  obtain ⟨F, ds, d, e, hv, ⟨d, rfl, hsz, rfl⟩, q⟩ := h
  obtain ⟨x, rfl, h1⟩ := Dv.one hv
  refine ⟨_, (pss_one (ps_ret (pe_and (pe_callC C_is_fraction hr (pa_cons (pv 0) pa_nil)) (pe_one (pe_cmpR op_ge (pe_ix ix_tup (pv 0) pe_int (fun _ _ => rfl)) pe_int (nomark _)))))), ?_⟩
  refine Dv.s_ret (K := K) (d := .bool (isAmt d)) (Dv.ev_andV (ev_callD (Dv.ea_cons (Dv.ev_var rfl h1) Dv.ea_nil) ⟨_, rfl, hsz, rfl⟩) fun hf => ?_) e fun v F2 H2 g2 hv => q v F2 H2 g2 hv
  obtain ⟨a, b, rfl, _⟩ := frac_shape hf
  exact Dv.ev_I0 (fun _ => .bl _) (Dv.ev_ixT (d := .int a) (Dv.ev_var rfl h1) (Dv.ev_int 0) rfl) (Dv.ev_int 0)
end
end R3

set_option Elab.async false
set_option linter.all false
set_option maxRecDepth 100000
set_option maxHeartbeats 4000000
namespace Dv
open PySem L2 Evl
section
variable {K : PySem.W.Frag} {σ : L2.St} {F F1 H H1 : Hp} {te ta tb tc : TE} {d a b : PyData} {ds es : List PyData} {i j k : Int} {p q : Bool}
/-- a <= b <= c -/
theorem ev_chI {f g : Int → Int → Bool} (ha : EvD K ta σ F (.int i)) (hb : EvD K tb σ F (.int j)) (hc : EvD K tc σ F (.int k)) : EvD K (tChain (rI0 fun i j => .bl (f i j)) (rI0 fun i j => .bl (g i j)) ta tb tc) σ F (.bool (f i j && g j k)) := fun H e Q q =>
  ha H e _ fun v F1 H1 g1 hv => (hb.mono g1.fx) H1 g1.fh _ fun u F2 H2 g2 hu => by
    cases hv
    cases hu
    refine ⟨i, j, rfl, rfl, f i j, rfl, ?_⟩
    cases hf : f i j with
    | true =>
      show tc σ H2 _
      refine (hc.mono (g1.fx.trans g2.fx)) H2 g2.fh _ fun w F3 H3 g3 hw => ?_
      cases hw
      exact ⟨j, k, rfl, rfl, q _ F3 H3 (g1.trans (g2.trans g3)) (by rw [hf]; exact .bl _)⟩
    | false =>
      show Q (.bl false) H2
      exact q _ F2 H2 (g1.trans g2) (by rw [hf]; exact .bl _)
theorem et_chI {f g : Int → Int → Bool} (ha : EvD K ta σ F (.int i)) (hb : EvD K tb σ F (.int j)) (hc : EvD K tc σ F (.int k)) (e : (f i j && g j k) = p) : EtD (tTest (tChain (rI0 fun i j => .bl (f i j)) (rI0 fun i j => .bl (g i j)) ta tb tc)) σ F p :=
  et_v (ev_chI ha hb hc) (by rw [e])
theorem ev_notInS {c : Nat} {x : Str} (ha : EvD K ta σ F (.str ⟨#[c]⟩)) (hb : EvD K tb σ F (.str x)) : EvD K (tOp rNotInS ta tb) σ F (.bool (!decide (c ∈ x.cps.toList))) :=
  ev_op ha hb fun v u F1 H1 _ e hv hu Q q => by
    cases hv
    cases hu
    exact ⟨c, x, rfl, rfl, q _ F1 H1 (Gr.refl e) (.bl _)⟩
theorem ev_addS {x y : Str} (hl : x.length + y.length ≤ 100000) (ha : EvD K ta σ F (.str x)) (hb : EvD K tb σ F (.str y)) : EvD K (tOp (fun x y H Q => ∃ i j, x = .str i ∧ y = .str j ∧ i.length + j.length ≤ sizeLine ∧ Q (.str (i ++ j)) H) ta tb) σ F (.str (x ++ y)) :=
  ev_op ha hb fun v u F1 H1 _ e hv hu Q q => by
    cases hv
    cases hu
    exact ⟨x, y, rfl, rfl, sz_of hl, q _ F1 H1 (Gr.refl e) (.str _)⟩
theorem it_str {x : Str} (h : EvD K te σ F (.str x)) : ItD K (iStr te) σ F (x.cps.toList.map fun c => PyData.str ⟨#[c]⟩) := fun H eH R q => h H eH _ fun v F1 H1 g1 hv => by
  cases hv
  refine ⟨x, rfl, q _ F1 H1 g1 ⟨_, _, by rw [List.length_map, Array.length_toList]; exact walk_str, fun _ _ => trivial, fun F2 i H2 v H3 hi e1 e2 y => ?_⟩⟩
  obtain ⟨rfl, c, hc, rfl⟩ := y
  refine ⟨F2, .str ⟨#[c]⟩, ?_, Gr.refl e2, .str _⟩
  rw [List.getElem?_map, Array.getElem?_toList, hc] <;> rfl
theorem lay_strs : ∀ cs : List Nat, (∀ c ∈ cs, c < 0x110000) → PyData.canLayAll0 (cs.map fun c => PyData.str ⟨#[c]⟩) = true
  | [], _ => by simp [PyData.canLayAll0]
  | c :: cs, h => by
    have h1 := lay_strs cs fun c hc => h c (List.mem_cons_of_mem _ hc)
    have h2 := h c List.mem_cons_self
    simp [PyData.canLayAll0, PyData.canLay0, h1, PyData.strOk, h2]
theorem dep_strs : ∀ cs : List Nat, PyData.depthAll (cs.map fun c => PyData.str ⟨#[c]⟩) = 0
  | [] => by simp [PyData.depthAll]
  | c :: cs => by simp [PyData.depthAll, PyData.depth, dep_strs cs]
theorem shaped_strs (cs : List Nat) (h : ∀ c ∈ cs, c < 0x110000) : SeqAt.shaped (.list (cs.map fun c => PyData.str ⟨#[c]⟩)) = true := by
  show ((PyData.list _).canLay0 && decide ((PyData.list _).depth ≤ 64)) = true
  simp [PyData.canLay0, PyData.depth, lay_strs cs h, dep_strs]
theorem shaped_nil : SeqAt.shaped (.list []) = true := by decide +kernel
theorem eqv_nil (ds : List PyData) : PyData.eqv (.list ds) (.list []) = ds.isEmpty := by
  cases ds <;> simp [PyData.eqv, PyData.eqvAll]
end
end Dv
namespace R3
open PySem PySem.Spec PyProof.Rows L2 Dv
section
variable {P : Program} {w : World} {K : PySem.W.Frag} {mg : Str → Option Value} {base : Heap}
/-- the module's own numbers and texts -/
structure Cst (mg : Str → Option Value) : Prop where
  letters : ∃ t, mg "LETTERS" = some (.str "abcdefghijklmnopqrstuvwxyz" t)
  figures : ∃ t, mg "FIGURES" = some (.str "0123456789" t)
  mostName : ∃ t, mg "MOST_NAME" = some (.int 8 t)
  mostStuffs : ∃ t, mg "MOST_STUFFS" = some (.int 8 t)
  mostRecipes : ∃ t, mg "MOST_RECIPES" = some (.int 8 t)
  mostNumber : ∃ t, mg "MOST_NUMBER" = some (.int 1000000 t)
def letters : Str := "abcdefghijklmnopqrstuvwxyz"
def figures : Str := "0123456789"
def nameS (x : Str) : Bool := decide (1 ≤ x.length) && decide (x.length ≤ 8) && (match x.cps.toList with | c :: _ => decide (c ∈ letters.cps.toList) | [] => false) && x.cps.toList.all fun c => decide (c ∈ (letters ++ figures).cps.toList)
def isName : PyData → Bool
  | .str x => nameS x
  | _ => false
def fIsName : List PyData → PyData → Prop := fun ds d => ∃ x, ds = [x] ∧ (∀ y, x = .str y → y.length ≤ 30000 ∧ PyData.strOk y = true) ∧ d = .bool (isName x)
theorem sc_is_name : FnScope (["value", "sign"] : List Str) (["value"] : List Str) (defScope sIsName) := ⟨rfl, rfl, rfl, by decide +kernel, rfl, by decide +kernel, by decide +kernel⟩
theorem ok_is_name (D : Def K mg "is_name" sIsName ["value"]) (B : Bl mg) (CC : Cst mg) : Cal P w K mg base "is_name" ["value"] 1 (spD K fIsName) := by
  refine cal_mk D sc_is_name (len_D (by rintro _ _ ⟨t, rfl, _⟩; rfl)) (fun f cdv A outer s H vs Q E hr h => ?_)
  obtain ⟨F, ds, d, e, hv, ⟨d, rfl, hsz, rfl⟩, q⟩ := h
  obtain ⟨x, rfl, h1⟩ := Dv.one hv
  obtain ⟨t1, c1⟩ := CC.letters
  obtain ⟨t2, c2⟩ := CC.figures
  obtain ⟨t3, c3⟩ := CC.mostName
  refine ⟨_, (pss_cons (ps_if (PW.pt (pw_or (pt_not (pt_val (pe_callB call_isi (by rfl) B.isi (by decide +kernel) (pa_cons (pv 0) (pa_cons (pe_bltn (v := .ty "str") (by rfl) B.str (by decide +kernel) rfl) pa_nil))))) (pw_or (pt_not (pt_chain op_le op_le pe_int (pe_callB call_len (by rfl) B.len (by decide +kernel) (pa_cons (pv 0) pa_nil)) (pe_glob (v := .int 8) rfl c3 ⟨_, rfl⟩))) (pw_or1 (pt_cmpR op_notInS (pe_ix ix_str (pv 0) pe_int (fun _ _ => rfl)) (pe_glob (v := .str letters) rfl c1 ⟨_, rfl⟩) (by rfl)))))) (pss_one (ps_ret pe_bl)) pss_nil)
      (pss_one (ps_ret (pe_cmpR (op_eqD hr.1.units) (pe_lc (own := [("sign", 1)]) (g := gName 1) rfl sc_is_name.nd (pi_str (pv 0)) (blkOk_by (own := [("sign", 1)]) (N := ["value", "sign"]) (sc := defScope sIsName) (by decide +kernel)) (fun _ _ _ _ _ => (pg_name (i := 1) sc_is_name.nd rfl (.inl rfl)))  (fun _ _ _ _ _ => (pts_one (pt_cmpR op_notInS (pv 1) (pe_op op_add_str (pe_glob (v := .str letters) rfl c1 ⟨_, rfl⟩) (pe_glob (v := .str figures) rfl c2 ⟨_, rfl⟩)) (by rfl)))) (fun _ _ _ _ _ => (pv 1))) (pe_lst pa_nil) (nomark _))))), ?_⟩
  have no : isName d = false → ∀ F1 H1, Gr F H F1 H1 → Q (.bl false) H1 := fun h F1 H1 g => q _ F1 H1 g (by rw [h]; exact .bl false)
  have vx := Dv.ev_var (σ := [some x, none]) (i := 0) rfl h1
  by_cases ht : ∃ y, d = .str y
  · obtain ⟨y, rfl⟩ := ht
    obtain ⟨hl, hok⟩ := hsz y rfl
    have t1 := et_notT (et_v (p := true) (ev_isi (T := "str") vx (by decide)) rfl)
    have ln := ev_chI (f := fun i j => decide (i ≤ j)) (g := fun i j => decide (i ≤ j)) (Dv.ev_int 1) (ev_len vx rfl (show y.length ≤ 100000 by omega)) (Dv.ev_int 8)
    by_cases h2 : 1 ≤ y.length ∧ y.length ≤ 8
    · have e2 : (decide ((1 : Int) ≤ (y.length : Int)) && decide ((y.length : Int) ≤ 8)) = true := by
        rw [Bool.and_eq_true]
        exact ⟨decide_eq_true (by omega), decide_eq_true (by omega)⟩
      have t2 := et_notT (et_v ln (by rw [e2]))

      obtain ⟨c, cs, hc⟩ : ∃ c cs, y.cps.toList = c :: cs := by
        cases hq : y.cps.toList with
        | nil =>
          have : y.length = y.cps.toList.length := by rw [Array.length_toList] <;> rfl
          rw [hq] at this
          exact absurd h2.1 (by rw [this]; decide)
        | cons c cs => exact ⟨c, cs, rfl⟩
      have vc := Dv.ev_ixS (i := 0) (c := c) vx (Dv.ev_int 0) (show y.length ≤ 100000 by omega) (by rw [hc]; simp [atI, ixN])
      have t3 := Dv.ev_notInS vc (Dv.ev_c (.str letters))
      by_cases h3 : c ∈ letters.cps.toList
      · refine s_ifF (et_orF t1 (et_orF t2 (et_v t3 (by rw [decide_eq_true h3]; rfl)))) e fun F1 H1 g1 => ?_
        have hn : isName (.str y) = (y.cps.toList.filter fun c => !decide (c ∈ (letters ++ figures).cps.toList)).isEmpty := by
          show nameS y = _
          unfold nameS
          rw [decide_eq_true h2.1, decide_eq_true h2.2, hc]
          show ((true && true && decide (c ∈ letters.cps.toList)) && _) = _
          rw [decide_eq_true h3]
          simp only [Bool.true_and]
          rw [Bool.eq_iff_iff, List.isEmpty_iff, List.filter_eq_nil_iff, List.all_eq_true]
          simp
        refine Dv.s_ret (K := K) (d := .bool (isName (.str y))) (Dv.ev_is (Dv.ev_eqD (EvL.ev (lc_rule y.cps.toList (fun c => PyData.str ⟨#[c]⟩) (fun c => PyData.str ⟨#[c]⟩) (fun c => !decide (c ∈ (letters ++ figures).cps.toList)) (it_str (vx.mono g1.fx)) (by
          rw [Array.length_toList]
          show y.length ≤ _
          omega) (fun c _ v F2 e2 hv => ⟨[some x, some v], fun _ _ _ q => q, rfl, et_v (Dv.ev_notInS (Dv.ev_var rfl hv) (Dv.ev_addS (by decide +kernel) (Dv.ev_c (.str letters)) (Dv.ev_c (.str figures)))) rfl, fun _ => Dv.ev_var rfl hv⟩))) (EvL.ev (Dv.el_lst Dv.ea_nil (by simp))) (by
          refine shaped_strs (y.cps.toList.filter fun c => !decide (c ∈ (letters ++ figures).cps.toList)) fun c hc => ?_
          have hm := Array.mem_toList_iff.mp (List.mem_filter.mp hc).1
          have := Array.all_eq_true_iff_forall_mem.mp hok c hm
          exact of_decide_eq_true this) shaped_nil) (by
          rw [eqv_nil, hn, List.isEmpty_map])) g1.fh fun v F2 H2 g2 hv => q v F2 H2 (g1.trans g2) hv
      · have e0 : isName (.str y) = false := by
          show nameS y = false
          unfold nameS
          rw [hc]
          show ((_ && _ && decide (c ∈ letters.cps.toList)) && _) = _
          rw [decide_eq_false h3]
          simp
        exact s_ifT (et_orF t1 (et_orF t2 (et_v t3 (by rw [decide_eq_false h3]; rfl)))) e fun F1 H1 g1 => no e0 F1 H1 g1
    · have e2 : (decide ((1 : Int) ≤ (y.length : Int)) && decide ((y.length : Int) ≤ 8)) = false := by
        rw [Bool.and_eq_false_iff]
        by_cases h3 : 1 ≤ y.length
        · exact .inr (decide_eq_false (by omega))
        · exact .inl (decide_eq_false (by omega))
      have e0 : isName (.str y) = false := by
        show nameS y = false
        unfold nameS
        by_cases h3 : 1 ≤ y.length
        · rw [decide_eq_false (show ¬ y.length ≤ 8 by omega)]
          simp
        · rw [decide_eq_false h3]
          simp
      exact s_ifT (et_orF t1 (et_orT (et_notF (et_v ln (by rw [e2]))))) e fun F1 H1 g1 => no e0 F1 H1 g1
  · have e0 : isName d = false := by
      cases d <;> first | rfl | exact absurd ⟨_, rfl⟩ ht
    have e1 : isD d "str" = false := by
      cases d <;> first | rfl | exact absurd ⟨_, rfl⟩ ht
    exact s_ifT (et_orT (et_notF (et_v (ev_isi (T := "str") vx (by decide)) (by rw [e1])))) e fun F1 H1 g1 => no e0 F1 H1 g1
end
end R3

set_option Elab.async false
set_option linter.all false
set_option maxRecDepth 100000
set_option maxHeartbeats 4000000
namespace Dv
open PySem L2 Evl
mutual
/-- texts that can be laid, nothing of great length -/
def gd : PyData → Bool
  | .str x => decide (x.length ≤ 30000) && PyData.strOk x
  | .list xs => decide (xs.length ≤ 30000) && gds xs
  | .tuple xs => decide (xs.length ≤ 30000) && gds xs
  | _ => true
def gds : List PyData → Bool
  | [] => true
  | x :: xs => gd x && gds xs
end
theorem gd_str {x : Str} (h : gd (.str x) = true) : x.length ≤ 30000 ∧ PyData.strOk x = true := by
  rw [gd, Bool.and_eq_true] at h
  exact ⟨of_decide_eq_true h.1, h.2⟩
theorem gd_tup {xs : List PyData} (h : gd (.tuple xs) = true) : xs.length ≤ 30000 ∧ gds xs = true := by
  rw [gd, Bool.and_eq_true] at h
  exact ⟨of_decide_eq_true h.1, h.2⟩
theorem gd_list {xs : List PyData} (h : gd (.list xs) = true) : xs.length ≤ 30000 ∧ gds xs = true := by
  rw [gd, Bool.and_eq_true] at h
  exact ⟨of_decide_eq_true h.1, h.2⟩
theorem gds_mem : ∀ {xs : List PyData} {x : PyData}, gds xs = true → x ∈ xs → gd x = true
  | [], _, _, h => nomatch h
  | y :: ys, x, g, h => by
    rw [gds, Bool.and_eq_true] at g
    rcases List.mem_cons.mp h with rfl | h
    · exact g.1
    · exact gds_mem g.2 h
section
variable {K : PySem.W.Frag} {σ : L2.St} {F F1 H H1 : Hp} {te ta tb tc : TE} {d a b : PyData} {ds es : List PyData} {i j k : Int} {p q : Bool}
def nonB : PyData → Bool
  | .none => true
  | _ => false
theorem dec_non {v : V} (h : Dp K F v d) : decide (v = .non) = nonB d := by
  cases h <;> simp [nonB]
theorem ev_isNR (ha : EvD K ta σ F d) : EvD K (tOp rIsN ta (tC .non)) σ F (.bool (nonB d)) := fun H e Q q => ha H e _ fun v F1 H1 g1 hv => by
  refine ⟨rfl, q _ F1 H1 g1 ?_⟩
  rw [dec_non hv]
  exact .bl _
end
end Dv
namespace R3
open PySem PySem.Spec PyProof.Rows L2 Dv
section
variable {P : Program} {w : World} {K : PySem.W.Frag} {mg : Str → Option Value} {base : Heap}
def isNum (d : PyData) (l : Int) : Bool := isWhole d && (match d with | .int i => decide (l ≤ i) && decide (i ≤ 1000000) | _ => false)
def fIsNum : List PyData → PyData → Prop := fun ds d => ∃ x l, ds = [x, .int l] ∧ d = .bool (isNum x l)
theorem sc_is_number : FnScope (["value", "least"] : List Str) (["value", "least"] : List Str) (defScope sIsNumber) := ⟨rfl, rfl, rfl, by decide +kernel, rfl, by decide +kernel, by decide +kernel⟩
theorem ok_is_number (D : Def K mg "is_number" sIsNumber ["value", "least"]) (CC : Cst mg) (C_is_whole : Cal P w K mg base "is_whole" ["value"] 1 (spD K fWhole)) : Cal P w K mg base "is_number" ["value", "least"] 2 (spD K fIsNum) := by
  refine cal_mk D sc_is_number (len_D (by rintro _ _ ⟨t, l, rfl, _⟩; rfl)) (fun f cdv A outer s H vs Q E hr h => ?_)
  obtain ⟨F, ds, d, e, hv, ⟨d, l, rfl, rfl⟩, q⟩ := h
  obtain ⟨x, y, rfl, h1, h2⟩ := Dv.two hv
  obtain ⟨t3, c3⟩ := CC.mostNumber
  refine ⟨_, (pss_one (ps_ret (pe_and (pe_callC C_is_whole hr (pa_cons (pv 0) pa_nil)) (pe_one (pe_chain op_le op_le (pv 1) (pv 0) (pe_glob (v := .int 1000000) rfl c3 ⟨_, rfl⟩)))))), ?_⟩
  refine Dv.s_ret (K := K) (d := .bool (isNum d l)) (Dv.ev_andV (ev_callD (Dv.ea_cons (Dv.ev_var rfl h1) Dv.ea_nil) ⟨_, rfl, rfl⟩) fun hw => ?_) e fun v F2 H2 g2 hv => q v F2 H2 g2 hv
  obtain ⟨i, rfl⟩ := whole_int hw
  exact ev_chI (f := fun i j => decide (i ≤ j)) (g := fun i j => decide (i ≤ j)) (Dv.ev_var rfl h2) (Dv.ev_var rfl h1) (Dv.ev_int 1000000)
def isStuff : PyData → Bool
  | .tuple [n, r] => isName n && (nonB r || isNum r 0)
  | _ => false
def fIsStuff : List PyData → PyData → Prop := fun ds d => ∃ x, ds = [x] ∧ gd x = true ∧ d = .bool (isStuff x)
theorem sc_is_stuff : FnScope (["value"] : List Str) (["value"] : List Str) (defScope sIsStuff) := ⟨rfl, rfl, rfl, by decide +kernel, rfl, by decide +kernel, by decide +kernel⟩
theorem ok_is_stuff (D : Def K mg "is_stuff" sIsStuff ["value"]) (B : Bl mg) (C_is_name : Cal P w K mg base "is_name" ["value"] 1 (spD K fIsName)) (C_is_number : Cal P w K mg base "is_number" ["value", "least"] 2 (spD K fIsNum)) :
    Cal P w K mg base "is_stuff" ["value"] 3 (spD K fIsStuff) := by
  refine cal_mk D sc_is_stuff (len_D (by rintro _ _ ⟨t, rfl, _⟩; rfl)) (fun f cdv A outer s H vs Q E hr h => ?_)
  obtain ⟨F, ds, d, e, hv, ⟨d, rfl, hg, rfl⟩, q⟩ := h
  obtain ⟨x, rfl, h1⟩ := Dv.one hv
  refine ⟨_, (pss_cons (ps_if (PW.pt (pw_or (pt_not (pt_val (pe_callB call_isi (by rfl) B.isi (by decide +kernel) (pa_cons (pv 0) (pa_cons (pe_bltn (v := .ty "tuple") (by rfl) B.tuple (by decide +kernel) rfl) pa_nil))))) (pw_or (pt_cmpR op_ne (pe_callB call_len (by rfl) B.len (by decide +kernel) (pa_cons (pv 0) pa_nil)) pe_int (nomark _)) (pw_or1 (pt_not (pt_val (pe_callC C_is_name hr (pa_cons (pe_ix ix_tup (pv 0) pe_int (fun _ _ => rfl)) pa_nil)))))))) (pss_one (ps_ret pe_bl)) pss_nil)
      (pss_one (ps_ret (pe_or (pe_cmpR op_isN (pe_ix ix_tup (pv 0) pe_int (fun _ _ => rfl)) pe_non (nomark _)) (pe_one (pe_callC C_is_number hr (pa_cons (pe_ix ix_tup (pv 0) pe_int (fun _ _ => rfl)) (pa_cons pe_int pa_nil)))))))), ?_⟩
  have no : isStuff d = false → ∀ F1 H1, Gr F H F1 H1 → Q (.bl false) H1 := fun h F1 H1 g => q _ F1 H1 g (by rw [h]; exact .bl false)
  have vx := Dv.ev_var (σ := [some x]) (i := 0) rfl h1
  by_cases ht : ∃ es, d = .tuple es
  · obtain ⟨es, rfl⟩ := ht
    obtain ⟨hl, hgs⟩ := gd_tup hg
    have tT := et_notT (et_v (p := true) (ev_isi (T := "tuple") vx (by decide)) rfl)
    by_cases h2 : es.length = 2
    · match es, h2 with
      | [a, b], _ =>
        have ln := et_v (p := false) (Dv.ev_neI (ev_len vx rfl (by simp)) (Dv.ev_int 2)) rfl
        have va := Dv.ev_ixT (d := a) vx (Dv.ev_int 0) rfl
        have vb := Dv.ev_ixT (d := b) vx (Dv.ev_int 1) rfl
        have ga : gd a = true := gds_mem hgs (by simp)
        have nm := ev_callD (E := E0) (Dv.ea_cons va Dv.ea_nil) (show fIsName [a] (.bool (isName a)) from ⟨a, rfl, fun y hy => gd_str (by rw [← hy]; exact ga), rfl⟩)
        cases hn : isName a with
        | true =>
          refine s_ifF (et_orF tT (et_orF ln (et_notT (et_v nm (by rw [hn]))))) e fun F1 H1 g1 => ?_
          refine Dv.s_ret (K := K) (d := .bool (isStuff (.tuple [a, b]))) (Dv.ev_is (Dv.ev_orV (ev_isNR (vb.mono g1.fx)) fun _ => ev_callD (Dv.ea_cons (vb.mono g1.fx) (Dv.ea_cons (Dv.ev_int 0) Dv.ea_nil)) ⟨_, _, rfl, rfl⟩) (by
            show _ = PyData.bool (isName a && _)
            rw [hn, Bool.true_and])) g1.fh fun v F2 H2 g2 hv => q v F2 H2 (g1.trans g2) hv
        | false =>
          exact s_ifT (et_orF tT (et_orF ln (et_notF (et_v nm (by rw [hn]))))) e fun F1 H1 g1 => no (by show (isName a && _) = false; rw [hn] <;> rfl) F1 H1 g1
    · have e0 : isStuff (.tuple es) = false := by
        unfold isStuff
        split
        · rename_i q
          cases q
          exact absurd rfl h2
        · rfl
      exact s_ifT (et_orF tT (et_orT (et_v (Dv.ev_neI (ev_len vx rfl (by omega)) (Dv.ev_int 2)) (by
        congr 1
        simp only [bne_iff_ne, ne_eq]
        omega)))) e fun F1 H1 g1 => no e0 F1 H1 g1
  · have e0 : isStuff d = false := by
      unfold isStuff
      split
      · exact absurd ⟨_, rfl⟩ ht
      · rfl
    have e1 : isD d "tuple" = false := by
      cases d <;> first | rfl | exact absurd ⟨_, rfl⟩ ht
    exact s_ifT (et_orT (et_notF (et_v (ev_isi (T := "tuple") vx (by decide)) (by rw [e1])))) e fun F1 H1 g1 => no e0 F1 H1 g1
end
end R3

set_option Elab.async false
set_option linter.all false
set_option maxRecDepth 100000
set_option maxHeartbeats 4000000
namespace Dv
open PySem L2 Evl
section
variable {K : PySem.W.Frag} {σ : L2.St} {F F1 H H1 : Hp} {te ta tb tc : TE} {d a b : PyData} {ds es : List PyData} {i j k : Int} {p q : Bool} {tu : TT}
/-- not isinstance(x, tuple) or len(x) != n or .. -/
theorem et_tupn {n : Nat} (vx : EvD K te σ F d) (hl : ∀ es, d = .tuple es → es.length ≤ 100000) (h1 : ∀ es, d = .tuple es → es.length = n → EtD tu σ F p) (h2 : (¬ ∃ es, d = .tuple es ∧ es.length = n) → p = true) :
    EtD (tOr (tNot (tTest (tCB (rIsi K) (tCons te (tCons (tC (.ty "tuple")) tNil)))))
      (tOr (tTest (tOp rNe (tCB (fun xs H Q => ∃ x n, xs = [x] ∧ LenV K x H n ∧ Q (.int n) H) (tCons te tNil)) (tC (.int (n : Int))))) tu)) σ F p := by
  by_cases ht : ∃ es, d = .tuple es
  · obtain ⟨es, rfl⟩ := ht
    have tT := et_notT (et_v (p := true) (ev_isi (T := "tuple") vx (by decide)) rfl)
    have hl' := hl es rfl
    by_cases hn : es.length = n
    · exact et_orF tT (et_orF (et_v (ev_neI (ev_len vx rfl hl') (ev_int n)) (by
        congr 1
        simp only [bne_eq_false_iff_eq]
        omega)) (h1 es rfl hn))
    · have e0 := h2 (fun ⟨es', e, h⟩ => by cases e; exact hn h)
      subst e0
      exact et_orF tT (et_orT (et_v (ev_neI (ev_len vx rfl hl') (ev_int n)) (by
        congr 1
        simp only [bne_iff_ne, ne_eq]
        omega)))
  · have e0 := h2 (fun ⟨es', e, h⟩ => ht ⟨es', e⟩)
    subst e0
    have e1 : isD d "tuple" = false := by
      cases d <;> first | rfl | exact absurd ⟨_, rfl⟩ ht
    exact et_orT (et_notF (et_v (ev_isi (T := "tuple") vx (by decide)) (by rw [e1])))
theorem len2 {es : List PyData} (h : es.length = 2) : ∃ a b, es = [a, b] := match es, h with | [a, b], _ => ⟨a, b, rfl⟩
theorem len3 {es : List PyData} (h : es.length = 3) : ∃ a b c, es = [a, b, c] := match es, h with | [a, b, c], _ => ⟨a, b, c, rfl⟩
/-- x not in d, d a dict of F -/
theorem et_dnotin {ad : Addr} {kvs : List (Key × V)} {x : Str} (ha : EvD K ta σ F (.str x)) (hb : ∀ F1 H1, Ex F F1 → Ex F1 H1 → ∀ Q : VK, Q (.ref ad) H1 → tb σ H1 Q) (hd : F ad = some (.dK kvs)) : EtD (tB (tDNotIn ta tb)) σ F (!(valV kvs (.inr x)).isSome) := fun H e Q q =>
  ha H e _ fun v F1 H1 g1 hv => by
    cases hv
    exact hb F1 H1 g1.fx g1.fh _ ⟨ad, _, rfl, DGet.k (k := .inr x) (g1.fh _ _ (g1.fx _ _ hd)), _, rfl, q F1 H1 g1⟩
/-- x in xs, texts, xs a list of H alone -/
theorem et_inStrs {al : Addr} {xs : List Str} {x : Str} {l : Nat} (ha : EvD K ta σ F (.str x)) (hi : σ[l]? = some (some (.ref al))) (H : Hp) (e : Ex F H) (hl : H al = some (.lst (xs.map V.str))) (fl : F al = none) (Q : Bool → Hp → Prop)
    (q : ∀ F' H', Gr F H F' H' → Q (decide (x ∈ xs)) H') : tTest (tOp (rIn K false) ta (tVar l)) σ H Q := ha H e _ fun v F1 H1 g1 hv => by
  cases hv
  refine ⟨_, hi, al, xs.map V.str, rfl, .inl (sq_of (g1.keep hl fl).1), rfl, by simp [flatV], _, rfl, ?_⟩
  have : (if false = true then !inV (V.str x) (xs.map V.str) else inV (V.str x) (xs.map V.str)) = decide (x ∈ xs) := by
    rw [if_neg (by decide)]
    unfold inV
    rw [Bool.eq_iff_iff, List.any_eq_true, decide_eq_true_iff]
    constructor
    · rintro ⟨y, hy, he⟩
      obtain ⟨z, hz, rfl⟩ := List.mem_map.mp hy
      have : z = x := by simpa [eqV] using he
      exact this ▸ hz
    · intro hx
      exact ⟨_, List.mem_map.mpr ⟨x, hx, rfl⟩, by simp [eqV]⟩
  rw [this]
  exact q F1 H1 g1
end
end Dv
namespace R3
open PySem PySem.Spec PyProof.Rows L2 Dv
section
variable {P : Program} {w : World} {K : PySem.W.Frag} {mg : Str → Option Value} {base : Heap}
def partOk : PyData → Bool
  | .tuple [a, k] => isName a && isNum k 1
  | _ => false
theorem part_shape {d : PyData} (h : partOk d = true) : ∃ n k, d = .tuple [.str n, k] ∧ nameS n = true ∧ isNum k 1 = true := by
  unfold partOk at h
  split at h
  · rename_i a k
    rw [Bool.and_eq_true] at h
    obtain ⟨h1, h2⟩ := h
    cases a <;> first | (cases h1; done) | skip
    exact ⟨_, k, rfl, h1, h2⟩
  · cases h
def nameAt : PyData → Str
  | .tuple (.str n :: _) => n
  | _ => ""
def partsGo (names : List Str) : List PyData → List Str → Bool
  | [], _ => true
  | d :: r, seen => partOk d && decide (nameAt d ∈ names) && !decide (nameAt d ∈ seen) && partsGo names r (seen ++ [nameAt d])
def areParts (names : List Str) : PyData → Bool
  | .list xs => partsGo names xs []
  | _ => false
/-- the spots: a dict of names -/
def SpotsAt (F : Hp) (a : Addr) (names : List Str) : Prop := ∃ kvs : List (Key × V), F a = some (.dK kvs) ∧ ∀ x : Str, (valV kvs (.inr x)).isSome = decide (x ∈ names)
theorem SpotsAt.ex {F F1 : Hp} {a : Addr} {names : List Str} (e : Evl.Ex F F1) (h : SpotsAt F a names) : SpotsAt F1 a names := let ⟨k, h1, h2⟩ := h; ⟨k, e _ _ h1, h2⟩
def spParts (K : PySem.W.Frag) : Sp := fun vs H Q _ => ∃ (F : Hp) (v : V) (d : PyData) (sp : Addr) (names : List Str), vs = [v, .ref sp] ∧ Evl.Ex F H ∧ Dp K F v d ∧ gd d = true ∧ SpotsAt F sp names ∧ ∀ F' H', Gr F H F' H' → Q (.bl (areParts names d)) H'
theorem sc_are_parts : FnScope (["value", "spots", "seen", "item"] : List Str) (["value", "spots"] : List Str) (defScope sAreParts) := ⟨rfl, rfl, rfl, by decide +kernel, rfl, by decide +kernel, by decide +kernel⟩
theorem ok_are_parts (D : Def K mg "are_parts" sAreParts ["value", "spots"]) (B : Bl mg) (C_is_name : Cal P w K mg base "is_name" ["value"] 1 (spD K fIsName)) (C_is_number : Cal P w K mg base "is_number" ["value", "least"] 2 (spD K fIsNum)) :
    Cal P w K mg base "are_parts" ["value", "spots"] 3 (spParts K) := by
  refine cal_mk D sc_are_parts (fun vs H Q E h => ?_) (fun f cdv A outer s H vs Q E hr h => ?_)
  · obtain ⟨F, v, d, sp, names, rfl, _⟩ := h
    rfl
  obtain ⟨F, v, d, sp, names, rfl, e, hv, hg, hsp, q⟩ := h
  have hu := hu_of hr.1
  refine ⟨_, (pss_cons (ps_if (pt_not (pt_val (pe_callB call_isi (by rfl) B.isi (by decide +kernel) (pa_cons (pv 0) (pa_cons (pe_bltn (v := .ty "list") (by rfl) B.list (by decide +kernel) rfl) pa_nil))))) (pss_one (ps_ret pe_bl)) pss_nil)
      (pss_cons (ps_set (i := 2) sc_are_parts.nd rfl (.inl rfl) (pe_lst pa_nil))
      (pss_cons (ps_for PassesOwn.never rfl (pi_list (pv 0)) (pg_name (i := 3) sc_are_parts.nd rfl (.inl rfl)) (pss_cons (ps_if (PW.pt (pw_or (pt_not (pt_val (pe_callB call_isi (by rfl) B.isi (by decide +kernel) (pa_cons (pv 3) (pa_cons (pe_bltn (v := .ty "tuple") (by rfl) B.tuple (by decide +kernel) rfl) pa_nil))))) (pw_or (pt_cmpR op_ne (pe_callB call_len (by rfl) B.len (by decide +kernel) (pa_cons (pv 3) pa_nil)) pe_int (nomark _)) (pw_or (pt_not (pt_val (pe_callC C_is_name hr (pa_cons (pe_ix ix_tup (pv 3) pe_int (fun _ _ => rfl)) pa_nil)))) (pw_or1 (pt_not (pt_val (pe_callC C_is_number hr (pa_cons (pe_ix ix_tup (pv 3) pe_int (fun _ _ => rfl)) (pa_cons pe_int pa_nil)))))))))) (pss_one (ps_ret pe_bl)) pss_nil)
      (pss_cons (ps_if (PW.pt (pw_or (pt_cmp (pc_dnotin hu (pe_ix ix_tup (pv 3) pe_int (fun _ _ => rfl)) (pv 1)) (by rfl)) (pw_or1 (pt_cmpR op_in_seq (pe_ix ix_tup (pv 3) pe_int (fun _ _ => rfl)) (pv 2) (by rfl))))) (pss_one (ps_ret pe_bl)) pss_nil)
      (pss_one (ps_expr (pe_bm PySem.F.plainAttrs_list PySem.F.slot_list_append PySem.F.type_list_append mt_append (pv 2) (pa_cons (pe_ix ix_tup (pv 3) pe_int (fun _ _ => rfl)) pa_nil)))))))
      (pss_one (ps_ret pe_bl))))), ?_⟩
  have vx := Dv.ev_var (K := K) (σ := [some v, some (.ref sp), none, none]) (i := 0) rfl hv
  by_cases ht : ∃ xs, d = .list xs
  · obtain ⟨xs, rfl⟩ := ht
    obtain ⟨hxl, hgs⟩ := gd_list hg
    refine s_ifF (et_notT (et_v (p := true) (ev_isi (T := "list") vx (by decide)) rfl)) e fun F0 H0 g0 => ?_
    refine Dv.s_asgL (K := K) (Dv.el_lst Dv.ea_nil (by simp)) g0.fh fun p ws F1 H1 g1 hp0 fp hp1 hws => ?_
    cases hws
    have g01 := g0.trans g1
    refine Dv.s_for (it_list (Dv.ev_var rfl (dp_ex g01.fx hv))) g1.fh
      (fun n σ F' H' => ∃ (it : Option V) (seen : List Str), σ = [some v, some (.ref sp), some (.ref p), it] ∧ F' p = none ∧ H' p = some (.lst (seen.map V.str)) ∧ seen.length ≤ n ∧ partsGo names xs [] = partsGo names (xs.drop n) seen ∧ Gr F H F' H')
      (fun F2 H2 g2 => ?_) ?_ (fun σ' F2 H2 e2 e3 p2 => ?_)
    · have k := g2.keep hp1 fp
      exact ⟨none, [], rfl, k.2, k.1, Nat.le_refl _, rfl, g01.trans g2⟩
    · rintro Fb eb n σ' F2 H2 u du F3 H3 hdu e2 e3 ⟨it, seen, rfl, fp2, hp2, hsl, hpg, gg⟩ g3 hu3
      have hp3 := g3.keep hp2 fp2
      have gg3 := gg.trans g3
      have hn : n < xs.length := (List.getElem?_eq_some_iff.mp hdu).1
      have hdrop : xs.drop n = du :: xs.drop (n + 1) := by
        rw [List.drop_eq_getElem_cons hn]
        congr 1
        exact (List.getElem?_eq_some_iff.mp hdu).2
      rw [hdrop] at hpg
      have hgd : gd du = true := gds_mem hgs (List.mem_of_getElem? hdu)
      have vu := Dv.ev_var (K := K) (σ := [some v, some (.ref sp), some (.ref p), some u]) (i := 3) rfl hu3
      show tSeq _ _ _ [some v, some (.ref sp), some (.ref p), some u] H3
      have t1 : ∀ a k, du = .tuple [a, k] → EvD K (tCall (spD K fIsName) [] E0 (tCons (tOp (rIxT K) (tVar 3) (tC (.int 0))) tNil)) [some v, some (.ref sp), some (.ref p), some u] F3 (.bool (isName a)) := by
        intro a k hd
        subst hd
        have ga : gd a = true := gds_mem (gd_tup hgd).2 (by simp)
        exact ev_callD (Dv.ea_cons (Dv.ev_ixT (d := a) vu (Dv.ev_int 0) rfl) Dv.ea_nil) ⟨a, rfl, fun y hy => gd_str (by rw [← hy]; exact ga), rfl⟩
      have t2 : ∀ a k, du = .tuple [a, k] → EvD K (tCall (spD K fIsNum) [] E0 (tCons (tOp (rIxT K) (tVar 3) (tC (.int 1))) (tCons (tC (.int 1)) tNil))) [some v, some (.ref sp), some (.ref p), some u] F3 (.bool (isNum k 1)) := by
        intro a k hd
        subst hd
        exact ev_callD (Dv.ea_cons (Dv.ev_ixT (d := k) vu (Dv.ev_int 1) rfl) (Dv.ea_cons (Dv.ev_int 1) Dv.ea_nil)) ⟨_, _, rfl, rfl⟩
      cases hpo : partOk du with
      | false =>
        refine s_ifT (et_tupn (n := 2) vu (fun es he => by subst he; exact Nat.le_trans (gd_tup hgd).1 (by decide)) (fun es he hl => ?_) fun _ => rfl) g3.fh fun F4 H4 g4 => ?_
        · obtain ⟨a, k, rfl⟩ := len2 hl
          subst he
          have z : (isName a && isNum k 1) = false := hpo
          cases ha : isName a with
          | false => exact et_orT (et_notF (et_v (t1 a k rfl) (by rw [ha])))
          | true =>
            rw [ha, Bool.true_and] at z
            exact et_orF (et_notT (et_v (t1 a k rfl) (by rw [ha]))) (et_notF (et_v (t2 a k rfl) (by rw [z])))
        · have := q F4 H4 (gg3.trans g4)
          rw [show areParts names (.list xs) = partsGo names xs [] from rfl, hpg, partsGo, hpo] at this
          exact this
      | true =>
        obtain ⟨nm, k, rfl, hnm, hk⟩ := part_shape hpo
        refine s_ifF (et_tupn (n := 2) vu (fun es he => by cases he; exact (by simp : 2 ≤ 100000)) (fun es he hl => ?_) fun no => absurd ⟨_, rfl, rfl⟩ no) g3.fh fun F4 H4 g4 => ?_
        · cases he
          exact et_orF (et_notT (et_v (t1 _ _ rfl) (by rw [show isName (.str nm) = true from hnm]))) (et_notT (et_v (t2 _ _ rfl) (by rw [hk])))
        have hp4 := g4.keep hp3.1 hp3.2
        have gg4 := gg3.trans g4
        have v0 := Dv.ev_ixT (d := .str nm) (vu.mono g4.fx) (Dv.ev_int 0) rfl
        obtain ⟨kvs, hkv, hks⟩ := hsp.ex gg4.fx
        have nI := et_dnotin (tb := tVar 1) v0 (fun F1 H1 _ _ Q q => ⟨_, rfl, q⟩) hkv
        rw [hks] at nI
        have hpg' : partsGo names xs [] = (decide (nm ∈ names) && !decide (nm ∈ seen) && partsGo names (xs.drop (n + 1)) (seen ++ [nm])) := by
          rw [hpg, partsGo, hpo, Bool.true_and] <;> rfl
        have no : (decide (nm ∈ names) && !decide (nm ∈ seen)) = false → ∀ F5 H5, Gr F4 H4 F5 H5 → Q (.bl false) H5 := fun h F5 H5 g5 => by
          have := q F5 H5 (gg4.trans g5)
          rw [show areParts names (.list xs) = partsGo names xs [] from rfl, hpg', h, Bool.false_and] at this
          exact this
        by_cases hin : nm ∈ names
        · rw [decide_eq_true hin] at nI
          -- then the second part of the or
          refine nI H4 g4.fh _ fun F5 H5 g5 => ?_
          rw [if_neg (show ¬ ((!true) = true) by decide)]
          have hp5 := g5.keep hp4.1 hp4.2
          refine et_inStrs (v0.mono g5.fx) rfl H5 g5.fh hp5.1 hp5.2 _ fun F6 H6 g6 => ?_
          by_cases hs : nm ∈ seen
          · rw [decide_eq_true hs]
            exact iteT (no (by rw [decide_eq_true hs]; simp) F6 H6 (g5.trans g6))
          · rw [decide_eq_false hs]
            refine iteF ?_
            have hp6 := g6.keep hp5.1 hp5.2
            have g56 := g5.trans g6
            refine Dv.s_app (xs := seen.map V.str) (d := .str nm) hp6.1 hp6.2 rfl (v0.mono g56.fx) g6.fh (by rw [List.length_map]; omega) fun y F7 H7 g7 hy f7 h7 => ?_
            cases hy
            have hH : H p = none := ex_none g0.hx hp0
            refine ⟨F7, e2.trans (g3.fx.trans (g4.fx.trans (g56.fx.trans g7.fx))), ?_, some u, seen ++ [nm], rfl, f7, by rw [upd_same, List.map_append] <;> rfl, by rw [List.length_append]; simp; omega, ?_, ?_⟩
            · exact Evl.Ex.mut g7.fh f7
            · rw [hpg', decide_eq_true hin, decide_eq_false hs] <;> rfl
            · exact ((gg4.trans g56).trans g7).mut hH f7
        · rw [decide_eq_false hin] at nI
          refine nI H4 g4.fh _ fun F5 H5 g5 => ?_
          rw [if_pos (show (!false) = true from rfl)]
          exact iteT (no (by rw [decide_eq_false hin]; rfl) F5 H5 g5)
    · obtain ⟨it, seen, rfl, _, _, _, hpg, gg⟩ := p2
      dsimp only
      refine Dv.s_ret (K := K) (d := .bool true) (Dv.ev_bl true) e3 fun y F4 H4 g4 hy => ?_
      cases hy
      have := q F4 H4 (gg.trans g4)
      rw [show areParts names (.list xs) = partsGo names xs [] from rfl, hpg, List.drop_length] at this
      exact this
  · have e0 : areParts names d = false := by
      cases d <;> first | rfl | exact absurd ⟨_, rfl⟩ ht
    have e1 : isD d "list" = false := by
      cases d <;> first | rfl | exact absurd ⟨_, rfl⟩ ht
    refine s_ifT (et_notF (et_v (ev_isi (T := "list") vx (by decide)) (by rw [e1]))) e fun F1 H1 g1 => ?_
    have := q F1 H1 g1
    rw [e0] at this
    exact this
end
end R3

set_option Elab.async false
set_option linter.all false
set_option maxRecDepth 100000
set_option maxHeartbeats 4000000
namespace R3
open PySem PySem.Spec PyProof.Rows L2 Dv
section
variable {P : Program} {w : World} {K : PySem.W.Frag} {mg : Str → Option Value} {base : Heap}
theorem ev_parts {σ : L2.St} {F : Hp} {te : TE} {d : PyData} {sp : Addr} {names : List Str} {j : Nat} {E : XK} (h : EvD K te σ F d) (hj : σ[j]? = some (some (.ref sp))) (hs : SpotsAt F sp names) (hg : gd d = true) :
    EvD K (tCall (spParts K) [] E (tCons te (tCons (tVar j) tNil))) σ F (.bool (areParts names d)) := fun H e Q q =>
  h H e _ fun v F1 H1 g1 hv => ⟨_, hj, F1, v, d, sp, names, rfl, g1.fh, hv, hg, hs.ex g1.fx, fun F' H' g => q _ F' H' (g1.trans g) (.bl _)⟩
def isRecipe (names : List Str) : PyData → Bool
  | .tuple [n, t, g] => isName n && areParts names t && areParts names g
  | _ => false
def spRecipe (K : PySem.W.Frag) : Sp := fun vs H Q _ => ∃ (F : Hp) (v : V) (d : PyData) (sp : Addr) (names : List Str), vs = [v, .ref sp] ∧ Evl.Ex F H ∧ Dp K F v d ∧ gd d = true ∧ SpotsAt F sp names ∧ ∀ F' H', Gr F H F' H' → Q (.bl (isRecipe names d)) H'
theorem sc_is_recipe : FnScope (["value", "spots"] : List Str) (["value", "spots"] : List Str) (defScope sIsRecipe) := ⟨rfl, rfl, rfl, by decide +kernel, rfl, by decide +kernel, by decide +kernel⟩
theorem ok_is_recipe (D : Def K mg "is_recipe" sIsRecipe ["value", "spots"]) (B : Bl mg) (C_is_name : Cal P w K mg base "is_name" ["value"] 1 (spD K fIsName)) (C_are_parts : Cal P w K mg base "are_parts" ["value", "spots"] 3 (spParts K)) :
    Cal P w K mg base "is_recipe" ["value", "spots"] 4 (spRecipe K) := by
  refine cal_mk D sc_is_recipe (fun vs H Q E h => ?_) (fun f cdv A outer s H vs Q E hr h => ?_)
  · obtain ⟨F, v, d, sp, names, rfl, _⟩ := h
    rfl
  obtain ⟨F, v, d, sp, names, rfl, e, hv, hg, hsp, q⟩ := h
  refine ⟨_, (pss_cons (ps_if (PW.pt (pw_or (pt_not (pt_val (pe_callB call_isi (by rfl) B.isi (by decide +kernel) (pa_cons (pv 0) (pa_cons (pe_bltn (v := .ty "tuple") (by rfl) B.tuple (by decide +kernel) rfl) pa_nil))))) (pw_or (pt_cmpR op_ne (pe_callB call_len (by rfl) B.len (by decide +kernel) (pa_cons (pv 0) pa_nil)) pe_int (nomark _)) (pw_or1 (pt_not (pt_val (pe_callC C_is_name hr (pa_cons (pe_ix ix_tup (pv 0) pe_int (fun _ _ => rfl)) pa_nil)))))))) (pss_one (ps_ret pe_bl)) pss_nil)
      (pss_one (ps_ret (pe_and (pe_callC C_are_parts hr (pa_cons (pe_ix ix_tup (pv 0) pe_int (fun _ _ => rfl)) (pa_cons (pv 1) pa_nil))) (pe_one (pe_callC C_are_parts hr (pa_cons (pe_ix ix_tup (pv 0) pe_int (fun _ _ => rfl)) (pa_cons (pv 1) pa_nil)))))))), ?_⟩
  have vx := Dv.ev_var (K := K) (σ := [some v, some (.ref sp)]) (i := 0) rfl hv
  have nm : ∀ a t g, d = .tuple [a, t, g] → EvD K (tCall (spD K fIsName) [] E0 (tCons (tOp (rIxT K) (tVar 0) (tC (.int 0))) tNil)) [some v, some (.ref sp)] F (.bool (isName a)) := by
    intro a t g hd
    subst hd
    have ga : gd a = true := gds_mem (gd_tup hg).2 (by simp)
    exact ev_callD (Dv.ea_cons (Dv.ev_ixT (d := a) vx (Dv.ev_int 0) rfl) Dv.ea_nil) ⟨a, rfl, fun y hy => gd_str (by rw [← hy]; exact ga), rfl⟩
  have hlen : ∀ es, d = .tuple es → es.length ≤ 100000 := fun es he => by
    subst he
    exact Nat.le_trans (gd_tup hg).1 (by decide)
  by_cases hs : ∃ a t g, d = .tuple [a, t, g] ∧ isName a = true
  · obtain ⟨a, t, g, rfl, hn⟩ := hs
    have gt : gd t = true := gds_mem (gd_tup hg).2 (by simp)
    have gg : gd g = true := gds_mem (gd_tup hg).2 (by simp)
    refine s_ifF (et_tupn (n := 3) vx hlen (fun es he _ => et_notT (et_v (nm a t g rfl) (by rw [hn]))) fun no => absurd ⟨_, rfl, rfl⟩ no) e fun F1 H1 g1 => ?_
    refine Dv.s_ret (K := K) (d := .bool (isRecipe names (.tuple [a, t, g]))) (Dv.ev_is (Dv.ev_andV (ev_parts (j := 1) (Dv.ev_ixT (d := t) (vx.mono g1.fx) (Dv.ev_int 1) rfl) rfl (hsp.ex g1.fx) gt) fun _ => ev_parts (j := 1) (Dv.ev_ixT (d := g) (vx.mono g1.fx) (Dv.ev_int 2) rfl) rfl (hsp.ex g1.fx) gg) (by
      show _ = PyData.bool (isName a && areParts names t && areParts names g)
      rw [hn, Bool.true_and])) g1.fh fun y F2 H2 g2 hy => ?_
    cases hy
    exact q F2 H2 (g1.trans g2)
  · have e0 : isRecipe names d = false := by
      unfold isRecipe
      split
      · rename_i a t g
        cases hn : isName a with
        | true => exact absurd ⟨a, t, g, rfl, hn⟩ hs
        | false => rfl
      · rfl
    refine s_ifT (et_tupn (n := 3) vx hlen (fun es he hl => ?_) fun _ => rfl) e fun F1 H1 g1 => ?_
    · obtain ⟨a, t, g, rfl⟩ := len3 hl
      cases hn : isName a with
      | true => exact absurd ⟨a, t, g, he, hn⟩ hs
      | false => exact et_notF (et_v (nm a t g he) (by rw [hn]))
    · have := q F1 H1 g1
      rw [e0] at this
      exact this
def spSize (K : PySem.W.Frag) : Sp := fun vs H Q _ => ∃ (F : Hp) (v : V) (xs : List PyData) (l m : Int), vs = [v, .int l, .int m] ∧ Evl.Ex F H ∧ Dp K F v (.list xs) ∧ l ≤ xs.length ∧ (xs.length : Int) ≤ m ∧ xs.length ≤ 100000 ∧ ∀ F' H', Gr F H F' H' → Q .non H'
theorem sc_check_size : FnScope (["value", "least", "most"] : List Str) (["value", "least", "most"] : List Str) (defScope sCheckSize) := ⟨rfl, rfl, rfl, by decide +kernel, rfl, by decide +kernel, by decide +kernel⟩
theorem ok_check_size (D : Def K mg "check_size" sCheckSize ["value", "least", "most"]) (B : Bl mg) : Cal P w K mg base "check_size" ["value", "least", "most"] 1 (spSize K) := by
  refine cal_mk D sc_check_size (fun vs H Q E h => ?_) (fun f cdv A outer s H vs Q E hr h => ?_)
  · obtain ⟨F, v, xs, l, m, rfl, _⟩ := h
    rfl
  obtain ⟨F, v, xs, l, m, rfl, e, hv, h1, h2, h3, q⟩ := h
  refine ⟨_, (pss_one (ps_if (PW.pt (pw_or (pt_not (pt_val (pe_callB call_isi (by rfl) B.isi (by decide +kernel) (pa_cons (pv 0) (pa_cons (pe_bltn (v := .ty "list") (by rfl) B.list (by decide +kernel) rfl) pa_nil))))) (pw_or1 (pt_not (pt_chain op_le op_le (pv 1) (pe_callB call_len (by rfl) B.len (by decide +kernel) (pa_cons (pv 0) pa_nil)) (pv 2)))))) (pss_one ps_never) pss_nil)), ?_⟩
  have vx := Dv.ev_var (K := K) (σ := [some v, some (.int l), some (.int m)]) (i := 0) rfl hv
  refine s_ifF (et_orF (et_notT (et_v (p := true) (ev_isi (T := "list") vx (by decide)) rfl)) (et_notT (et_chI (f := fun i j => decide (i ≤ j)) (g := fun i j => decide (i ≤ j)) (Dv.ev_var rfl (.int l)) (ev_len vx rfl h3) (Dv.ev_var rfl (.int m)) (by
    rw [decide_eq_true h1, decide_eq_true h2] <;> rfl)))) e fun F1 H1 g1 => q F1 H1 g1
end
end R3

set_option Elab.async false
set_option linter.all false
set_option maxRecDepth 100000
set_option maxHeartbeats 4000000
/-! enumerate(d), d a dict that is locked. -/
namespace PySem
namespace EK
open Sem (wp)
section
variable {prog : Program} {w : World} {A : Around} {E : Value → Shared → Prop} {s : Shared}
theorem nextOf_key_item {it d : Addr} {i n ep : Nat} {od : Obj} {es : Array DictEntry} {en : DictEntry} {Q : Value → Shared → Prop} (hit : s.heap.IsKeyIter it d i n ep) (hod : s.heap.get? d = some od) (hdd : od.data = .dict es ep)
    (hsz : es.size = n) (hx : es[i]? = some en) (hQ : ∀ h', h'.IsKeyIter it d (i + 1) n ep → Heap.SameBut it s.heap h' → Q en.key { s with heap := h' }) : wpAny (model prog w) A (Builtin.SmallTypes.nextOf (.ref it)) Q E s := by
  obtain ⟨o, ho, hc, hd⟩ := id hit
  unfold Builtin.SmallTypes.nextOf
  refine wpAny_bind (wpAny_callSpecial?_slot (name := Str.ofString "__next__") hit.typeIs F.slot_dict_keyiterator_next
    (wpAny_call_entry F.slot_dict_keyiterator_next hit.typeIs F.entry_dict_keyiterator_next ?_ (F.args_dict_keyiterator_next_1 _)))
  refine wpAny_bind (wpAny_pure ?_)
  refine wpAny_bind ?_
  refine wpAny_bind ?_
  first | refine wpAny_bind (wpAny_typeNameOfWhole_keyiter hit.typeIs (wpAny_pure ?_)) | refine wpAny_bind (wpAny_typeNameOf_keyiter hit.typeIs (wpAny_pure ?_))
  refine wpAny_bind (wpAny_fieldsOf ho hd ?_)
  have hown : Builtin.Dict_items.ownsTuple "dict_keyiterator" = false := by decide
  simp only [hown, Bool.false_eq_true, if_false]
  show wpAny _ _ (if (Value.ref d == Value.none) = true then _ else _) _ _ s
  rw [if_neg (show ¬ ((Value.ref d == Value.none) = true) from Bool.false_ne_true)]
  refine wpAny_bind (wpAny_pure ?_)
  refine wpAny_bind (wpAny_dictEntries hod hdd ?_)
  rw [if_neg (by rw [hsz]; simp)]
  refine wpAny_bind (wpAny_pure ?_)
  refine wpAny_bind (wpAny_dictEpoch hod hdd ?_)
  rw [if_neg (by simp)]
  refine wpAny_pure ?_
  obtain ⟨hlt', hen⟩ := Array.getElem?_eq_some_iff.mp hx
  simp only [show ¬ ((i : Int) < 0) from by omega, if_false, Int.toNat_natCast, Array.getElem?_eq_getElem hlt']
  refine wpAny_bind ?_
  first | refine wpAny_bind (wpAny_typeNameOfWhole_keyiter hit.typeIs (wpAny_pure ?_)) | refine wpAny_bind (wpAny_typeNameOf_keyiter hit.typeIs (wpAny_pure ?_))
  refine wpAny_bind (wpAny_isOneOf_keyiter hit.typeIs ?_)
  show wpAny _ _ (setField (.ref it) 1 (rawInt ((i : Int) + 1)) >>= _) _ _ s
  refine wpAny_bind (wpAny_setField ho hd (by simp) ?_)
  have hit' : (s.heap.update it (Obj.mapFields (·.setIfInBounds 1 (rawInt ((i : Int) + 1))))).IsKeyIter it d (i + 1) n ep :=
    ⟨_, Heap.get?_update_self _ ho (Obj.isFreed_of_fields (Obj.data_mapFields hd _)), (Obj.cls_mapFields ..).trans hc, by rw [Obj.data_mapFields hd]; simp [rawInt]⟩
  refine wpAny_bind (wpAny_holding ?_)
  refine wpAny_bind (wpAny_isOneOf_keyiter (s := { s with heap := s.heap.update it (Obj.mapFields (·.setIfInBounds 1 (rawInt ((i : Int) + 1)))) }) hit'.typeIs ?_)
  show wpAny _ _ (pure es[i].key) _ _ _
  rw [hen]
  exact wpAny_pure (wpAny_pure ⟨_, rfl, wpAny_pure (hQ _ hit' (Heap.SameBut.update ..))⟩)
theorem nextOf_key_end {it d : Addr} {i n ep : Nat} {od : Obj} {es : Array DictEntry} {Q : Value → Shared → Prop} (hh : A.handled = none) (hit : s.heap.IsKeyIter it d i n ep) (hod : s.heap.get? d = some od) (hdd : od.data = .dict es ep)
    (hsz : es.size = n) (hge : n ≤ i) (hE : ∀ h' e, Heap.ExtBut it s.heap h' → (∃ o, h'.get? e = some o ∧ o.cls = .type "StopIteration") → E (.ref e) { s with heap := h' }) : wpAny (model prog w) A (Builtin.SmallTypes.nextOf (.ref it)) Q E s := by
  obtain ⟨o, ho, hc, hd⟩ := id hit
  unfold Builtin.SmallTypes.nextOf
  refine wpAny_bind (wpAny_callSpecial?_slot (name := Str.ofString "__next__") hit.typeIs F.slot_dict_keyiterator_next
    (wpAny_call_entry F.slot_dict_keyiterator_next hit.typeIs F.entry_dict_keyiterator_next ?_ (F.args_dict_keyiterator_next_1 _)))
  refine wpAny_bind (wpAny_pure ?_)
  refine wpAny_bind ?_
  refine wpAny_bind ?_
  first | refine wpAny_bind (wpAny_typeNameOfWhole_keyiter hit.typeIs (wpAny_pure ?_)) | refine wpAny_bind (wpAny_typeNameOf_keyiter hit.typeIs (wpAny_pure ?_))
  refine wpAny_bind (wpAny_fieldsOf ho hd ?_)
  have hown : Builtin.Dict_items.ownsTuple "dict_keyiterator" = false := by decide
  simp only [hown, Bool.false_eq_true, if_false]
  show wpAny _ _ (if (Value.ref d == Value.none) = true then _ else _) _ _ s
  rw [if_neg (show ¬ ((Value.ref d == Value.none) = true) from Bool.false_ne_true)]
  refine wpAny_bind (wpAny_pure ?_)
  refine wpAny_bind (wpAny_dictEntries hod hdd ?_)
  rw [if_neg (by rw [hsz]; simp)]
  refine wpAny_bind (wpAny_pure ?_)
  refine wpAny_bind (wpAny_dictEpoch hod hdd ?_)
  rw [if_neg (by simp)]
  refine wpAny_pure ?_
  have hge' : es.size ≤ i := by rw [hsz]; exact hge
  simp only [show ¬ ((i : Int) < 0) from by omega, if_false, Int.toNat_natCast, Array.getElem?_eq_none hge']
  refine wpAny_bind ?_
  first | refine wpAny_bind (wpAny_typeNameOfWhole_keyiter hit.typeIs (wpAny_pure ?_)) | refine wpAny_bind (wpAny_typeNameOf_keyiter hit.typeIs (wpAny_pure ?_))
  show wpAny _ _ (setField (.ref it) 0 .none >>= _) _ _ s
  refine wpAny_bind (wpAny_setField ho hd (by simp) ?_)
  show wpAny _ _ (newExc (.type "StopIteration") [] >>= _) _ _ _
  refine wpAny_bind ?_
  simp only [newExc, newTuple]
  refine wpAny_bind (wpAny_newObj_type ?_ (by size_fits))
  refine wpAny_bind (m := firstArgMember _ _) (wpAny_of_eq (a := Value.none) (by first | rfl | (simp only [firstArgMember]; rfl)) ?_)
  refine wpAny_newObj_type ?_ (by size_fits)
  simp only [raiseNew]
  refine wpAny_bind (wpAny_handled ?_)
  rw [show A.in1.handled = none from hh]
  refine wpAny_bind (wpAny_pure (wpAny_throw ?_))
  exact hE _ _ (((Heap.SameBut.update ..).extBut.push _).push _) ⟨_, Heap.get?_push_size _ rfl, rfl⟩
end
theorem draws_keys {prog : Program} {w : World} {A : Around} {it d : Addr} {n ep : Nat} {od : Obj} {es : Array DictEntry} (hh : A.handled = none) (hdd : od.data = .dict es ep) (hsz : es.size = n) (hne : d ≠ it) :
    Draws prog w A it [it, d] n (fun i v => ∃ en, es[i]? = some en ∧ v = en.key) (fun i h => h.IsKeyIter it d i n ep ∧ h.get? d = some od) where
  live := fun i h st => let ⟨⟨o, ho, _⟩, _⟩ := st; ⟨o, ho⟩
  frame := fun i h h' st k => let ⟨⟨o, ho, r⟩, hd⟩ := st; ⟨⟨o, k it (by simp) o ho, r⟩, k d (by simp) _ hd⟩
  item := fun i s Q E hi st hQ => by
    obtain ⟨hit, hod⟩ := st
    have hx : es[i]? = some es[i] := Array.getElem?_eq_getElem (by omega)
    exact nextOf_key_item hit hod hdd hsz hx fun h' hit' sb => hQ _ h' s.toks ⟨_, hx, rfl⟩ ⟨hit', (sb.2 d hne).trans hod⟩ sb
  done := fun s Q E st hE => nextOf_key_end hh st.1 st.2 hdd hsz (Nat.le_refl _) hE
theorem meets_new (d : Addr) (o : Obj) (es : Array DictEntry) (ep : Nat) (hs : (d == sysModules) = false) (hc : o.ExactDict) (hdat : o.data = .dict es ep) :
    Meets (Builtin.«enumerate.__new__» ⟨[.type "enumerate", .ref d], []⟩) (fun _ R s => s.heap.get? d = some o ∧
      R (.ok (.ret (.ref (s.heap.push { cls := .type "dict_keyiterator", data := .fields #[.ref d, .int 0 0, .int es.size 0, .int ep 0] }).objs.size)))
        { s with heap := (s.heap.push { cls := .type "dict_keyiterator", data := .fields #[.ref d, .int 0 0, .int es.size 0, .int ep 0] }).push { cls := .type "enumerate", data := .fields #[.none, .bool false, .ref s.heap.objs.size, rawInt 0, .none, .none] } }) :=
  .of_wp fun prog w A R s h => by
    obtain ⟨hp, g, dr, tk, os⟩ := s; obtain ⟨hl, h⟩ := h
    have hsub := sub_enumerate
    have hL : (Shared.mk hp g dr tk os).heap.get? d = some o := hl
    wp_walk using AutoSeq1.wpAny_loadPart' hl
    refine wpAny_stack_any fun st => wpAny_pure ?_
    split
    · rename_i c _ _ _ _ _
      cases (c == Value.type "enumerate")
      · wp_walk using AutoSeq1.wpAny_loadPart' hl, L2.iter_keys hs hL hc hdat
        exact ⟨_, rfl, h⟩
      · wp_walk using AutoSeq1.wpAny_loadPart' hl, L2.iter_keys hs hL hc hdat
        exact ⟨_, rfl, h⟩
    · wp_walk using AutoSeq1.wpAny_loadPart' hl, L2.iter_keys hs hL hc hdat
      exact ⟨_, rfl, h⟩
section
variable {prog : Program} {w : World} {A : Around} {E : Value → Shared → Prop} {s : Shared}
theorem call_enumK {d : Addr} {o : Obj} {es : Array DictEntry} {ep : Nat} {Q : Value → Shared → Prop} (hs : (d == sysModules) = false) (hd : s.heap.get? d = some o) (hc : o.ExactDict) (hdat : o.data = .dict es ep)
    (h : ∀ h', IsEnum h' (s.heap.objs.size + 1) s.heap.objs.size 0 .none → h'.IsKeyIter s.heap.objs.size d 0 es.size ep → h'.objs.size = s.heap.objs.size + 2 →
      (∀ b o, s.heap.get? b = some o → h'.get? b = some o) → Q (.ref (s.heap.objs.size + 1)) { s with heap := h' }) :
    wpAny (model prog w) A (call (.type "enumerate") [.ref d]) Q E s := by
  refine callType_new F.called_enumerate (by decide) (F.typeCall_enumerate_1 _) (F.newCall_enumerate_1 _) (fun obj => F.args_object_init_2 obj _) F.entry_enumerate_new
    (meets_new d o es ep hs hc hdat) ⟨hd, ?_⟩
  have hz : (s.heap.push { cls := .type "dict_keyiterator", data := .fields #[.ref d, .int 0 0, .int es.size 0, .int ep 0] }).objs.size = s.heap.objs.size + 1 := Heap.size_push ..
  show _ ∧ _
  rw [hz]
  have he : IsEnum ((s.heap.push { cls := .type "dict_keyiterator", data := .fields #[.ref d, .int 0 0, .int es.size 0, .int ep 0] }).push
      { cls := .type "enumerate", data := .fields #[.none, .bool false, .ref s.heap.objs.size, rawInt 0, .none, .none] }) (s.heap.objs.size + 1) s.heap.objs.size 0 .none := by
    rw [← hz]
    exact Heap.get?_push_size _ rfl
  refine ⟨⟨_, he, rfl⟩, h _ he ⟨_, Heap.get?_push_of_some _ (Heap.get?_push_size _ rfl), rfl, rfl⟩ (by rw [Heap.size_push, hz]) fun b o' e => Heap.get?_push_of_some _ (Heap.get?_push_of_some _ e)⟩
end
end EK
end PySem

set_option Elab.async false
set_option linter.all false
set_option maxRecDepth 100000
set_option maxHeartbeats 4000000
namespace L2
open PySem PySem.Spec PyProof.Rows
/-- the places and the keys of the locked dict at d, each a new tuple -/
def Itek (d : Addr) (o : Obj) (kvs : List (Key × V)) : It :=
  ⟨fun i H => H d = some (.frz o (.dK kvs)) ∧ i < kvs.length, fun i H x H' => ∃ T k v, kvs[i]? = some (k, v) ∧ x = .ref T ∧ H T = none ∧ H' = upd H T (.tup [.int (i : Nat), kV k]), fun i H => H d = some (.frz o (.dK kvs)) ∧ kvs.length ≤ i⟩
section
variable {P : Program} {w : World} {K : PySem.W.Frag} {d : Addr} {o : Obj} {es : Array DictEntry} {ep : Nat}
theorem turn_enumK {kvs : List (Key × V)} {elts : List Expr} {kk : Nat} {tpos : Pos} (e it : Addr) (hod : o.data = .dict es ep) (hde : d ≠ e) (hdi : d ≠ it) :
    Turn P w K (.Tuple elts kk tpos) (Itek d o kvs) [e, it] e (fun i h => (∃ old, IsEnum h e it ((i : Nat) : Int) old) ∧ h.IsKeyIter it d i kvs.length ep ∧ e ≠ it) where
  mem := by simp
  obj := fun i h st b hb => by
    obtain ⟨⟨old, he⟩, ⟨o, ho, hc, hd⟩, _⟩ := st
    have e' : b = e ∨ b = it := by simpa using hb
    rcases e' with z | z
    · rw [z]; exact ⟨_, he, fun v q => nomatch q⟩
    · rw [z]; exact ⟨o, ho, fun v q => by rw [hd] at q; cases q⟩
  keep := fun i h h' st k => let ⟨⟨old, he⟩, ⟨oi, ho, r⟩, hne⟩ := st; ⟨⟨old, k e (by simp) _ he⟩, ⟨oi, k it (by simp) oi ho, r⟩, hne⟩
  item := by
    intro X hP hw hK hc i pins s σ H E I hf st hg
    subst hP hw hK
    obtain ⟨⟨old, he⟩, hit, hne⟩ := st
    obtain ⟨hd, hi⟩ := hg
    obtain ⟨hs, hgd, hx, es', ep', vs, hdt, hsz, kv, hm⟩ := I.frzK hd
    obtain ⟨rfl, rfl⟩ := dict_ep hod hdt
    obtain ⟨⟨k, v⟩, hkv⟩ : ∃ p, kvs[i]? = some p := ⟨kvs[i], List.getElem?_eq_getElem hi⟩
    obtain ⟨u, hu, ru⟩ := kv_get kv hkv
    have hl : kvs.length = vs.length := Paired.length kv
    have hel : e < s.heap.objs.size := Heap.lt_size he
    have hil : it < s.heap.objs.size := by obtain ⟨_, q, _⟩ := hit; exact Heap.lt_size q
    refine wpAny_pyNext_enum_itemD (EK.draws_keys (prog := X.prog) (w := X.w) (A := X.A.in1) (it := it) (I.ok.hd hc) hod hsz hdi) he ⟨hit, hgd⟩ hi hne (by simpa using ⟨hne, Ne.symm hde⟩) fun x h' tk hP ho hst hT hsz' hk => ?_
    obtain ⟨en, hen, rfl⟩ := hP
    obtain ⟨od2, es2, hod2, _, hdd2, _, hp, _⟩ := hm
    rw [hgd] at hod2
    cases hod2
    obtain ⟨rfl, _⟩ := dict_ep hod hdd2
    have hkey : keyIs k en.key = true := (hp.get? (e := en) (by simpa using hen) hu).1
    refine ⟨_, rfl, wpAny_letOwnedTupleGo_enum (s := { s with heap := h', toks := tk + 1 }) ho fun h'' he' sb => ?_⟩
    have hT2 : h''.get? s.heap.objs.size = some { cls := .type "tuple", data := .seq #[.int i tk, en.key] } := (sb.2 _ (Nat.ne_of_gt hel)).trans hT
    have new : ObjOk X.prog X.w (upd H s.heap.objs.size (.tup [.int (i : Nat), kV k])) h'' s.heap.objs.size (.tup [.int (i : Nat), kV k]) :=
      ⟨by show 2 ≤ sizeLine; decide, [.int i tk, en.key], .cons ⟨_, rfl⟩ (.cons (relV_key hkey) .nil), ⟨_, hT2, rfl, _, rfl⟩⟩
    have I1 : Inv X pins σ (upd H s.heap.objs.size (.tup [.int (i : Nat), kV k])) { s with heap := h'', toks := tk + 1 } :=
      I.turnedNew (ch := [e, it]) (fun b ob hb q => (sb.2 b (fun z => hb (by simp [z]))).trans (hk b ob (fun z => hb (by simp [z])) (fun z => hb (by simp [z])) q)) hf (Nat.le_refl _) new
    obtain ⟨⟨oi, hoi, ri⟩, _⟩ := hst
    refine ⟨.ref s.heap.objs.size, _, I1, rfl, ⟨_, k, v, hkv, rfl, I.hok.fresh (Nat.le_refl _), rfl⟩, ⟨⟨en.key, ?_⟩, ⟨oi, (sb.2 it (Ne.symm hne)).trans hoi, ri⟩, hne⟩, fun b hb => ?_⟩
    · have e1 : ((i + 1 : Nat) : Int) = (i : Int) + 1 := by omega
      rw [e1]; exact he'
    · have hb' : b < s.heap.objs.size := by
        have e' : b = e ∨ b = it := by simpa using hb
        rcases e' with z | z
        · rw [z]; exact hel
        · rw [z]; exact hil
      rw [upd_ne (Nat.ne_of_lt hb')]
      exact (hf b hb).1
  done := by
    intro X hP hw hK hc i pins s σ H E I hf st hg
    subst hP hw hK
    obtain ⟨⟨old, he⟩, hit, hne⟩ := st
    obtain ⟨hd, hi⟩ := hg
    obtain ⟨hs, hgd, hx, es', ep', vs, hdt, hsz, kv, hm⟩ := I.frzK hd
    obtain ⟨rfl, rfl⟩ := dict_ep hod hdt
    obtain ⟨f0, f1, f2, f3, f4, f5⟩ := hf it (by simp)
    have hT : s.TypeIs (.ref e) "enumerate" := ⟨_, he, rfl⟩
    unfold pyNext
    refine wpAny_bind (wpAny_attempt (wpAny_callSpecial?_slot (name := Str.ofString "__next__") hT F.slot_enumerate_next
      (wpAny_call_entry F.slot_enumerate_next hT F.entry_enumerate_next ?_ (F.args_enumerate_next_1 _))))
    show wpAny _ _ (field (.ref e) 2 >>= _) _ _ _
    refine wpAny_bind (wpAny_field he rfl (x := .ref it) rfl ?_)
    refine wpAny_bind (EK.nextOf_key_end (show X.A.in1.handled = none from I.ok.hd hc) hit hgd hdt hsz hi fun h' x he' hx' => ?_)
    obtain ⟨ox, hox, hcx⟩ := hx'
    refine wpAny_bind (wpAny_isInstance (T := "StopIteration") (b := true) ⟨ox, hox, hcx⟩ isSubtype_stop ?_)
    exact wpAny_pure ⟨rfl, I.turned (t' := s.toks) (fun b ob hb q => he' b ob hb q) f0 f1 f3 f4 f5⟩
  self := fun A i s Q E st h => let ⟨⟨_, he⟩, _⟩ := st; wpAny_pyIter_enum he h
end
def iEnumK (ta : TA) : TI := fun σ H R => ta σ H fun vs H1 => ∃ d o kvs, vs = [.ref d] ∧ H1 d = some (.frz o (.dK kvs)) ∧ R (Itek d o kvs) H1
theorem pi_enumK {X : Cx} {e : Expr} {ta : TA} {p pos tpos : Pos} {elts : List Expr} {kk : Nat} (hg : Gl X "enumerate") (hm : X.mg "enumerate" = none) (ha : PA X [e] ta) (hs : starEach [e] X.env = [(false, eval e X.env)] := by rfl) :
    PI X (.Tuple elts kk tpos) (.Call (.Name "enumerate" p) [e] [] pos) (iEnumK ta) := by
  refine ⟨fun pins s σ H R I h => ?_⟩
  refine Call_ (ld_blt I hg hm boot_enumerate (PyProof.Rows.callWith_type1 (thn (ha.run pos pins s σ H _ I h) fun us s1 ⟨vs, H1, I1, r1, q1⟩ => ?_) hs rfl))
  obtain ⟨d, o, kvs, ex, hq, q⟩ := q1
  subst ex
  cases r1 with
  | cons r rr =>
    cases rr
    cases r
    obtain ⟨hs', hgd, hx, es, ep, vs, hdt, hsz, kv, hmm⟩ := I1.frzK hq
    have hlt : d < s1.heap.objs.size := Heap.lt_size hgd
    refine EK.call_enumK hs' hgd hx hdt fun h' he hit hsz' hk => wpAny_pyIter_enum he ?_
    have I2 : Inv X pins σ H1 { s1 with heap := h' } := I1.kept (t' := s1.toks) hk
    rw [hsz] at hit
    refine ⟨s1.heap.objs.size + 1, [s1.heap.objs.size + 1, s1.heap.objs.size], _, _, H1, rfl, I2, turn_enumK (s1.heap.objs.size + 1) s1.heap.objs.size hdt (Nat.ne_of_lt (Nat.lt_succ_of_lt hlt)) (Nat.ne_of_lt hlt), ⟨⟨.none, he⟩, hit, Nat.succ_ne_self _⟩, fun b hb => ?_, q⟩
    have e' : b = s1.heap.objs.size + 1 ∨ b = s1.heap.objs.size := by simpa using hb
    have hle : s1.heap.objs.size ≤ b := by
      rcases e' with z | z
      · rw [z]; exact Nat.le_add_right _ _
      · rw [z]; exact Nat.le_refl _
    exact I1.fpOk hle (I1.hok.fresh hle)
theorem walk_enumK {d : Addr} {o : Obj} {kvs : List (Key × V)} : Walk (Itek d o kvs) kvs.length (fun H => H d = some (.frz o (.dK kvs))) (YPair (fun i => some (.int (i : Nat))) (fun i => kvs[i]?.map fun kv => kV kv.1)) :=
  ⟨fun i H hi q => ⟨q, hi⟩, fun H q => ⟨q, Nat.le_refl _⟩, fun i H x H' hi q y => by
    obtain ⟨T, k, v, hkv, rfl, hT, rfl⟩ := y
    exact ⟨T, _, kV k, rfl, hT, rfl, rfl, by show Option.map _ kvs[i]? = _; rw [hkv] <;> rfl⟩⟩
end L2

set_option Elab.async false
set_option linter.all false
set_option maxRecDepth 100000
set_option maxHeartbeats 4000000
namespace Dv
open PySem L2 Evl
section
variable {K : PySem.W.Frag} {σ : L2.St} {F F1 H H1 : Hp} {te ta tb tc : TE} {d a b : PyData} {ds es : List PyData} {ad : Addr} {kvs : List (Key × V)}
/-- what stands at a dict's address is not seen by data -/
def NoSq (o : Option HO) : Prop := ∀ xs, o ≠ some (.lst xs) ∧ o ≠ some (.tup xs) ∧ ∀ ob, o ≠ some (.frz ob (.lst xs)) ∧ o ≠ some (.frz ob (.tup xs))
theorem noSq_dK : NoSq (some (.dK kvs)) := fun xs => ⟨(fun z => by cases z), (fun z => by cases z), fun ob => ⟨(fun z => by cases z), (fun z => by cases z)⟩⟩
theorem noSq_frz {o : Obj} : NoSq (some (.frz o (.dK kvs))) := fun xs => ⟨(fun z => by cases z), (fun z => by cases z), fun ob => ⟨(fun z => by cases z), (fun z => by cases z)⟩⟩
theorem noSq_none : NoSq none := fun xs => ⟨(fun z => by cases z), (fun z => by cases z), fun ob => ⟨(fun z => by cases z), (fun z => by cases z)⟩⟩
theorem sqL_put {p : Addr} {xs : List V} {o : HO} (h : NoSq (F ad)) (hs : SqL K F p xs) : SqL K (upd F ad o) p xs := by
  rcases hs with (q | ⟨ob, q⟩) | q
  · refine .inl (.inl ?_)
    rw [upd_ne (fun z => (h xs).1 (by rw [← z]; exact q))]
    exact q
  · refine .inl (.inr ⟨ob, ?_⟩)
    rw [upd_ne (fun z => ((h xs).2.2 ob).1 (by rw [← z]; exact q))]
    exact q
  · exact .inr q
theorem sqT_put {p : Addr} {xs : List V} {o : HO} (h : NoSq (F ad)) (hs : SqT K F p xs) : SqT K (upd F ad o) p xs := by
  rcases hs with (q | ⟨ob, q⟩) | q
  · refine .inl (.inl ?_)
    rw [upd_ne (fun z => (h xs).2.1 (by rw [← z]; exact q))]
    exact q
  · refine .inl (.inr ⟨ob, ?_⟩)
    rw [upd_ne (fun z => ((h xs).2.2 ob).2 (by rw [← z]; exact q))]
    exact q
  · exact .inr q
mutual
theorem dp_put {o : HO} (h : NoSq (F ad)) : ∀ {d : PyData} {v : V}, Dp K F v d → Dp K (upd F ad o) v d
  | .none, _, e => by cases e; exact .non
  | .bool b, _, e => by cases e; exact .bl b
  | .int i, _, e => by cases e; exact .int i
  | .str x, _, e => by cases e; exact .str x
  | .list ds, _, e => by
    cases e with
    | lst hs ha => exact .lst (sqL_put h hs) (dps_put h ha)
  | .tuple ds, _, e => by
    cases e with
    | tup hs ha => exact .tup (sqT_put h hs) (dps_put h ha)
  | .dict _, _, e => by cases e
theorem dps_put {o : HO} (h : NoSq (F ad)) : ∀ {ds : List PyData} {vs : List V}, DpAll K F vs ds → DpAll K (upd F ad o) vs ds
  | [], _, e => by cases e; exact .nil
  | d :: ds, _, e => by
    cases e with
    | cons h1 h2 => exact .cons (dp_put h h1) (dps_put h h2)
end
theorem ex_upd {F H : Hp} {p : Addr} {o : HO} (e : Ex F H) : Ex (upd F p o) (upd H p o) := fun a u h => by
  by_cases q : a = p
  · subst q
    rw [upd_same] at h ⊢
    exact h
  · rw [upd_ne q] at h ⊢
    exact e a u h
/-- from the locked heaps back -/
theorem Gr.unlock {F H F' H' : Hp} {o u : HO} (hd : F ad = some u) (e : Ex F H) (g : Gr (upd F ad o) (upd H ad o) F' H') : F' ad = some o ∧ H' ad = some o ∧ Gr F H (upd F' ad u) (upd H' ad u) := by
  have f1 : F' ad = some o := g.fx ad o upd_same
  refine ⟨f1, g.fh ad o f1, ?_, ex_upd g.fh, ?_, ?_⟩
  · intro a w h
    by_cases q : a = ad
    · subst q
      rw [upd_same]
      exact hd.symm.trans h
    · rw [upd_ne q]
      exact g.fx a w (by rw [upd_ne q]; exact h)
  · intro a w h
    by_cases q : a = ad
    · subst q
      rw [upd_same]
      exact (e _ _ hd).symm.trans h
    · rw [upd_ne q]
      exact g.hx a w (by rw [upd_ne q]; exact h)
  · intro a h1 h2
    by_cases q : a = ad
    · subst q
      rw [hd] at h1
      cases h1
    · rw [upd_ne q] at h2
      have := g.fr a (by rw [upd_ne q]; exact h1) h2
      rw [upd_ne q] at this
      exact this
/-- a comprehension over a dict of F: within, the dict is locked -/
theorem el_lock (hd : F ad = some (.dK kvs)) (h : ∀ od, EvL K te σ (upd F ad (.frz od (.dK kvs))) ds) : EvL K (tLockE te) σ F ds := fun H e Q q =>
  ⟨ad, _, e _ _ hd, trivial, fun od => h od (upd H ad (.frz od (.dK kvs))) (ex_upd e) _ fun p vs F' H' g h1 h2 h3 h4 => by
    obtain ⟨f1, f2, gg⟩ := Gr.unlock hd e g
    have hp : p ≠ ad := fun z => by
      subst z
      rw [upd_same] at h1
      cases h1
    refine ⟨f2, q p vs _ _ gg (by rw [upd_ne hp] at h1; exact h1) (by rw [upd_ne hp]; exact h2) (by rw [upd_ne hp]; exact h3) (dps_put (by rw [f1]; exact noSq_frz) h4)⟩⟩
/-! ### a locked dict walked -/
variable {o : Obj} {td : TE}
theorem it_vals (ht : ∀ H1, Ex F H1 → ∀ Q : VK, Q (.ref ad) H1 → td σ H1 Q) (hd : F ad = some (.frz o (.dK kvs))) (hv : DpAll K F (kvs.map Prod.snd) ds) : ItD K (iVals td) σ F ds := fun H e R q =>
  ht H e _ ⟨ad, o, kvs, rfl, e _ _ hd, q _ F H (Gr.refl e) ⟨_, _, by rw [← dps_len hv, List.length_map]; exact walk_values, fun H' e' => e' _ _ hd, fun F2 i H2 x H3 hi e1 e2 y => by
    obtain ⟨rfl, k, hk⟩ := y
    obtain ⟨d, h1, h2⟩ := dps_get hv (v := x) (i := i) (by rw [List.getElem?_map, hk] <;> rfl)
    exact ⟨F2, d, h1, Gr.refl e2, dp_ex e1 h2⟩⟩⟩
theorem it_enumK {tas : TA} {names : List Str} (ht : ∀ H1, Ex F H1 → ∀ Q : List V → Hp → Prop, Q [.ref ad] H1 → tas σ H1 Q) (hd : F ad = some (.frz o (.dK kvs))) (hn : kvs.map Prod.fst = names.map Sum.inr) :
    ItD K (iEnumK tas) σ F (names.zipIdx.map fun z => .tuple [.int z.2, .str z.1]) := fun H e R q =>
  ht H e _ ⟨ad, o, kvs, rfl, e _ _ hd, q _ F H (Gr.refl e) ⟨_, _, by
    have : kvs.length = names.length := by
      have := congrArg List.length hn
      rwa [List.length_map, List.length_map] at this
    rw [List.length_map, List.length_zipIdx, ← this]
    exact walk_enumK, fun H' e' => e' _ _ hd, fun F2 i H2 x H3 hi e1 e2 y => by
    obtain ⟨T, x, y, rfl, hT, rfl, f1, f2⟩ := y
    cases f1
    have hk : (names.map (Sum.inr : Str → Key))[i]? = (kvs.map Prod.fst)[i]? := by rw [hn]
    rw [List.getElem?_map, List.getElem?_map] at hk
    have f2 : Option.map (fun kv => kV kv.1) kvs[i]? = some y := f2
    cases hq : kvs[i]? with
    | none => rw [hq] at f2; cases f2
    | some kv =>
      rw [hq] at f2 hk
      cases hz : names[i]? with
      | none => rw [hz] at hk; cases hk
      | some nm =>
        rw [hz] at hk
        have hk' : (Sum.inr nm : Key) = kv.1 := Option.some.inj hk
        have f2' : kV kv.1 = y := Option.some.inj f2
        rw [← hk'] at f2'
        subst f2'
        refine ⟨_, .tuple [.int i, .str nm], ?_, Gr.new e2 hT, .tup (st_of upd_same) (.cons (.int _) (.cons (.str _) .nil))⟩
        rw [List.getElem?_map, List.getElem?_zipIdx, hz]
        simp⟩⟩
end
end Dv

set_option Elab.async false
set_option linter.all false
set_option maxRecDepth 100000
set_option maxHeartbeats 4000000
namespace L2
open PySem PySem.Spec PyProof.Rows
/-- a dict comprehension over a walk: Pv by the turn and the heap (the new dict at D within) -/
theorem dc_it {J : It} {n : Nat} {G : Hp → Prop} {Y : Nat → Hp → V → Hp → Prop} (w : Walk J n G Y) {g : TG} {tt : TT} {tk tv : TE} {vs : List Nat} {σ : St} {H1 : Hp} {D : Addr} {Qd : Hp → Prop} (Pv : Nat → Hp → Prop) (h0 : Pv 0 (upd H1 D (.dK []))) (hG : ∀ i H, i ≤ n → Pv i H → G H)
    (hs : ∀ i x H H', i < n → Pv i H → Y i H x H' → g x (wipe σ vs) H' fun σ2 H2 => wipe σ2 vs = wipe σ vs ∧ tt σ2 H2 fun b H3 =>
      if b = true then tk σ2 H3 fun y H4 => tv σ2 H4 fun z H5 => ∃ kvs k, y = kV k ∧ H5 D = some (.dK kvs) ∧ kvs.length < sizeLine ∧ Pv (i + 1) (upd H5 D (.dK (putK kvs k z))) else Pv (i + 1) H3) (hd : ∀ H, Pv n H → Qd H) :
    ∃ W : Nat → Nat → Hp → Prop, (∃ m, W 0 m (upd H1 D (.dK []))) ∧ ∀ i m H, W i m H →
      (J.stop i H ∧ Qd H) ∨ (J.go i H ∧ ∃ Nx : Hp → Prop, (∀ H', Nx H' → ∃ m', m' < m ∧ W (i + 1) m' H') ∧ ∀ x H', J.yld i H x H' → g x (wipe σ vs) H' fun σ2 H2 => wipe σ2 vs = wipe σ vs ∧ tt σ2 H2 fun b H3 =>
        if b = true then tk σ2 H3 fun y H4 => tv σ2 H4 fun z H5 => ∃ kvs k, y = kV k ∧ H5 D = some (.dK kvs) ∧ kvs.length < sizeLine ∧ Nx (upd H5 D (.dK (putK kvs k z))) else Nx H3) := by
  refine ⟨fun i m H => m = n - i ∧ i ≤ n ∧ Pv i H, ⟨n, by simp, Nat.zero_le _, h0⟩, ?_⟩
  rintro i m H ⟨rfl, hi, p⟩
  have q := hG i H hi p
  by_cases hlt : i < n
  · exact .inr ⟨w.goes i H hlt q, Pv (i + 1), fun H' p' => ⟨n - (i + 1), by omega, rfl, hlt, p'⟩, fun x H' y => hs i x H H' hlt p (w.yields i H x H' hlt q y)⟩
  · have e : i = n := by omega
    subst e
    exact .inl ⟨w.stops H q, hd H p⟩
end L2
namespace Dv
open PySem L2 Evl
section
variable {K : PySem.W.Frag} {σ : L2.St} {F F1 H H1 : Hp} {te ta tb tc : TE} {d a b : PyData} {ds es : List PyData} {ad : Addr} {kvs : List (Key × V)}
variable (K) in
/-- a new dict, not yet of F' -/
def EvK (te : TE) (σ : L2.St) (F : Hp) (ks : List Key) (ds : List PyData) : Prop := ∀ H, Ex F H → ∀ Q : VK, (∀ p vs F' H', Gr F H F' H' → H p = none → F' p = none → H' p = some (.dK (ks.zip vs)) → DpAll K F' vs ds → Q (.ref p) H') → te σ H Q
theorem ek_lock {ks : List Key} (hd : F ad = some (.dK kvs)) (h : ∀ od, EvK K te σ (upd F ad (.frz od (.dK kvs))) ks ds) : EvK K (tLockE te) σ F ks ds := fun H e Q q =>
  ⟨ad, _, e _ _ hd, trivial, fun od => h od (upd H ad (.frz od (.dK kvs))) (ex_upd e) _ fun p vs F' H' g h1 h2 h3 h4 => by
    obtain ⟨f1, f2, gg⟩ := Gr.unlock hd e g
    have hp : p ≠ ad := fun z => by
      subst z
      rw [upd_same] at h1
      cases h1
    refine ⟨f2, q p vs _ _ gg (by rw [upd_ne hp] at h1; exact h1) (by rw [upd_ne hp]; exact h2) (by rw [upd_ne hp]; exact h3) (dps_put (by rw [f1]; exact noSq_frz) h4)⟩⟩
theorem putK_new {κ : Type} [DecidableEq κ] {kvs : List (κ × V)} {k : κ} {v : V} (h : k ∉ kvs.map Prod.fst) : putK kvs k v = kvs ++ [(k, v)] := by
  unfold putK
  rw [if_neg]
  intro z
  obtain ⟨p, hp, e⟩ := List.any_eq_true.mp z
  exact h (List.mem_map.mpr ⟨p, hp, of_decide_eq_true e⟩)
theorem zip_fst : ∀ {ks : List Key} {vs : List V}, vs.length = ks.length → (ks.zip vs).map Prod.fst = ks
  | [], _, _ => by simp
  | k :: ks, [], h => by cases h
  | k :: ks, v :: vs, h => by
    rw [List.zip_cons_cons, List.map_cons, zip_fst (Nat.succ.inj h)]
theorem zip_snd : ∀ {ks : List Key} {vs : List V}, vs.length = ks.length → (ks.zip vs).map Prod.snd = vs
  | [], [], _ => rfl
  | [], _ :: _, h => by cases h
  | k :: ks, [], h => by cases h
  | k :: ks, v :: vs, h => by
    rw [List.zip_cons_cons, List.map_cons, zip_snd (Nat.succ.inj h)]
theorem zip_app {ks : List Key} {vs : List V} {k : Key} {v : V} (h : vs.length = ks.length) : ks.zip vs ++ [(k, v)] = (ks ++ [k]).zip (vs ++ [v]) := by
  rw [List.zip_append h.symm] <;> rfl
/-- {k: v for x in xs}, new texts as keys -/
theorem dc_rule {α : Type} {wi : TI} {g : TG} {vs : List Nat} {tk tv : TE} (xs : List α) (enc vf : α → PyData) (kf : α → Str) (hi : ItD K wi σ F (xs.map enc)) (hz : xs.length ≤ 40000) (hn : (xs.map kf).Nodup)
    (hb : ∀ x, x ∈ xs → ∀ v F1, Ex F F1 → Dp K F1 v (enc x) → ∃ σ2, (∀ H, Ex F1 H → ∀ Q : L2.St → Hp → Prop, Q σ2 H → g v (wipe σ vs) H Q) ∧ wipe σ2 vs = wipe σ vs ∧ EvD K tk σ2 F1 (.str (kf x)) ∧ EvD K tv σ2 F1 (vf x)) :
    EvK K (tDc wi g tYes tk tv vs) σ F (xs.map fun x => Sum.inr (kf x)) (xs.map vf) := fun H eH Q q => hi H eH _ fun J F1 H1 g1 wd => by
  obtain ⟨G, Y, W, hG, hY⟩ := wd
  rw [List.length_map] at W
  intro D hD
  have fD : F1 D = none := ex_none g1.fh hD
  refine dc_it W (Pv := fun i H' => ∃ F' ws, Gr F1 H1 F' H' ∧ F' D = none ∧ H' D = some (.dK (((xs.take i).map fun x => (Sum.inr (kf x) : Key)).zip ws)) ∧ DpAll K F' ws ((xs.take i).map vf)) ⟨F1, [], Gr.only g1.fh hD, fD, upd_same, by rw [List.take_zero]; exact .nil⟩
    (fun i H' _ p => ?_) (fun i v H2 H3 hin p y => ?_) (fun H' p => ?_)
  · obtain ⟨F', ws, g, _⟩ := p
    exact hG _ (g.fx.trans g.fh)
  · obtain ⟨F2, ws, g2, f2, h2, hw⟩ := p
    obtain ⟨F3, d, hd, g3, hv⟩ := hY F2 i H2 v H3 (by rw [List.length_map]; exact hin) g2.fx g2.fh y
    rw [List.getElem?_map, List.getElem?_eq_getElem hin] at hd
    cases hd
    have hx : xs[i] ∈ xs := List.getElem_mem hin
    obtain ⟨σ2, hg, hwp, hk, he⟩ := hb xs[i] hx v F3 (g1.fx.trans (g2.fx.trans g3.fx)) hv
    have k3 := g3.keep h2 f2
    refine hg H3 g3.fh _ ⟨hwp, ?_⟩
    unfold tYes
    refine iteT ?_
    refine hk H3 g3.fh _ fun y F4 H4 g4 hy => (he.mono g4.fx) H4 g4.fh _ fun z F5 H5 g5 hz5 => ?_
    cases hy
    have k5 := (g4.trans g5).keep k3.1 k3.2
    have tk' : (xs.take (i + 1)) = xs.take i ++ [xs[i]] := List.take_succ_eq_append_getElem hin
    have wl : ws.length = ((xs.take i).map fun x => (Sum.inr (kf x) : Key)).length := by rw [dps_len hw, List.length_map, List.length_map]
    have tl : (xs.take i).length ≤ xs.length := by rw [List.length_take]; omega
    refine ⟨_, Sum.inr (kf xs[i]), rfl, k5.1, sz_lt (by
      rw [List.length_zip, List.length_map]
      omega), F5, ws ++ [z], (g2.trans (g3.trans (g4.trans g5))).mut hD k5.2, k5.2, ?_, ?_⟩
    · rw [upd_same, putK_new, zip_app wl, tk', List.map_append] <;> try rfl
      rw [zip_fst wl]
      intro hm
      obtain ⟨x, hx', hk'⟩ := List.mem_map.mp hm
      have e1 : kf x = kf xs[i] := Sum.inr.inj hk'
      have hnd : ((xs.take i ++ [xs[i]]).map kf).Nodup := by
        rw [← tk']
        exact List.Nodup.sublist (List.Sublist.map _ (List.take_sublist _ _)) hn
      rw [List.map_append, List.nodup_append] at hnd
      exact hnd.2.2 (kf x) (List.mem_map.mpr ⟨x, hx', rfl⟩) (kf xs[i]) (by simp) e1
    · rw [tk', List.map_append]
      exact dps_app (dps_ex (g3.fx.trans (g4.fx.trans g5.fx)) hw) (.cons hz5 .nil)
  · obtain ⟨F', ws, g, fd, hd, hw⟩ := p
    rw [List.take_length] at hw hd
    exact q D ws F' H' (g1.trans g) (ex_none g1.hx hD) fd hd hw
end
end Dv

set_option Elab.async false
set_option linter.all false
set_option maxRecDepth 100000
set_option maxHeartbeats 4000000
namespace Dv
open PySem L2 Evl
/-- what __init__ of an object at x (its dict at dx) does to the heaps: F, H ahead know neither -/
structure Bx (x dx : Addr) (F H F' H' : Hp) : Prop where
  fx : Ex F F'
  fh : Ex F' H'
  hx : ∀ a o, a ≠ x → H a = some o → H' a = some o
  fr : ∀ a, F a = none → F' a ≠ none → H a = none ∨ a = x ∨ a = dx
theorem Bx.step {x dx : Addr} {F H F' H' F2 H2 : Hp} (b : Bx x dx F H F' H') (g : Gr F' H' F2 H2) : Bx x dx F H F2 H2 :=
  ⟨b.fx.trans g.fx, g.fh, fun a o h1 h2 => g.hx _ _ (b.hx a o h1 h2), fun a h1 h2 => by
    cases h : F' a with
    | some o => exact b.fr a h1 (by rw [h]; exact fun z => nomatch z)
    | none =>
      by_cases q : a = x
      · exact .inr (.inl q)
      · cases h3 : H a with
        | none => exact .inl rfl
        | some o =>
          have := g.fr a h h2
          rw [b.hx a o q h3] at this
          cases this⟩
/-- an object that is new, or x itself, set anew in both -/
theorem Bx.put {x dx p : Addr} {F H F' H' : Hp} {o : HO} (b : Bx x dx F H F' H') (hp : H p = none ∨ p = x) (fp : F p = none) : Bx x dx F H (upd F' p o) (upd H' p o) :=
  ⟨fun a u h => by
    rw [upd_ne (ne_of_none h fp)]
    exact b.fx a u h, ex_upd b.fh, fun a u h1 h2 => by
    have : a ≠ p := fun z => by
      rcases hp with hp | hp
      · rw [z, hp] at h2; cases h2
      · exact h1 (z.trans hp)
    rw [upd_ne this]
    exact b.hx a u h1 h2, fun a h1 h2 => by
    by_cases q : a = p
    · rcases hp with hp | hp
      · exact .inl (by rw [q]; exact hp)
      · exact .inr (.inl (q.trans hp))
    · rw [upd_ne q] at h2
      exact b.fr a h1 h2⟩
/-- in H' alone -/
theorem Bx.mut {x dx p : Addr} {F H F' H' : Hp} {o : HO} (b : Bx x dx F H F' H') (hp : H p = none) (fp : F' p = none) : Bx x dx F H F' (upd H' p o) :=
  ⟨b.fx, Ex.mut b.fh fp, fun a u h1 h2 => by
    rw [upd_ne (ne_of_none h2 hp)]
    exact b.hx a u h1 h2, b.fr⟩
theorem Bx.take {x dx p : Addr} {F H F' H' : Hp} {o : HO} (b : Bx x dx F H F' H') (hp : H p = none) (fp : F' p = none) (h : H' p = some o) : Bx x dx F H (upd F' p o) H' :=
  ⟨fun a u ha => by
    rw [upd_ne (ne_of_none (b.fx a u ha) fp)]
    exact b.fx a u ha, fun a u ha => by
    by_cases q : a = p
    · rw [q] at ha ⊢
      rw [upd_same] at ha
      cases ha
      exact h
    · rw [upd_ne q] at ha
      exact b.fh a u ha, b.hx, fun a h1 h2 => by
    by_cases q : a = p
    · exact .inl (by rw [q]; exact hp)
    · rw [upd_ne q] at h2
      exact b.fr a h1 h2⟩
section
variable {K : PySem.W.Frag} {σ : L2.St} {F F1 H H1 : Hp} {te ta tb tc : TE} {d a b : PyData} {ds es : List PyData} {ad : Addr} {kvs : List (Key × V)}
theorem fld_ref {C dx x : Addr} {fs : List (Str × V)} {f : Str} {v : V} {i : Nat} (hi : σ[i]? = some (some (.ref x))) (hx : F x = some (.ins C dx fs)) (c : Cls K C) (n : NoAttr K C f) (hl : fs.lookup f = some v) : ∀ H1, Ex F H1 → ∀ Q : VK, Q v H1 → tFld K (tVar i) f σ H1 Q :=
  fun H1 e Q q => ⟨_, hi, x, C, dx, fs, v, rfl, e _ _ hx, c, n, hl, q⟩
theorem valV_none {κ : Type} [DecidableEq κ] {kvs : List (κ × V)} {k : κ} (h : k ∉ kvs.map Prod.fst) : valV kvs k = none := by
  unfold valV
  cases q : kvs.find? fun kv => decide (kv.1 = k) with
  | none => rfl
  | some p =>
    have h1 := List.find?_some q
    exact absurd (List.mem_map.mpr ⟨p, List.mem_of_find?_eq_some q, of_decide_eq_true h1⟩) h
/-- for item in xs: if not call(item) or key in self.f: raise ..; self.f[key] = val -/
theorem fill_loop {α : Type} {D : Ends} {tcall : TE} {tk tv : TE} {C dx x ro : Addr} {fs : List (Str × V)} {f : Str} {vs0 : List V} (R : Hp → Hp → Prop) (xs : List α) (enc vf : α → PyData) (kf : α → Str) (σ0 : V → L2.St)
    (h0 : σ[0]? = some (some (.ref x))) (hs0 : ∀ v, (σ0 v)[0]? = some (some (.ref x))) (hset : ∀ v, σ.set 3 (some v) = σ0 v) (hset2 : ∀ v u, (σ0 v).set 3 (some u) = σ0 u)
    (hx : F x = some (.ins C dx fs)) (c : Cls K C) (n : NoAttr K C f) (hl : fs.lookup f = some (.ref ro)) (e : Ex F H) (hR : R F H)
    (hR1 : ∀ F H F' H', R F H → Gr F H F' H' → R F' H') (hR2 : ∀ F H o, R F H → F ro = none → R F (upd H ro o)) (hr : H ro = some (.dK [])) (fr : F ro = none)
    (hi : EvD K te σ F (.list (xs.map enc))) (hz : xs.length ≤ 40000) (hn : (xs.map kf).Nodup)
    (hcall : ∀ z, z ∈ xs → ∀ v F1, Ex F F1 → Dp K F1 v (enc z) → EvD K tcall (σ0 v) F1 (.bool true)) (hk : ∀ z, z ∈ xs → ∀ v F1, Ex F F1 → Dp K F1 v (enc z) → EvD K tk (σ0 v) F1 (.str (kf z)))
    (hv : ∀ z, z ∈ xs → ∀ v F1, Ex F F1 → Dp K F1 v (enc z) → EvD K tv (σ0 v) F1 (vf z))
    (hd : ∀ σ' vs F' H', (σ' = σ ∨ ∃ v, σ' = σ0 v) → R F' H' → Ex F F' → Ex F' H' → F' ro = none → H' ro = some (.dK ((xs.map fun z => (Sum.inr (kf z) : Key)).zip vs)) → DpAll K F' vs (xs.map vf) → D.nx σ' H') :
    tFor (iList K te) (gName 3) (tSeq (tIfS (tOr (tNot (tB tcall)) (tB (tDIn tk (tFld K (tVar 0) f)))) tNever tNext) (sDPut (tFld K (tVar 0) f) tk tv)) D σ H := by
  refine s_for (it_list hi) e (fun n σ' F' H' => (σ' = σ ∨ ∃ v, σ' = σ0 v) ∧ R F' H' ∧ F' ro = none ∧ ∃ vs, H' ro = some (.dK (((xs.take n).map fun z => (Sum.inr (kf z) : Key)).zip vs)) ∧ DpAll K F' vs ((xs.take n).map vf))
    (fun F' H' g => ?_) ?_ (fun σ' F' H' e1 e2 p => ?_)
  · have k := g.keep hr fr
    exact ⟨.inl rfl, hR1 _ _ _ _ hR g, k.2, [], by rw [List.take_zero]; exact k.1, by rw [List.take_zero]; exact .nil⟩
  · rintro Fb eb m σ' F' H' v du F2 H2 hdu e1 e2 ⟨hσ, hR', fr', ws, hr', hw⟩ g2 hv2
    obtain ⟨hm, hdm⟩ := List.getElem?_eq_some_iff.mp hdu
    rw [List.length_map] at hm
    have hdu' : du = enc xs[m] := by rw [← hdm, List.getElem_map]
    subst hdu'
    have hmem : xs[m] ∈ xs := List.getElem_mem hm
    have eF2 : Ex F F2 := eb.trans (e1.trans g2.fx)
    have k2 := g2.keep hr' fr'
    have es : σ'.set 3 (some v) = σ0 v := by
      rcases hσ with rfl | ⟨u, rfl⟩
      · exact hset v
      · exact hset2 u v
    show tSeq _ _ _ (σ'.set 3 (some v)) H2
    rw [es]
    have tl : (xs.take m).length ≤ xs.length := by rw [List.length_take]; omega
    have wl : ws.length = ((xs.take m).map fun z => (Sum.inr (kf z) : Key)).length := by rw [dps_len hw, List.length_map, List.length_map]
    have tk' : (xs.take (m + 1)) = xs.take m ++ [xs[m]] := List.take_succ_eq_append_getElem hm
    have hnew : (Sum.inr (kf xs[m]) : Key) ∉ (((xs.take m).map fun z => (Sum.inr (kf z) : Key)).zip ws).map Prod.fst := by
      rw [zip_fst wl]
      intro hm'
      obtain ⟨z, hz', hk'⟩ := List.mem_map.mp hm'
      have e1 : kf z = kf xs[m] := Sum.inr.inj hk'
      have hnd : ((xs.take m ++ [xs[m]]).map kf).Nodup := by
        rw [← tk']
        exact List.Nodup.sublist (List.Sublist.map _ (List.take_sublist _ _)) hn
      rw [List.map_append, List.nodup_append] at hnd
      exact hnd.2.2 (kf z) (List.mem_map.mpr ⟨z, hz', rfl⟩) (kf xs[m]) (by simp) e1
    -- the test
    show tIfS _ _ _ _ (σ0 v) H2
    refine (hcall _ hmem v F2 eF2 hv2) H2 g2.fh _ fun y F3 H3 g3 hy => ?_
    cases hy
    refine ⟨true, rfl, ?_⟩
    refine iteF ?_
    refine (hk _ hmem v F3 (eF2.trans g3.fx) (dp_ex g3.fx hv2)) H3 g3.fh _ fun y F4 H4 g4 hy => ?_
    cases hy
    have k4 := (g3.trans g4).keep k2.1 k2.2
    have hx4 := (eF2.trans (g3.fx.trans g4.fx)) _ _ hx
    refine fld_ref (hs0 v) hx4 c n hl H4 g4.fh _ ⟨ro, _, rfl, DGet.k (k := Sum.inr (kf xs[m])) k4.1, ?_⟩
    refine ⟨_, rfl, ?_⟩
    rw [valV_none hnew]
    refine iteF ?_
    -- the setting
    refine (hv _ hmem v F4 (eF2.trans (g3.fx.trans g4.fx)) (dp_ex (g3.fx.trans g4.fx) hv2)) H4 g4.fh _ fun y F5 H5 g5 hy => ?_
    have hx5 := g5.fx _ _ hx4
    refine fld_ref (hs0 v) hx5 c n hl H5 g5.fh _ ?_
    refine (hk _ hmem v F5 (eF2.trans (g3.fx.trans (g4.fx.trans g5.fx))) (dp_ex (g3.fx.trans (g4.fx.trans g5.fx)) hv2)) H5 g5.fh _ fun y2 F6 H6 g6 hy2 => ?_
    cases hy2
    have gg := g3.trans (g4.trans (g5.trans g6))
    have k6 := gg.keep k2.1 k2.2
    refine ⟨ro, _, rfl, DPut.k (k := Sum.inr (kf xs[m])) k6.1 (sz_lt (by
      rw [List.length_zip, List.length_map]
      omega)), F6, e1.trans (g2.fx.trans gg.fx), Ex.mut gg.fh k6.2, .inr ⟨v, rfl⟩, hR2 _ _ _ (hR1 _ _ _ _ hR' (g2.trans gg)) k6.2, k6.2, ws ++ [y], ?_, ?_⟩
    · rw [upd_same, putK_new hnew, zip_app wl, tk', List.map_append] <;> rfl
    · rw [tk', List.map_append]
      exact dps_app (dps_ex (g2.fx.trans gg.fx) hw) (.cons (dp_ex g6.fx hy) .nil)
  · obtain ⟨hσ, hR', fr', ws, hr', hw⟩ := p
    rw [List.length_map, List.take_length] at hr' hw
    exact hd σ' ws F' H' hσ hR' e1 e2 fr' hr' hw
end
end Dv

set_option Elab.async false
set_option linter.all false
set_option maxRecDepth 100000
set_option maxHeartbeats 4000000
namespace R3
open PySem PySem.Spec PyProof.Rows L2 Dv
abbrev sMillInit : Stmt := inClass (top 26) 0
abbrev sMillStuffs : Stmt := inClass (top 26) 1
abbrev sMillRecipes : Stmt := inClass (top 26) 2
abbrev sMillNames : Stmt := inClass (top 26) 3
abbrev sMillEq : Stmt := inClass (top 26) 4
/-! ### a mill -/
structure MillD where
  stuffs : List (Str × Option Int)
  recipes : List (Str × List (Str × Int) × List (Str × Int))
def encRoom : Option Int → PyData
  | none => .none
  | some i => .int i
def encStuff (z : Str × Option Int) : PyData := .tuple [.str z.1, encRoom z.2]
def encPart (z : Str × Int) : PyData := .tuple [.str z.1, .int z.2]
def encRecipe (z : Str × List (Str × Int) × List (Str × Int)) : PyData := .tuple [.str z.1, .list (z.2.1.map encPart), .list (z.2.2.map encPart)]
def encRule (z : Str × List (Str × Int) × List (Str × Int)) : PyData := .tuple [.tuple (z.2.1.map encPart), .tuple (z.2.2.map encPart)]
def MillD.names (m : MillD) : List Str := m.stuffs.map (·.1)
structure MillD.Ok (m : MillD) : Prop where
  s1 : 1 ≤ m.stuffs.length
  s2 : m.stuffs.length ≤ 8
  sn : m.names.Nodup
  ss : ∀ z ∈ m.stuffs, gd (encStuff z) = true ∧ isStuff (encStuff z) = true
  r2 : m.recipes.length ≤ 8
  rn : (m.recipes.map (·.1)).Nodup
  rs : ∀ z ∈ m.recipes, gd (encRecipe z) = true ∧ isRecipe m.names (encRecipe z) = true
def keysOf (xs : List Str) : List Key := xs.map Sum.inr
structure MillAt (K : PySem.W.Frag) (F : Hp) (C x : Addr) (m : MillD) : Prop where
  ex : ∃ (dx ro sp ru : Addr) (v1 v2 v3 : List V), F x = some (.ins C dx [("rooms", .ref ro), ("spots", .ref sp), ("rules", .ref ru)]) ∧
    F ro = some (.dK ((m.stuffs.map fun z => (Sum.inr z.1 : Key)).zip v1)) ∧ DpAll K F v1 (m.stuffs.map fun z => encRoom z.2) ∧
    F sp = some (.dK ((m.names.zipIdx.map fun z => (Sum.inr z.1 : Key)).zip v2)) ∧ DpAll K F v2 (m.names.zipIdx.map fun z => PyData.int z.2) ∧
    F ru = some (.dK ((m.recipes.map fun z => (Sum.inr z.1 : Key)).zip v3)) ∧ DpAll K F v3 (m.recipes.map encRule) ∧ ro ≠ ru ∧ sp ≠ ru ∧ ro ≠ sp
theorem MillAt.mono {K : PySem.W.Frag} {F F1 : Hp} {C x : Addr} {m : MillD} (e : Evl.Ex F F1) (h : MillAt K F C x m) : MillAt K F1 C x m := by
  obtain ⟨dx, ro, sp, ru, v1, v2, v3, h1, h2, h3, h4, h5, h6, h7, r⟩ := h.ex
  exact ⟨dx, ro, sp, ru, v1, v2, v3, e _ _ h1, e _ _ h2, dps_ex e h3, e _ _ h4, dps_ex e h5, e _ _ h6, dps_ex e h7, r⟩
/-- what is asked of the class Mill -/
structure MillC (K : PySem.W.Frag) (C : Addr) : Prop where
  cl : Cls K C
  rooms : NoAttr K C "rooms"
  spots : NoAttr K C "spots"
  rules : NoAttr K C "rules"
theorem names_spots {names : List Str} {vs : List V} (h : vs.length = names.length) (x : Str) : (valV ((names.zipIdx.map fun z => (Sum.inr z.1 : Key)).zip vs) (.inr x)).isSome = decide (x ∈ names) := by
  have e : (names.zipIdx.map fun z => (Sum.inr z.1 : Key)) = names.map Sum.inr := by
    show names.zipIdx.map (Sum.inr ∘ Prod.fst) = _
    rw [← List.map_map, List.zipIdx_map_fst]
  rw [e, ← valV_any]
  rw [Bool.eq_iff_iff, List.any_eq_true, decide_eq_true_iff]
  constructor
  · rintro ⟨p, hp, hk⟩
    have : p.1 ∈ names.map (Sum.inr : Str → Key) := by
      rw [← zip_fst (ks := names.map Sum.inr) (vs := vs) (by rw [List.length_map]; exact h)]
      exact List.mem_map.mpr ⟨p, hp, rfl⟩
    rw [of_decide_eq_true hk] at this
    obtain ⟨y, hy, q⟩ := List.mem_map.mp this
    exact (Sum.inr.inj q) ▸ hy
  · intro hx
    have : (Sum.inr x : Key) ∈ ((names.map (Sum.inr : Str → Key)).zip vs).map Prod.fst := by
      rw [zip_fst (by rw [List.length_map]; exact h)]
      exact List.mem_map.mpr ⟨x, hx, rfl⟩
    obtain ⟨p, hp, q⟩ := List.mem_map.mp this
    exact ⟨p, hp, decide_eq_true q⟩
def spMillInit (K : PySem.W.Frag) (C : Addr) : Sp := fun vs H Q _ => ∃ (F : Hp) (x dx : Addr) (v1 v2 : V) (m : MillD), vs = [.ref x, v1, v2] ∧ Evl.Ex F H ∧ F x = none ∧ F dx = none ∧ H x = some (.ins C dx []) ∧ (H dx).isSome = true ∧ x ≠ dx ∧
  Dp K F v1 (.list (m.stuffs.map encStuff)) ∧ Dp K F v2 (.list (m.recipes.map encRecipe)) ∧ m.Ok ∧ ∀ F' H', Bx x dx F H F' H' → MillAt K F' C x m → Q .non H'
section
variable {P : Program} {w : World} {K : PySem.W.Frag} {mg : Str → Option Value} {base : Heap}
theorem ev_size {σ : L2.St} {F : Hp} {te : TE} {xs : List PyData} {l m : Int} {E : XK} (h : EvD K te σ F (.list xs)) (h1 : l ≤ xs.length) (h2 : (xs.length : Int) ≤ m) (h3 : xs.length ≤ 100000) :
    EvD K (tCall (spSize K) [] E (tCons te (tCons (tC (.int l)) (tCons (tC (.int m)) tNil)))) σ F .none := fun H e Q q =>
  h H e _ fun v F1 H1 g1 hv => ⟨F1, v, xs, l, m, rfl, g1.fh, hv, h1, h2, h3, fun F' H' g => q _ F' H' (g1.trans g) .non⟩
theorem s_drop {σ : L2.St} {F H : Hp} {te : TE} {d : PyData} {D : Ends} (h : EvD K te σ F d) (e : Evl.Ex F H) (k : ∀ F' H', Gr F H F' H' → D.nx σ H') : tDrop te D σ H := h H e _ fun v F' H' g _ => k F' H' g
/-- self.f = {} -/
theorem s_fldNew {σ : L2.St} {F H : Hp} {D : Ends} {C dx x : Addr} {fs : List (Str × V)} {f : Str} {i : Nat} (hi : σ[i]? = some (some (.ref x))) (hx : F x = some (.ins C dx fs)) (c : Cls K C) (n : NoAttr K C f) (hl : fs.length < 1000) (e : Evl.Ex F H)
    (k : ∀ p, H p = none → p ≠ x → D.nx σ (upd (upd H p (.dK [])) x (.ins C dx (putF f (.ref p) fs)))) : sFld K (tVar i) tDNewK f D σ H := fun p hp => by
  have hpx : p ≠ x := fun z => by
    have := e _ _ hx
    rw [← z, hp] at this
    cases this
  exact ⟨_, hi, x, C, dx, fs, rfl, by rw [upd_ne (Ne.symm hpx)]; exact e _ _ hx, c, n, hl, k p hp hpx⟩
/-- self.f = a new dict -/
theorem s_fldK {σ : L2.St} {F H : Hp} {D : Ends} {C dx x : Addr} {fs : List (Str × V)} {f : Str} {i : Nat} {tv : TE} {ks : List Key} {ds : List PyData} (h : EvK K tv σ F ks ds) (hi : σ[i]? = some (some (.ref x))) (hx : F x = some (.ins C dx fs)) (c : Cls K C) (n : NoAttr K C f) (hl : fs.length < 1000) (e : Evl.Ex F H)
    (k : ∀ p vs F' H', Gr F H F' H' → H p = none → F' p = none → H' p = some (.dK (ks.zip vs)) → DpAll K F' vs ds → D.nx σ (upd H' x (.ins C dx (putF f (.ref p) fs)))) : sFld K (tVar i) tv f D σ H :=
  h H e _ fun p vs F' H' g h1 h2 h3 h4 => ⟨_, hi, x, C, dx, fs, rfl, g.hx _ _ (e _ _ hx), c, n, hl, k p vs F' H' g h1 h2 h3 h4⟩
theorem sc_Mill___init__ : FnScope (["self", "stuffs", "recipes", "item", "at", "name"] : List Str) (["self", "stuffs", "recipes"] : List Str) (defScope sMillInit) := ⟨rfl, rfl, rfl, by decide +kernel, rfl, by decide +kernel, by decide +kernel⟩
theorem ok_mill_init {f : Addr} {fd : FuncData} {C : Addr} (D : Fun K "__init__" "Mill.__init__" sMillInit f fd) (MC : MillC K C) (B : Bl mg) (CC : Cst mg)
    (C_check_size : Cal P w K mg base "check_size" ["value", "least", "most"] 1 (spSize K)) (C_is_stuff : Cal P w K mg base "is_stuff" ["value"] 3 (spD K fIsStuff)) (C_is_recipe : Cal P w K mg base "is_recipe" ["value", "spots"] 4 (spRecipe K)) :
    FnOkG P w K mg base CX0 5 f fd ["self", "stuffs", "recipes"] (spMillInit K C) := by
  refine D.okG sc_Mill___init__ (fun vs H Q E h => ?_) (fun cdv A outer s H vs Q E hr h => ?_)
  · obtain ⟨F, x, dx, v1, v2, m, rfl, _⟩ := h
    rfl
  obtain ⟨F, x, dx, v1, v2, m, rfl, e, fx, fdx, hx, hdx, hxd, hv1, hv2, ok, q⟩ := h
  obtain ⟨t1, c1⟩ := CC.mostStuffs
  obtain ⟨t2, c2⟩ := CC.mostRecipes
  have hu := hu_of hr.1
  refine ⟨_, (pss_cons (ps_expr (pe_callC C_check_size hr (pa_cons (pv 1) (pa_cons pe_int (pa_cons (pe_glob (v := .int 8) rfl c1 ⟨_, rfl⟩) pa_nil)))))
      (pss_cons (ps_fld (pv 0) pe_dnewK rfl)
      (pss_cons (ps_for PassesOwn.never rfl (pi_list (pv 1)) (pg_name (i := 3) sc_Mill___init__.nd rfl (.inl rfl)) (pss_cons (ps_if (PW.pt (pw_or (pt_not (pt_val (pe_callC C_is_stuff hr (pa_cons (pv 3) pa_nil)))) (pw_or1 (pt_cmp (pc_din hu (pe_ix ix_tup (pv 3) pe_int (fun _ _ => rfl)) (pe_fld (pv 0) rfl)) (by rfl))))) (pss_one ps_never) pss_nil)
      (pss_one (ps_dput hu (pe_fld (pv 0) rfl) (pe_ix ix_tup (pv 3) pe_int (fun _ _ => rfl)) (pe_ix ix_tup (pv 3) pe_int (fun _ _ => rfl)) rfl))))
      (pss_cons (ps_expr (pe_callC C_check_size hr (pa_cons (pv 2) (pa_cons pe_int (pa_cons (pe_glob (v := .int 8) rfl c2 ⟨_, rfl⟩) pa_nil)))))
      (pss_cons (ps_fld (pv 0) (pe_lock (pe_dc (own := [("at", 4), ("name", 5)]) (g := gTup K 2 (gCons (gName 4) (gCons (gName 5) gNil))) rfl sc_Mill___init__.nd (pi_enumK rfl B.enum (pa_cons (pe_fld (pv 0) rfl) pa_nil)) (blkOk_by (own := [("at", 4), ("name", 5)]) (N := ["self", "stuffs", "recipes", "item", "at", "name"]) (sc := defScope sMillInit) (by decide +kernel)) (fun _ _ _ _ _ => (pg_tup (by rfl) (pgs_cons (pg_name (i := 4) sc_Mill___init__.nd rfl (.inl rfl)) (pgs_cons (pg_name (i := 5) sc_Mill___init__.nd rfl (.inl rfl)) pgs_nil)))) (fun _ _ _ _ _ => pts_nil) (fun _ _ _ _ _ => (pv 5)) (fun _ _ _ _ _ => (pv 4)))) rfl)
      (pss_cons (ps_fld (pv 0) pe_dnewK rfl)
      (pss_one (ps_for PassesOwn.never rfl (pi_list (pv 2)) (pg_name (i := 3) sc_Mill___init__.nd rfl (.inl rfl)) (pss_cons (ps_if (PW.pt (pw_or (pt_not (pt_val (pe_callC C_is_recipe hr (pa_cons (pv 3) (pa_cons (pe_fld (pv 0) rfl) pa_nil))))) (pw_or1 (pt_cmp (pc_din hu (pe_ix ix_tup (pv 3) pe_int (fun _ _ => rfl)) (pe_fld (pv 0) rfl)) (by rfl))))) (pss_one ps_never) pss_nil)
      (pss_one (ps_dput hu (pe_fld (pv 0) rfl) (pe_ix ix_tup (pv 3) pe_int (fun _ _ => rfl)) (pe_tup (pa_cons (pe_callTy call_tuple_of (by rfl) B.tuple (by decide +kernel) (pa_cons (pe_ix ix_tup (pv 3) pe_int (fun _ _ => rfl)) pa_nil)) (pa_cons (pe_callTy call_tuple_of (by rfl) B.tuple (by decide +kernel) (pa_cons (pe_ix ix_tup (pv 3) pe_int (fun _ _ => rfl)) pa_nil)) pa_nil))) rfl))))))))))), ?_⟩
  have st : start ["self", "stuffs", "recipes", "item", "at", "name"] [V.ref x, v1, v2] = [some (.ref x), some v1, some v2, none, none, none] := rfl
  rw [st]
  have k1 : (("rooms" : Str) == "spots") = false := by decide +kernel
  have k2 : (("rooms" : Str) == "rules") = false := by decide +kernel
  have k3 : (("spots" : Str) == "rules") = false := by decide +kernel
  -- x into F
  have b0 : Bx x dx F H F H := ⟨Evl.Ex.refl F, e, fun _ _ _ h => h, fun a h1 h2 => absurd h1 h2⟩
  have b1 : Bx x dx F H (upd F x (.ins C dx [])) H := by
    have := b0.put (p := x) (o := .ins C dx []) (.inr rfl) fx
    rwa [show upd H x (.ins C dx []) = H from by
      funext a
      by_cases z : a = x
      · rw [z, upd_same, hx]
      · rw [upd_ne z]] at this
  have hv1' := dp_put (o := .ins C dx []) (by rw [fx]; exact noSq_none) hv1
  have hv2' := dp_put (o := .ins C dx []) (by rw [fx]; exact noSq_none) hv2
  -- check_size(stuffs, 1, MOST_STUFFS)
  refine s_drop (K := K) (F := upd F x (.ins C dx [])) (ev_size (Dv.ev_var rfl hv1') (by rw [List.length_map]; have := ok.s1; omega) (by rw [List.length_map]; have := ok.s2; omega) (by rw [List.length_map]; have := ok.s2; omega)) b1.fh fun F1 H1 g1 => ?_
  have b2 := b1.step g1
  have x1 : F1 x = some (.ins C dx []) := g1.fx _ _ upd_same
  -- self.rooms = {}
  refine s_fldNew (f := "rooms") rfl x1 MC.cl MC.rooms (by simp) b2.fh fun ro hro hrx => ?_
  have hroH : H ro = none := by
    cases z : H ro with
    | none => rfl
    | some o => rw [b2.hx ro o hrx z] at hro; cases hro
  have fro1 : F1 ro = none := ex_none b2.fh hro
  have hroF : F ro = none := ex_none e hroH
  have b3 : Bx x dx F H (upd F1 x (.ins C dx [("rooms", .ref ro)])) (upd (upd H1 ro (.dK [])) x (.ins C dx [("rooms", .ref ro)])) := (b2.mut hroH fro1).put (.inr rfl) fx
  have n1 : NoSq (F1 x) := by rw [x1]; exact fun xs => ⟨(fun z => by cases z), (fun z => by cases z), fun ob => ⟨(fun z => by cases z), (fun z => by cases z)⟩⟩
  have w1 := dp_put (o := .ins C dx [("rooms", .ref ro)]) n1 (dp_ex g1.fx hv1')
  have w2 := dp_put (o := .ins C dx [("rooms", .ref ro)]) n1 (dp_ex g1.fx hv2')
  have rr : ∀ o, (upd F1 x o) ro = none := fun o => by rw [upd_ne hrx]; exact fro1
  have hR1 : ∀ Fa Ha Fb Hb, Bx x dx F H Fa Ha → Gr Fa Ha Fb Hb → Bx x dx F H Fb Hb := fun _ _ _ _ b g => b.step g
  -- for item in stuffs
  refine fill_loop (K := K) (fs := [("rooms", V.ref ro)]) (fun Fa Ha => Bx x dx F H Fa Ha) m.stuffs encStuff (fun z => encRoom z.2) (fun z => z.1) (fun v => [some (.ref x), some v1, some v2, some v, none, none]) (vs0 := [])
    rfl (fun _ => rfl) (fun _ => rfl) (fun _ _ => rfl) upd_same MC.cl MC.rooms (by rfl) b3.fh b3 hR1 (fun _ _ o b fr => b.mut hroH fr) (by rw [upd_ne hrx, upd_same]) (rr _) (Dv.ev_var rfl w1) (by have := ok.s2; omega) ok.sn
    (fun z hz v F2 _ hv => ev_callD (Dv.ea_cons (Dv.ev_var rfl hv) Dv.ea_nil) ⟨_, rfl, (ok.ss z hz).1, by rw [(ok.ss z hz).2]⟩)
    (fun z hz v F2 _ hv => Dv.ev_ixT (d := .str z.1) (Dv.ev_var rfl hv) (Dv.ev_int 0) rfl)
    (fun z hz v F2 _ hv => Dv.ev_ixT (d := encRoom z.2) (Dv.ev_var rfl hv) (Dv.ev_int 1) rfl)
    fun σ' ws F2 H2 hσ b4 e1 e2 fro2 hro2 hw => ?_
  obtain ⟨it, rfl⟩ : ∃ it, σ' = [some (.ref x), some v1, some v2, it, none, none] := by
    rcases hσ with rfl | ⟨v, rfl⟩
    · exact ⟨none, rfl⟩
    · exact ⟨some v, rfl⟩
  have w2' := dp_ex e1 w2
  have x2 : F2 x = some (.ins C dx [("rooms", .ref ro)]) := e1 _ _ upd_same
  -- check_size(recipes, 0, MOST_RECIPES)
  refine s_drop (K := K) (F := F2) (ev_size (Dv.ev_var rfl w2') (by omega) (by rw [List.length_map]; have := ok.r2; omega) (by rw [List.length_map]; have := ok.r2; omega)) e2 fun F3 H3 g3 => ?_
  have k3' := g3.keep hro2 fro2
  have b5 := (b4.step g3).take hroH k3'.2 k3'.1
  have n3 : NoSq (F3 ro) := by rw [k3'.2]; exact noSq_none
  have w2'' := dp_put (o := .dK ((m.stuffs.map fun z => (Sum.inr z.1 : Key)).zip ws)) n3 (dp_ex g3.fx w2')
  have hw3 := dps_put (o := .dK ((m.stuffs.map fun z => (Sum.inr z.1 : Key)).zip ws)) n3 (dps_ex g3.fx hw)
  have x3 : upd F3 ro (.dK ((m.stuffs.map fun z => (Sum.inr z.1 : Key)).zip ws)) x = some (.ins C dx [("rooms", .ref ro)]) := by
    rw [upd_ne (Ne.symm hrx)]
    exact g3.fx _ _ x2
  have wl : ws.length = m.stuffs.length := by rw [dps_len hw, List.length_map]
  have hkeys : ((m.stuffs.map fun z => (Sum.inr z.1 : Key)).zip ws).map Prod.fst = m.names.map Sum.inr := by
    rw [zip_fst (by rw [List.length_map]; exact wl)]
    unfold MillD.names
    rw [List.map_map] <;> rfl
  -- self.spots = {..}
  refine s_fldK (K := K) (f := "spots") (ek_lock (K := K) (F := upd F3 ro (.dK ((m.stuffs.map fun z => (Sum.inr z.1 : Key)).zip ws))) (ks := m.names.zipIdx.map fun z => Sum.inr z.1) (ds := m.names.zipIdx.map fun z => PyData.int z.2) upd_same fun od => ?_) rfl x3 MC.cl MC.spots (by simp) b5.fh fun sp v2s F5 H5 g5 hsp fsp hsp5 hd5 => ?_
  · refine dc_rule (K := K) m.names.zipIdx (fun z => PyData.tuple [.int z.2, .str z.1]) (fun z => PyData.int z.2) (fun z => z.1) (it_enumK (fun Hq eq Q q => fld_ref rfl (by rw [upd_ne (Ne.symm hrx)]; exact x3) MC.cl MC.rooms (by rfl) Hq eq _ q) upd_same hkeys) (by
      rw [List.length_zipIdx]
      have := ok.s2
      unfold MillD.names
      rw [List.length_map]
      omega) (by rw [List.zipIdx_map_fst]; exact ok.sn) fun z _ v F6 _ hv => ?_
    obtain ⟨a, b, ha, hb, ht⟩ := tup2 hv
    exact ⟨[some (.ref x), some v1, some v2, it, some a, some b], fun Hq eq Q q => ht 4 5 _ Hq eq Q q, rfl, Dv.ev_var rfl hb, Dv.ev_var rfl ha⟩
  have b6 := b5.step g5
  have hspH : H sp = none := by
    cases z : H sp with
    | none => rfl
    | some o =>
      have hsx : sp ≠ x := fun q => by
        rw [q] at hsp
        have := b5.fh _ _ x3
        rw [hsp] at this
        cases this
      rw [b5.hx sp o hsx z] at hsp
      cases hsp
  have hspx : sp ≠ x := fun q => by
    rw [q] at hsp
    have := b5.fh _ _ x3
    rw [hsp] at this
    cases this
  have hspr : ro ≠ sp := fun q => by
    rw [← q] at hsp
    have := b5.fh _ _ upd_same
    rw [hsp] at this
    cases this
  have x5 : F5 x = some (.ins C dx [("rooms", .ref ro)]) := g5.fx _ _ x3
  have b7 := b6.take hspH fsp hsp5
  generalize hS : HO.dK ((m.names.zipIdx.map fun z => (Sum.inr z.1 : Key)).zip v2s) = oS at b7 hsp5
  have b8 := b7.put (p := x) (o := .ins C dx [("rooms", .ref ro), ("spots", .ref sp)]) (.inr rfl) fx
  have pf : putF "spots" (.ref sp) [(("rooms" : Str), V.ref ro)] = ([("rooms", V.ref ro), ("spots", V.ref sp)] : List (Str × V)) := by
    show (if ("rooms" : Str) = "spots" then _ else _) = _
    rw [if_neg (by simpa using k1)] <;> rfl
  rw [pf]
  generalize hF8 : upd (upd F5 sp oS) x (.ins C dx [("rooms", .ref ro), ("spots", .ref sp)]) = F8 at b8
  generalize hH8 : upd H5 x (.ins C dx [("rooms", .ref ro), ("spots", .ref sp)]) = H8 at b8
  have x8 : F8 x = some (.ins C dx [("rooms", .ref ro), ("spots", .ref sp)]) := by rw [← hF8]; exact upd_same
  have n5 : NoSq (F5 sp) := by rw [fsp]; exact noSq_none
  have n5x : NoSq ((upd F5 sp oS) x) := by rw [upd_ne (Ne.symm hspx), x5]; exact fun xs => ⟨(fun z => by cases z), (fun z => by cases z), fun ob => ⟨(fun z => by cases z), (fun z => by cases z)⟩⟩
  have tr : ∀ {d : PyData} {v : V}, Dp K (upd F3 ro (.dK ((m.stuffs.map fun z => (Sum.inr z.1 : Key)).zip ws))) v d → Dp K F8 v d := fun h => by
    rw [← hF8]
    exact dp_put n5x (dp_put n5 (dp_ex g5.fx h))
  have trs : ∀ {ds : List PyData} {vs : List V}, DpAll K F5 vs ds → DpAll K F8 vs ds := fun h => by
    rw [← hF8]
    exact dps_put n5x (dps_put n5 h)
  have sp8 : F8 sp = some (.dK ((m.names.zipIdx.map fun z => (Sum.inr z.1 : Key)).zip v2s)) := by
    rw [← hF8, upd_ne hspx, upd_same, hS]
  have ro8 : F8 ro = some (.dK ((m.stuffs.map fun z => (Sum.inr z.1 : Key)).zip ws)) := by
    rw [← hF8, upd_ne hrx, upd_ne hspr]
    exact g5.fx _ _ upd_same
  have w8 := tr w2''
  have hw8 : DpAll K F8 ws (m.stuffs.map fun z => encRoom z.2) := trs (dps_ex g5.fx hw3)
  have hd8 := trs hd5
  -- self.rules = {}
  refine s_fldNew (f := "rules") rfl x8 MC.cl MC.rules (by simp) b8.fh fun ru hru hrux => ?_
  have pf2 : putF "rules" (.ref ru) [(("rooms" : Str), V.ref ro), ("spots", V.ref sp)] = ([("rooms", V.ref ro), ("spots", V.ref sp), ("rules", V.ref ru)] : List (Str × V)) := by
    show (if ("rooms" : Str) = "rules" then _ else (("rooms" : Str), V.ref ro) :: (if ("spots" : Str) = "rules" then _ else _)) = _
    rw [if_neg (by simpa using k2), if_neg (by simpa using k3)] <;> rfl
  rw [pf2]
  have hruH : H ru = none := by
    cases z : H ru with
    | none => rfl
    | some o => rw [b8.hx ru o hrux z] at hru; cases hru
  have fru8 : F8 ru = none := ex_none b8.fh hru
  have b9 : Bx x dx F H (upd F8 x (.ins C dx [("rooms", .ref ro), ("spots", .ref sp), ("rules", .ref ru)])) (upd (upd H8 ru (.dK [])) x (.ins C dx [("rooms", .ref ro), ("spots", .ref sp), ("rules", .ref ru)])) := (b8.mut hruH fru8).put (.inr rfl) fx
  have n8 : NoSq (F8 x) := by rw [x8]; exact fun xs => ⟨(fun z => by cases z), (fun z => by cases z), fun ob => ⟨(fun z => by cases z), (fun z => by cases z)⟩⟩
  have w9 := dp_put (o := .ins C dx [("rooms", .ref ro), ("spots", .ref sp), ("rules", .ref ru)]) n8 w8
  have hw9 := dps_put (o := .ins C dx [("rooms", .ref ro), ("spots", .ref sp), ("rules", .ref ru)]) n8 hw8
  have hd9 := dps_put (o := .ins C dx [("rooms", .ref ro), ("spots", .ref sp), ("rules", .ref ru)]) n8 hd8
  have hrr : ro ≠ ru := fun z => by rw [← z, ro8] at fru8; cases fru8
  have hsr : sp ≠ ru := fun z => by rw [← z, sp8] at fru8; cases fru8
  have v2l : v2s.length = m.names.length := by rw [dps_len hd5, List.length_map, List.length_zipIdx]
  -- for item in recipes
  refine fill_loop (K := K) (fs := [("rooms", V.ref ro), ("spots", V.ref sp), ("rules", V.ref ru)]) (fun Fa Ha => Bx x dx F H Fa Ha) m.recipes encRecipe encRule (fun z => z.1) (fun v => [some (.ref x), some v1, some v2, some v, none, none]) (vs0 := [])
    rfl (fun _ => rfl) (fun _ => rfl) (fun _ _ => rfl) upd_same MC.cl MC.rules (by rfl) b9.fh b9 hR1 (fun _ _ o b fr => b.mut hruH fr) (by rw [upd_ne hrux, upd_same]) (by rw [upd_ne hrux]; exact fru8) (Dv.ev_var rfl w9) (by have := ok.r2; omega) ok.rn
    (fun z hz v F2 ee hv Hq eq Q q => ⟨v, rfl, fld_ref rfl (ee _ _ upd_same) MC.cl MC.spots (by rfl) Hq eq _ ⟨F2, v, _, sp, m.names, rfl, eq, hv, (ok.rs z hz).1, ⟨_, ee _ _ (by rw [upd_ne hspx]; exact sp8), names_spots v2l⟩, fun F' H' g => q _ F' H' g (by rw [(ok.rs z hz).2]; exact .bl true)⟩⟩)
    (fun z hz v F2 _ hv => Dv.ev_ixT (d := .str z.1) (Dv.ev_var rfl hv) (Dv.ev_int 0) rfl)
    (fun z hz v F2 _ hv => Dv.ev_tup (Dv.ea_cons (ev_tuple (Dv.ev_ixT (d := .list (z.2.1.map encPart)) (Dv.ev_var rfl hv) (Dv.ev_int 1) rfl)) (Dv.ea_cons (ev_tuple (Dv.ev_ixT (d := .list (z.2.2.map encPart)) (Dv.ev_var rfl hv) (Dv.ev_int 2) rfl)) Dv.ea_nil)) (by simp))
    fun σ' us F' H' hσ b10 e3 e4 fru hru' hw10 => ?_
  refine q _ _ (b10.take hruH fru hru') ?_
  have nn : NoSq (F' ru) := by rw [fru]; exact noSq_none
  refine ⟨dx, ro, sp, ru, ws, v2s, us, ?_, ?_, dps_put nn (dps_ex e3 hw9), ?_, dps_put nn (dps_ex e3 hd9), upd_same, dps_put nn hw10, hrr, hsr, hspr⟩
  · rw [upd_ne (Ne.symm hrux)]
    exact e3 _ _ upd_same
  · rw [upd_ne hrr]
    exact e3 _ _ (by rw [upd_ne hrx]; exact ro8)
  · rw [upd_ne hsr]
    exact e3 _ _ (by rw [upd_ne hspx]; exact sp8)
end
end R3

set_option Elab.async false
set_option linter.all false
set_option maxRecDepth 100000
set_option maxHeartbeats 4000000
namespace Dv
open PySem PySem.Spec PyProof.Rows L2 Evl
/-- a class that can be made: its __init__ does what sp says -/
structure Mak (P : Program) (w : World) (K : PySem.W.Frag) (mg : Str → Option Value) (base : Heap) (nm : Str) (C : Addr) (ps : List Str) (k : Nat) (sp : Sp) : Prop where
  ex : ∃ f fd, mg nm = some (.ref C) ∧ Mk K C f ∧ Binds K fd ("self" :: ps) [] ∧ FnOkG P w K mg base CX0 k f fd ("self" :: ps) sp
section
variable {X : Cx} {x : Str} {p pos : Pos} {e : Expr} {es : List Expr} {t : TA} {k j : Nat} {ps : List Str} {sp : Sp} {C : Addr}
theorem pe_makC (M : Mak X.prog X.w X.K X.mg X.base x C ps k sp) (hr : RoomG j X.A) (ha : PA X (e :: es) t) (hg : Gl X x := by rfl) (hj : k + 1 ≤ j := by decide) (hdb : (x == ("__debug__" : Str)) = false := by decide)
    (he : starEach (e :: es) X.env = (false, eval e X.env) :: starEach es X.env := by rfl) (hpl : (backTo pos (starEach es X.env)).any (·.1) = false := by rfl) : PE X (.Call (.Name x p) (e :: es) [] pos) (tMake C sp [] E0 t) := by
  obtain ⟨f, fd, g, M, b, G⟩ := M.ex
  exact pe_makeG M G (hr.mono hj) hg g b .nil pass0 ha hdb he hpl
end
section
variable {K : PySem.W.Frag} {σ : L2.St} {F F1 H H1 : Hp} {te ta tb tc : TE} {d a b : PyData} {ds es : List PyData}
/-- evaluates to an object of which Pd holds -/
def EvO (Pd : Hp → Addr → Prop) (te : TE) (σ : L2.St) (F : Hp) : Prop := ∀ H, Ex F H → ∀ Q : VK, (∀ x F' H', Gr F H F' H' → Pd F' x → Q (.ref x) H') → te σ H Q
theorem eo_var {Pd : Hp → Addr → Prop} {i : Nat} {x : Addr} (hi : σ[i]? = some (some (.ref x))) (h : Pd F x) : EvO Pd (tVar i) σ F := fun H e Q q => ⟨_, hi, q x F H (Gr.refl e) h⟩
theorem Bx.gr {x dx : Addr} {F H F' H' : Hp} {o o2 : HO} (hx : H x = none) (hdx : H dx = none) (b : Bx x dx F (upd (upd H dx o) x o2) F' H') : Gr F H F' H' :=
  ⟨b.fx, b.fh, fun a u h => by
    have h1 := ne_of_none h hx
    have h2 := ne_of_none h hdx
    exact b.hx a u h1 (by rw [upd_ne h1, upd_ne h2]; exact h), fun a h1 h2 => by
    rcases b.fr a h1 h2 with h | h | h
    · by_cases q : a = x
      · rw [q]; exact hx
      · by_cases q2 : a = dx
        · rw [q2]; exact hdx
        · rw [upd_ne q, upd_ne q2] at h
          exact h
    · rw [h]; exact hx
    · rw [h]; exact hdx⟩
theorem ex_new2 {x dx : Addr} {F H : Hp} {o o2 : HO} (e : Ex F H) (hx : H x = none) (hdx : H dx = none) : Ex F (upd (upd H dx o) x o2) := fun a u h => by
  have h' := e a u h
  rw [upd_ne (ne_of_none h' hx), upd_ne (ne_of_none h' hdx)]
  exact h'
end
end Dv

set_option Elab.async false
set_option linter.all false
set_option maxRecDepth 100000
set_option maxHeartbeats 4000000
namespace R3
open PySem PySem.Spec PyProof.Rows L2 Dv
section
variable {P : Program} {w : World} {K : PySem.W.Frag} {mg : Str → Option Value} {base : Heap}
/-- Mill(..) -/
theorem ev_mill {σ : L2.St} {F : Hp} {ta : TA} {C : Addr} {E : XK} {m : MillD} (h : EaD K ta σ F [.list (m.stuffs.map encStuff), .list (m.recipes.map encRecipe)]) (ok : m.Ok) : EvO (fun F x => MillAt K F C x m) (tMake C (spMillInit K C) [] E ta) σ F := fun H e Q q =>
  h H e _ fun vs F1 H1 g1 hv x dx hx hdx hne => by
    obtain ⟨v1, v2, rfl, h1, h2⟩ := Dv.two hv
    refine ⟨F1, x, dx, v1, v2, m, rfl, ex_new2 g1.fh hx hdx, ex_none g1.fh hx, ex_none g1.fh hdx, upd_same, by rw [upd_ne hne, upd_same] <;> rfl, Ne.symm hne, h1, h2, ok, fun F' H' b hm => ⟨rfl, q x F' H' (g1.trans (b.gr hx hdx)) hm⟩⟩
/-- the part of a mill that is not its rules -/
structure Mill0 (K : PySem.W.Frag) (F : Hp) (C x : Addr) (m : MillD) : Prop where
  ex : ∃ (dx ro sp ru : Addr) (v1 v2 : List V), F x = some (.ins C dx [("rooms", .ref ro), ("spots", .ref sp), ("rules", .ref ru)]) ∧
    F ro = some (.dK ((m.stuffs.map fun z => (Sum.inr z.1 : Key)).zip v1)) ∧ DpAll K F v1 (m.stuffs.map fun z => encRoom z.2) ∧
    F sp = some (.dK ((m.names.zipIdx.map fun z => (Sum.inr z.1 : Key)).zip v2)) ∧ DpAll K F v2 (m.names.zipIdx.map fun z => PyData.int z.2)
theorem MillAt.part {F : Hp} {C x : Addr} {m : MillD} (h : MillAt K F C x m) : Mill0 K F C x m := by
  obtain ⟨dx, ro, sp, ru, v1, v2, v3, h1, h2, h3, h4, h5, r⟩ := h.ex
  exact ⟨dx, ro, sp, ru, v1, v2, h1, h2, h3, h4, h5⟩
theorem Mill0.mono {F F1 : Hp} {C x : Addr} {m : MillD} (e : Evl.Ex F F1) (h : Mill0 K F C x m) : Mill0 K F1 C x m := by
  obtain ⟨dx, ro, sp, ru, v1, v2, h1, h2, h3, h4, h5⟩ := h.ex
  exact ⟨dx, ro, sp, ru, v1, v2, e _ _ h1, e _ _ h2, dps_ex e h3, e _ _ h4, dps_ex e h5⟩
theorem spots_val {F : Hp} {n : Str} : ∀ (names : List Str) (k : Nat) (vs : List V), DpAll K F vs ((names.zipIdx k).map fun z => PyData.int z.2) → n ∈ names →
    valV (((names.zipIdx k).map fun z => (Sum.inr z.1 : Key)).zip vs) (.inr n) = some (.int ((k + names.idxOf n : Nat) : Int))
  | [], _, _, _, h => nomatch h
  | a :: r, k, vs, hd, hm => by
    rw [List.zipIdx_cons] at hd ⊢
    cases hd with
    | cons h1 h2 =>
      cases h1
      rw [List.map_cons, List.zip_cons_cons]
      by_cases e : a = n
      · subst e
        rw [valV_pos rfl, List.idxOf_cons_self]
        rfl
      · have hm' : n ∈ r := by
          rcases List.mem_cons.mp hm with h | h
          · exact absurd h.symm e
          · exact h
        rw [valV_neg (by intro z; exact e (Sum.inr.inj z)), spots_val r (k + 1) _ h2 hm', List.idxOf_cons, show (a == n) = false by simpa using e]
        congr 2
        simp only [cond_false]
        omega
/-- one number a stuff -/
def numbersOf (names : List Str) (ps : List (Str × Int)) : List Int := ps.foldl (fun acc p => acc.set (names.idxOf p.1) p.2) (List.replicate names.length 0)
theorem dps_ints {F : Hp} : ∀ xs : List Int, DpAll K F (xs.map V.int) (xs.map PyData.int)
  | [] => .nil
  | x :: xs => .cons (.int x) (dps_ints xs)
theorem ints_of {F : Hp} : ∀ {xs : List Int} {ws : List V}, DpAll K F ws (xs.map PyData.int) → ws = xs.map V.int
  | [], _, h => by cases h; rfl
  | x :: xs, _, h => by
    cases h with
    | cons h1 h2 =>
      cases h1
      rw [ints_of h2] <;> rfl
theorem foldl_len (names : List Str) : ∀ (ps : List (Str × Int)) (acc : List Int), (ps.foldl (fun acc p => acc.set (names.idxOf p.1) p.2) acc).length = acc.length
  | [], _ => rfl
  | p :: ps, acc => by rw [List.foldl_cons, foldl_len names ps, List.length_set]
theorem numbersOf_len (names : List Str) (ps : List (Str × Int)) : (numbersOf names ps).length = names.length := by
  unfold numbersOf
  rw [foldl_len, List.length_replicate]
def spNums (K : PySem.W.Frag) (C : Addr) : Sp := fun vs H Q _ => ∃ (F : Hp) (x : Addr) (v : V) (m : MillD) (ps : List (Str × Int)), vs = [.ref x, v] ∧ Evl.Ex F H ∧ Mill0 K F C x m ∧ m.stuffs.length ≤ 8 ∧ Dp K F v (.list (ps.map encPart)) ∧ (∀ p ∈ ps, p.1 ∈ m.names) ∧
  ∀ p ws F' H', Gr F H F' H' → H p = none → F' p = none → H' p = some (.lst ws) → DpAll K F' ws ((numbersOf m.names ps).map PyData.int) → Q (.ref p) H'
theorem fl1 {ro sp ru : Addr} : ([("rooms", V.ref ro), ("spots", V.ref sp), ("rules", V.ref ru)] : List (Str × V)).lookup ("rooms" : Str) = some (.ref ro) := by rfl
theorem fl2 {ro sp ru : Addr} : ([("rooms", V.ref ro), ("spots", V.ref sp), ("rules", V.ref ru)] : List (Str × V)).lookup ("spots" : Str) = some (.ref sp) := by rfl
theorem fl3 {ro sp ru : Addr} : ([("rooms", V.ref ro), ("spots", V.ref sp), ("rules", V.ref ru)] : List (Str × V)).lookup ("rules" : Str) = some (.ref ru) := by rfl
theorem sc_numbers_of : FnScope (["mill", "parts", "found", "name", "number"] : List Str) (["mill", "parts"] : List Str) (defScope sNumbersOf) := ⟨rfl, rfl, rfl, by decide +kernel, rfl, by decide +kernel, by decide +kernel⟩
theorem ok_numbers_of (D : Def K mg "numbers_of" sNumbersOf ["mill", "parts"]) (B : Bl mg) {C : Addr} (MC : MillC K C) : Cal P w K mg base "numbers_of" ["mill", "parts"] 1 (spNums K C) := by
  refine cal_mk D sc_numbers_of (fun vs H Q E h => ?_) (fun f cdv A outer s H vs Q E hr h => ?_)
  · obtain ⟨F, x, v, m, ps, rfl, _⟩ := h
    rfl
  obtain ⟨F, x, v, m, ps, rfl, e, hm, hl, hv, hin, q⟩ := h
  have hu := hu_of hr.1
  obtain ⟨dx, ro, sp, ru, v1, v2, hx, hro, hv1, hsp, hv2⟩ := hm.ex
  have hnl : m.names.length = m.stuffs.length := List.length_map ..
  refine ⟨_, (pss_cons (ps_set (i := 2) sc_numbers_of.nd rfl (.inl rfl) (pe_op op_rep (pe_lst (pa_cons pe_int pa_nil)) (pe_callB call_lenD (by rfl) B.len (by decide +kernel) (pa_cons (pe_fld (pv 0) rfl) pa_nil))))
      (pss_cons (ps_for PassesOwn.never rfl (pi_list (pv 1)) (pg_tup (by rfl) (pgs_cons (pg_name (i := 3) sc_numbers_of.nd rfl (.inl rfl)) (pgs_cons (pg_name (i := 4) sc_numbers_of.nd rfl (.inl rfl)) pgs_nil))) (pss_one (ps_asg (pv 4) (pg_sub (pv 2) (pe_dget hu (pe_fld (pv 0) rfl) (pv 3) (fun _ _ => rfl)) set_list))))
      (pss_one (ps_ret (pv 2))))), ?_⟩
  have st : start ["mill", "parts", "found", "name", "number"] [V.ref x, v] = [some (.ref x), some v, none, none, none] := rfl
  rw [st]
  have el : EvL K (tOp rRep (tLst (tCons (tC (.int 0)) tNil)) (tCB (fun xs H Q => ∃ a kvs, xs = [V.ref a] ∧ H a = some (.dK kvs) ∧ Q (.int kvs.length) H) (tCons (tFld K (tVar 0) "rooms") tNil))) [some (.ref x), some v, none, none, none] F ((List.replicate m.names.length (0 : Int)).map PyData.int) := by
    intro H e Q q
    refine Dv.el_lst (K := K) (σ := [some (.ref x), some v, none, none, none]) (F := F) (ds := [.int 0]) (Dv.ea_cons (Dv.ev_int 0) Dv.ea_nil) (by simp) H e _ fun l ws F1 H1 g1 hl1 hf1 hl2 hw => ?_
    obtain ⟨y, rfl, hy⟩ := Dv.one hw
    cases hy
    refine fld_ref (K := K) (σ := [some (.ref x), some v, none, none, none]) rfl (g1.fx _ _ hx) MC.cl MC.rooms fl1 H1 g1.fh _ ?_
    have kl : ((m.stuffs.map fun z => (Sum.inr z.1 : Key)).zip v1).length = m.names.length := by
      have := dps_len hv1
      rw [List.length_map] at this
      rw [List.length_zip, List.length_map, hnl]
      omega
    refine ⟨ro, _, rfl, g1.fh _ _ (g1.fx _ _ hro), l, _, [V.int 0], rfl, rfl, hl2, by omega, by omega, ?_, fun p hp => ?_⟩
    · rw [kl]
      exact Evl.sz_of (by simp; omega)
    · rw [kl]
      have e1 : (List.replicate ((m.names.length : Int)).toNat [V.int 0]).flatten = (List.replicate m.names.length (0 : Int)).map V.int := by
        rw [Int.toNat_natCast, List.map_replicate]
        exact List.flatten_replicate_singleton
      rw [e1]
      exact q p _ F1 _ (g1.trans (Gr.only g1.fh hp)) (ex_none g1.hx hp) (ex_none g1.fh hp) upd_same (dps_ints _)
  refine Dv.s_asgL (K := K) el e fun p ws F1 H1 g1 hp0 fp hp1 hws => ?_
  have ewn : ws = (List.replicate m.names.length (0 : Int)).map V.int := ints_of hws
  subst ewn
  refine Dv.s_for (it_list (Dv.ev_var rfl (dp_ex g1.fx hv))) g1.fh
    (fun n σ F' H' => ∃ (a b : Option V), σ = [some (.ref x), some v, some (.ref p), a, b] ∧ F' p = none ∧ H' p = some (.lst (((ps.take n).foldl (fun acc p => acc.set (m.names.idxOf p.1) p.2) (List.replicate m.names.length 0)).map V.int)) ∧ Gr F H F' H')
    (fun F2 H2 g2 => ?_) ?_ (fun σ' F2 H2 e2 e3 p2 => ?_)
  · have k := g2.keep hp1 fp
    exact ⟨none, none, rfl, k.2, by rw [List.take_zero]; exact k.1, g1.trans g2⟩
  · rintro Fb eb n σ F2 H2 u du F3 H3 hdu e2 e3 ⟨a, b, rfl, fp2, hp2, gg⟩ g3 hu3
    obtain ⟨hn, hdn⟩ := List.getElem?_eq_some_iff.mp hdu
    rw [List.length_map] at hn
    have hdu' : du = encPart ps[n] := by rw [← hdn, List.getElem_map]
    subst hdu'
    obtain ⟨y1, y2, hy1, hy2, ht⟩ := tup2 hu3
    have hp3 := g3.keep hp2 fp2
    have gg3 := gg.trans g3
    cases hy1
    cases hy2
    refine ht 3 4 _ H3 g3.fh _ ?_
    show tAsg _ _ _ [some (.ref x), some v, some (.ref p), some (.str ps[n].1), some (.int ps[n].2)] H3
    refine ⟨_, rfl, _, rfl, ?_⟩
    refine fld_ref (K := K) (σ := [some (.ref x), some v, some (.ref p), some (.str ps[n].1), some (.int ps[n].2)]) rfl (gg3.fx _ _ hx) MC.cl MC.spots fl2 H3 g3.fh _ ?_
    refine ⟨_, rfl, sp, _, rfl, DGet.k (k := Sum.inr ps[n].1) (gg3.fh _ _ (gg3.fx _ _ hsp)) |> fun h => (spots_val m.names 0 v2 hv2 (hin _ (List.getElem_mem hn))) ▸ h, ?_⟩
    have hix : m.names.idxOf ps[n].1 < m.names.length := List.idxOf_lt_length_of_mem (hin _ (List.getElem_mem hn))
    refine ⟨p, _, _, m.names.idxOf ps[n].1, rfl, rfl, hp3.1, ?_, ?_⟩
    · rw [List.length_map, foldl_len, List.length_replicate, Nat.zero_add]
      exact Evl.ixN_nat hix
    · dsimp only
      refine ⟨F3, e2.trans g3.fx, Evl.Ex.mut g3.fh hp3.2, some (.str ps[n].1), some (.int ps[n].2), rfl, hp3.2, ?_, gg3.mut hp0 hp3.2⟩
      rw [upd_same, List.take_succ_eq_append_getElem hn, List.foldl_append, ← List.map_set] <;> rfl
  · obtain ⟨a, b, rfl, fp2, hp2, gg⟩ := p2
    rw [List.length_map, List.take_length] at hp2
    exact ⟨_, rfl, q p _ F2 H2 gg hp0 fp2 hp2 (dps_ints _)⟩
end
end R3

set_option Elab.async false
set_option linter.all false
set_option maxRecDepth 100000
set_option maxHeartbeats 4000000
/-! list(d.values()) -/
namespace L2
open PySem PySem.Spec PyProof.Rows
def tListVals (td : TE) : TE := fun σ H Q => td σ H fun x H1 => ∃ a kvs, x = V.ref a ∧ H1 a = some (.dK kvs) ∧ ∀ p, H1 p = none → Q (.ref p) (upd H1 p (.lst (kvs.map Prod.snd)))
theorem pe_listVals {X : Cx} {o : Expr} {td : TE} {p pos mpos apos : Pos} (hc : X.calm = true) (hg : Gl X "list") (hm : X.mg "list" = none) (hd : PE X o td) (hbase : attributeBase o "values" X.env (eval o X.env) = eval o X.env := by rfl) (hline : (apos.endLine == mpos.line) = true := by rfl)
    (hse : starEach [Expr.Call (.Attribute o "values" apos) [] [] mpos] X.env = [(false, eval (Expr.Call (.Attribute o "values" apos) [] [] mpos) X.env)] := by rfl) :
    PE X (.Call (.Name "list" p) [.Call (.Attribute o "values" apos) [] [] mpos] [] pos) (tListVals td) := by
  refine ⟨fun pins s σ H Q I h => ?_⟩
  refine wpAny_Call_Name_kw (ld_blt I hg hm (u := .type "list") (by first | rfl | decide +kernel) ?_ (by first | decide +kernel | decide) (by first | decide +kernel | decide))
  rw [hse]
  refine PySem.callWith_type1 (wpAny_Call_method0_late hbase hline (thn (hd.run pins s σ H _ I h) fun v s1 ⟨x, H1, I1, r1, a, kvs, ex, ha, q⟩ => ?_))
  subst ex
  obtain rfl : v = Value.ref a := r1
  obtain ⟨hz, hsys, vs, rel, dof⟩ := dk_of I1.hok ha
  obtain ⟨ep, dat⟩ := dof.dictAt
  have dat' := dat
  obtain ⟨ob, es, ho, ex, hdat, hko, hpr, hnd⟩ := dat'
  refine ⟨"dict", "dict.values", F.plainAttrs_dict, F.slot_dict_values, F.type_dict_values, ⟨ob, ho, ex.1⟩, fun b e => ?_, Calls.callWith_builtin rfl (PySem.evalArgs_none ?_)⟩
  · cases e
    exact ⟨ob, ho, ex.2.1⟩
  refine call_meetsIn F.slot_dict_values ⟨ob, ho, ex.1⟩ F.entry_dict_values (F.args_dict_values_1 _) (meets_dict_values (mixKind X.prog X.w) a hsys) ⟨⟨vs, dof⟩, ?_⟩
  have k1 : ∀ b u, s1.heap.get? b = some u → (s1.heap.push { cls := .type "dict_values", data := .fields #[.ref a] }).get? b = some u := fun b u e => Heap.get?_push_of_some _ e
  have dat1 : (s1.heap.push { cls := .type "dict_values", data := .fields #[.ref a] }).DictAt (mixKind X.prog X.w) a vs ep := dat.keep k1
  have hl : kvs.length = vs.length := Paired.length rel
  have I2 : Inv X pins σ H1 { s1 with heap := s1.heap.push { cls := .type "dict_values", data := .fields #[.ref a] } } := I1.kept (t' := s1.toks) k1
  refine PySem.W.kdl_call (s := { s1 with heap := s1.heap.push { cls := .type "dict_values", data := .fields #[.ref a] } }) (PySem.W.kdl_values (knd := mixKind X.prog X.w) (kvs := vs) (ep := ep) (r := s1.heap.objs.size) (d := a)) (I.ok.hd hc) ⟨⟨_, Heap.get?_push_size _ rfl, rfl, rfl⟩, dat1⟩ (by rw [← hl]; exact hz) fun h' tk acc' c' hkeep hS hacc => ?_
  refine ⟨.ref _, upd H1 (s1.heap.push { cls := .type "dict_values", data := .fields #[.ref a] }).objs.size (.lst (kvs.map Prod.snd)), I2.laid hkeep (Nat.le_refl _) (show ObjOk X.prog X.w _ _ _ (.lst (kvs.map Prod.snd)) from ⟨?_, acc'.toList, c', ?_, ?_⟩), rfl, q _ (I2.hok.fresh (Nat.le_refl _))⟩
  · rw [List.length_map]; exact hz
  · have el : acc'.toList.length = acc'.size := by simp
    refine vals_of_at (by rw [List.length_map, el, hacc.1, hl]) fun j x w h1 h2 => ?_
    obtain ⟨k, hky⟩ := hacc.2 j w (by rw [← Array.getElem?_toList]; exact h2)
    obtain ⟨y, hy, ry⟩ := KV.at' rel hky
    rw [List.getElem?_map, hy] at h1
    cases h1
    exact ry
  · rw [Array.toArray_toList]; exact hS
end L2

set_option Elab.async false
set_option linter.all false
set_option maxRecDepth 100000
set_option maxHeartbeats 4000000
namespace Dv
open PySem L2 Evl
section
variable {K : PySem.W.Frag} {σ : L2.St} {F H : Hp} {te ta : TE} {d : PyData} {ds : List PyData}
theorem strs_of : ∀ {names : List Str} {ws : List V}, DpAll K F ws (names.map PyData.str) → ws = names.map V.str
  | [], _, h => by cases h; rfl
  | n :: r, _, h => by
    cases h with
    | cons h1 h2 =>
      cases h1
      rw [strs_of h2] <;> rfl
theorem inV_strs {x : Str} {xs : List Str} : inV (V.str x) (xs.map V.str) = decide (x ∈ xs) := by
  unfold inV
  rw [Bool.eq_iff_iff, List.any_eq_true, decide_eq_true_iff]
  constructor
  · rintro ⟨y, hy, he⟩
    obtain ⟨z, hz, rfl⟩ := List.mem_map.mp hy
    have : z = x := by simpa [eqV] using he
    exact this ▸ hz
  · intro hx
    exact ⟨_, List.mem_map.mpr ⟨x, hx, rfl⟩, by simp [eqV]⟩
theorem cutD_from (ds : List PyData) (k : Nat) : cutD ds (some (k : Int)) none = ds.drop k := by
  unfold cutD
  rw [HT.sIx_nat, HT.sIx_none]
  by_cases h : k ≤ ds.length
  · rw [Nat.min_eq_left h, List.take_of_length_le (by rw [List.length_drop]; exact Nat.le_refl _)]
  · rw [Nat.min_eq_right (by omega), List.drop_length, List.drop_of_length_le (by omega)]
    simp
/-- x not in a list of texts -/
theorem ev_notInStrs {x : Str} {xs : List Str} (ha : EvD K ta σ F (.str x)) (hb : EvD K te σ F (.list (xs.map PyData.str))) : EvD K (tOp (rIn K true) ta te) σ F (.bool (!decide (x ∈ xs))) :=
  ev_op ha hb fun v u F1 H1 _ e hv hu Q q => by
    cases hv
    cases hu with
    | lst hs hd =>
      have := strs_of hd
      subst this
      refine ⟨_, xs.map V.str, rfl, .inl (ex_l e hs), rfl, by simp [flatV], ?_⟩
      rw [if_pos rfl, inV_strs]
      exact q _ F1 H1 (Gr.refl e) (.bl _)
theorem idxOf_min {y : Str} : ∀ (xs : List Str) (m : Nat), xs[m]? = some y → xs.idxOf y ≤ m
  | [], m, h => by cases h
  | a :: r, 0, h => by
    cases h
    rw [List.idxOf_cons_self]
    exact Nat.le_refl _
  | a :: r, m + 1, h => by
    rw [List.idxOf_cons]
    have := idxOf_min r m h
    cases (a == y)
    · simp only [cond_false]
      omega
    · simp only [cond_true]
      omega
/-- names.index(x), there -/
theorem ev_indexStrs {x : Str} {xs : List Str} (hb : EvD K te σ F (.list (xs.map PyData.str))) (ha : EvD K ta σ F (.str x)) (hx : x ∈ xs) : EvD K (tBM K "list" (rIndex K) te (tCons ta tNil)) σ F (.int (xs.idxOf x : Nat)) := fun H e Q q =>
  hb H e _ fun v F1 H1 g1 hv => by
    cases hv with
    | lst hs hd =>
      have := strs_of hd
      subst this
      rename_i p
      refine ⟨.inl ⟨rfl, _, ex_l g1.fh hs⟩, (ha.mono g1.fx) H1 g1.fh _ fun u F2 H2 g2 hu => ?_⟩
      cases hu
      have hlt : xs.idxOf x < xs.length := List.idxOf_lt_length_of_mem hx
      have hget : xs[xs.idxOf x] = x := List.getElem_idxOf hlt
      refine ⟨p, xs.map V.str, .str x, xs.idxOf x, .str x, rfl, rfl, ex_l (g2.fx.trans g2.fh) hs, rfl, by simp [flatV], ?_, by simp [eqV], ?_, q _ F2 H2 (g1.trans g2) (.int _)⟩
      · rw [List.getElem?_map, List.getElem?_eq_getElem hlt, hget] <;> rfl
      · intro m z hm hz
        rw [List.getElem?_map] at hz
        obtain ⟨y, hy, rfl⟩ := Option.map_eq_some_iff.mp hz
        have hml : m < xs.length := (List.getElem?_eq_some_iff.mp hy).1
        have : y ≠ x := fun e => by
          subst e
          exact absurd (idxOf_min xs m hy) (by omega)
        simpa [eqV] using this
end
end Dv
namespace R3
open PySem PySem.Spec PyProof.Rows L2 Dv
section
variable {P : Program} {w : World} {K : PySem.W.Frag} {mg : Str → Option Value} {base : Heap}
/-- the module's NOTHING -/
structure Noth (K : PySem.W.Frag) (mg : Str → Option Value) : Prop where
  ex : ∃ a, mg "NOTHING" = some (.ref a) ∧ ∀ F, Dp K F (.ref a) (.tuple [.int 0, .int 1])
def isPair2 : PyData → Bool
  | .tuple [.str _, _] => true
  | _ => false
def brewNm : PyData → Str
  | .tuple (.str n :: _) => n
  | _ => ""
def brewAm : PyData → PyData
  | .tuple [_, a] => a
  | _ => .none
def brewGo : List Str → List PyData → Bool
  | _, [] => true
  | names, d :: r => isPair2 d && decide (brewNm d ∈ names) && isAmt (brewAm d) && !PyData.eqv (brewAm d) (.tuple [.int 0, .int 1]) && brewGo (names.drop (names.idxOf (brewNm d) + 1)) r
def isBrew (names : List Str) : PyData → Bool
  | .list xs => brewGo names xs
  | _ => false
def MillD.titles (m : MillD) : List Str := m.recipes.map (·.1)
end
end R3

set_option Elab.async false
set_option linter.all false
set_option maxRecDepth 100000
set_option maxHeartbeats 4000000
namespace R3
open PySem PySem.Spec PyProof.Rows L2 Dv
section
variable {P : Program} {w : World} {K : PySem.W.Frag} {mg : Str → Option Value} {base : Heap}
/-- a value below the last modulus, whatever it is -/
def spHash : Sp := fun vs H Q _ => ∃ s x : Int, vs = [.int s, .int x] ∧ 0 ≤ s ∧ s < 2147483647 ∧ 0 ≤ x ∧ x < 1000000 ∧ ∀ z : Int, 0 ≤ z → z < 2147483647 → Q (.int z) H
theorem sc__law_hash : FnScope (["seed", "index", "mixed"] : List Str) (["seed", "index"] : List Str) (defScope sLawHash) := ⟨rfl, rfl, rfl, by decide +kernel, rfl, by decide +kernel, by decide +kernel⟩
theorem ok_law_hash (D : Def K mg "_law_hash" sLawHash ["seed", "index"]) (B : Bl mg) : Cal P w K mg base "_law_hash" ["seed", "index"] 1 spHash := by
  refine cal_mk D sc__law_hash (fun vs H Q E h => ?_) (fun f cdv A outer s H vs Q E hr h => ?_)
  · obtain ⟨s, x, rfl, _⟩ := h
    rfl
  obtain ⟨a, x, rfl, h1, h2, h3, h4, q⟩ := h
  refine ⟨_, (pss_cons (ps_set (i := 2) sc__law_hash.nd rfl (.inl rfl) (pe_op op_mod (pe_callTy call_int1 (by rfl) B.int (by decide +kernel) (pa_cons (pe_op op_add (pe_op op_add (pe_op op_add (pe_op op_mul (pv 0) pe_int) (pe_op op_mul (pe_op op_mul pe_int (pv 1)) (pv 1))) (pe_op op_mul pe_int (pv 1))) pe_int) pa_nil)) pe_int))
      (pss_cons (ps_set (i := 2) sc__law_hash.nd rfl (.inl rfl) (pe_op op_mod (pe_callTy call_int1 (by rfl) B.int (by decide +kernel) (pa_cons (pe_op op_add (pe_op op_add (pe_op op_mul (pv 2) (pv 2)) (pe_op op_mul pe_int (pv 1))) pe_int) pa_nil)) pe_int))
      (pss_one (ps_ret (pe_op op_mod (pe_callTy call_int1 (by rfl) B.int (by decide +kernel) (pa_cons (pe_op op_mul (pv 2) pe_int) pa_nil)) pe_int))))), ?_⟩
  have e1 : 0 ≤ (a * 1299709 + 104729 * x * x + 31 * x + 7) % 2147483629 := Int.emod_nonneg _ (by decide)
  have e2 : (a * 1299709 + 104729 * x * x + 31 * x + 7) % 2147483629 < 2147483629 := Int.emod_lt_of_pos _ (by decide)
  have e3 : 0 ≤ ((a * 1299709 + 104729 * x * x + 31 * x + 7) % 2147483629 * ((a * 1299709 + 104729 * x * x + 31 * x + 7) % 2147483629) + 48271 * x + 15485863) % 2147483587 := Int.emod_nonneg _ (by decide)
  have e4 : ((a * 1299709 + 104729 * x * x + 31 * x + 7) % 2147483629 * ((a * 1299709 + 104729 * x * x + 31 * x + 7) % 2147483629) + 48271 * x + 15485863) % 2147483587 < 2147483587 := Int.emod_lt_of_pos _ (by decide)
  refine ⟨_, rfl, _, _, rfl, rfl, .inl ⟨by omega, by omega⟩, _, rfl, _, _, rfl, rfl, .inl ⟨by decide, by decide⟩, _, rfl, _, _, rfl, rfl, .inl ⟨by omega, by omega⟩, _, _, rfl, rfl, _, rfl, _, _, rfl, rfl, .inl ⟨by decide, by decide⟩, _, _, rfl, rfl, _, _, rfl, rfl, .inl ⟨_, rfl, ?_⟩⟩
  refine ⟨_, _, rfl, rfl, (by show (0 : Int) < _; decide), ?_⟩
  refine ⟨_, rfl, _, rfl, _, _, rfl, rfl, .inl ⟨by omega, by omega⟩, _, rfl, _, _, rfl, rfl, .inl ⟨by decide, by decide⟩, _, _, rfl, rfl, _, _, rfl, rfl, .inl ⟨_, rfl, ?_⟩⟩
  refine ⟨_, _, rfl, rfl, (by show (0 : Int) < _; decide), ?_⟩
  refine ⟨_, rfl, _, _, rfl, rfl, .inl ⟨by omega, by omega⟩, .inl ⟨_, rfl, ?_⟩⟩
  refine ⟨_, _, rfl, rfl, (by show (0 : Int) < _; decide), ?_⟩
  exact q _ (Int.emod_nonneg _ (by decide)) (Int.emod_lt_of_pos _ (by decide))
end
end R3

set_option Elab.async false
set_option linter.all false
set_option maxRecDepth 100000
set_option maxHeartbeats 4000000
namespace R3
open PySem PySem.Spec PyProof.Rows L2 Dv
section
variable {P : Program} {w : World} {K : PySem.W.Frag} {mg : Str → Option Value} {base : Heap}
/-- the generator: a list of three ints, kept out of what stays -/
def G3 (H : Hp) (g : Addr) (a s c : Int) : Prop := H g = some (.lst [.int a, .int s, .int c])
/-- a draw below a small bound -/
def spRandom : Sp := fun vs H Q _ => ∃ (g : Addr) (a s c b : Int), vs = [.ref g, .int b] ∧ G3 H g a s c ∧ 0 ≤ a ∧ 0 ≤ s ∧ s < 2147483647 ∧ 0 ≤ c ∧ c < 999000 ∧ 1 ≤ b ∧ b < 1000 ∧ Builtin.Int.intBits b < 30 ∧
  ∀ (r a' c' : Int), 0 ≤ r → r < b → 0 ≤ a' → c ≤ c' → c' ≤ c + 1 → Q (.int r) (upd H g (.lst [.int a', .int s, .int c']))
theorem sc__law_random : FnScope (["generator", "bound", "drawn", "turn"] : List Str) (["generator", "bound"] : List Str) (defScope sLawRandom) := ⟨rfl, rfl, rfl, by decide +kernel, rfl, by decide +kernel, by decide +kernel⟩
theorem ok_law_random (D : Def K mg "_law_random" sLawRandom ["generator", "bound"]) (B : Bl mg) (C__law_hash : Cal P w K mg base "_law_hash" ["seed", "index"] 1 spHash) : Cal P w K mg base "_law_random" ["generator", "bound"] 2 spRandom := by
  refine cal_mk D sc__law_random (fun vs H Q E h => ?_) (fun f cdv A outer s H vs Q E hr h => ?_)
  · obtain ⟨g, a, s, c, b, rfl, _⟩ := h
    rfl
  obtain ⟨g, a, sd, c, b, rfl, hg, a0, s0, s1, c0, c1, b0, b1, eb, q⟩ := h
  have hr1 : RoomG 1 _ := hr.mono (by decide)
  refine ⟨_, pss_cons (ps_if (pt_cmpR op_gt (pe_ix ix_list (pv 0) pe_int (fun _ _ => rfl)) pe_int (nomark _))
        (pss_cons (ps_set (i := 2) sc__law_random.nd rfl (.inl rfl) (pe_op op_mod (pe_callTy call_int1 (by rfl) B.int (by decide +kernel) (pa_cons (pe_ix ix_list (pv 0) pe_int (fun _ _ => rfl)) pa_nil)) (pv 1)))
        (pss_cons (ps_asg (pe_op op_fdivN (pe_ix ix_list (pv 0) pe_int (fun _ _ => rfl)) (pv 1)) (pg_sub (pv 0) pe_int set_list) )
        (pss_one (ps_ret (pv 2))))) pss_nil)
      (pss_cons (ps_set (i := 2) sc__law_random.nd rfl (.inl rfl) pe_int)
      (pss_cons (ps_for PassesOwn.never rfl (pi_range1 rfl B.range (pa_cons (pe_op op_add pe_int (pe_op op_fdiv (pe_bits (pv 1)) pe_int)) pa_nil)) (pg_name (i := 3) sc__law_random.nd rfl (.inl rfl))
        (pss_cons (ps_asg (pe_op op_add (pe_ix ix_list (pv 0) pe_int (fun _ _ => rfl)) pe_int) (pg_sub (pv 0) pe_int set_list))
        (pss_one (ps_set (i := 2) sc__law_random.nd rfl (.inl rfl) (pe_op op_add (pe_op op_mul (pv 2) pe_int) (pe_callC C__law_hash hr1 (pa_cons (pe_ix ix_list (pv 0) pe_int (fun _ _ => rfl)) (pa_cons (pe_ix ix_list (pv 0) pe_int (fun _ _ => rfl)) pa_nil))))))))
      (pss_one (ps_ret (pe_op op_mod (pe_callTy call_int1 (by rfl) B.int (by decide +kernel) (pa_cons (pv 2) pa_nil)) (pv 1)))))), ?_⟩
  have hS : SqL K H g [.int a, .int sd, .int c] := SqL.of hg
  have bp : (0 : Int) < b := by omega
  refine ⟨_, rfl, g, _, _, _, rfl, rfl, hS, atI_nat (j := 0) rfl, _, _, rfl, rfl, _, rfl, ?_⟩
  refine ite2 (fun _ => ?_) (fun _ => ?_)
  · refine ⟨_, rfl, g, _, _, _, rfl, rfl, hS, atI_nat (j := 0) rfl, .inl ⟨_, rfl, ?_⟩⟩
    refine ⟨_, rfl, _, _, rfl, rfl, bp, ?_⟩
    refine ⟨_, rfl, g, _, _, _, rfl, rfl, hS, atI_nat (j := 0) rfl, _, rfl, _, _, rfl, rfl, ⟨by omega, by omega⟩, ?_⟩
    refine ⟨_, rfl, g, _, _, 0, rfl, rfl, hg, rfl, ?_⟩
    refine ⟨_, rfl, ?_⟩
    exact q _ _ _ (Int.emod_nonneg _ (by omega)) (Int.emod_lt_of_pos _ bp) (by rw [Int.fdiv_eq_ediv_of_nonneg _ (by omega)]; exact Int.ediv_nonneg a0 (by omega)) (by omega) (by omega)
  · refine ⟨_, rfl, b, rfl, _, _, rfl, rfl, ⟨by decide, by decide⟩, _, _, rfl, rfl, ?_⟩
    have ez : (1 : Int) + ((Builtin.Int.intBits b : Nat) : Int) / 30 = 1 := by omega
    refine ⟨1, congrArg (fun z => [V.int z]) ez, by decide, by decide, for_range (lo := 0) (n := 1) (fun i σ H' => ∃ (d c' : Int) (v : Option V), σ = [some (.ref g), some (.int b), some (.int d), v] ∧ H' = upd H g (.lst [.int a, .int sd, .int c']) ∧ 0 ≤ d ∧ (i = 0 → d = 0) ∧ c' = c + i)
      ⟨0, c, none, rfl, ?_, Int.le_refl 0, fun _ => rfl, by simp⟩ ?_ ?_⟩
    · funext x
      by_cases hb : x = g
      · rw [hb, upd_same]; exact hg
      · rw [upd_ne hb]
    · rintro i σ H' hi ⟨d, c', v, rfl, rfl, d0, dz, rfl⟩
      have hS' : ∀ z : Int, SqL K (upd H g (.lst [.int a, .int sd, .int z])) g [.int a, .int sd, .int z] := fun z => SqL.of upd_same
      have z0 := dz (by omega)
      subst z0
      refine ⟨_, rfl, g, _, _, _, rfl, rfl, hS' _, atI_nat (j := 2) rfl, _, _, rfl, rfl, ?_⟩
      refine ⟨_, rfl, g, _, _, 2, rfl, rfl, upd_same, rfl, ?_⟩
      rw [upd_upd]
      refine ⟨_, rfl, _, _, rfl, rfl, .inl ⟨by omega, by omega⟩, ?_⟩
      refine ⟨_, rfl, g, _, _, _, rfl, rfl, hS' _, atI_nat (j := 1) rfl, ?_⟩
      refine ⟨_, rfl, g, _, _, _, rfl, rfl, hS' _, atI_nat (j := 2) rfl, ?_⟩
      refine ⟨sd, c + i + 1, rfl, s0, s1, by omega, by omega, fun z h1 h2 => ?_⟩
      refine ⟨_, _, rfl, rfl, ?_⟩
      exact ⟨_, _, _, rfl, rfl, by omega, fun z => by omega, by omega⟩
    · rintro σ H' ⟨d, c', v, rfl, rfl, d0, dz, rfl⟩
      refine ⟨_, rfl, .inl ⟨_, rfl, ?_⟩⟩
      refine ⟨_, rfl, _, _, rfl, rfl, bp, ?_⟩
      exact q _ _ _ (Int.emod_nonneg _ (by omega)) (Int.emod_lt_of_pos _ bp) a0 (by omega) (by omega)
end
end R3

set_option Elab.async false
set_option linter.all false
set_option maxHeartbeats 400000
namespace Dv
open PySem PySem.Spec PyProof.Rows L2 Evl
/-! ### what grows, one object (the generator) excepted -/
/-- the heap without g -/
def er (g : Addr) (H : Hp) : Hp := fun b => if b = g then none else H b
theorem er_same {g : Addr} {H : Hp} : er g H g = none := by unfold er; rw [if_pos rfl]
theorem er_ne {g a : Addr} {H : Hp} (h : a ≠ g) : er g H a = H a := by unfold er; rw [if_neg h]
theorem er_upd {g : Addr} {H : Hp} {o : HO} : er g (upd H g o) = er g H := by
  funext b
  by_cases h : b = g
  · subst h; rw [er_same, er_same]
  · rw [er_ne h, er_ne h, upd_ne h]
/-- as Gr, g excepted -/
def GrG (g : Addr) (F H F' H' : Hp) : Prop := Gr F (er g H) F' (er g H')
theorem ex_er {g : Addr} {F H : Hp} (e : Ex F H) (f : F g = none) : Ex F (er g H) := fun a u ha => by
  have h : a ≠ g := fun q => by rw [q, f] at ha; exact nomatch ha
  rw [er_ne h]
  exact e a u ha
theorem ex_unerr {g : Addr} {F H : Hp} (e : Ex F (er g H)) : Ex F H ∧ F g = none := by
  constructor
  · intro a u ha
    have h := e a u ha
    by_cases q : a = g
    · rw [q, er_same] at h; exact nomatch h
    · rw [er_ne q] at h; exact h
  · cases h : F g with
    | none => rfl
    | some u =>
      have := e g u h
      rw [er_same] at this
      exact nomatch this
theorem GrG.fg {g : Addr} {F H F' H' : Hp} (x : GrG g F H F' H') : F' g = none := (ex_unerr x.fh).2
theorem GrG.fh {g : Addr} {F H F' H' : Hp} (x : GrG g F H F' H') : Ex F' H' := (ex_unerr (Gr.fh x)).1
theorem GrG.fx {g : Addr} {F H F' H' : Hp} (x : GrG g F H F' H') : Ex F F' := Gr.fx x
theorem GrG.refl {g : Addr} {F H : Hp} (e : Ex F H) (f : F g = none) : GrG g F H F H := Gr.refl (ex_er e f)
theorem GrG.trans {g : Addr} {F H F1 H1 F2 H2 : Hp} (a : GrG g F H F1 H1) (b : GrG g F1 H1 F2 H2) : GrG g F H F2 H2 := Gr.trans a b
/-- the draw itself -/
theorem GrG.draw {g : Addr} {F H F' H' : Hp} {o : HO} (x : GrG g F H F' H') : GrG g F H F' (upd H' g o) := by
  unfold GrG
  rw [er_upd]
  exact x
/-- a step that draws nothing -/
theorem GrG.of {g : Addr} {F H F' H' : Hp} {o : HO} (x : Gr F H F' H') (hg : H g = some o) (f : F g = none) : GrG g F H F' H' ∧ H' g = some o := by
  have k := x.keep hg f
  refine ⟨⟨x.fx, ex_er x.fh k.2, fun a u ha => ?_, fun a h1 h2 => ?_⟩, k.1⟩
  · by_cases q : a = g
    · rw [q, er_same] at ha; exact nomatch ha
    · rw [er_ne q] at ha ⊢; exact x.hx a u ha
  · by_cases q : a = g
    · rw [q, k.2] at h2
      exact absurd rfl h2
    · have := x.fr a h1 h2
      rw [er_ne q]
      exact this
/-- any other object out of F stays as it is -/
theorem GrG.keep {g p : Addr} {F H F' H' : Hp} {o : HO} (x : GrG g F H F' H') (h : H p = some o) (hf : F p = none) (hp : p ≠ g) : H' p = some o ∧ F' p = none := by
  have k := Gr.keep x (p := p) (o := o) (by rw [er_ne hp]; exact h) hf
  rw [er_ne hp] at k
  exact k
end Dv

set_option Elab.async false
set_option linter.all false
set_option maxRecDepth 100000
set_option maxHeartbeats 4000000
namespace R3
open PySem PySem.Spec PyProof.Rows L2 Evl Dv
section
variable {P : Program} {w : World} {K : PySem.W.Frag} {mg : Str → Option Value} {base : Heap}
/-- the generator stands well, its count at most c -/
def GenAt (H : Hp) (g : Addr) (c : Nat) : Prop := ∃ a s n : Int, G3 H g a s n ∧ 0 ≤ a ∧ 0 ≤ s ∧ s < 2147483647 ∧ 0 ≤ n ∧ n ≤ c
/-- te draws at most k times and gives something that stands for a d with Pd d -/
def DrD (K : PySem.W.Frag) (g : Addr) (k : Nat) (te : TE) (σ : L2.St) (F : Hp) (Pd : PyData → Prop) : Prop := ∀ (H : Hp) (c : Nat), Ex F H → F g = none → GenAt H g c → c + k < 999000 → ∀ Q : V → Hp → Prop,
  (∀ v F' H' d, GrG g F H F' H' → GenAt H' g (c + k) → Pd d → Dp K F' v d → Q v H') → te σ H Q
/-- a number is drawn -/
theorem dr_random {g : Addr} {σ : L2.St} {F : Hp} {i : Nat} {b : Int} (hi : σ[i]? = some (some (.ref g))) (b0 : 1 ≤ b) (b1 : b < 1000) (eb : Builtin.Int.intBits b < 30) :
    DrD K g 1 (tCall spRandom [] E0 (tCons (tVar i) (tCons (tC (.int b)) tNil))) σ F fun d => ∃ r : Int, d = .int r ∧ 0 ≤ r ∧ r < b := by
  intro H c e f hg hc Q q
  obtain ⟨a, s, n, h3, a0, s0, s1, n0, n1⟩ := hg
  refine ⟨_, hi, g, a, s, n, b, rfl, h3, a0, s0, s1, n0, by omega, b0, b1, eb, fun r a' c' r0 r1 a0' c0' c1' => ?_⟩
  exact q _ F _ (.int r) (GrG.refl e f).draw ⟨a', s, c', upd_same, a0', s0, s1, by omega, by omega⟩ ⟨r, rfl, r0, r1⟩ (.int r)
/-- what draws nothing -/
theorem dr_of {g : Addr} {te : TE} {σ : L2.St} {F : Hp} {d : PyData} {Pd : PyData → Prop} (h : EvD K te σ F d) (p : Pd d) : DrD K g 0 te σ F Pd := by
  intro H c e f hg hc Q q
  obtain ⟨a, s, n, h3, r⟩ := hg
  refine h H e _ fun v F' H' x hv => ?_
  have k := GrG.of x h3 f
  exact q v F' H' d k.1 ⟨a, s, n, k.2, r⟩ p hv
end
end R3

set_option Elab.async false
set_option linter.all false
set_option maxRecDepth 100000
set_option maxHeartbeats 4000000
namespace R3
open PySem PySem.Spec PyProof.Rows L2 Evl Dv
section
variable {P : Program} {w : World} {K : PySem.W.Frag} {mg : Str → Option Value} {base : Heap}
/-- one of a list, drawn -/
theorem dr_ixL {g : Addr} {k : Nat} {ta tb : TE} {σ : L2.St} {F : Hp} {ds : List PyData} (ha : EvD K ta σ F (.list ds)) (hb : ∀ F', Ex F F' → DrD K g k tb σ F' fun d => ∃ r : Int, d = .int r ∧ 0 ≤ r ∧ r < ds.length) :
    DrD K g k (tOp (rIxL K) ta tb) σ F fun d => d ∈ ds := by
  intro H c e f hg hc Q q
  obtain ⟨a, s, n, h3, rest⟩ := hg
  refine ha H e _ fun v F1 H1 x1 hv => ?_
  have k1 := GrG.of x1 h3 f
  refine hb F1 x1.fx H1 c x1.fh k1.1.fg ⟨a, s, n, k1.2, rest⟩ hc _ fun u F2 H2 d g2 hc2 hd hu => ?_
  obtain ⟨r, rfl, r0, r1⟩ := hd
  cases hu
  cases (dp_ex g2.fx hv) with
  | lst hs hd =>
    obtain ⟨j, rfl⟩ := Int.eq_ofNat_of_zero_le r0
    have hj : j < ds.length := by omega
    obtain ⟨v', hv', hd'⟩ := dps_at hd (List.getElem?_eq_getElem hj)
    exact ⟨_, _, _, v', rfl, rfl, ex_l g2.fh hs, atI_nat hv', q v' F2 H2 ds[j] (k1.1.trans g2) hc2 (List.getElem_mem hj) hd'⟩
/-- `x = (drawn)` -/
theorem sr_asg {g : Addr} {k c : Nat} {te : TE} {σ : L2.St} {F H : Hp} {Pd : PyData → Prop} {i : Nat} {D : Ends} (h : DrD K g k te σ F Pd) (e : Ex F H) (f : F g = none) (hg : GenAt H g c) (hc : c + k < 999000)
    (q : ∀ v F' H' d, GrG g F H F' H' → GenAt H' g (c + k) → Pd d → Dp K F' v d → D.nx (σ.set i (some v)) H') : tAsg te (gName i) D σ H := h H c e f hg hc _ q
end
end R3

set_option Elab.async false
set_option linter.all false
set_option maxHeartbeats 400000
namespace Dv
open PySem PySem.Spec PyProof.Rows L2 Evl
theorem er_upd_ne {g p : Addr} {H : Hp} {o : HO} (h : p ≠ g) : er g (upd H p o) = upd (er g H) p o := by
  funext b
  by_cases q : b = g
  · subst q
    rw [er_same, upd_ne (fun z => h z.symm), er_same]
  · rw [er_ne q]
    by_cases r : b = p
    · rw [r, upd_same, upd_same]
    · rw [upd_ne r, upd_ne r, er_ne q]
/-- an object that is new since H, not of F' and not the generator, may change -/
theorem GrG.mut {g p : Addr} {F H F' H' : Hp} {o : HO} (x : GrG g F H F' H') (h : H p = none) (hf : F' p = none) (hp : p ≠ g) : GrG g F H F' (upd H' p o) := by
  unfold GrG
  rw [er_upd_ne hp]
  exact Gr.mut x (by rw [er_ne hp]; exact h) hf
/-- and be taken into F' as it stands -/
theorem GrG.take {g p : Addr} {F H F' H' : Hp} {o : HO} (x : GrG g F H F' H') (h : H p = none) (hf : F' p = none) (hp : p ≠ g) (ho : H' p = some o) : GrG g F H (upd F' p o) H' :=
  Gr.take x (by rw [er_ne hp]; exact h) hf (by rw [er_ne hp]; exact ho)
end Dv

set_option Elab.async false
set_option linter.all false
set_option maxRecDepth 100000
set_option maxHeartbeats 4000000
namespace R3
open PySem PySem.Spec PyProof.Rows L2 Evl Dv
section
variable {K : PySem.W.Frag} {σ : L2.St} {F : Hp} {te : TE} {tt : TT}
/-- a comprehension that draws once an item -/
theorem dr_lc {α : Type} {g0 : Addr} {wi : TI} {g : TG} {vs : List Nat} {Pd : PyData → Prop} (xs : List α) (enc : α → PyData) (hi : ItD K wi σ F (xs.map enc)) (hz : xs.length ≤ 40000)
    (hb : ∀ x, x ∈ xs → ∀ v F1, Ex F F1 → Dp K F1 v (enc x) → ∃ σ2, (∀ H, Ex F1 H → ∀ Q : L2.St → Hp → Prop, Q σ2 H → g v (wipe σ vs) H Q) ∧ wipe σ2 vs = wipe σ vs ∧ EtD tt σ2 F1 true ∧ DrD K g0 1 te σ2 F1 Pd)
    {H : Hp} {c : Nat} (eH : Ex F H) (f : F g0 = none) (hg : GenAt H g0 c) (hc : c + xs.length < 999000) {Q : V → Hp → Prop}
    (q : ∀ p ws F' H' ds, GrG g0 F H F' H' → GenAt H' g0 (c + xs.length) → H p = none → F' p = none → p ≠ g0 → H' p = some (.lst ws) → ds.length = xs.length → (∀ d ∈ ds, Pd d) → DpAll K F' ws ds → Q (.ref p) H') :
    tLc wi g tt te vs σ H Q := hi H eH _ fun J F1 H1 g1 wd => by
  obtain ⟨ga, gs, gn, h3, rest⟩ := hg
  have k1 := GrG.of g1 h3 f
  obtain ⟨G, Y, W, hG, hY⟩ := wd
  rw [List.length_map] at W
  intro D hD
  have fD : F1 D = none := ex_none g1.fh hD
  have Dg : D ≠ g0 := fun z => by rw [z, k1.2] at hD; exact nomatch hD
  refine lc_it W (Pv := fun i H' => ∃ F' ws ds, GrG g0 F1 H1 F' H' ∧ GenAt H' g0 (c + i) ∧ F' D = none ∧ H' D = some (.lst ws) ∧ ds.length = i ∧ (∀ d ∈ ds, Pd d) ∧ DpAll K F' ws ds) ⟨F1, [], [], (GrG.refl g1.fh k1.1.fg).mut hD fD Dg, ⟨ga, gs, gn, by unfold G3; rw [upd_ne (fun z => Dg z.symm)]; exact k1.2, rest⟩, fD, upd_same, rfl, (fun d h => nomatch h), .nil⟩
    (fun i H' _ p => ?_) (fun i v H2 H3 hin p y => ?_) (fun H' p => ?_)
  · obtain ⟨F', ws, ds, g2, _⟩ := p
    exact hG _ (g2.fx.trans g2.fh)
  · obtain ⟨F2, ws, ds, g2, hg2, f2, h2, hl, hp, hw⟩ := p
    obtain ⟨F3, d, hd, g3, hv⟩ := hY F2 i H2 v H3 (by rw [List.length_map]; exact hin) g2.fx g2.fh y
    rw [List.getElem?_map, List.getElem?_eq_getElem hin] at hd
    cases hd
    obtain ⟨σ2, hgt, hwp, ht, he⟩ := hb xs[i] (List.getElem_mem hin) v F3 (g1.fx.trans (g2.fx.trans g3.fx)) hv
    refine hgt H3 g3.fh _ ⟨hwp, ht H3 g3.fh _ fun F4 H4 g4 => ?_⟩
    obtain ⟨ga2, gs2, gn2, h32, rest2⟩ := hg2
    have g4' : Gr F3 H3 F3 H4 := ⟨Ex.refl _, g4.fx.trans g4.fh, g4.hx, fun a h1 h2 => absurd h1 h2⟩
    have k34 := GrG.of (g3.trans g4') h32 g2.fg
    have kD := (g3.trans g4').keep h2 f2
    show te σ2 H4 _
    refine he H4 (c + i) (g4.fx.trans g4.fh) k34.1.fg ⟨ga2, gs2, gn2, k34.2, rest2⟩ (by omega) _ fun v' F5 H5 d5 g5 hg5 hp5 hv' => ?_
    have k5 := g5.keep kD.1 kD.2 Dg
    have wl : ws.length ≤ 40000 := by
      rw [dps_len hw, hl]
      omega
    have k6 := ((g2.trans k34.1).trans g5).mut hD k5.2 Dg (o := .lst (ws ++ [v']))
    obtain ⟨ga5, gs5, gn5, h35, rest5⟩ := hg5
    refine ⟨ws, k5.1, sz_lt (by omega), F5, ws ++ [v'], ds ++ [d5], k6, ⟨ga5, gs5, gn5, by unfold G3; rw [upd_ne (fun z => Dg z.symm)]; exact h35, rest5⟩, k5.2, upd_same, by rw [List.length_append, hl]; rfl, fun d h => ?_, dps_app (dps_ex (g3.fx.trans g5.fx) hw) (.cons hv' .nil)⟩
    rcases List.mem_append.mp h with h | h
    · exact hp d h
    · rw [List.mem_singleton.mp h]
      exact hp5
  · obtain ⟨F', ws, ds, g2, hg2, fd, hd, hl, hp, hw⟩ := p
    exact q D ws F' H' ds (k1.1.trans g2) hg2 (ex_none g1.hx hD) fd Dg hd hl hp hw
end
end R3

set_option Elab.async false
set_option linter.all false
set_option maxRecDepth 100000
set_option maxHeartbeats 4000000
namespace Dv
open PySem PySem.Spec PyProof.Rows L2 Evl
theorem GrG.weak {g : Addr} {F F1 H F' H' : Hp} (e : Ex F F1) (e1 : Ex F1 H) (f : F1 g = none) (x : GrG g F H F' H') : GrG g F1 H (uni F1 F') H' := Gr.weak e (ex_er e1 f) x
theorem filt_true {α : Type} (xs : List α) : xs.filter (fun _ => true) = xs := List.filter_eq_self.mpr fun _ _ => rfl
/-- back to what was frozen ahead -/
theorem Gr.back {F H F1 H1 F2 H2 : Hp} (a : Gr F H F1 H1) (h : Ex H1 H2) : Gr F H F1 H2 := ⟨a.fx, a.fh.trans h, a.hx.trans h, a.fr⟩
theorem par_of2 {ta tb : TE} {i j : Nat} {D : Ends} {σ : L2.St} {H : Hp} (h : ta σ H fun x H1 => tb σ H1 fun y H2 => ∃ v w, [x, y] = [v, w] ∧ D.nx ((σ.set i (some v)).set j (some w)) H2) : tPar i j (tCons ta (tCons tb tNil)) D σ H := h
theorem seq_of {t u : TS} {D : Ends} {σ : L2.St} {H : Hp} (h : t { D with nx := u D } σ H) : tSeq t u D σ H := h
end Dv
namespace R3
open PySem PySem.Spec PyProof.Rows L2 Evl Dv
/-! ### what draws: arguments, tuples, operators, calls -/
def DaD (K : PySem.W.Frag) (g : Addr) (k : Nat) (ta : TA) (σ : L2.St) (F : Hp) (Pd : List PyData → Prop) : Prop := ∀ (H : Hp) (c : Nat), Ex F H → F g = none → GenAt H g c → c + k < 999000 → ∀ Q : List V → Hp → Prop,
  (∀ vs F' H' ds, GrG g F H F' H' → GenAt H' g (c + k) → Pd ds → DpAll K F' vs ds → Q vs H') → ta σ H Q
section
variable {K : PySem.W.Frag} {g : Addr} {k j : Nat} {te tb : TE} {ta tr : TA} {σ : L2.St} {F F1 : Hp} {Pd Pb : PyData → Prop} {Ps : List PyData → Prop}
theorem DrD.mono (e : Ex F F1) (h : DrD K g k te σ F Pd) : DrD K g k te σ F1 Pd := fun H c eH f hg hc Q q => h H c (e.trans eH) (ex_none e f) hg hc Q fun v F' H' d x hg' p hv => q v _ H' d (x.weak e eH f) hg' p (dp_ex (ex_uni2 (ex_er (eH) f |>.trans (Gr.hx x)) (Gr.fh x)) hv)
theorem DaD.mono (e : Ex F F1) (h : DaD K g k ta σ F Ps) : DaD K g k ta σ F1 Ps := fun H c eH f hg hc Q q => h H c (e.trans eH) (ex_none e f) hg hc Q fun v F' H' d x hg' p hv => q v _ H' d (x.weak e eH f) hg' p (dps_ex (ex_uni2 (ex_er (eH) f |>.trans (Gr.hx x)) (Gr.fh x)) hv)
theorem DrD.imp {Pe : PyData → Prop} (h : DrD K g k te σ F Pd) (i : ∀ d, Pd d → Pe d) : DrD K g k te σ F Pe := fun H c eH f hg hc Q q => h H c eH f hg hc Q fun v F' H' d x hg' p hv => q v F' H' d x hg' (i d p) hv
theorem da_nil : DaD K g 0 tNil σ F (· = []) := fun H c eH f hg hc Q q => q [] F H [] (GrG.refl eH f) hg rfl .nil
theorem da_cons (h : DrD K g k te σ F Pd) (hr : DaD K g j tr σ F Ps) : DaD K g (k + j) (tCons te tr) σ F (fun ds => ∃ d r, ds = d :: r ∧ Pd d ∧ Ps r) := fun H c eH f hg hc Q q =>
  h H c eH f hg (by omega) _ fun v F1 H1 d x1 hg1 p1 hv => (hr.mono x1.fx) H1 (c + k) x1.fh x1.fg hg1 (by omega) _ fun vs F2 H2 r x2 hg2 p2 hvs =>
    q _ F2 H2 (d :: r) (x1.trans x2) (by rw [← Nat.add_assoc]; exact hg2) ⟨d, r, rfl, p1, p2⟩ (.cons (dp_ex x2.fx hv) hvs)
theorem dr_tup (h : DaD K g k ta σ F Ps) (hl : ∀ ds, Ps ds → ds.length ≤ 100000) : DrD K g k (tTup ta) σ F (fun d => ∃ ds, d = .tuple ds ∧ Ps ds) := fun H c eH f hg hc Q q =>
  h H c eH f hg hc _ fun vs F1 H1 ds x1 hg1 p1 hvs => ⟨by rw [dps_len hvs]; exact sz_of (hl _ p1), fun p hp => by
    obtain ⟨ga, gs, gn, g3, grest⟩ := hg1
    have pg : p ≠ g := fun z => by rw [z, g3] at hp; exact nomatch hp
    have x2 : Gr F1 H1 (upd F1 p (.tup vs)) (upd H1 p (.tup vs)) := Gr.new x1.fh hp
    have k2 := GrG.of x2 g3 x1.fg
    exact q _ _ _ (.tuple ds) (x1.trans k2.1) ⟨ga, gs, gn, k2.2, grest⟩ ⟨ds, rfl, p1⟩ (.tup (st_of upd_same) (dps_ex (Ex.new (ex_none x1.fh hp)) hvs))⟩
theorem dr_op {r : R2} {Pe : PyData → Prop} (ha : DrD K g k te σ F Pd) (hb : DrD K g j tb σ F Pb)
    (hr : ∀ v u F1 H1 a b, Ex F F1 → Ex F1 H1 → Pd a → Pb b → Dp K F1 v a → Dp K F1 u b → ∀ Q : VK, (∀ x F' H' d, Gr F1 H1 F' H' → Pe d → Dp K F' x d → Q x H') → r v u H1 Q) : DrD K g (k + j) (tOp r te tb) σ F Pe := fun H c eH f hg hc Q q =>
  ha H c eH f hg (by omega) _ fun v F1 H1 d x1 hg1 p1 hv => (hb.mono x1.fx) H1 (c + k) x1.fh x1.fg hg1 (by omega) _ fun u F2 H2 e x2 hg2 p2 hu =>
    hr v u F2 H2 d e (x1.fx.trans x2.fx) x2.fh p1 p2 (dp_ex x2.fx hv) hu Q fun y F3 H3 dd x3 p3 hy => by
      obtain ⟨ga, gs, gn, g3, grest⟩ := hg2
      have k3 := GrG.of x3 g3 x2.fg
      exact q y F3 H3 dd ((x1.trans x2).trans k3.1) ⟨ga, gs, gn, k3.2, by rw [← Nat.add_assoc]; exact grest⟩ p3 hy
/-- a + b, one or both drawn -/
theorem dr_add {m n m' n' : Int} (ha : DrD K g k te σ F fun d => ∃ i : Int, d = .int i ∧ m ≤ i ∧ i < n) (hb : DrD K g j tb σ F fun d => ∃ i : Int, d = .int i ∧ m' ≤ i ∧ i < n') :
    DrD K g (k + j) (tOp (rI0 fun i j => .int (i + j)) te tb) σ F fun d => ∃ i : Int, d = .int i ∧ m + m' ≤ i ∧ i < n + n' - 1 := dr_op ha hb fun v u F1 H1 a b _ e pa pb hv hu Q q => by
  obtain ⟨i, rfl, i0, i1⟩ := pa
  obtain ⟨j, rfl, j0, j1⟩ := pb
  cases hv
  cases hu
  exact ⟨i, j, rfl, rfl, q _ F1 H1 (.int (i + j)) (Gr.refl e) ⟨i + j, rfl, by omega, by omega⟩ (.int _)⟩
theorem dr_call {f : List PyData → PyData → Prop} {E : XK} {Pe : PyData → Prop} (h : DaD K g k ta σ F Ps) (hf : ∀ ds, Ps ds → ∃ d, f ds d ∧ Pe d) : DrD K g k (tCall (spD K f) [] E ta) σ F Pe := fun H c eH f' hg hc Q q =>
  h H c eH f' hg hc _ fun vs F1 H1 ds x1 hg1 p1 hvs => by
    obtain ⟨d, h1, h2⟩ := hf _ p1
    refine ⟨F1, ds, d, x1.fh, by rw [List.append_nil]; exact hvs, h1, fun v F2 H2 x2 hv => ?_⟩
    obtain ⟨ga, gs, gn, g3, grest⟩ := hg1
    have k2 := GrG.of x2 g3 x1.fg
    exact q v F2 H2 d (x1.trans k2.1) ⟨ga, gs, gn, k2.2, grest⟩ h2 hv
/-- xs.append(e), e drawn, xs a list of H alone -/
theorem sr_app {l : Addr} {xs : List V} {i c : Nat} {D : Ends} {H : Hp} (hl : H l = some (.lst xs)) (fl : F l = none) (lg : l ≠ g) (hi : σ[i]? = some (some (.ref l))) (h : DrD K g k te σ F Pd) (e : Ex F H) (f : F g = none) (hg : GenAt H g c) (hc : c + k < 999000) (hz : xs.length < 100000)
    (q : ∀ v F' H' d, GrG g F H F' H' → GenAt (upd H' l (.lst (xs ++ [v]))) g (c + k) → Pd d → Dp K F' v d → F' l = none → H' l = some (.lst xs) → D.nx σ (upd H' l (.lst (xs ++ [v])))) : tDrop (tBM K "list" rAppend (tVar i) (tCons te tNil)) D σ H :=
  ⟨_, hi, Or.inl ⟨rfl, xs, sq_of hl⟩, h H c e f hg hc _ fun v F' H' d x hg' p hv => ⟨l, xs, v, rfl, rfl, (x.keep hl fl lg).1, sz_lt hz, q v F' H' d x (by
    obtain ⟨ga, gs, gn, g3, grest⟩ := hg'
    exact ⟨ga, gs, gn, by unfold G3; rw [upd_ne (Ne.symm lg)]; exact g3, grest⟩) p hv (x.keep hl fl lg).2 (x.keep hl fl lg).1⟩⟩
end
theorem GenAt.mono {H : Hp} {g : Addr} {c d : Nat} (h : GenAt H g c) (l : c ≤ d) : GenAt H g d := by
  obtain ⟨a, s, n, h3, a0, s0, s1, n0, n1⟩ := h
  exact ⟨a, s, n, h3, a0, s0, s1, n0, by omega⟩

theorem asg_of {te : TE} {σ : L2.St} {H : Hp} {i : Nat} {D : Ends} (h : te σ H fun v H' => D.nx (σ.set i (some v)) H') : tAsg te (gName i) D σ H := h
theorem GenAt.upd {H : Hp} {g p : Addr} {c : Nat} {o : HO} (h : GenAt H g c) (n : p ≠ g) : GenAt (upd H p o) g c := by
  obtain ⟨a, s, k, h3, r⟩ := h
  exact ⟨a, s, k, by unfold G3; rw [upd_ne (Ne.symm n)]; exact h3, r⟩
theorem GenAt.of {H H' F F' : Hp} {g : Addr} {c : Nat} (h : GenAt H g c) (x : Gr F H F' H') (f : F g = none) : GrG g F H F' H' ∧ GenAt H' g c := by
  obtain ⟨a, s, k, h3, r⟩ := h
  have z := GrG.of x h3 f
  exact ⟨z.1, a, s, k, z.2, r⟩
theorem GenAt.ne {H : Hp} {g p : Addr} {c : Nat} (h : GenAt H g c) (hp : H p = none) : p ≠ g := by
  obtain ⟨a, s, k, h3, r⟩ := h
  exact fun z => by rw [z, h3] at hp; exact nomatch hp
end R3

set_option Elab.async false
set_option linter.all false
/-! GENERAL: fractions in lowest terms are the rationals (plain). -/
namespace Qa
abbrev Fr := Int × Int
def frac (t : Int) (u : Int) : Int × Int := (t / (Nat.gcd t.natAbs u.natAbs : Int), u / (Nat.gcd t.natAbs u.natAbs : Int))
def toF (q : Rat) : Fr := (q.num, (q.den : Int))
theorem frac_rat (t : Int) {d : Nat} (h : d ≠ 0) : frac t (d : Int) = toF (mkRat t d) := by
  unfold frac toF
  rw [Rat.num_mkRat, Rat.den_mkRat, if_neg h, if_neg h, Int.natAbs_natCast, Nat.gcd_comm]
  rw [Int.natCast_ediv]
theorem frac_rat' {t u : Int} (h : 0 < u) : frac t u = toF (mkRat t u.toNat) := by
  have := frac_rat t (d := u.toNat) (by omega)
  rwa [Int.toNat_of_nonneg (by omega)] at this
def fplus (x y : Fr) : Fr := frac (x.1 * y.2 + y.1 * x.2) (x.2 * y.2)
def fminus (x y : Fr) : Fr := frac (x.1 * y.2 - y.1 * x.2) (x.2 * y.2)
def fscaled (x : Fr) (n : Int) : Fr := frac (x.1 * n) x.2
theorem fplus_rat (a b : Rat) : fplus (toF a) (toF b) = toF (a + b) := by
  unfold fplus
  show frac (a.num * (b.den : Int) + b.num * (a.den : Int)) ((a.den : Int) * (b.den : Int)) = _
  rw [← Int.natCast_mul, frac_rat _ (Nat.mul_ne_zero a.den_nz b.den_nz), Rat.add_def']
theorem fminus_rat (a b : Rat) : fminus (toF a) (toF b) = toF (a - b) := by
  unfold fminus
  show frac (a.num * (b.den : Int) - b.num * (a.den : Int)) ((a.den : Int) * (b.den : Int)) = _
  rw [← Int.natCast_mul, frac_rat _ (Nat.mul_ne_zero a.den_nz b.den_nz), Rat.sub_def']
theorem fscaled_rat (a : Rat) (n : Int) : fscaled (toF a) n = toF (a * (n : Rat)) := by
  unfold fscaled
  show frac (a.num * n) (a.den : Int) = _
  rw [frac_rat _ a.den_nz, Rat.mul_def']
  show toF (mkRat (a.num * n) a.den) = toF (mkRat (a.num * n) (a.den * 1))
  rw [Nat.mul_one]
theorem below_rat (a b : Rat) : decide ((toF a).1 * (toF b).2 < (toF b).1 * (toF a).2) = decide (a < b) := decide_eq_decide.mpr (Rat.lt_iff a b).symm
theorem toF_int (n : Int) : toF (n : Rat) = (n, 1) := rfl
theorem toF_inj {a b : Rat} (h : toF a = toF b) : a = b := by
  have h1 : a.num = b.num := congrArg Prod.fst h
  have h2 : (a.den : Int) = b.den := congrArg Prod.snd h
  exact Rat.ext h1 (Int.ofNat_inj.mp h2)
theorem neg_rat (a : Rat) : decide ((toF a).1 < 0) = decide (a < 0) := decide_eq_decide.mpr (by
  show a.num < 0 ↔ a < 0
  rw [← Rat.not_le, ← Rat.num_nonneg]
  omega)
/-- sixtieths, at most B of them -/
def Sx (B : Nat) (q : Rat) : Prop := ∃ n : Int, q = mkRat n 60 ∧ n.natAbs ≤ B
theorem Sx.add {B C : Nat} {a b : Rat} (h : Sx B a) (h' : Sx C b) : Sx (B + C) (a + b) := by
  obtain ⟨n, rfl, hn⟩ := h
  obtain ⟨m, rfl, hm⟩ := h'
  refine ⟨n + m, ?_, by omega⟩
  rw [Rat.mkRat_eq_div, Rat.mkRat_eq_div, Rat.mkRat_eq_div, Rat.intCast_add, Rat.div_def, Rat.div_def, Rat.div_def, Rat.add_mul]
theorem Sx.mul {B : Nat} {a : Rat} (h : Sx B a) (k : Int) : Sx (B * k.natAbs) (a * (k : Rat)) := by
  obtain ⟨n, rfl, hn⟩ := h
  refine ⟨n * k, ?_, by rw [Int.natAbs_mul]; exact Nat.mul_le_mul_right _ hn⟩
  rw [Rat.mkRat_eq_div, Rat.mkRat_eq_div, Rat.intCast_mul, Rat.div_def, Rat.div_def, Rat.mul_assoc, Rat.mul_assoc, Rat.mul_comm (k : Rat)]
theorem Sx.neg {B : Nat} {a : Rat} (h : Sx B a) : Sx B (-a) := by
  obtain ⟨n, rfl, hn⟩ := h
  exact ⟨-n, by rw [Rat.neg_mkRat], by omega⟩
theorem Sx.sub {B C : Nat} {a b : Rat} (h : Sx B a) (h' : Sx C b) : Sx (B + C) (a - b) := by
  rw [Rat.sub_eq_add_neg]
  exact h.add h'.neg
theorem Sx.mono {B C : Nat} {a : Rat} (h : Sx B a) (l : B ≤ C) : Sx C a := by
  obtain ⟨n, e, hn⟩ := h
  exact ⟨n, e, by omega⟩
theorem Sx.int (n : Int) : Sx (60 * n.natAbs) (n : Rat) := by
  refine ⟨60 * n, ?_, by rw [Int.natAbs_mul]; exact Nat.le_refl _⟩
  have : mkRat (60 * n) 60 = mkRat n 1 := Rat.mkRat_mul_left (a := 60) (n := n) (d := 1) (by decide)
  rw [this]
  exact (Rat.mkRat_self (n : Rat)).symm
theorem Sx.bd {B : Nat} {a : Rat} (h : Sx B a) : a.num.natAbs ≤ B ∧ a.den ≤ 60 ∧ 0 < a.den := by
  obtain ⟨n, rfl, hn⟩ := h
  refine ⟨?_, ?_, Rat.den_pos _⟩
  · rw [Rat.num_mkRat, if_neg (by decide)]
    exact Nat.le_trans (by rw [Int.natAbs_ediv_of_dvd (Int.ofNat_dvd_left.mpr (Nat.gcd_dvd_right _ _))]; exact Nat.div_le_self _ _) hn
  · rw [Rat.den_mkRat, if_neg (by decide)]
    exact Nat.div_le_self _ _
end Qa

set_option Elab.async false
set_option linter.all false
set_option maxRecDepth 100000
set_option maxHeartbeats 4000000
namespace R3
open PySem PySem.Spec PyProof.Rows L2 Dv
open Qa (toF Sx fplus_rat fminus_rat fscaled_rat below_rat)
/-- a fraction in lowest terms as datum -/
def encR (q : Rat) : PyData := encF (toF q)
def fminus (x y : Int × Int) : Int × Int := frac (x.1 * y.2 - y.1 * x.2) (x.2 * y.2)
def fMinus : List PyData → PyData → Prop := fun ds d => ∃ x y : Int × Int, ds = [encF x, encF y] ∧ Sm x ∧ Sm y ∧ d = encF (fminus x y)
def fBelow : List PyData → PyData → Prop := fun ds d => ∃ x y : Int × Int, ds = [encF x, encF y] ∧ Sm x ∧ Sm y ∧ d = .bool (decide (x.1 * y.2 < y.1 * x.2))
def fLesser : List PyData → PyData → Prop := fun ds d => ∃ x y : Int × Int, ds = [encF x, encF y] ∧ Sm x ∧ Sm y ∧ d = if decide (y.1 * x.2 < x.1 * y.2) then encF y else encF x
def fGreater : List PyData → PyData → Prop := fun ds d => ∃ x y : Int × Int, ds = [encF x, encF y] ∧ Sm x ∧ Sm y ∧ d = if decide (y.1 * x.2 < x.1 * y.2) then encF x else encF y
section
variable {P : Program} {w : World} {K : PySem.W.Frag} {mg : Str → Option Value} {base : Heap}
theorem sc_minus : FnScope (["one", "other"] : List Str) (["one", "other"] : List Str) (defScope sMinus) := ⟨rfl, rfl, rfl, by decide +kernel, rfl, by decide +kernel, by decide +kernel⟩
theorem ok_minus (D : Def K mg "minus" sMinus ["one", "other"]) (C_fraction : Cal P w K mg base "fraction" ["top", "under"] 2 (spD K fFrac)) : Cal P w K mg base "minus" ["one", "other"] 3 (spD K fMinus) := by
  refine cal_mk D sc_minus (len_D (by rintro _ _ ⟨t, u, rfl, _⟩; rfl)) (fun f cdv A outer s H vs Q E hr h => ?_)
  obtain ⟨F, ds, d, e, hv, ⟨⟨a, b⟩, ⟨c, d⟩, rfl, ⟨s1, s2, s3, s4⟩, ⟨t1, t2, t3, t4⟩, rfl⟩, q⟩ := h
  obtain ⟨x, y, rfl, h1, h2⟩ := Dv.two hv
  dsimp only at s1 s2 s3 s4 t1 t2 t3 t4
  refine ⟨_, (pss_one (ps_ret (pe_callC C_fraction hr (pa_cons (pe_op op_sub (pe_op op_mul (pe_ix ix_tup (pv 0) pe_int (fun _ _ => rfl)) (pe_ix ix_tup (pv 1) pe_int (fun _ _ => rfl))) (pe_op op_mul (pe_ix ix_tup (pv 1) pe_int (fun _ _ => rfl)) (pe_ix ix_tup (pv 0) pe_int (fun _ _ => rfl)))) (pa_cons (pe_op op_mul (pe_ix ix_tup (pv 0) pe_int (fun _ _ => rfl)) (pe_ix ix_tup (pv 1) pe_int (fun _ _ => rfl))) pa_nil))))), ?_⟩
  have p1 : 0 < b * d := Int.mul_pos s1 t1
  have p2 : b * d < 1073741824 := by
    have : b * d ≤ 32767 * 32767 := Int.mul_le_mul (by omega) (by omega) (by omega) (by omega)
    omega
  have o0 := Dv.ev_ixT (K := K) (F := F) (σ := [some x, some y]) (i := 0) (d := .int a) (Dv.ev_var (i := 0) rfl h1) (Dv.ev_int 0) rfl
  have o1 := Dv.ev_ixT (K := K) (F := F) (σ := [some x, some y]) (i := 1) (d := .int b) (Dv.ev_var (i := 0) rfl h1) (Dv.ev_int 1) rfl
  have t0 := Dv.ev_ixT (K := K) (F := F) (σ := [some x, some y]) (i := 0) (d := .int c) (Dv.ev_var (i := 1) rfl h2) (Dv.ev_int 0) rfl
  have u1 := Dv.ev_ixT (K := K) (F := F) (σ := [some x, some y]) (i := 1) (d := .int d) (Dv.ev_var (i := 1) rfl h2) (Dv.ev_int 1) rfl
  refine Dv.s_ret (K := K) (d := encF (fminus (a, b) (c, d))) (ev_callD (Dv.ea_cons (Dv.ev_I0 (fun _ => .int _) (Dv.ev_I (.inl ⟨by omega, by omega⟩) (fun _ => .int _) o0 u1) (Dv.ev_I (.inl ⟨by omega, by omega⟩) (fun _ => .int _) t0 o1))
    (Dv.ea_cons (Dv.ev_I (.inl ⟨by omega, by omega⟩) (fun _ => .int _) o1 u1) Dv.ea_nil)) ⟨_, _, rfl, p1, p2, rfl⟩) e ?_
  exact fun v F2 H2 g2 hv => q v F2 H2 g2 hv
theorem sc_below : FnScope (["one", "other"] : List Str) (["one", "other"] : List Str) (defScope sBelow) := ⟨rfl, rfl, rfl, by decide +kernel, rfl, by decide +kernel, by decide +kernel⟩
theorem ok_below (D : Def K mg "below" sBelow ["one", "other"]) : Cal P w K mg base "below" ["one", "other"] 1 (spD K fBelow) := by
  refine cal_mk D sc_below (len_D (by rintro _ _ ⟨t, u, rfl, _⟩; rfl)) (fun f cdv A outer s H vs Q E hr h => ?_)
  obtain ⟨F, ds, d, e, hv, ⟨⟨a, b⟩, ⟨c, d⟩, rfl, ⟨s1, s2, s3, s4⟩, ⟨t1, t2, t3, t4⟩, rfl⟩, q⟩ := h
  obtain ⟨x, y, rfl, h1, h2⟩ := Dv.two hv
  dsimp only at s1 s2 s3 s4 t1 t2 t3 t4
  refine ⟨_, (pss_one (ps_ret (pe_cmpR op_lt (pe_op op_mul (pe_ix ix_tup (pv 0) pe_int (fun _ _ => rfl)) (pe_ix ix_tup (pv 1) pe_int (fun _ _ => rfl))) (pe_op op_mul (pe_ix ix_tup (pv 1) pe_int (fun _ _ => rfl)) (pe_ix ix_tup (pv 0) pe_int (fun _ _ => rfl))) (nomark _)))), ?_⟩
  have o0 := Dv.ev_ixT (K := K) (F := F) (σ := [some x, some y]) (i := 0) (d := .int a) (Dv.ev_var (i := 0) rfl h1) (Dv.ev_int 0) rfl
  have o1 := Dv.ev_ixT (K := K) (F := F) (σ := [some x, some y]) (i := 1) (d := .int b) (Dv.ev_var (i := 0) rfl h1) (Dv.ev_int 1) rfl
  have t0 := Dv.ev_ixT (K := K) (F := F) (σ := [some x, some y]) (i := 0) (d := .int c) (Dv.ev_var (i := 1) rfl h2) (Dv.ev_int 0) rfl
  have u1 := Dv.ev_ixT (K := K) (F := F) (σ := [some x, some y]) (i := 1) (d := .int d) (Dv.ev_var (i := 1) rfl h2) (Dv.ev_int 1) rfl
  refine Dv.s_ret (K := K) (d := .bool (decide (a * d < c * b))) (Dv.ev_I0 (fun _ => .bl _) (Dv.ev_I (.inl ⟨by omega, by omega⟩) (fun _ => .int _) o0 u1) (Dv.ev_I (.inl ⟨by omega, by omega⟩) (fun _ => .int _) t0 o1)) e ?_
  exact fun v F2 H2 g2 hv => q v F2 H2 g2 hv
theorem sc_lesser : FnScope (["one", "other"] : List Str) (["one", "other"] : List Str) (defScope sLesser) := ⟨rfl, rfl, rfl, by decide +kernel, rfl, by decide +kernel, by decide +kernel⟩
theorem ok_lesser (D : Def K mg "lesser" sLesser ["one", "other"]) (C_below : Cal P w K mg base "below" ["one", "other"] 1 (spD K fBelow)) : Cal P w K mg base "lesser" ["one", "other"] 2 (spD K fLesser) := by
  refine cal_mk D sc_lesser (len_D (by rintro _ _ ⟨t, u, rfl, _⟩; rfl)) (fun f cdv A outer s H vs Q E hr h => ?_)
  obtain ⟨F, ds, d, e, hv, ⟨a, b, rfl, s, t, rfl⟩, q⟩ := h
  obtain ⟨x, y, rfl, h1, h2⟩ := Dv.two hv
  refine ⟨_, (pss_one (ps_ret (pe_ifExp (pt_val (pe_callC C_below hr (pa_cons (pv 1) (pa_cons (pv 0) pa_nil)))) (pv 1) (pv 0)))), ?_⟩
  refine Dv.s_ret (K := K) (Dv.ev_if (et_test (ev_callD (Dv.ea_cons (Dv.ev_var (i := 1) rfl h2) (Dv.ea_cons (Dv.ev_var (i := 0) rfl h1) Dv.ea_nil)) ⟨_, _, rfl, t, s, rfl⟩)) (fun z => ?_) (fun z => ?_)) e (fun v F2 H2 g2 hv => q v F2 H2 g2 hv)
  · rw [if_pos z]
    exact Dv.ev_var rfl h2
  · rw [if_neg (by rw [z]; decide)]
    exact Dv.ev_var rfl h1
/-! ### as rational numbers -/
theorem sm_of {B : Nat} {a : Rat} (h : Sx B a) (hB : B < 1000000000000) : Sm (toF a) := by
  obtain ⟨h1, h2, h3⟩ := h.bd
  refine ⟨?_, ?_, ?_, ?_⟩ <;> simp only [toF] <;> omega
variable {σ : L2.St} {F : Hp} {ta tb : TE} {a b : Rat} {B C : Nat} {E : XK}
theorem ev_plus (ha : EvD K ta σ F (encR a)) (hb : EvD K tb σ F (encR b)) (sa : Sx B a) (sb : Sx C b) (hB : B < 1000000000000 := by omega) (hC : C < 1000000000000 := by omega) : EvD K (tCall (spD K fPlus) [] E (tCons ta (tCons tb tNil))) σ F (encR (a + b)) :=
  ev_callD (Dv.ea_cons ha (Dv.ea_cons hb Dv.ea_nil)) ⟨_, _, rfl, sm_of sa hB, sm_of sb hC, congrArg encF (fplus_rat a b).symm⟩
theorem ev_minus (ha : EvD K ta σ F (encR a)) (hb : EvD K tb σ F (encR b)) (sa : Sx B a) (sb : Sx C b) (hB : B < 1000000000000 := by omega) (hC : C < 1000000000000 := by omega) : EvD K (tCall (spD K fMinus) [] E (tCons ta (tCons tb tNil))) σ F (encR (a - b)) :=
  ev_callD (Dv.ea_cons ha (Dv.ea_cons hb Dv.ea_nil)) ⟨_, _, rfl, sm_of sa hB, sm_of sb hC, congrArg encF (fminus_rat a b).symm⟩
theorem ev_scaled {n : Int} (ha : EvD K ta σ F (encR a)) (hb : EvD K tb σ F (.int n)) (sa : Sx B a) (hn : -1000000000000 < n ∧ n < 1000000000000) (hB : B < 1000000000000 := by omega) : EvD K (tCall (spD K fScaled) [] E (tCons ta (tCons tb tNil))) σ F (encR (a * (n : Rat))) := by
  have s := sm_of sa hB
  exact ev_callD (Dv.ea_cons ha (Dv.ea_cons hb Dv.ea_nil)) ⟨_, _, rfl, s.1, Int.lt_trans s.2.1 (by omega), hn, congrArg encF (fscaled_rat a n).symm⟩
theorem ev_below (ha : EvD K ta σ F (encR a)) (hb : EvD K tb σ F (encR b)) (sa : Sx B a) (sb : Sx C b) (hB : B < 1000000000000 := by omega) (hC : C < 1000000000000 := by omega) : EvD K (tCall (spD K fBelow) [] E (tCons ta (tCons tb tNil))) σ F (.bool (decide (a < b))) :=
  ev_callD (Dv.ea_cons ha (Dv.ea_cons hb Dv.ea_nil)) ⟨_, _, rfl, sm_of sa hB, sm_of sb hC, congrArg PyData.bool (below_rat a b).symm⟩
theorem ev_lesser (ha : EvD K ta σ F (encR a)) (hb : EvD K tb σ F (encR b)) (sa : Sx B a) (sb : Sx C b) (hB : B < 1000000000000 := by omega) (hC : C < 1000000000000 := by omega) : EvD K (tCall (spD K fLesser) [] E (tCons ta (tCons tb tNil))) σ F (encR (if b < a then b else a)) :=
  ev_callD (Dv.ea_cons ha (Dv.ea_cons hb Dv.ea_nil)) ⟨_, _, rfl, sm_of sa hB, sm_of sb hC, by rw [below_rat]; by_cases h : b < a <;> simp [h, encR]⟩
theorem ev_greater (ha : EvD K ta σ F (encR a)) (hb : EvD K tb σ F (encR b)) (sa : Sx B a) (sb : Sx C b) (hB : B < 1000000000000 := by omega) (hC : C < 1000000000000 := by omega) : EvD K (tCall (spD K fGreater) [] E (tCons ta (tCons tb tNil))) σ F (encR (if b < a then a else b)) :=
  ev_callD (Dv.ea_cons ha (Dv.ea_cons hb Dv.ea_nil)) ⟨_, _, rfl, sm_of sa hB, sm_of sb hC, by rw [below_rat]; by_cases h : b < a <;> simp [h, encR]⟩
end
end R3

set_option Elab.async false
set_option linter.all false
set_option maxRecDepth 100000
set_option maxHeartbeats 4000000
/-! GENERAL: try: .. except X as n: suite, where the suite keeps the error (caught = n): behind it the error stands in H. -/
namespace L2
open PySem PySem.Spec PyProof.Rows
/-- an exception object of the class at C, its own dict at d, at a, raised or not -/
def ExJ (C d a : Addr) : HO := .ext fun h => ∃ oe vs, h.get? a = some oe ∧ oe.cls = .ref C ∧ oe.dict = some d ∧ oe.data = .fields vs
theorem exJ_ok {P : Program} {w : World} {H : Hp} {h : Heap} {C d a : Addr} {oe : Obj} {vs : Array Value} (e : h.get? a = some oe) (hz : Zc (.ref C) (some d) oe) (hd : oe.data = .fields vs) : ObjOk P w H h a (ExJ C d a) :=
  ⟨⟨oe, vs, e, hz.1, hz.2, hd⟩, ⟨_, e⟩, fun _ _ ⟨o, v, q, r⟩ k => ⟨o, v, k _ q, r⟩⟩
theorem Un.lay {fs ex : List Addr} {H H' : Hp} {h h' : Heap} {a : Addr} {o : HO} (u : Un fs ex H H' h h') (h0 : h.get? a = none) (hn : H' a = none) : Un fs ex H (upd H' a o) h h' where
  keep := u.keep
  slot := u.slot
  free := fun b ob e n hx => by
    rw [upd_ne (fun z => by rw [z, h0] at e; exact nomatch e)]
    exact u.free b ob e n hx
  there := u.there
  tups := fun b xs e => by
    have := u.tups b xs e
    rw [upd_ne (ne_of_none this hn)]
    exact this
  frzs := fun b ob x e => by
    have := u.frzs b ob x e
    rw [upd_ne (ne_of_none this hn)]
    exact this
  tbls := fun b ps e => by
    obtain ⟨m, this⟩ := u.tbls b ps e
    exact ⟨m, by
      rw [upd_ne (ne_of_none this hn)]
      exact this⟩
section
variable {X : Cx} {pins : List (Addr × Obj)} {σ : St} {H : Hp} {s : Shared} {a : Addr} {oe : Obj} {o : HO}
theorem Inv.layPin (I : Inv X ((a, oe) :: pins) σ H s) (h0 : X.s_0.heap.get? a = none) (hp : ∀ p ∈ X.pn ++ pins, p.1 ≠ a) (new : ObjOk X.prog X.w (upd H a o) s.heap a o) : Inv X pins σ (upd H a o) s := by
  obtain ⟨e, n, nl, nf, nc⟩ := I.pin (a, oe) (List.mem_append_right _ (List.mem_cons_self ..))
  refine ⟨I.ok, I.os, I.bare, I.base.lay h0 n, I.loc, I.cell, ?_, fun x c hc => ?_, fun p hp' => ?_, I.hok.laidN (fun _ _ z => z) n new, I.len⟩
  · rw [upd_ne (fun z => nl z.symm)]
    exact I.free
  · rw [upd_ne (fun z => ?_)]
    · exact I.freeC x c hc
    · obtain ⟨v, d, hv, hd⟩ := I.cell x c hc
      rw [z] at hv
      have e' : s.heap.get? a = some oe := e
      rw [e'] at hv
      cases hv
      exact nc v hd
  · have := I.pin p (by
      rcases List.mem_append.mp hp' with h | h
      · exact List.mem_append_left _ h
      · exact List.mem_append_right _ (List.mem_cons_of_mem _ h))
    exact ⟨this.1, by rw [upd_ne (hp p hp')]; exact this.2.1, this.2.2⟩
theorem Inv.unsuiteP {q : Addr × Obj} {pn' : List (Addr × Obj)} (I : Inv (X.suite a (q :: (X.pn ++ pins))) pn' σ H s) (ok : X.Ok) : Inv X (q :: pins) σ H s :=
  ⟨ok, I.os, I.bare, I.base, I.loc, I.cell, I.free, I.freeC, fun p hp => I.pin p (List.mem_append_left _ (by
    rcases List.mem_append.mp hp with h | h
    · exact List.mem_cons_of_mem _ (List.mem_append_left _ h)
    · rcases List.mem_cons.mp h with h | h
      · rw [h]; exact List.mem_cons_self ..
      · exact List.mem_cons_of_mem _ (List.mem_append_right _ h))), I.hok, I.len⟩
end
/-- what the clause 'except x as n' wishes, where the error is kept -/
def wKeep (K : PySem.W.Frag) (c : Value) (i : Nat) (ts : Addr → Value → Option Addr → TS) (Wout : WX) (D : Ends) : WX := fun cls d σ H =>
  ∃ b, PySem.W.exmOne K cls c = some b ∧ (b = true → ∀ a, H a = none → ts a cls d { nx := fun σ' H' => ∃ C dd, cls = .ref C ∧ d = some dd ∧ (H' a = none → D.nx (σ'.set i none) (upd H' a (ExJ C dd a))), rt := fun _ _ => False } (σ.set i (some (.ref a))) H) ∧
    (b = false → Wout cls d σ H)
section
variable {X : Cx} {x n : Str} {c : Value} {i : Nat} {body suite : List Stmt} {b₀ : Stmt} {np pos pos' : Pos} {tb : WX → TS} {ts : Addr → Value → Option Addr → TS} {Wout : WX}
theorem ps_try_keep (hs : X.stack = X.env :: X.outer) (hf : X.env.frame = some X.env.locals) (hex : X.ex = []) (hN : X.N.Nodup) (hi : X.N[i]? = some n) (hln : X.env.kindOf n = some .local) (hc : Names X x c) (tk : Takes X Wout)
    (hb : ∀ (W : WX) (pn : List (Addr × Obj)) (xe : Value → Shared → Prop), Takes (X.tr pn xe) W → PassesOwn (model X.prog X.w) X.A X.env xe → PSs (X.tr pn xe) body (tb W))
    (hsu : ∀ (a : Addr) (oe : Obj) (cls : Value) (d : Option Addr) (pn : List (Addr × Obj)), Zc cls d oe → (∃ vs, oe.data = .fields vs) → PSs (X.suite a ((a, oe) :: pn)) (b₀ :: suite) (ts a cls d)) :
    PS X (.Try body [.ExceptHandler (some (.Name x np)) (some n) (b₀ :: suite) pos'] [] [] pos) (fun D σ H => tb (wKeep X.K c i ts Wout D) D σ H) := by
  refine ⟨fun pins s σ H D I h => ?_⟩
  have ok := I.ok
  have hfr : X.A.frames = some (X.env :: X.outer) := by rw [ok.frames, hs]
  have hloc : Loc X.env.scope n := .inl hln
  refine wpAny_Try_except ?_
  refine wpAny_mono ((hb (wKeep X.K c i ts Wout D) (X.pn ++ pins) (fun e s₁ => wpAny (model X.prog X.w) X.A (noteFrame e X.env) (fun _ s₂ => wpAny (model X.prog X.w) X.A (setFlight e none) (fun _ s₃ =>
    wpAny (model X.prog X.w) X.A (handleBy e X.env [.ExceptHandler (some (.Name x np)) (some n) (b₀ :: suite) pos']) (SP X pins D) X.xe s₃) X.xe s₂) X.xe s₁) (fun u s' xx => ?_) PassesOwn.looking).run [] s σ H D (I.toTry _) h) (fun f s1 hsp => ?_) (fun e s1 he => he)
  · -- the catch
    obtain ⟨a, B, sI, pins', σ', H', cls, d, rfl, J', nb, up, sky, na, os, ag, b, hb1, hyes, hno⟩ := xx
    have J : Inv X pins σ' H' sI := J'.ofTry ok
    have sky' : Sky B (X.env :: X.outer) a (Zc cls d) X.env.locals s'.heap := by rw [← hs]; exact sky
    show wpAny (model X.prog X.w) X.A (noteFrame (.ref a) X.env) _ _ _
    refine Sky.land Zc.steady hfr hf sky' fun h3 fl3 up3 => ?_
    have J3 : Inv X pins σ' H' { s' with heap := h3 } := J.landed nb fl3.1 (up.trans up3) os ag
    obtain ⟨oe3, vs3, he3, hz3, hd3⟩ := fl3.there
    have notFr : ∀ {h : Heap} {o : Obj} {vs : Array Value}, h.FunFrames B (X.env :: X.outer) → h.get? a = some o → o.data = .fields vs → a ∉ frs (X.env :: X.outer) := fun {h o vs} ff e dd hm => by
      obtain ⟨_, o', e', hnf⟩ := ff.mem hm
      rw [e] at e'; cases e'
      exact hnf _ dd
    have nfr := notFr fl3.2.2.1 he3 hd3
    have nL : a ≠ X.env.locals := fun z => nfr (List.mem_filterMap.mpr ⟨X.env, List.mem_cons_self, by rw [hf, z]⟩)
    have nF : a ∉ X.fs := fun hm => by
      obtain ⟨e, he, q⟩ := List.mem_filterMap.mp hm
      exact nfr (List.mem_filterMap.mpr ⟨e, List.mem_cons_of_mem _ he, q⟩)
    have nI : sI.heap.get? a = none := by
      cases q : sI.heap.get? a with
      | none => rfl
      | some o =>
        have z := nb a o q (by rw [hs]; exact nfr)
        rw [fl3.2.1] at z
        cases z
    have n0 : X.s_0.heap.get? a = none := by
      cases q : X.s_0.heap.get? a with
      | none => rfl
      | some o =>
        obtain ⟨o', z⟩ := J.base.there a o q (by rw [hex]; exact fun z => nomatch z)
        rw [nI] at z
        cases z
    have nP : ∀ p ∈ X.pn ++ pins, p.1 ≠ a := fun p hp z => by
      have := (J.pin p hp).1
      rw [z, nI] at this
      cases this
    have S3 := J3.suite he3 hd3 na nL nF
    refine wpAny_handleBy_cons (codeAny_handlers_test ?_) (by intro q; cases q)
    have LT : PySem.W.Looks (model X.prog X.w) h3 (typeOf (.ref a)) cls := fun A Q E s k q => wpAny_typeOf_ref (k _ _ he3) (by rw [hz3.1]; exact q)
    have LM := PySem.W.exm_one (M := model X.prog X.w) (J3.kIn) LT hb1
    have test : ∀ {Q : Value → Shared → Prop} {E : Value → Shared → Prop}, Q c { s' with heap := h3 } → wpAny (model X.prog X.w) (X.A.mark (some (.ref a))) (eval (.Name x np) X.env) Q E { s' with heap := h3 } := fun {Q E} q => by
      obtain ⟨hg, hdbg, hm | ⟨hm, hv, hnn⟩⟩ := hc
      · exact ld_glob (X := X.suite a ((a, oe3) :: (X.pn ++ pins))) S3 hg hm q hdbg
      · exact ld_blt (X := X.suite a ((a, oe3) :: (X.pn ++ pins))) S3 hg hm hv q hnn hdbg
    refine test (LM.here ?_)
    cases b with
    | true =>
      refine codeAny_handlers_suite_as ?_
      refine HandSPX.lands_againZ fl3 fun h4 fl4 up4 => ?_
      have J4 : Inv X pins σ' H' { s' with heap := h4 } := J.landed nb fl4.1 ((up.trans up3).trans up4) os ag
      obtain ⟨oe4, vs4, he4, hz4, hd4⟩ := fl4.there
      have S4 := J4.suite he4 hd4 na nL nF
      refine store_ok (X := X.suite a ((a, oe4) :: (X.pn ++ pins))) (v := .ref a) S4 hN hi hloc rfl (fun s5 S5 => ?_) (.inr hln)
      refine wpAny_mono ((hsu a oe4 cls d (X.pn ++ pins) hz4 ⟨_, hd4⟩).run [] s5 _ H' _ S5 (hyes rfl a na)) (fun f s6 hsp => ?_) (fun _ _ z => False.elim z)
      cases f with
      | next =>
        obtain ⟨σ6, H6, S6, C, dd, rfl, rfl, q6⟩ := hsp
        refine gone_ok (S6.unsuiteP ok) hN hi hln fun s7 J7 => ?_
        obtain ⟨e7, n7, _⟩ := J7.pin (a, oe4) (List.mem_append_right _ (List.mem_cons_self ..))
        exact ⟨_, _, J7.layPin (o := ExJ C dd a) n0 nP (exJ_ok e7 hz4 hd4), q6 n7⟩
      | brk =>
        obtain ⟨σ6, H6, S6, q6⟩ := hsp
        exact q6.elim
      | cont =>
        obtain ⟨σ6, H6, S6, q6⟩ := hsp
        exact q6.elim
      | ret u =>
        obtain ⟨v6, σ6, H6, S6, r6, q6⟩ := hsp
        exact q6.elim
    | false =>
      show wpAny _ X.A (handleBy (.ref a) X.env []) _ _ _
      refine wpAny_handleBy_nil ?_
      obtain ⟨k1, k2, k3, oe, vs, T, oT, ts', he, hz, hd, h1, hr⟩ := id fl3
      unfold PySem.passOn
      refine wpAny_bind (wpAny_field he hd h1 ?_)
      rw [if_neg (show ¬ ((Value.ref T == Value.none) = true) from by simp)]
      have fin : wpAny (model X.prog X.w) X.A (setFlight (.ref a) X.env.frame) (fun _ s4 => wpAny (model X.prog X.w) X.A (throw (.ref a) : Sem Flow) (SP X pins D) X.xe s4) X.xe { s' with heap := h3 } := by
        rw [hf]
        refine HandSPX.setFlight_upZ fl3 fun h4 hh4 up4 => wpAny_throw (tk _ _ ?_)
        exact ⟨a, B, sI, pins, σ', H', cls, d, rfl, J, nb, (up.trans up3).trans up4, .inr (.inr (by rw [hs]; exact hh4)), na, os, ag, hno rfl⟩
      first
        | exact wpAny_bind (wpAny_pure (wpAny_bind fin))
        | exact wpAny_bind fin
  · cases f with
    | next =>
      obtain ⟨σ', H', J', q⟩ := hsp
      exact wpAny_execs_nil ⟨σ', H', J'.ofTry ok, q⟩
    | brk =>
      obtain ⟨σ', H', J', q⟩ := hsp
      exact ⟨σ', H', J'.ofTry ok, q⟩
    | cont =>
      obtain ⟨σ', H', J', q⟩ := hsp
      exact ⟨σ', H', J'.ofTry ok, q⟩
    | ret u =>
      obtain ⟨v, σ', H', J', r, q⟩ := hsp
      exact ⟨v, σ', H', J'.ofTry ok, r, q⟩
end
/-! ### e.f and isinstance of a kept error -/
def tXjF (K : PySem.W.Frag) (f : Str) (te : TE) : TE := fun σ H Q => te σ H fun x H1 => ∃ (a C d : Addr) (fs : List (Str × V)) (v : V), x = .ref a ∧ H1 a = some (ExJ C d a) ∧ H1 d = some (.xd fs) ∧ fs.lookup f = some v ∧ XfC K C ∧ PySem.W.findIn K (.ref C) f = some none ∧ Q v H1
theorem pe_xjF {X : Cx} {e : Expr} {te : TE} {pos : Pos} {n : Str} (he : PE X e te) (hb : attributeBase e n X.env (eval e X.env) = eval e X.env := by rfl) : PE X (.Attribute e n pos) (tXjF X.K n te) := by
  refine ⟨fun pins s σ H Q I h => ?_⟩
  refine attr_of hb (thn (he.run pins s σ H _ I h) fun u s1 hh => ?_)
  obtain ⟨x, H1, I1, rx, a, C, dd, fs, v, ex, ha, ea, l, T, hno, q⟩ := hh
  subst ex
  obtain rfl : u = Value.ref a := rx
  obtain ⟨⟨oe, vs, hoa, hc, hdi, hda⟩, _, _⟩ := I1.hok a _ ha
  have hx : ObjOk X.prog X.w H1 s1.heap dd (.xd fs) := I1.hok dd _ ea
  obtain ⟨mA, hns, hr⟩ := hx
  obtain ⟨od, ho, hl⟩ := lookIn_ns hns
  obtain ⟨u, hu, ru⟩ := RelO.some_of (v := v) (o := mA n) (by rw [← l]; exact hr n)
  have J : PySem.W.InstAt s1.heap a oe C (some od) := ⟨hoa, hc, by unfold PySem.W.notCls; rw [hda] <;> rfl, by rw [hdi]; exact ho⟩
  exact HandSPX.exc_get I1.kIn J T.ga T.gg T.exC (PySem.W.findObj_own T.hdC hno rfl (by rw [hl, hu])) (handed_of ru) ⟨v, H1, I1.tok _, ru, q⟩
def rIsJ (K : PySem.W.Frag) : List V → Hp → VK → Prop := fun xs H Q => ∃ (a C d : Addr) (c : V) (cv : Value) (b : Bool), xs = [.ref a, c] ∧ H a = some (ExJ C d a) ∧ (∃ fs, H d = some (.xd fs)) ∧ ClsV c cv ∧ ExC K C ∧ PySem.W.kitOne K (.ref C) cv = some b ∧ Q (.bl b) H
theorem call_isJ {X : Cx} : CallR X (.builtin "isinstance") (rIsJ X.K) := by
  intro pins s σ H xs us Q I r h
  obtain ⟨a, C, d, c, cv, b, rfl, ha, ⟨fs, hd⟩, hcv, T, e, q⟩ := h
  obtain ⟨u1, u2, rfl, r1, r2⟩ := vals2 r
  have e2 := hcv.eq r2
  subst e2
  obtain rfl : u1 = Value.ref a := r1
  obtain ⟨⟨oe, vs, hoa, hc, hdi, hda⟩, _, _⟩ := I.hok a _ ha
  obtain ⟨mA, hns, _⟩ : ObjOk X.prog X.w H s.heap d (.xd fs) := I.hok d _ hd
  obtain ⟨od, hod, _⟩ := lookIn_ns hns
  have J : PySem.W.InstAt s.heap a oe C (some od) := ⟨hoa, hc, by unfold PySem.W.notCls; rw [hda] <;> rfl, by rw [hdi]; exact hod⟩
  exact PySem.W.kia_one (PySem.W.kitx_exc T.hcl T.hg T.hk T.hs T.ha T.hn T.ht T.hm) I.kIn J e (fun z => nomatch z) fun tk => ⟨.bl b, H, I.tok tk, rfl, q⟩
/-! ### C(e), to be raised -/
section
variable {X : Cx} {cn fld : Str} {C fI : Addr} {k : Nat}
theorem xn_mk (T : PySem.Xn.ExT X.prog X.K X.mg cn fld C fI) (hR : Raises X (.ref C)) {pins : List (Addr × Obj)} {σ : St} {H : Hp} {s : Shared} {Q : XK} {v : V} {v' : Value} {h' : Heap} {tk : Nat} {e d : Addr} (I : Inv X pins σ H s) (rv : RelV v v') (M : PySem.Xn.OwnMade s.heap h' e C d fld v')
    (q : ∀ d, H d = none → Q (.ref C) (some d) (upd H d (.xd [(fld, v)]))) : MkP X pins σ Q (.ref e) { s with heap := h', toks := tk } := by
  obtain ⟨t1, hoe⟩ := M.obj
  have hns := M.ns
  obtain ⟨hp, g, dr, tk0, os⟩ := s
  obtain ⟨G', g1, g2⟩ := restrict h' fun b => decide (b ≠ e)
  have gk : ∀ b, b ≠ e → G'.get? b = h'.get? b := fun b hb => g1 b (decide_eq_true hb)
  have ge : G'.get? e = none := g2 e (by simp)
  have old : ∀ b o, hp.get? b = some o → G'.get? b = some o := fun b o q => (gk b (Nat.ne_of_lt (Nat.lt_of_lt_of_le (Heap.lt_size q) M.new))).trans (M.keep b o q)
  have ob : ObjOk X.prog X.w (upd H d (.xd [(fld, v)])) G' d (.xd [(fld, v)]) :=
    ⟨_, hns.at (fun o q => (gk d M.dne).trans q), fun f => relO_one rv f⟩
  have J : Inv X pins σ (upd H d (.xd [(fld, v)])) ⟨G', g, dr, tk, os⟩ := I.laid (t' := tk) old M.dbig ob
  have hne : (upd H d (.xd [(fld, v)])) e = none := by
    rw [upd_ne (Ne.symm M.dne)]
    exact I.hok.fresh M.new
  exact ⟨e, _, _, ⟨G', g, dr, tk, os⟩, _, .ref C, some d, rfl, J, fun b o qq => by
    by_cases hb : b = e
    · have q' : G'.get? b = some o := qq
      rw [hb, ge] at q'; cases q'
    · exact (gk b hb).symm.trans qq, ge, hoe, ⟨rfl, rfl⟩, rfl, rfl, hne, rfl, I.bare, hR, q d (I.hok.fresh M.dbig)⟩
/-- C(e) -/
def tMkX (C : Addr) (fld : Str) (ta : TA) : St → Hp → XK → Prop := fun σ H Q => ta σ H fun vs H1 => ∃ v, vs = [v] ∧ ∀ d, H1 d = none → Q (.ref C) (some d) (upd H1 d (.xd [(fld, v)]))
theorem pmk_xn1 {a : Expr} {ta : TA} {p pos : Pos} (T : PySem.Xn.ExT X.prog X.K X.mg cn fld C fI) (hR : Raises X (.ref C)) (hr : RoomG k X.A) (ht : (X.prog.main.scope.names.lookup ("super" : Str)).isSome = false) (ha : PA X [a] ta) (hg : Gl X cn := by rfl) (hdb : (cn == ("__debug__" : Str)) = false := by decide)
    (he : starEach (a :: []) X.env = (false, eval a X.env) :: starEach [] X.env := by rfl) (hpl : (backTo pos (starEach [] X.env)).any (·.1) = false := by rfl) :
    PMk X (.Call (.Name cn p) [a] [] pos) (tMkX C fld ta) := by
  intro pins s σ H Q I h
  refine wpAny_Call_Name_kw (ld_glob I hg T.gC ?_ hdb)
  refine PySem.W.callWith_K (h₀ := X.base) I.ok.mod.kin T.kC (thn (ha.run pos pins s σ H _ I h) fun us s1 hh => ?_) he hpl
  obtain ⟨vs, H1, I1, r1, v, ev, q1⟩ := hh
  subst ev
  refine ⟨I1.kIn, ?_⟩
  cases r1 with
  | cons rv rn =>
    rename_i v' us'
    cases rn
    show wpAny _ _ (call (.ref C) [v']) _ _ _
    exact wpAny_call (PySem.Xn.xn_made T (.inl ⟨rfl, rfl⟩) I1.kIn I1.nms I1.nolimit (by have := hr.1.dp; omega) ht fun h' tk' e d M => xn_mk T hR I1 rv M q1)
end
/-! ### calls of defs that may raise -/
section
variable {X : Cx} {CX : CXT} {k : Nat} {f : Addr} {fd : FuncData} {ps : List Str} {sp : Sp} {dvs : List V} {ds : List Value} {E : St → XK} {x : Str} {p pos : Pos} {e : Expr} {es : List Expr} {t : TA}
theorem run_fnSG {pins : List (Addr × Obj)} {σ : St} {H : Hp} {s : Shared} {Q : VK} {us : List Value} {vs : List V} (F : FnOkG X.prog X.w X.K X.mg X.base CX k f fd ps sp) (hr : RoomG k X.A) (hb : Binds X.K fd ps ds) (hd : Vals dvs ds) (hx : PassesAt CX X σ (E σ))
    (I : Inv X pins σ H s) (r : Vals vs us) (h : sp (vs ++ dvs) H Q (E σ)) : wpAny (model X.prog X.w) X.A (call (.ref f) us) (EP X pins σ Q) X.xe s := by
  have r2 : Vals (vs ++ dvs) (us ++ ds) := r.append hd
  have hl : (us ++ ds).length = ps.length := by rw [← r2.length]; exact F.len _ _ _ _ h
  refine wpAny_call (codeAny_mono (F.run X.A X.stack s H ⟨us, []⟩ (us ++ ds) (vs ++ dvs) Q (E σ) hr I.env0 (hb s us I.kIn hl) r2 h) fun r s' hq => ?_)
  cases r with
  | error e => exact hx pins H s e s' I hq
  | ok fl =>
    cases fl with
    | ret u => exact I.after hq
    | next => exact False.elim hq
    | brk => exact False.elim hq
    | cont => exact False.elim hq
theorem pe_callSG (F : FnOkG X.prog X.w X.K X.mg X.base CX k f fd ps sp) (hr : RoomG k X.A) (hg : Gl X x) (hm : X.mg x = some (.ref f)) (hk : PySem.W.keepIn X.K (.ref f) = true) (hb : Binds X.K fd ps ds) (hd : Vals dvs ds) (hx : ∀ σ, PassesAt CX X σ (E σ))
    (ha : PA X (e :: es) t) (hdb : (x == ("__debug__" : Str)) = false := by decide) (he : starEach (e :: es) X.env = (false, eval e X.env) :: starEach es X.env := by rfl) (hpl : (backTo pos (starEach es X.env)).any (·.1) = false := by rfl) :
    PE X (.Call (.Name x p) (e :: es) [] pos) (tCallSD sp dvs E t) := by
  refine ⟨fun pins s σ H Q I h => ?_⟩
  refine wpAny_Call_Name_kw (ld_glob I hg hm ?_ hdb)
  refine PySem.W.callWith_K (h₀ := X.base) I.ok.mod.kin hk (thn (ha.run pos pins s σ H _ I h) fun us s1 ⟨vs, H1, I1, r, q⟩ => ⟨I1.kIn, ?_⟩) he hpl
  exact run_fnSG F hr hb hd (hx σ) I1 r q
end
end L2

set_option Elab.async false
set_option linter.all false
set_option maxRecDepth 100000
set_option maxHeartbeats 4000000
namespace L2
open PySem PySem.Spec PyProof.Rows
section
variable {P : Program} {w : World} {K : PySem.W.Frag} {mg : Str → Option Value} {base : Heap} {CX : CXT} {k j : Nat} {f : Addr} {fd : FuncData} {ps : List Str} {sp sp' : Sp}
theorem FnOkG.or (A : FnOkG P w K mg base CX k f fd ps sp) (B : FnOkG P w K mg base CX j f fd ps sp') : FnOkG P w K mg base CX (max k j) f fd ps (fun vs H Q E => sp vs H Q E ∨ sp' vs H Q E) :=
  ⟨fun vs H Q E h => h.elim (A.len vs H Q E) (B.len vs H Q E), fun A' outer s H args us vs Q E hr e0 hb r h => h.elim (A.run A' outer s H args us vs Q E (hr.mono (Nat.le_max_left _ _)) e0 hb r) (B.run A' outer s H args us vs Q E (hr.mono (Nat.le_max_right _ _)) e0 hb r)⟩
/-- what lets nothing out may be called where things are let out -/
theorem FnOkG.up (A : FnOkG P w K mg base CX0 k f fd ps sp) : FnOkG P w K mg base CX k f fd ps sp :=
  ⟨A.len, fun A' outer s H args us vs Q E hr e0 hb r h => codeAny_mono (A.run A' outer s H args us vs Q E hr e0 hb r h) fun x s' hx => by
    cases x with
    | ok fl => cases fl <;> exact hx
    | error e => exact False.elim hx⟩
end
end L2
namespace Dv
open PySem PySem.Spec PyProof.Rows L2 Evl
/-! ### defs that may raise -/
structure CalX (P : Program) (w : World) (K : PySem.W.Frag) (mg : Str → Option Value) (base : Heap) (nm : Str) (ps : List Str) (k : Nat) (sp : Sp) : Prop where
  ex : ∃ f fd, mg nm = some (.ref f) ∧ PySem.W.keepIn K (.ref f) = true ∧ Binds K fd ps [] ∧ FnOkG P w K mg base (L2.CX P w) k f fd ps sp ∧ ∃ oc od osl, K.lookup f = some ⟨oc, od, .func fd, osl⟩
section
variable {P : Program} {w : World} {K : PySem.W.Frag} {mg : Str → Option Value} {base : Heap} {nm : Str} {st : Stmt} {N ps : List Str} {k j : Nat} {sp sp' : Sp}
theorem calX_mk (D : Def K mg nm st ps) (S : FnScope N ps (defScope st)) (len : ∀ vs H Q E, sp vs H Q E → vs.length = ps.length)
    (hbody : ∀ (f : Addr) (cdv : Value) (A : Around) (outer : List Env) (s : Shared) (H : Hp) (vs : List V) (Q : VK) (E : XK), RoomG k (A.deeper (envOfC nm (defScope st) s.heap.objs.size f cdv)) → sp vs H Q E →
      ∃ t, PSs (cxOf (L2.CX P w) P w K mg base N nm (defScope st) f cdv A outer s H E) (defBody st) t ∧ t { nx := fun _ H' => Q .non H', rt := Q } (start N vs) H) : CalX P w K mg base nm ps (k + 1) sp := by
  obtain ⟨f, fd, g, F, b⟩ := D.ex
  obtain ⟨oc, od, kV, doc, pm, an, cdv, ct, osl, e, lk, hcd⟩ := F.ex
  exact ⟨f, fd, g, F.kp, b, F.okXG S len (hbody f), oc, od, osl, lk⟩
theorem Cal.imp (A : Cal P w K mg base nm ps k sp) (h : ∀ vs H Q E, sp' vs H Q E → sp vs H Q E) : Cal P w K mg base nm ps k sp' := by
  obtain ⟨f, fd, g, kp, b, G, l⟩ := A.ex
  exact ⟨f, fd, g, kp, b, G.imp h, l⟩
theorem CalX.imp (A : CalX P w K mg base nm ps k sp) (h : ∀ vs H Q E, sp' vs H Q E → sp vs H Q E) : CalX P w K mg base nm ps k sp' := by
  obtain ⟨f, fd, g, kp, b, G, l⟩ := A.ex
  exact ⟨f, fd, g, kp, b, G.imp h, l⟩
theorem Cal.up (A : Cal P w K mg base nm ps k sp) : CalX P w K mg base nm ps k sp := by
  obtain ⟨f, fd, g, kp, b, G, l⟩ := A.ex
  exact ⟨f, fd, g, kp, b, G.up, l⟩
theorem Cal.or (A : Cal P w K mg base nm ps k sp) (B : Cal P w K mg base nm ps j sp') : Cal P w K mg base nm ps (max k j) (fun vs H Q E => sp vs H Q E ∨ sp' vs H Q E) := by
  obtain ⟨f, fd, g, kp, b, G, oc, od, osl, l⟩ := A.ex
  obtain ⟨f', fd', g', kp', b', G', oc', od', osl', l'⟩ := B.ex
  rw [g] at g'
  cases g'
  rw [l] at l'
  cases l'
  exact ⟨f, fd, g, kp, b, G.or G', oc, od, osl, l⟩
theorem CalX.or (A : CalX P w K mg base nm ps k sp) (B : CalX P w K mg base nm ps j sp') : CalX P w K mg base nm ps (max k j) (fun vs H Q E => sp vs H Q E ∨ sp' vs H Q E) := by
  obtain ⟨f, fd, g, kp, b, G, oc, od, osl, l⟩ := A.ex
  obtain ⟨f', fd', g', kp', b', G', oc', od', osl', l'⟩ := B.ex
  rw [g] at g'
  cases g'
  rw [l] at l'
  cases l'
  exact ⟨f, fd, g, kp, b, G.or G', oc, od, osl, l⟩
end
section
variable {X : Cx} {W : WX} {x : Str} {p pos : Pos} {e : Expr} {es : List Expr} {t : TA} {k j : Nat} {ps : List Str} {sp : Sp}
theorem pe_callXC (C : CalX X.prog X.w X.K X.mg X.base x ps k sp) (hr : RoomG j X.A) (tk : Takes X W) (ha : PA X (e :: es) t) (hg : Gl X x := by rfl) (hj : k ≤ j := by decide) (hdb : (x == ("__debug__" : Str)) = false := by decide)
    (he : starEach (e :: es) X.env = (false, eval e X.env) :: starEach es X.env := by rfl) (hpl : (backTo pos (starEach es X.env)).any (·.1) = false := by rfl) : PE X (.Call (.Name x p) (e :: es) [] pos) (tCallSD sp [] (WE W) t) := by
  obtain ⟨f, fd, g, kp, b, G, _⟩ := C.ex
  exact pe_callSG G (hr.mono hj) hg g kp b .nil (fun σ => passAt tk σ) ha hdb he hpl
end
/-! ### data, or an empty dict -/
inductive Dq (K : PySem.W.Frag) (F : Hp) : V → PyData → Prop
  | dat {v : V} {d : PyData} (h : Dp K F v d) : Dq K F v d
  | mt {p : Addr} (h : F p = some (.dK [])) : Dq K F (.ref p) (.dict [])
inductive DqAll (K : PySem.W.Frag) (F : Hp) : List V → List PyData → Prop
  | nil : DqAll K F [] []
  | cons {v : V} {d : PyData} {vs : List V} {ds : List PyData} (h : Dq K F v d) (t : DqAll K F vs ds) : DqAll K F (v :: vs) (d :: ds)
section
variable {K : PySem.W.Frag} {σ : L2.St} {F F1 H H1 : Hp} {te ta tb : TE} {d a b : PyData} {ds es : List PyData}
theorem dq_ex (e : Ex F F1) {v : V} (h : Dq K F v d) : Dq K F1 v d := by
  cases h with
  | dat h => exact .dat (dp_ex e h)
  | mt h => exact .mt (e _ _ h)
theorem dqs_ex (e : Ex F F1) : ∀ {ds : List PyData} {vs : List V}, DqAll K F vs ds → DqAll K F1 vs ds
  | _, _, .nil => .nil
  | _, _, .cons h t => .cons (dq_ex e h) (dqs_ex e t)
theorem dqs_of : ∀ {ds : List PyData} {vs : List V}, DpAll K F vs ds → DqAll K F vs ds
  | _, _, .nil => .nil
  | _, _, .cons h t => .cons (.dat h) (dqs_of t)
theorem dqs_len : ∀ {ds : List PyData} {vs : List V}, DqAll K F vs ds → vs.length = ds.length
  | _, _, .nil => rfl
  | _, _, .cons _ t => by rw [List.length_cons, List.length_cons, dqs_len t]
theorem dqs_app : ∀ {ds es : List PyData} {vs ws : List V}, DqAll K F vs ds → DqAll K F ws es → DqAll K F (vs ++ ws) (ds ++ es)
  | _, _, _, _, .nil, h => h
  | _, _, _, _, .cons h t, h' => .cons h (dqs_app t h')
theorem dqs_get : ∀ {ds : List PyData} {vs : List V} {i : Nat} {v : V}, DqAll K F vs ds → vs[i]? = some v → ∃ d, ds[i]? = some d ∧ Dq K F v d
  | _, _, _, _, .nil, e => by cases e
  | _, _, 0, _, .cons h t, e => by cases e; exact ⟨_, rfl, h⟩
  | _, _, i + 1, _, .cons h t, e => dqs_get (i := i) t e
theorem tyq_of {v : V} (h : Dq K H v d) : TyX K H v (.type (tyD d)) := by
  cases h with
  | dat h => exact tyx_of h
  | mt h => exact .base (.dK h)
theorem dq_int {v : V} {i : Int} (h : Dq K F v (.int i)) : v = .int i := by
  cases h with
  | dat h => cases h; rfl
variable (K) in
def EvQ (te : TE) (σ : L2.St) (F : Hp) (d : PyData) : Prop := ∀ H, Ex F H → ∀ Q : VK, (∀ v F' H', Gr F H F' H' → Dq K F' v d → Q v H') → te σ H Q
variable (K) in
/-- a new list of such, not yet of F' -/
def ElQ (te : TE) (σ : L2.St) (F : Hp) (ds : List PyData) : Prop := ∀ H, Ex F H → ∀ Q : VK, (∀ p vs F' H', Gr F H F' H' → H p = none → F' p = none → H' p = some (.lst vs) → DqAll K F' vs ds → Q (.ref p) H') → te σ H Q
variable (K) in
def EaQ (ta : TA) (σ : L2.St) (F : Hp) (ds : List PyData) : Prop := ∀ H, Ex F H → ∀ Q : List V → Hp → Prop, (∀ vs F' H', Gr F H F' H' → DqAll K F' vs ds → Q vs H') → ta σ H Q
theorem EvD.q (h : EvD K te σ F d) : EvQ K te σ F d := fun H e Q q => h H e Q fun v F' H' g hv => q v F' H' g (.dat hv)
theorem EvL.q (h : EvL K te σ F ds) : ElQ K te σ F ds := fun H e Q q => h H e Q fun p vs F' H' g h1 h2 h3 h4 => q p vs F' H' g h1 h2 h3 (dqs_of h4)
theorem EvQ.mono (e : Ex F F1) (h : EvQ K te σ F d) : EvQ K te σ F1 d := fun H eH Q q => h H (e.trans eH) Q fun v F' H' g hv => q v _ H' (g.weak e eH) (dq_ex (ex_uni2 (eH.trans g.hx) g.fh) hv)
theorem EaQ.mono {ta : TA} (e : Ex F F1) (h : EaQ K ta σ F ds) : EaQ K ta σ F1 ds := fun H eH Q q => h H (e.trans eH) Q fun v F' H' g hv => q v _ H' (g.weak e eH) (dqs_ex (ex_uni2 (eH.trans g.hx) g.fh) hv)
theorem ElQ.mono (e : Ex F F1) (h : ElQ K te σ F ds) : ElQ K te σ F1 ds := fun H eH Q q => h H (e.trans eH) Q fun p vs F' H' g h1 h2 h3 h4 => q p vs _ H' (g.weak e eH) h1 (by
  unfold uni
  rw [ex_none eH h1]
  exact h2) h3 (dqs_ex (ex_uni2 (eH.trans g.hx) g.fh) h4)
theorem eq_var {i : Nat} {v : V} (h : σ[i]? = some (some v)) (hv : Dq K F v d) : EvQ K (tVar i) σ F d := fun H eH Q q => ⟨v, h, q v F H (Gr.refl eH) hv⟩
/-- {} -/
theorem eq_mt : EvQ K tDNewK σ F (.dict []) := fun H e Q q d hd => q _ _ _ (Gr.new e hd) (.mt upd_same)
theorem eaq_nil : EaQ K tNil σ F [] := fun H eH Q q => q [] F H (Gr.refl eH) .nil
theorem eaq_cons {tr : TA} (ha : EvQ K ta σ F a) (hr : EaQ K tr σ F ds) : EaQ K (tCons ta tr) σ F (a :: ds) := fun H eH Q q =>
  ha H eH _ fun v F1 H1 g1 hv => (hr.mono g1.fx) H1 g1.fh _ fun vs F2 H2 g2 hvs => q _ F2 H2 (g1.trans g2) (.cons (dq_ex g2.fx hv) hvs)
theorem elq_lst {ta : TA} (h : EaQ K ta σ F ds) (hl : ds.length ≤ 100000) : ElQ K (tLst ta) σ F ds := fun H eH Q q =>
  h H eH _ fun vs F1 H1 g1 hv => ⟨by rw [dqs_len hv]; exact sz_of hl, fun p hp => q p vs F1 _ (g1.trans (Gr.only g1.fh hp)) (ex_none g1.hx hp) (ex_none g1.fh hp) upd_same hv⟩
/-- isinstance for the built-in types -/
theorem kitq_ty {v : V} {T : String} (hT : T ∈ tys) (hd : Dq K H v d) : PySem.W.kitOne K (.type (tyD d)) (.type T) = some (isD d T) := by
  cases hd with
  | dat h => exact kit_ty hT (dp_nodict h)
  | mt h =>
    have e : ∀ T ∈ tys, PySem.W.kitOne ([] : PySem.W.Frag) (.type "dict") (.type T) = some ("dict" == T || (T == "int" && "dict" == "bool")) := by decide +kernel
    exact e T hT
theorem eq_isi {T : String} (h : EvQ K ta σ F d) (hT : T ∈ tys) : EvD K (tCB (rIsi K) (tCons ta (tCons (tC (.ty T)) tNil))) σ F (.bool (isD d T)) := fun H e Q q =>
  h H e _ fun v F' H' g hv => ⟨v, .ty T, _, _, _, rfl, .ty T, tyq_of (dq_ex g.fh hv), kitq_ty hT (dq_ex g.fh hv), q _ F' H' g (.bl _)⟩
/-! walks over lists of such -/
variable (K) in
def WQ (J : It) (F : Hp) (ds : List PyData) : Prop := ∃ G Y, Walk J ds.length G Y ∧ (∀ H, Ex F H → G H) ∧ ∀ F1 i H x H', i < ds.length → Ex F F1 → Ex F1 H → Y i H x H' → ∃ F2 d, ds[i]? = some d ∧ Gr F1 H F2 H' ∧ Dq K F2 x d
variable (K) in
def ItQ (wi : TI) (σ : L2.St) (F : Hp) (ds : List PyData) : Prop := ∀ H, Ex F H → ∀ R : It → Hp → Prop, (∀ J F' H', Gr F H F' H' → WQ K J F' ds → R J H') → wi σ H R
theorem ItD.q {wi : TI} (h : ItD K wi σ F ds) : ItQ K wi σ F ds := fun H e R r => h H e R fun J F' H' g ⟨G, Y, w, hG, hY⟩ => r J F' H' g ⟨G, Y, w, hG, fun F1 i H x H' hi e1 e2 y => by
  obtain ⟨F2, d, h1, h2, h3⟩ := hY F1 i H x H' hi e1 e2 y
  exact ⟨F2, d, h1, h2, .dat h3⟩⟩
/-- a list that is new: taken as it stands -/
theorem itq_list (h : ElQ K te σ F ds) : ItQ K (iList K te) σ F ds := fun H eH R q => h H eH _ fun p vs F1 H1 g1 h1 h2 h3 h4 => by
  have g2 := g1.take h1 h2 h3
  refine ⟨p, rfl, ⟨vs, sq_of h3⟩, q _ _ H1 g2 ⟨_, _, by rw [← dqs_len h4]; exact walk_list (xs := vs), fun H e => sq_of (e _ _ upd_same), fun F2 i H2 x H3 _ e1 e2 y => ?_⟩⟩
  obtain ⟨rfl, hx⟩ := y
  obtain ⟨d, h1, h2⟩ := dqs_get h4 hx
  exact ⟨F2, d, h1, Gr.refl e2, dq_ex ((Ex.new (by assumption)).trans e1) h2⟩
variable {D : Ends} {ts : TS} {g : TG}
theorem s_forQ {wi : TI} (h : ItQ K wi σ F ds) (e : Ex F H) (Pv : Nat → L2.St → Hp → Hp → Prop) (h0 : ∀ F' H', Gr F H F' H' → Pv 0 σ F' H')
    (hs : ∀ Fb, Ex F Fb → ∀ n σ' F' H' v d F2 H2, ds[n]? = some d → Ex Fb F' → Ex F' H' → Pv n σ' F' H' → Gr F' H' F2 H2 → Dq K F2 v d →
      g v σ' H2 fun σ2 H3 => ts { D with nx := NxP Fb (Pv (n + 1)), ct := NxP Fb (Pv (n + 1)), bk := D.nx } σ2 H3)
    (hd : ∀ σ' F' H', Ex F F' → Ex F' H' → Pv ds.length σ' F' H' → D.nx σ' H') : tFor wi g ts D σ H := h H e _ fun J F1 H1 g1 wd => by
  obtain ⟨G, Y, W, hG, hY⟩ := wd
  exact for_it W (fun n => NxP F1 (Pv n)) ⟨F1, Ex.refl _, g1.fh, h0 F1 H1 g1⟩ (fun n σ' H' _ p => by
    obtain ⟨F', e1, e2, p⟩ := p
    exact hG _ (e1.trans e2)) (fun n v σ' H' H2 hn p y => by
    obtain ⟨F', e1, e3, p⟩ := p
    obtain ⟨F2, d, hd, g2, hv⟩ := hY F' n H' v H2 hn e1 e3 y
    exact hs F1 g1.fx n σ' F' H' v d F2 H2 hd e1 e3 p g2 hv) (fun σ' H' p => by
    obtain ⟨F', e1, e2, p⟩ := p
    exact hd σ' F' H' (g1.fx.trans e1) e2 p)
theorem s_asgLQ {i : Nat} (h : ElQ K te σ F ds) (e : Ex F H) (k : ∀ p vs F' H', Gr F H F' H' → H p = none → F' p = none → H' p = some (.lst vs) → DqAll K F' vs ds → D.nx (σ.set i (some (.ref p))) H') : tAsg te (gName i) D σ H :=
  h H e _ fun p vs F' H' g h1 h2 h3 h4 => k p vs F' H' g h1 h2 h3 h4
end
end Dv

set_option Elab.async false
set_option linter.all false
set_option maxRecDepth 100000
set_option maxHeartbeats 4000000
/-! zip(a, d.values(), strict=True) of a list and a locked dict of the same length: the second iterator as Draws. -/
namespace PySem
namespace ZV
open Sem (wp)
open ZS
section
variable {prog : Program} {w : World} {A : Around} {E : Value → Shared → Prop} {s : Shared}
theorem nextOf_val_item {it d : Addr} {i n ep : Nat} {od : Obj} {es : Array DictEntry} {en : DictEntry} {Q : Value → Shared → Prop} (hit : s.heap.IsValIter it d i n ep) (hod : s.heap.get? d = some od) (hdd : od.data = .dict es ep)
    (hsz : es.size = n) (hx : es[i]? = some en) (hQ : ∀ h', h'.IsValIter it d (i + 1) n ep → Heap.SameBut it s.heap h' → Q en.val { s with heap := h' }) : wpAny (model prog w) A (Builtin.SmallTypes.nextOf (.ref it)) Q E s := by
  obtain ⟨o, ho, hc, hd⟩ := id hit
  unfold Builtin.SmallTypes.nextOf
  refine wpAny_bind (wpAny_callSpecial?_slot (name := Str.ofString "__next__") hit.typeIs F.slot_dict_valueiterator_next
    (wpAny_call_entry F.slot_dict_valueiterator_next hit.typeIs F.entry_dict_valueiterator_next ?_ (F.args_dict_valueiterator_next_1 _)))
  refine wpAny_bind (wpAny_pure ?_)
  refine wpAny_bind ?_
  refine wpAny_bind ?_
  first | refine wpAny_bind (wpAny_typeNameOfWhole_valiter hit.typeIs (wpAny_pure ?_)) | refine wpAny_bind (wpAny_typeNameOf_valiter hit.typeIs (wpAny_pure ?_))
  refine wpAny_bind (wpAny_fieldsOf ho hd ?_)
  have hown : Builtin.Dict_items.ownsTuple "dict_valueiterator" = false := by decide
  simp only [hown, Bool.false_eq_true, if_false]
  show wpAny _ _ (if (Value.ref d == Value.none) = true then _ else _) _ _ s
  rw [if_neg (show ¬ ((Value.ref d == Value.none) = true) from Bool.false_ne_true)]
  refine wpAny_bind (wpAny_pure ?_)
  refine wpAny_bind (wpAny_dictEntries hod hdd ?_)
  rw [if_neg (by rw [hsz]; simp)]
  refine wpAny_bind (wpAny_pure ?_)
  refine wpAny_bind (wpAny_dictEpoch hod hdd ?_)
  rw [if_neg (by simp)]
  refine wpAny_pure ?_
  obtain ⟨hlt', hen⟩ := Array.getElem?_eq_some_iff.mp hx
  simp only [show ¬ ((i : Int) < 0) from by omega, if_false, Int.toNat_natCast, Array.getElem?_eq_getElem hlt']
  refine wpAny_bind ?_
  first | refine wpAny_bind (wpAny_typeNameOfWhole_valiter hit.typeIs (wpAny_pure ?_)) | refine wpAny_bind (wpAny_typeNameOf_valiter hit.typeIs (wpAny_pure ?_))
  refine wpAny_bind (wpAny_isOneOf_valiter hit.typeIs ?_)
  show wpAny _ _ (setField (.ref it) 1 (rawInt ((i : Int) + 1)) >>= _) _ _ s
  refine wpAny_bind (wpAny_setField ho hd (by simp) ?_)
  have hit' : (s.heap.update it (Obj.mapFields (·.setIfInBounds 1 (rawInt ((i : Int) + 1))))).IsValIter it d (i + 1) n ep :=
    ⟨_, Heap.get?_update_self _ ho (Obj.isFreed_of_fields (Obj.data_mapFields hd _)), (Obj.cls_mapFields ..).trans hc, by rw [Obj.data_mapFields hd]; simp [rawInt]⟩
  refine wpAny_bind (wpAny_holding ?_)
  refine wpAny_bind (wpAny_isOneOf_valiter (s := { s with heap := s.heap.update it (Obj.mapFields (·.setIfInBounds 1 (rawInt ((i : Int) + 1)))) }) hit'.typeIs ?_)
  refine wpAny_bind (wpAny_isOneOf_valiter (s := { s with heap := s.heap.update it (Obj.mapFields (·.setIfInBounds 1 (rawInt ((i : Int) + 1)))) }) hit'.typeIs ?_)
  show wpAny _ _ (pure es[i].val) _ _ _
  rw [hen]
  exact wpAny_pure (wpAny_pure ⟨_, rfl, wpAny_pure (hQ _ hit' (Heap.SameBut.update ..))⟩)
theorem nextOf_val_end {it d : Addr} {i n ep : Nat} {od : Obj} {es : Array DictEntry} {Q : Value → Shared → Prop} (hh : A.handled = none) (hit : s.heap.IsValIter it d i n ep) (hod : s.heap.get? d = some od) (hdd : od.data = .dict es ep)
    (hsz : es.size = n) (hge : n ≤ i) (hE : ∀ h' e, Heap.ExtBut it s.heap h' → (∃ o, h'.get? e = some o ∧ o.cls = .type "StopIteration") → E (.ref e) { s with heap := h' }) : wpAny (model prog w) A (Builtin.SmallTypes.nextOf (.ref it)) Q E s := by
  obtain ⟨o, ho, hc, hd⟩ := id hit
  unfold Builtin.SmallTypes.nextOf
  refine wpAny_bind (wpAny_callSpecial?_slot (name := Str.ofString "__next__") hit.typeIs F.slot_dict_valueiterator_next
    (wpAny_call_entry F.slot_dict_valueiterator_next hit.typeIs F.entry_dict_valueiterator_next ?_ (F.args_dict_valueiterator_next_1 _)))
  refine wpAny_bind (wpAny_pure ?_)
  refine wpAny_bind ?_
  refine wpAny_bind ?_
  first | refine wpAny_bind (wpAny_typeNameOfWhole_valiter hit.typeIs (wpAny_pure ?_)) | refine wpAny_bind (wpAny_typeNameOf_valiter hit.typeIs (wpAny_pure ?_))
  refine wpAny_bind (wpAny_fieldsOf ho hd ?_)
  have hown : Builtin.Dict_items.ownsTuple "dict_valueiterator" = false := by decide
  simp only [hown, Bool.false_eq_true, if_false]
  show wpAny _ _ (if (Value.ref d == Value.none) = true then _ else _) _ _ s
  rw [if_neg (show ¬ ((Value.ref d == Value.none) = true) from Bool.false_ne_true)]
  refine wpAny_bind (wpAny_pure ?_)
  refine wpAny_bind (wpAny_dictEntries hod hdd ?_)
  rw [if_neg (by rw [hsz]; simp)]
  refine wpAny_bind (wpAny_pure ?_)
  refine wpAny_bind (wpAny_dictEpoch hod hdd ?_)
  rw [if_neg (by simp)]
  refine wpAny_pure ?_
  have hge' : es.size ≤ i := by rw [hsz]; exact hge
  simp only [show ¬ ((i : Int) < 0) from by omega, if_false, Int.toNat_natCast, Array.getElem?_eq_none hge']
  refine wpAny_bind ?_
  first | refine wpAny_bind (wpAny_typeNameOfWhole_valiter hit.typeIs (wpAny_pure ?_)) | refine wpAny_bind (wpAny_typeNameOf_valiter hit.typeIs (wpAny_pure ?_))
  show wpAny _ _ (setField (.ref it) 0 .none >>= _) _ _ s
  refine wpAny_bind (wpAny_setField ho hd (by simp) ?_)
  show wpAny _ _ (newExc (.type "StopIteration") [] >>= _) _ _ _
  refine wpAny_bind ?_
  simp only [newExc, newTuple]
  refine wpAny_bind (wpAny_newObj_type ?_ (by size_fits))
  refine wpAny_bind (m := firstArgMember _ _) (wpAny_of_eq (a := Value.none) (by first | rfl | (simp only [firstArgMember]; rfl)) ?_)
  refine wpAny_newObj_type ?_ (by size_fits)
  simp only [raiseNew]
  refine wpAny_bind (wpAny_handled ?_)
  rw [show A.in1.handled = none from hh]
  refine wpAny_bind (wpAny_pure (wpAny_throw ?_))
  exact hE _ _ (((Heap.SameBut.update ..).extBut.push _).push _) ⟨_, Heap.get?_push_size _ rfl, rfl⟩
end
def _root_.PySem.Heap.IsAt (h : Heap) (a : Addr) (od : Obj) : Prop := h.get? a = some od
theorem _root_.PySem.Heap.IsAt.extBut {h h' : Heap} {a c : Addr} {od : Obj} (x : h.IsAt a od) (e : Heap.ExtBut c h h') (hn : a ≠ c) : h'.IsAt a od := e a od hn x
theorem _root_.PySem.Heap.IsAt.at {h h' : Heap} {a : Addr} {od : Obj} (x : h.IsAt a od) (e : ∀ o, h.get? a = some o → h'.get? a = some o) : h'.IsAt a od := e od x
section
variable {prog : Program} {w : World} {A : Around} {E : Value → Shared → Prop} {s : Shared}
theorem nextOrEndV_item {it d : Addr} {i n ep : Nat} {od : Obj} {es : Array DictEntry} {en : DictEntry} {Q : Option Value → Shared → Prop} (hit : s.heap.IsValIter it d i n ep) (hod : s.heap.IsAt d od) (hdd : od.data = .dict es ep)
    (hsz : es.size = n) (hx : es[i]? = some en) (hQ : ∀ h', h'.IsValIter it d (i + 1) n ep → Heap.SameBut it s.heap h' → Q (some en.val) { s with heap := h' }) :
    wpAny (model prog w) A (Builtin.SmallTypes.nextOrEnd (.ref it)) Q E s := by
  unfold Builtin.SmallTypes.nextOrEnd
  refine wpAny_bind (wpAny_attempt ?_)
  exact nextOf_val_item hit hod hdd hsz hx fun h' a b => wpAny_pure (hQ h' a b)
theorem nextOrEndV_end {it d : Addr} {i n ep : Nat} {od : Obj} {es : Array DictEntry} {Q : Option Value → Shared → Prop} (hh : A.handled = none)
    (hit : s.heap.IsValIter it d i n ep) (hod : s.heap.IsAt d od) (hdd : od.data = .dict es ep) (hsz : es.size = n) (hge : n ≤ i)
    (hQ : ∀ h', Heap.ExtBut it s.heap h' → Q none { s with heap := h' }) :
    wpAny (model prog w) A (Builtin.SmallTypes.nextOrEnd (.ref it)) Q E s := by
  unfold Builtin.SmallTypes.nextOrEnd
  refine wpAny_bind (wpAny_attempt ?_)
  refine nextOf_val_end hh hit hod hdd hsz hge fun h' e hk he => ?_
  obtain ⟨o, ho, hc⟩ := he
  refine wpAny_bind (wpAny_isInstance (T := "StopIteration") (b := true) ⟨o, ho, hc⟩ isSubtype_stop ?_)
  exact wpAny_pure (hQ _ hk)
theorem next_item {z TI TO i1 i2 l1 l2 : Addr} {k1 k2 : Nat} {xs : Array Value} {n ep : Nat} {od : Obj} {es : Array DictEntry} {en : DictEntry} {x a b : Value} {Q : Value → Shared → Prop} (D : ZipApart z TI TO i1 i2 l1 l2)
    (hz : IsZipS s.heap z TI TO .none) (hTI : IsPair s.heap TI (.ref i1) (.ref i2)) (hTO : IsPair s.heap TO a b)
    (h1 : s.heap.IsListIter i1 l1 k1) (h2 : s.heap.IsValIter i2 l2 k2 n ep) (hl1 : s.heap.IsList l1 xs) (hl2 : s.heap.IsAt l2 od) (hx : xs[k1]? = some x) (hy : es[k2]? = some en) (hdd : od.data = .dict es ep) (hsz : es.size = n)
    (hQ : ∀ h', IsZipS h' z TI TO (rawInt s.heap.objs.size) → IsPair h' TO x en.val → h'.IsListIter i1 l1 (k1 + 1) → h'.IsValIter i2 l2 (k2 + 1) n ep → IsPair h' s.heap.objs.size x en.val → h'.objs.size = s.heap.objs.size + 1 →
      (∀ c o, c ≠ z → c ≠ TO → c ≠ i1 → c ≠ i2 → s.heap.get? c = some o → h'.get? c = some o) → Q (.ref s.heap.objs.size) { s with heap := h' }) :
    wpAny (model prog w) A (Builtin.«zip.__next__» ⟨[.ref z], []⟩) (fun fin s' => ∃ v, fin = .done (.ret v) ∧ Q v s') E s := by
  show wpAny _ _ (field (.ref z) 2 >>= _) _ _ _
  refine wpAny_bind (wpAny_field hz rfl (x := .bool true) rfl ?_)
  show wpAny _ _ (field (.ref z) 3 >>= _) _ _ _
  refine wpAny_bind (wpAny_field hz rfl (x := .ref TI) rfl ?_)
  refine wpAny_bind (wpAny_seqItems hTI rfl ?_)
  show wpAny _ _ (Builtin.SmallTypes.ownedTupleIsFree (.ref z) >>= _) _ _ _
  refine wpAny_bind ?_
  unfold Builtin.SmallTypes.ownedTupleIsFree
  refine wpAny_bind (wpAny_field hz rfl (x := .none) rfl (wpAny_pure ?_))
  simp only [if_true]
  refine wpAny_bind (wpAny_rule ?_)
  refine wpAny_bind (wpAny_field hz rfl (x := .ref TO) rfl ?_)
  refine wpAny_bind (wpAny_setField_rec hz (by simp) fun h₁ hz₁ hs₁ => ?_)
  replace hz₁ : IsZipS h₁ z TI TO .ellipsis := hz₁
  refine wpAny_bind ?_
  simp only [List.zipIdx_cons, List.zipIdx_nil, List.forIn_cons, List.forIn_nil]
  refine wpAny_bind (wpAny_bind (wpAny_onRaise ?_))
  show wpAny _ _ (Builtin.SmallTypes.nextOrEnd (.ref i1)) _ _ _
  refine nextOrEnd_item (h1.extBut hs₁.extBut D.i1z) (hl1.extBut hs₁.extBut D.l1z) hx fun h₂ h1₂ hs₂ => ?_
  have hTO₂ : IsPair h₂ TO a b := hs₂.extBut _ _ D.TOi1 (hs₁.extBut _ _ D.TOz hTO)
  refine wpAny_bind (wpAny_seqItems hTO₂ rfl ?_)
  refine wpAny_bind (wpAny_updateSeq_pair hTO₂ fun h₃ hTO₃ hs₃ => ?_)
  replace hTO₃ : IsPair h₃ TO x b := hTO₃
  refine wpAny_bind (wpAny_letGo (wpAny_pure ?_))
  refine wpAny_bind (wpAny_bind (wpAny_onRaise ?_))
  show wpAny _ _ (Builtin.SmallTypes.nextOrEnd (.ref i2)) _ _ _
  refine nextOrEndV_item (((h2.extBut hs₁.extBut D.i2z).extBut hs₂.extBut D.i12.symm).extBut hs₃.extBut D.TOi2.symm)
    (((hl2.extBut hs₁.extBut D.l2z).extBut hs₂.extBut D.l2i1).extBut hs₃.extBut D.l2TO) hdd hsz hy fun h₄ h2₄ hs₄ => ?_
  have hTO₄ : IsPair h₄ TO x b := hs₄.extBut _ _ D.TOi2 hTO₃
  refine wpAny_bind (wpAny_seqItems hTO₄ rfl ?_)
  refine wpAny_bind (wpAny_updateSeq_pair hTO₄ fun h₅ hTO₅ hs₅ => ?_)
  replace hTO₅ : IsPair h₅ TO x en.val := hTO₅
  refine wpAny_bind (wpAny_letGo (wpAny_pure (wpAny_pure ?_)))
  refine wpAny_bind (wpAny_seqItems hTO₅ rfl ?_)
  refine wpAny_bind (wpAny_newTuple ?_)
  have hsz5 : h₅.objs.size = s.heap.objs.size := by rw [hs₅.1, hs₄.1, hs₃.1, hs₂.1, hs₁.1]
  have hz₅ : IsZipS h₅ z TI TO .ellipsis := hs₅.extBut _ _ D.TOz.symm (hs₄.extBut _ _ D.i2z.symm (hs₃.extBut _ _ D.TOz.symm (hs₂.extBut _ _ D.i1z.symm hz₁)))
  have hk₅ : ∀ c o, c ≠ z → c ≠ TO → c ≠ i1 → c ≠ i2 → s.heap.get? c = some o → h₅.get? c = some o := fun c o c1 c2 c3 c4 e =>
    hs₅.extBut _ _ c2 (hs₄.extBut _ _ c4 (hs₃.extBut _ _ c2 (hs₂.extBut _ _ c3 (hs₁.extBut _ _ c1 e))))
  have h1₅ : h₅.IsListIter i1 l1 (k1 + 1) := ((h1₂.extBut hs₃.extBut D.TOi1.symm).extBut hs₄.extBut D.i12).extBut hs₅.extBut D.TOi1.symm
  have h2₅ : h₅.IsValIter i2 l2 (k2 + 1) n ep := h2₄.extBut hs₅.extBut D.TOi2.symm
  have hzlt : z < h₅.objs.size := Heap.lt_size hz₅
  have hTOlt : TO < h₅.objs.size := Heap.lt_size hTO₅
  have hi1lt : i1 < h₅.objs.size := by obtain ⟨_, e, _⟩ := h1₅; exact Heap.lt_size e
  have hi2lt : i2 < h₅.objs.size := by obtain ⟨_, e, _⟩ := h2₅; exact Heap.lt_size e
  show wpAny _ _ (Builtin.SmallTypes.ownedTupleHandOut (.ref z) (.ref h₅.objs.size) >>= _) _ _ _
  refine wpAny_bind ?_
  unfold Builtin.SmallTypes.ownedTupleHandOut
  have hz₆ : IsZipS (h₅.push { cls := .type "tuple", data := .seq #[x, en.val] }) z TI TO .ellipsis := Heap.get?_push_of_some _ hz₅
  refine wpAny_bind (wpAny_setField_rec hz₆ (by simp) fun h₇ hz₇ hs₇ => ?_)
  replace hz₇ : IsZipS h₇ z TI TO (rawInt h₅.objs.size) := hz₇
  refine wpAny_setField_rec hz₇ (by simp) fun h₈ hz₈ hs₈ => ?_
  replace hz₈ : IsZipS h₈ z TI TO (rawInt h₅.objs.size) := hz₈
  have up : ∀ c o, c ≠ z → h₅.get? c = some o → h₈.get? c = some o := fun c o c1 e => hs₈.extBut _ _ c1 (hs₇.extBut _ _ c1 (Heap.get?_push_of_some _ e))
  have hT₈ : IsPair h₈ h₅.objs.size x en.val := hs₈.extBut _ _ (Nat.ne_of_gt hzlt) (hs₇.extBut _ _ (Nat.ne_of_gt hzlt) (Heap.get?_push_size _ rfl))
  have hz8 : h₈.objs.size = h₅.objs.size + 1 := by rw [hs₈.1, hs₇.1, Heap.size_push]
  rw [hsz5] at hz₈ hT₈ hz8
  refine wpAny_pure ⟨_, rfl, ?_⟩
  show Q (.ref h₅.objs.size) _
  rw [hsz5]
  exact hQ h₈ hz₈ (up _ _ D.TOz hTO₅) (h1₅.at fun o e => up _ o D.i1z e) (h2₅.at fun o e => up _ o D.i2z e) hT₈ hz8 fun c o c1 c2 c3 c4 e => up c o c1 (hk₅ c o c1 c2 c3 c4 e)

theorem next_end {z TI TO i1 i2 l1 l2 : Addr} {k1 k2 : Nat} {xs : Array Value} {n ep : Nat} {od : Obj} {es : Array DictEntry} {a b : Value} {Q : Fin → Shared → Prop} (hh : A.handled = none) (D : ZipApart z TI TO i1 i2 l1 l2)
    (hz : IsZipS s.heap z TI TO .none) (hTI : IsPair s.heap TI (.ref i1) (.ref i2)) (hTO : IsPair s.heap TO a b)
    (h1 : s.heap.IsListIter i1 l1 k1) (h2 : s.heap.IsValIter i2 l2 k2 n ep) (hl1 : s.heap.IsList l1 xs) (hl2 : s.heap.IsAt l2 od) (hx : xs[k1]? = none) (hy : n ≤ k2) (hdd : od.data = .dict es ep) (hsz : es.size = n)
    (hE : ∀ h' e, (∀ c o, c ≠ z → c ≠ TO → c ≠ i1 → c ≠ i2 → s.heap.get? c = some o → h'.get? c = some o) → (∃ o, h'.get? e = some o ∧ o.cls = .type "StopIteration") → E (.ref e) { s with heap := h' }) :
    wpAny (model prog w) A (Builtin.«zip.__next__» ⟨[.ref z], []⟩) Q E s := by
  show wpAny _ _ (field (.ref z) 2 >>= _) _ _ _
  refine wpAny_bind (wpAny_field hz rfl (x := .bool true) rfl ?_)
  show wpAny _ _ (field (.ref z) 3 >>= _) _ _ _
  refine wpAny_bind (wpAny_field hz rfl (x := .ref TI) rfl ?_)
  refine wpAny_bind (wpAny_seqItems hTI rfl ?_)
  show wpAny _ _ (Builtin.SmallTypes.ownedTupleIsFree (.ref z) >>= _) _ _ _
  refine wpAny_bind ?_
  unfold Builtin.SmallTypes.ownedTupleIsFree
  refine wpAny_bind (wpAny_field hz rfl (x := .none) rfl (wpAny_pure ?_))
  simp only [if_true]
  refine wpAny_bind (wpAny_rule ?_)
  refine wpAny_bind (wpAny_field hz rfl (x := .ref TO) rfl ?_)
  refine wpAny_bind (wpAny_setField_rec hz (by simp) fun h₁ hz₁ hs₁ => ?_)
  replace hz₁ : IsZipS h₁ z TI TO .ellipsis := hz₁
  refine wpAny_bind ?_
  simp only [List.zipIdx_cons, List.zipIdx_nil, List.forIn_cons, List.forIn_nil]
  refine wpAny_bind (wpAny_bind (wpAny_onRaise ?_))
  show wpAny _ _ (Builtin.SmallTypes.nextOrEnd (.ref i1)) _ _ _
  refine nextOrEnd_end hh (h1.extBut hs₁.extBut D.i1z) (hl1.extBut hs₁.extBut D.l1z) hx fun h₂ hs₂ => ?_
  have hz₂ : IsZipS h₂ z TI TO .ellipsis := hs₂ _ _ D.i1z.symm hz₁
  refine wpAny_bind (wpAny_setField_rec hz₂ (by simp) fun h₃ hz₃ hs₃ => ?_)
  have k₃ : ∀ c o, c ≠ z → c ≠ i1 → s.heap.get? c = some o → h₃.get? c = some o := fun c o c1 c3 x => hs₃.extBut _ _ c1 (hs₂ _ _ c3 (hs₁.extBut _ _ c1 x))
  have hi2z : h₃.IsValIter i2 l2 k2 n ep := h2.at fun o q => k₃ _ o D.i2z D.i12.symm q
  have hl2z : h₃.IsAt l2 od := hl2.at fun o q => k₃ _ o D.l2z D.l2i1 q
  refine wpAny_bind ?_
  refine wpAny_bind ?_
  simp only [List.drop_succ_cons, List.drop_zero, List.zipIdx_cons, List.zipIdx_nil]
  simp only [List.forIn_cons, List.forIn_nil]
  refine wpAny_bind (wpAny_bind ?_)
  refine nextOrEndV_end hh hi2z hl2z hdd hsz hy fun h₄ hs₄ => ?_
  refine wpAny_pure ?_
  refine wpAny_pure ?_
  refine wpAny_bind (wpAny_rule ?_)
  refine stop_it hh fun h₅ e k₅ he => ?_
  exact hE h₅ e (fun c o c1 _ c3 c4 x => k₅ _ _ (hs₄ _ _ c4 (k₃ _ _ c1 c3 x))) he
theorem pyNext_item {z TI TO i1 i2 l1 l2 : Addr} {k1 k2 : Nat} {xs : Array Value} {n ep : Nat} {od : Obj} {es : Array DictEntry} {en : DictEntry} {x a b : Value} {Q : Option Value → Shared → Prop} (D : ZipApart z TI TO i1 i2 l1 l2)
    (hz : IsZipS s.heap z TI TO .none) (hTI : IsPair s.heap TI (.ref i1) (.ref i2)) (hTO : IsPair s.heap TO a b)
    (h1 : s.heap.IsListIter i1 l1 k1) (h2 : s.heap.IsValIter i2 l2 k2 n ep) (hl1 : s.heap.IsList l1 xs) (hl2 : s.heap.IsAt l2 od) (hx : xs[k1]? = some x) (hy : es[k2]? = some en) (hdd : od.data = .dict es ep) (hsz : es.size = n)
    (hQ : ∀ h', IsZipS h' z TI TO (rawInt s.heap.objs.size) → IsPair h' TO x en.val → h'.IsListIter i1 l1 (k1 + 1) → h'.IsValIter i2 l2 (k2 + 1) n ep → IsPair h' s.heap.objs.size x en.val → h'.objs.size = s.heap.objs.size + 1 →
      (∀ c o, c ≠ z → c ≠ TO → c ≠ i1 → c ≠ i2 → s.heap.get? c = some o → h'.get? c = some o) → Q (some (.ref s.heap.objs.size)) { s with heap := h' }) :
    wpAny (model prog w) A (pyNext (.ref z)) Q E s := by
  have hT : s.TypeIs (.ref z) "zip" := ⟨_, hz, rfl⟩
  unfold pyNext
  exact wpAny_bind (wpAny_attempt (wpAny_callSpecial?_slot (name := Str.ofString "__next__") hT F.slot_zip_next
    (wpAny_call_entry F.slot_zip_next hT F.entry_zip_next
      (next_item D hz hTI hTO h1 h2 hl1 hl2 hx hy hdd hsz fun h' a1 a2 a3 a4 a5 a6 a7 => wpAny_pure (hQ h' a1 a2 a3 a4 a5 a6 a7)) (F.args_zip_next_1 _))))
theorem pyNext_end {z TI TO i1 i2 l1 l2 : Addr} {k1 k2 : Nat} {xs : Array Value} {n ep : Nat} {od : Obj} {es : Array DictEntry} {a b : Value} {Q : Option Value → Shared → Prop} (hh : A.handled = none) (D : ZipApart z TI TO i1 i2 l1 l2)
    (hz : IsZipS s.heap z TI TO .none) (hTI : IsPair s.heap TI (.ref i1) (.ref i2)) (hTO : IsPair s.heap TO a b)
    (h1 : s.heap.IsListIter i1 l1 k1) (h2 : s.heap.IsValIter i2 l2 k2 n ep) (hl1 : s.heap.IsList l1 xs) (hl2 : s.heap.IsAt l2 od) (hx : xs[k1]? = none) (hy : n ≤ k2) (hdd : od.data = .dict es ep) (hsz : es.size = n)
    (hQ : ∀ h', (∀ c o, c ≠ z → c ≠ TO → c ≠ i1 → c ≠ i2 → s.heap.get? c = some o → h'.get? c = some o) → Q none { s with heap := h' }) : wpAny (model prog w) A (pyNext (.ref z)) Q E s := by
  have hT : s.TypeIs (.ref z) "zip" := ⟨_, hz, rfl⟩
  unfold pyNext
  refine wpAny_bind (wpAny_attempt (wpAny_callSpecial?_slot (name := Str.ofString "__next__") hT F.slot_zip_next
    (wpAny_call_entry F.slot_zip_next hT F.entry_zip_next (next_end hh D hz hTI hTO h1 h2 hl1 hl2 hx hy hdd hsz fun h' e hk he => ?_) (F.args_zip_next_1 _))))
  obtain ⟨o, ho, hc⟩ := he
  refine wpAny_bind (wpAny_isInstance (T := "StopIteration") (b := true) ⟨o, ho, hc⟩ isSubtype_stop ?_)
  exact wpAny_pure (hQ _ hk)
end
end ZV
end PySem

set_option Elab.async false
set_option linter.all false
set_option maxRecDepth 100000
set_option maxHeartbeats 4000000
namespace PySem
namespace ZV
open ZS
abbrev vI2 (d : Addr) (n ep : Nat) : Obj := { cls := .type "dict_valueiterator", data := .fields #[.ref d, .int 0 0, .int n 0, .int ep 0] }
abbrev vH1 (h : Heap) (l1 : Addr) : Heap := h.push { cls := .type "list_iterator", data := .fields #[.ref l1, .int 0 0] }
abbrev vH2 (h : Heap) (l1 d : Addr) (n ep : Nat) : Heap := (vH1 h l1).push (vI2 d n ep)
abbrev vH3 (h : Heap) (l1 d : Addr) (n ep : Nat) : Heap := (vH2 h l1 d n ep).push { cls := .type "tuple", data := .seq #[.ref h.objs.size, .ref (vH1 h l1).objs.size] }
abbrev vH4 (h : Heap) (l1 d : Addr) (n ep : Nat) : Heap := (vH3 h l1 d n ep).push { cls := .type "tuple", data := .seq #[.none, .none] }
abbrev vH5 (h : Heap) (l1 d : Addr) (n ep : Nat) : Heap := (vH4 h l1 d n ep).push { cls := .type "zip", data := .fields #[.none, .bool false, .bool true, .ref (vH2 h l1 d n ep).objs.size, .ref (vH3 h l1 d n ep).objs.size] }
theorem meets_newV (l1 v d : Addr) (xs : Array Value) (es : Array DictEntry) (ep : Nat) :
    Meets (Builtin.«zip.__new__» ⟨[.type "zip", .ref l1, .ref v], kwS⟩) (fun _ R s => (s.heap.IsList l1 xs ∧ s.heap.IsValuesView v d ∧ s.heap.DictRaw d es ep) ∧
      R (.ok (.ret (.ref (vH4 s.heap l1 d es.size ep).objs.size))) { s with heap := vH5 s.heap l1 d es.size ep }) :=
  .of_wp fun prog w A R s h => by
    obtain ⟨hp, g, dd, tk, os⟩ := s; obtain ⟨⟨hl1, hv, hm⟩, h⟩ := h
    have hsub := sub_zip
    have hL1 : Heap.IsList (Shared.heap ⟨hp, g, dd, tk, os⟩) l1 xs := hl1
    have hV : Heap.IsValuesView (Shared.heap ⟨vH1 hp l1, g, dd, tk, os⟩) v d := let ⟨o, ho, r⟩ := hv; ⟨o, Heap.get?_push_of_some _ ho, r⟩
    have hM : Heap.DictRaw (Shared.heap ⟨vH1 hp l1, g, dd, tk, os⟩) d es ep := let ⟨o, ho, r⟩ := hm; ⟨o, Heap.get?_push_of_some _ ho, r⟩
    wp_walk using wpAny_pyIter_list hL1, wpAny_pyIter_values_raw hV hM
    exact ⟨_, rfl, h⟩
end ZV
end PySem

set_option Elab.async false
set_option linter.all false
set_option maxRecDepth 100000
set_option maxHeartbeats 4000000
namespace PySem
namespace ZV
open ZS
section
variable {prog : Program} {w : World} {A : Around} {E : Value → Shared → Prop} {s : Shared}
theorem call_zipV {l1 v d : Addr} {xs : Array Value} {es : Array DictEntry} {ep : Nat} {Q : Value → Shared → Prop} (hl1 : s.heap.IsList l1 xs) (hv : s.heap.IsValuesView v d) (hm : s.heap.DictRaw d es ep)
    (h : ∀ h', IsZipS h' (s.heap.objs.size + 4) (s.heap.objs.size + 2) (s.heap.objs.size + 3) .none → IsPair h' (s.heap.objs.size + 2) (.ref s.heap.objs.size) (.ref (s.heap.objs.size + 1)) →
      IsPair h' (s.heap.objs.size + 3) .none .none → h'.IsListIter s.heap.objs.size l1 0 → h'.IsValIter (s.heap.objs.size + 1) d 0 es.size ep → h'.objs.size = s.heap.objs.size + 5 →
      (∀ c o, s.heap.get? c = some o → h'.get? c = some o) → Q (.ref (s.heap.objs.size + 4)) { s with heap := h' }) :
    wpAny (model prog w) A (call (.type "zip") [.ref l1, .ref v] kwS) Q E s := by
  refine ZS.callType_meets F.called_zip (typeCall_zip (.ref l1) (.ref v)) (newCall_zip (.ref l1) (.ref v)) F.entry_zip_new F.entry_object_init (meets_newV l1 v d xs es ep) (Q₁ := fun obj s₁ => s₁.TypeIs obj "zip" ∧ Q obj s₁) ⟨⟨hl1, hv, hm⟩, ?_⟩ fun obj _ hq =>
    ⟨hq.1, ZS.args_init obj _ _, _, ZS.object_init_meets F.called_zip.init.lookup F.called_zip.made (by decide), hq.1, rfl, hq.2⟩
  have z1 : (vH1 s.heap l1).objs.size = s.heap.objs.size + 1 := Heap.size_push ..
  have z2 : (vH2 s.heap l1 d es.size ep).objs.size = s.heap.objs.size + 2 := by rw [Heap.size_push, z1]
  have z3 : (vH3 s.heap l1 d es.size ep).objs.size = s.heap.objs.size + 3 := by rw [Heap.size_push, z2]
  have z4 : (vH4 s.heap l1 d es.size ep).objs.size = s.heap.objs.size + 4 := by rw [Heap.size_push, z3]
  have z5 : (vH5 s.heap l1 d es.size ep).objs.size = s.heap.objs.size + 5 := by rw [Heap.size_push, z4]
  have g5 : (vH5 s.heap l1 d es.size ep).get? (vH4 s.heap l1 d es.size ep).objs.size = some _ := Heap.get?_push_size _ rfl
  have g4 : (vH5 s.heap l1 d es.size ep).get? (vH3 s.heap l1 d es.size ep).objs.size = some _ := Heap.get?_push_of_some _ (Heap.get?_push_size _ rfl)
  have g3 : (vH5 s.heap l1 d es.size ep).get? (vH2 s.heap l1 d es.size ep).objs.size = some _ := Heap.get?_push_of_some _ (Heap.get?_push_of_some _ (Heap.get?_push_size _ rfl))
  have g2 : (vH5 s.heap l1 d es.size ep).get? (vH1 s.heap l1).objs.size = some _ := Heap.get?_push_of_some _ (Heap.get?_push_of_some _ (Heap.get?_push_of_some _ (Heap.get?_push_size _ rfl)))
  have g1 : (vH5 s.heap l1 d es.size ep).get? s.heap.objs.size = some _ := Heap.get?_push_of_some _ (Heap.get?_push_of_some _ (Heap.get?_push_of_some _ (Heap.get?_push_of_some _ (Heap.get?_push_size _ rfl))))
  show _ ∧ _
  rw [z2, z3, z4] at g5
  rw [z1, z2] at g3
  rw [z3] at g4
  rw [z1] at g2
  rw [z4]
  exact ⟨⟨_, g5, rfl⟩, h _ g5 g3 g4 ⟨_, g1, rfl, rfl⟩ ⟨_, g2, rfl, rfl⟩ z5 fun c o x =>
    Heap.get?_push_of_some _ (Heap.get?_push_of_some _ (Heap.get?_push_of_some _ (Heap.get?_push_of_some _ (Heap.get?_push_of_some _ x))))⟩
end
end ZV
end PySem
namespace L2
open PySem PySem.Spec PyProof.Rows
/-- the list at a and the values of the locked dict d, of one length -/
def Itzv (K : PySem.W.Frag) (a d : Addr) (o : Obj) (kvs : List (Key × V)) : It :=
  ⟨fun i H => ∃ (xs : List V) (x : V), SqL K H a xs ∧ xs[i]? = some x ∧ H d = some (.frz o (.dK kvs)) ∧ i < kvs.length,
    fun i H v H' => ∃ T x y, v = .ref T ∧ H T = none ∧ H' = upd H T (.tup [x, y]) ∧ (∀ xs, SqL K H a xs → xs[i]? = some x) ∧ ∃ k, kvs[i]? = some (k, y),
    fun i H => ∃ xs : List V, SqL K H a xs ∧ xs.length ≤ i ∧ H d = some (.frz o (.dK kvs)) ∧ kvs.length ≤ i⟩
theorem turn_zipV {P : Program} {w : World} {K : PySem.W.Frag} {elts : List Expr} {kk : Nat} {tpos : Pos} {a d z TI TO i1 i2 : Addr} {o : Obj} {kvs : List (Key × V)} {es : Array DictEntry} {ep : Nat} (D : ZipApart z TI TO i1 i2 a d) (hod : o.data = .dict es ep) (hsz : es.size = kvs.length) :
    Turn P w K (.Tuple elts kk tpos) (Itzv K a d o kvs) [z, TI, TO, i1, i2] z (fun i h => ZS.IsZipS h z TI TO .none ∧ IsPair h TI (.ref i1) (.ref i2) ∧ (∃ x y, IsPair h TO x y) ∧ h.IsListIter i1 a i ∧ h.IsValIter i2 d i kvs.length ep) where
  mem := by simp
  obj := fun i h st c hc => by
    obtain ⟨hz, hTI, ⟨x, y, hTO⟩, ⟨o1, e1, _, d1⟩, ⟨o2, e2, _, d2⟩⟩ := st
    have e' : c = z ∨ c = TI ∨ c = TO ∨ c = i1 ∨ c = i2 := by simpa using hc
    rcases e' with q | q | q | q | q
    · rw [q]; exact ⟨_, hz, fun v q => nomatch q⟩
    · rw [q]; exact ⟨_, hTI, fun v q => nomatch q⟩
    · rw [q]; exact ⟨_, hTO, fun v q => nomatch q⟩
    · rw [q]; exact ⟨o1, e1, fun v q => by rw [d1] at q; cases q⟩
    · rw [q]; exact ⟨o2, e2, fun v q => by rw [d2] at q; cases q⟩
  keep := fun i h h' st k => by
    obtain ⟨hz, hTI, ⟨x, y, hTO⟩, h1, h2⟩ := st
    exact ⟨k z (by simp) _ hz, k TI (by simp) _ hTI, ⟨x, y, k TO (by simp) _ hTO⟩, h1.at fun o q => k i1 (by simp) o q, h2.at fun o q => k i2 (by simp) o q⟩
  item := by
    intro X hP hw hK hc i pins s σ H E I hf st hg
    subst hP hw hK
    obtain ⟨hz, hTI, ⟨x0, y0, hTO⟩, h1, h2⟩ := st
    obtain ⟨xs, x, hqx, hx, hd, hi⟩ := hg
    obtain ⟨its, rv, p, _⟩ := I.list hqx
    obtain ⟨u, hu, ru⟩ := rv.get hx
    obtain ⟨hs, hgd, hxd, es', ep', vs, hdt, hsz', kv, hm⟩ := I.frzK hd
    obtain ⟨⟨k, y⟩, hkv⟩ : ∃ p, kvs[i]? = some p := ⟨kvs[i], List.getElem?_eq_getElem hi⟩
    obtain ⟨u2, hu2, ru2⟩ := kv_get kv hkv
    obtain ⟨en, hen, hev⟩ : ∃ en, es[i]? = some en ∧ en.val = u2 := by
      obtain ⟨od, es2, hod2, hcd, hdd, hk, hp, hn⟩ := id hm
      rw [hgd] at hod2
      cases hod2
      obtain ⟨q1, q2⟩ := dict_ep hod hdd
      subst q1
      have hlt : i < es2.size := by rw [hsz]; exact hi
      exact ⟨es2[i], Array.getElem?_eq_getElem hlt, (hp.get? (e := es2[i]) (by simp [hlt]) hu2).2⟩
    subst hev
    have hzl : z < s.heap.objs.size := Heap.lt_size hz
    refine ZV.pyNext_item D hz hTI hTO h1 h2 p.isList hgd (x := u) (by simpa using hu) hen hod hsz fun h' z' TO' h1' h2' hT hsz2 hk => ?_
    refine ⟨_, rfl, ZS.letGo_zip (s := { s with heap := h' }) z' fun h'' z'' sb => ?_⟩
    have hT2 : h''.get? s.heap.objs.size = some { cls := .type "tuple", data := .seq #[u, en.val] } := (sb.2 _ (Nat.ne_of_gt hzl)).trans hT
    have new : ObjOk X.prog X.w (upd H s.heap.objs.size (.tup [x, y])) h'' s.heap.objs.size (.tup [x, y]) :=
      ⟨by show 2 ≤ sizeLine; decide, [u, en.val], .cons ru (.cons ru2 .nil), ⟨_, hT2, rfl, _, rfl⟩⟩
    have I1 : Inv X pins σ (upd H s.heap.objs.size (.tup [x, y])) { s with heap := h'' } :=
      I.turnedNew (t' := s.toks) (ch := [z, TI, TO, i1, i2]) (fun c o hb q => (sb.2 c (fun q' => hb (by simp [q']))).trans (hk c o (fun q' => hb (by simp [q'])) (fun q' => hb (by simp [q'])) (fun q' => hb (by simp [q'])) (fun q' => hb (by simp [q'])) q)) hf (Nat.le_refl _) new
    refine ⟨.ref s.heap.objs.size, _, I1, rfl, ⟨_, x, y, rfl, I.hok.fresh (Nat.le_refl _), rfl, fun l hl => by rw [I.list_inj hl hqx]; exact hx, k, hkv⟩, ⟨z'', ?_, ⟨u, en.val, ?_⟩, ?_, ?_⟩, fun c hcm => ?_⟩
    · exact (sb.2 _ D.TIz).trans (hk _ _ D.TIz D.TITO D.TIi1 D.TIi2 hTI)
    · exact (sb.2 _ D.TOz).trans TO'
    · exact h1'.at fun o q => (sb.2 _ D.i1z).trans q
    · exact h2'.at fun o q => (sb.2 _ D.i2z).trans q
    · have hlt : c < s.heap.objs.size := by
        have e' : c = z ∨ c = TI ∨ c = TO ∨ c = i1 ∨ c = i2 := by simpa using hcm
        rcases e' with q | q | q | q | q
        · rw [q]; exact hzl
        · rw [q]; exact Heap.lt_size hTI
        · rw [q]; exact Heap.lt_size hTO
        · rw [q]; obtain ⟨_, e1, _⟩ := h1; exact Heap.lt_size e1
        · rw [q]; obtain ⟨_, e2, _⟩ := h2; exact Heap.lt_size e2
      rw [upd_ne (Nat.ne_of_lt hlt)]
      exact (hf c hcm).1
  done := by
    intro X hP hw hK hc i pins s σ H E I hf st hg
    subst hP hw hK
    obtain ⟨hz, hTI, ⟨x0, y0, hTO⟩, h1, h2⟩ := st
    obtain ⟨xs, hqx, hend, hd, hend2⟩ := hg
    obtain ⟨its, rv, p, _⟩ := I.list hqx
    obtain ⟨hs, hgd, hxd, es', ep', vs, hdt, hsz', kv, hm⟩ := I.frzK hd
    have l1 := rv.length
    have e1 : its.toArray[i]? = none := by simp; omega
    exact ZV.pyNext_end (I.ok.hd hc) D hz hTI hTO h1 h2 p.isList hgd e1 hend2 hod hsz fun h' hk => ⟨rfl, I.turnedL (t' := s.toks) (ch := [z, TI, TO, i1, i2]) (fun c o hb q =>
      hk c o (fun q' => hb (by simp [q'])) (fun q' => hb (by simp [q'])) (fun q' => hb (by simp [q'])) (fun q' => hb (by simp [q'])) q) hf⟩
  self := fun A i s Q E st h => ZS.pyIter_zip st.1 h
/-- zip(xs, d.values(), strict=True), d locked -/
def iZipV (K : PySem.W.Frag) (te td : TE) : TI := fun σ H R => te σ H fun x H1 => td σ H1 fun y H2 => ∃ a d o xs kvs, x = .ref a ∧ y = .ref d ∧ SqL K H2 a xs ∧ H2 d = some (.frz o (.dK kvs)) ∧ R (Itzv K a d o kvs) H2
theorem pi_zipV {X : Cx} {e o : Expr} {te td : TE} {p pos tpos cp kp mpos apos : Pos} {elts : List Expr} {kk ck : Nat} (hg : Gl X "zip") (hm : X.mg "zip" = none) (he : PE X e te) (ho : PE X o td)
    (hbase : attributeBase o "values" X.env (eval o X.env) = eval o X.env := by rfl) (hline : (apos.endLine == mpos.line) = true := by rfl)
    (hs0 : starEach [e, .Call (.Attribute o "values" apos) [] [] mpos] X.env = [(false, eval e X.env), (false, eval (.Call (.Attribute o "values" apos) [] [] mpos) X.env)] := by rfl)
    (hs : backTo pos (starEach [e, .Call (.Attribute o "values" apos) [] [] mpos] X.env) = (false, eval e X.env) :: backTo pos (starEach [.Call (.Attribute o "values" apos) [] [] mpos] X.env) := by rfl) (hpl : (backTo pos (starEach [e, .Call (.Attribute o "values" apos) [] [] mpos] X.env)).any (·.1) = false := by rfl) :
    PI X (.Tuple elts kk tpos) (.Call (.Name "zip" p) [e, .Call (.Attribute o "values" apos) [] [] mpos] [⟨some "strict", .Constant (.bool true) ck cp, kp⟩] pos) (iZipV X.K te td) := by
  refine ⟨fun pins s σ H R I h => ?_⟩
  refine wpAny_Call_Name_kw (ld_blt I hg hm PyProof.Rows.boot_zip (ZS.callWith_kwT ?_ hs hpl))
  rw [hs]
  refine Calls.spliced_cons (thn (he.run pins s σ H _ I h) fun u s1 ⟨x, H1, I1, rx, q1⟩ => ?_)
  show wpAny _ _ (spliced [(false, eval (Expr.Call (.Attribute o "values" apos) [] [] mpos) X.env)]) _ _ s1
  refine Calls.spliced_cons (wpAny_Call_method0_late hbase hline (thn (ho.run pins s1 σ H1 _ I1 q1) fun u2 s2 ⟨y, H2, I2, ry, a, d, od, xs, kvs, ex, ey, hqx, hd, q⟩ => ?_))
  subst ex ey
  obtain rfl : u = Value.ref a := rx
  obtain rfl : u2 = Value.ref d := ry
  obtain ⟨hs2, hgd, hxd, es, ep, vs, hdt, hsz, kv, hmd⟩ := I2.frzK hd
  refine ⟨"dict", "dict.values", F.plainAttrs_dict, F.slot_dict_values, F.type_dict_values, ⟨od, hgd, hxd.1⟩, fun b e => ?_, Calls.callWith_builtin rfl (PySem.evalArgs_none ?_)⟩
  · cases e
    exact ⟨od, hgd, hxd.2.1⟩
  refine call_meetsIn F.slot_dict_values ⟨od, hgd, hxd.1⟩ F.entry_dict_values (F.args_dict_values_1 _) (meets_dict_values (mixKind X.prog X.w) d hs2) ⟨⟨vs, hmd.dictOf⟩, ?_⟩
  refine Calls.spliced_nil ?_
  refine PyProof.Rows.kws_cons ?_
  refine wpAny_pure (PyProof.Rows.kws_nil ?_)
  have I3 : Inv X pins σ H2 { s2 with heap := s2.heap.push { cls := .type "dict_values", data := .fields #[.ref d] } } := I2.kept (t' := s2.toks) fun b ob q => Heap.get?_push_of_some _ q
  obtain ⟨its, rv, p1, _⟩ := I3.list hqx
  have hl : es.size = kvs.length := hsz
  have hgd3 : (s2.heap.push { cls := .type "dict_values", data := .fields #[.ref d] }).get? d = some od := Heap.get?_push_of_some _ hgd
  have la := p1.lt
  have lb : d < (s2.heap.push { cls := .type "dict_values", data := .fields #[.ref d] }).objs.size := Heap.lt_size hgd3
  refine ZV.call_zipV (s := { s2 with heap := s2.heap.push { cls := .type "dict_values", data := .fields #[.ref d] } }) (es := es) (ep := ep) p1.isList ⟨_, Heap.get?_push_size _ rfl, rfl, rfl⟩ ⟨od, hgd3, hxd, hdt⟩ fun h' hz hTI hTO h1 h2 hsz2 hk => ZS.pyIter_zip hz ?_
  have I4 : Inv X pins σ H2 { s2 with heap := h' } := I3.kept (t' := s2.toks) hk
  refine ⟨_, [_, _, _, _, _], _, _, H2, rfl, I4, turn_zipV (PySem.W.ktu_apart _ a d la lb) hdt hl, ⟨hz, hTI, ⟨_, _, hTO⟩, h1, by rw [hl] at h2; exact h2⟩, fun c hcm => ?_, q⟩
  generalize hS : (s2.heap.push { cls := .type "dict_values", data := .fields #[.ref d] }).objs.size = S at *
  have e' : c = S + 4 ∨ c = S + 2 ∨ c = S + 3 ∨ c = S ∨ c = S + 1 := by simpa using hcm
  have hle : S ≤ c := by
    rcases e' with z | z | z | z | z
    · rw [z]; exact Nat.le_add_right _ _
    · rw [z]; exact Nat.le_add_right _ _
    · rw [z]; exact Nat.le_add_right _ _
    · rw [z]; exact Nat.le_refl _
    · rw [z]; exact Nat.le_add_right _ _
  rw [← hS] at hle
  exact I3.fpOk hle (I3.hok.fresh hle)
end L2

set_option Elab.async false
set_option linter.all false
set_option maxRecDepth 100000
set_option maxHeartbeats 4000000
namespace Dv
open PySem PySem.Spec PyProof.Rows L2 Evl
section
variable {K : PySem.W.Frag} {σ : L2.St} {F F1 H H1 : Hp} {te td : TE} {ds es : List PyData} {ad : Addr} {kvs : List (Key × V)} {o : Obj}
theorem walk_zipV {a d : Addr} {o : Obj} {kvs : List (Key × V)} {xs : List V} (hl : xs.length = kvs.length) : Walk (Itzv K a d o kvs) xs.length (fun H => SqL K H a xs ∧ H d = some (.frz o (.dK kvs))) (YPair (fun i => xs[i]?) (fun i => (kvs.map Prod.snd)[i]?)) :=
  ⟨fun i H hi q => ⟨xs, xs[i], q.1, List.getElem?_eq_getElem hi, q.2, by omega⟩, fun H q => ⟨xs, q.1, Nat.le_refl _, q.2, by omega⟩, fun i H x H' hi q y => by
    obtain ⟨T, x, y, rfl, hT, rfl, f1, k, f2⟩ := y
    exact ⟨T, x, y, rfl, hT, rfl, f1 xs q.1, by
      show (kvs.map Prod.snd)[i]? = some y
      rw [List.getElem?_map, f2] <;> rfl⟩⟩
/-- zip(xs, d.values(), strict=True), d locked -/
theorem it_zipV (h : EvD K te σ F (.list ds)) (ht : ∀ F1 H1, Ex F F1 → Ex F1 H1 → ∀ Q : VK, Q (.ref ad) H1 → td σ H1 Q) (hd : F ad = some (.frz o (.dK kvs))) (hv : DpAll K F (kvs.map Prod.snd) es) (hl : ds.length = es.length) :
    ItD K (iZipV K te td) σ F ((ds.zip es).map fun z => .tuple [z.1, z.2]) := fun H eH R q => h H eH _ fun v F1 H1 g1 hv1 => by
  cases hv1 with
  | lst hs hds =>
    rename_i a xs
    have l1 := dps_len hds
    have l2 := dps_len hv
    rw [List.length_map] at l2
    have hd1 := g1.fx _ _ hd
    refine ht F1 H1 g1.fx g1.fh _ ⟨a, ad, o, xs, kvs, rfl, rfl, ex_l g1.fh hs, g1.fh _ _ hd1, q _ F1 H1 g1 (pair_wd (walk_zipV (by omega)) (fun H e => ⟨ex_l e hs, e _ _ hd1⟩) hds (dps_ex g1.fx hv) (by omega))⟩
/-- a statement over a dict of F: within, the dict is locked -/
theorem s_lock {t : TS} {D : Ends} (hd : F ad = some (.dK kvs)) (e : Ex F H) (h : ∀ od, t ⟨fun σ' H' => H' ad = some (.frz od (.dK kvs)) ∧ D.nx σ' (upd H' ad (.dK kvs)), fun v H' => H' ad = some (.frz od (.dK kvs)) ∧ D.rt v (upd H' ad (.dK kvs)),
    fun σ' H' => H' ad = some (.frz od (.dK kvs)) ∧ D.bk σ' (upd H' ad (.dK kvs)), fun σ' H' => H' ad = some (.frz od (.dK kvs)) ∧ D.ct σ' (upd H' ad (.dK kvs))⟩ σ (upd H ad (.frz od (.dK kvs)))) : tLock t D σ H := ⟨ad, _, e _ _ hd, trivial, h⟩
end
end Dv

set_option Elab.async false
set_option linter.all false
set_option maxRecDepth 100000
set_option maxHeartbeats 4000000
namespace Dv
open PySem PySem.Spec PyProof.Rows L2 Evl
section
variable {K : PySem.W.Frag} {σ : L2.St} {F F1 H H1 : Hp} {te ta tb : TE} {d a b : PyData} {ds es : List PyData}
variable (K) in
/-- a list that F tracks, or a new one taken into it -/
def EvT (te : TE) (σ : L2.St) (F : Hp) (ds : List PyData) : Prop := ∀ H, Ex F H → ∀ Q : VK, (∀ p vs F' H', Gr F H F' H' → F' p = some (.lst vs) → DpAll K F' vs ds → Q (.ref p) H') → te σ H Q
theorem EvL.t (h : EvL K te σ F ds) : EvT K te σ F ds := fun H e Q q => h H e Q fun p vs F' H' g h1 h2 h3 h4 => q p vs _ H' (g.take h1 h2 h3) upd_same (dps_ex (Ex.new h2) h4)
theorem EvT.ev (h : EvT K te σ F ds) : EvD K te σ F (.list ds) := fun H e Q q => h H e Q fun p vs F' H' g h1 h2 => q _ F' H' g (.lst (SqL.of h1) h2)
theorem evt_var {i : Nat} {p : Addr} {vs : List V} (hi : σ[i]? = some (some (.ref p))) (h : F p = some (.lst vs)) (hd : DpAll K F vs ds) : EvT K (tVar i) σ F ds := fun H e Q q => ⟨_, hi, q p vs F H (Gr.refl e) h hd⟩
theorem EvT.mono (e : Ex F F1) (h : EvT K te σ F ds) : EvT K te σ F1 ds := fun H eH Q q => h H (e.trans eH) Q fun p vs F' H' g h1 h2 => q p vs _ H' (g.weak e eH) (ex_uni2 (eH.trans g.hx) g.fh _ _ h1) (dps_ex (ex_uni2 (eH.trans g.hx) g.fh) h2)
/-- xs + ys -/
theorem el_cat (ha : EvT K ta σ F ds) (hb : EvT K tb σ F es) (hz : ds.length + es.length ≤ 100000) : EvL K (tOp rCat ta tb) σ F (ds ++ es) := fun H e Q q =>
  ha H e _ fun p vs F1 H1 g1 h1 h2 => (hb.mono g1.fx) H1 g1.fh _ fun p2 ws F2 H2 g2 h3 h4 => ⟨p, p2, vs, ws, rfl, rfl, g2.fh _ _ (g2.fx _ _ h1), g2.fh _ _ h3, by
    rw [dps_len h2, dps_len h4]
    exact sz_of hz, fun r hr => q r _ F2 _ ((g1.trans g2).trans (Gr.only g2.fh hr)) (ex_none (g1.trans g2).hx hr) (ex_none g2.fh hr) upd_same (dps_app (dps_ex g2.fx h2) h4)⟩
theorem dps_rev : ∀ {ds : List PyData} {vs : List V}, DpAll K F vs ds → DpAll K F vs.reverse ds.reverse
  | [], _, h => by cases h; exact .nil
  | d :: ds, _, h => by
    cases h with
    | cons h1 h2 =>
      rw [List.reverse_cons, List.reverse_cons]
      exact dps_app (dps_rev h2) (.cons h1 .nil)
/-- xs[::-1] -/
theorem el_rev (h : EvD K te σ F (.list ds)) : EvL K (tRevL K te) σ F ds.reverse := fun H e Q q => h H e _ fun v F1 H1 g1 hv => by
  cases hv with
  | lst hs hd => exact ⟨_, _, rfl, ex_l g1.fh hs, fun p hp => q p _ F1 _ (g1.trans (Gr.only g1.fh hp)) (ex_none g1.hx hp) (ex_none g1.fh hp) upd_same (dps_rev hd)⟩
/-- found = found + xs, found a list of H alone that holds data or empty dicts -/
theorem s_catQ {i : Nat} {p : Addr} {ws : List V} {D : Ends} (hp : H p = some (.lst ws)) (fp : F p = none) (hd : DqAll K F ws ds) (hi : σ[i]? = some (some (.ref p))) (h : EvL K tb σ F es) (e : Ex F H) (hz : ds.length + es.length ≤ 100000)
    (k : ∀ q vs F' H', Gr F H F' H' → H q = none → F' q = none → H' q = some (.lst vs) → DqAll K F' vs (ds ++ es) → D.nx (σ.set i (some (.ref q))) H') : tAsg (tOp rCat (tVar i) tb) (gName i) D σ H :=
  ⟨_, hi, h H e _ fun r vs F1 H1 g1 h1 h2 h3 h4 => by
    have kp := g1.keep hp fp
    refine ⟨p, r, ws, vs, rfl, rfl, kp.1, h3, by
      rw [dqs_len hd, dps_len h4]
      exact sz_of hz, fun q hq => k q _ F1 _ (g1.trans (Gr.only g1.fh hq)) (ex_none g1.hx hq) (ex_none g1.fh hq) upd_same (dqs_app (dqs_ex g1.fx hd) (dqs_of h4))⟩⟩
end
/-! ### data that can be compared and told -/
end Dv

set_option Elab.async false
set_option linter.all false
set_option maxRecDepth 100000
set_option maxHeartbeats 4000000
/-! GENERAL: how long the text of repr is at most. -/
namespace L2
open PySem PySem.Spec PyProof.Rows
mutual
/-- at least as many signs as the text of repr has -/
def shB : PyData → Nat
  | .none => 4
  | .bool _ => 5
  | .int i => i.natAbs.log2 + 2
  | .str x => (reprText x).length
  | .list xs => shBs xs + 3
  | .tuple xs => shBs xs + 3
  | .dict kvs => shBk kvs + 3
def shBs : List PyData → Nat
  | [] => 0
  | x :: xs => shB x + 2 + shBs xs
def shBk : List (PyData × PyData) → Nat
  | [] => 0
  | (a, b) :: r => shB a + shB b + 4 + shBk r
end
theorem shB_all : ∀ (xs : List PyData), (∀ x ∈ xs, x.shown.length ≤ shB x) → ((PyData.shownAll xs).map (·.length)).sum + 2 * (PyData.shownAll xs).length ≤ shBs xs
  | [], _ => by simp [PyData.shownAll, shBs]
  | x :: xs, h => by
    have h1 := h x (List.mem_cons_self ..)
    have h2 := shB_all xs fun y hy => h y (List.mem_cons_of_mem _ hy)
    simp only [PyData.shownAll, shBs, List.map_cons, List.sum_cons, List.length_cons]
    omega
mutual
theorem shB_le : ∀ (d : PyData), d.shown.length ≤ shB d
  | .none => by simp only [PyData.shown, shB]; decide
  | .bool b => by
    cases b
    · simp only [PyData.shown, shB]; decide
    · simp only [PyData.shown, shB]; decide
  | .int i => by
    simp only [PyData.shown, shB]
    have h := int_text_length_le (a := i) (k := i.natAbs.log2 + 1) (by omega) (by omega)
    have e : (Str.ofString (toString i)).length = (toString i).length := PySem.ofString_length _
    rw [e]
    omega
  | .str x => by simp only [PyData.shown, shB]; exact Nat.le_refl _
  | .list xs => by
    simp only [PyData.shown, shB]
    have h := listText_len_le (PyData.shownAll xs)
    have h2 := shB_les xs
    omega
  | .tuple xs => by
    simp only [PyData.shown, shB]
    have h := tupleText_len_le (PyData.shownAll xs)
    have h2 := shB_les xs
    omega
  | .dict kvs => by
    simp only [PyData.shown, shB]
    have h := dictText_len_le (PyData.shownKv kvs)
    have h2 := shB_lek kvs
    omega
theorem shB_les : ∀ (xs : List PyData), ((PyData.shownAll xs).map (·.length)).sum + 2 * (PyData.shownAll xs).length ≤ shBs xs
  | [] => by simp [PyData.shownAll, shBs]
  | x :: xs => by
    have h1 := shB_le x
    have h2 := shB_les xs
    simp only [PyData.shownAll, shBs, List.map_cons, List.sum_cons, List.length_cons]
    omega
theorem shB_lek : ∀ (kvs : List (PyData × PyData)), ((PyData.shownKv kvs).map (·.length)).sum + 2 * (PyData.shownKv kvs).length ≤ shBk kvs
  | [] => by simp [PyData.shownKv, shBk]
  | (a, b) :: r => by
    have h1 := shB_le a
    have h3 := shB_le b
    have h2 := shB_lek r
    simp only [PyData.shownKv, shBk, List.map_cons, List.sum_cons, List.length_cons]
    have e : (PyData.shown a ++ ": " ++ PyData.shown b).length = (PyData.shown a).length + 2 + (PyData.shown b).length := by
      rw [strLen_append, strLen_append]
      rfl
    omega
end
end L2

set_option Elab.async false
set_option linter.all false
set_option maxRecDepth 100000
set_option maxHeartbeats 4000000
namespace L2
open PySem PySem.Spec PyProof.Rows
section
variable {X : Cx}
theorem OpR.or2 {f : Value → Value → Sem Value} {r1 r2 : R2} (h1 : OpR X f r1) (h2 : OpR X f r2) : OpR X f (fun x y H Q => r1 x y H Q ∨ r2 x y H Q) := fun pins s σ H x y v u Q I rx ry h => h.elim (h1 pins s σ H x y v u Q I rx ry) (h2 pins s σ H x y v u Q I rx ry)
/-- two lists of the very same items: not unlike -/
def rNeSame (K : PySem.W.Frag) : R2 := fun x y H Q => ∃ (a b : Addr) (xs : List V), x = .ref a ∧ y = .ref b ∧ SqL K H a xs ∧ SqL K H b xs ∧ (∀ v ∈ xs, flatB v = true ∨ ∃ p, v = .ref p) ∧ Q (.bl false) H
theorem vals_at : ∀ {xs : List V} {us : List Value} {j : Nat} (hj : j < us.length), Vals xs us → ∃ v, xs[j]? = some v ∧ RelV v us[j]
  | _, _, _, h, .nil => absurd h (Nat.not_lt_zero _)
  | _, _, 0, _, .cons r _ => ⟨_, rfl, r⟩
  | _, _, j + 1, h, .cons _ t => vals_at (j := j) (Nat.lt_of_succ_lt_succ h) t
theorem op_neSame (hu : X.A.units + 64 < cLine) : OpR X (compareOp .NotEq) (rNeSame X.K) := by
  intro pins s σ H x y v u Q I rx ry h
  obtain ⟨a, b, xs, rfl, rfl, ha, hb, hf, q⟩ := h
  cases (show v = Value.ref a from rx)
  cases (show u = Value.ref b from ry)
  obtain ⟨us, r1, p1, _⟩ := I.list ha
  obtain ⟨ws, r2, p2, _⟩ := I.list hb
  have hsz : us.toArray.size = ws.toArray.size := by
    rw [List.size_toArray, List.size_toArray, ← r1.length, ← r2.length]
  have key := SeqAt.RcNeAt.lists (A := X.A) (e := fun _ => true) p1.isList p2.isList hsz (by omega) fun j h1 h2 => by
    obtain ⟨v1, e1, q1⟩ := vals_at (j := j) (by simpa using h1) r1
    obtain ⟨v2, e2, q2⟩ := vals_at (j := j) (by simpa using h2) r2
    have : v1 = v2 := Option.some.inj (e1.symm.trans e2)
    subst this
    have e3 : us.toArray[j] = us[j]'(by simpa using h1) := by simp
    have e4 : ws.toArray[j] = ws[j]'(by simpa using h2) := by simp
    rw [e3, e4]
    rcases hf v1 (List.mem_of_getElem? e1) with hfl | ⟨p, rfl⟩
    · exact eqAt_same q1 q2 hfl
    · have a1 : us[j]'(by simpa using h1) = Value.ref p := q1
      have a2 : ws[j]'(by simpa using h2) = Value.ref p := q2
      rw [a1, a2]
      exact SeqAt.EqAt.same _
  have e : (!(List.range us.toArray.size).all fun _ => true) = false := by
    rw [show ((List.range us.toArray.size).all fun _ => true) = true from List.all_eq_true.mpr fun _ _ => rfl]
    rfl
  rw [e] at key
  exact key X.prog X.w _ _ ⟨.bl false, H, I, rfl, q⟩
end
end L2
namespace Dv
open PySem PySem.Spec PyProof.Rows L2 Evl
section
variable {K : PySem.W.Frag} {σ : L2.St} {F F1 H H1 : Hp} {te ta tb : TE} {d a b : PyData} {ds es : List PyData}
/-- repr of a datum -/
structure Rp (d : PyData) : Prop where
  nd : d.hasDict = false
  sh : d.showable = true
  len : shB d ≤ 100000
  dep : d.depth ≤ 50
theorem ev_repr (h : EvD K te σ F d) (r : Rp d) : EvD K (tCB (rReprD K) (tCons te tNil)) σ F (.str d.shown) := fun H e Q q =>
  h H e _ fun v F' H' g hv => ⟨v, d, rfl, .inl ⟨dp_ex g.fh hv, r.nd⟩, r.sh, Nat.le_trans (shB_le d) (sz_of r.len), r.dep, q _ F' H' g (.str _)⟩
theorem ev_neS {x y : Str} (ha : EvD K ta σ F (.str x)) (hb : EvD K tb σ F (.str y)) : EvD K (tOp rNe ta tb) σ F (.bool (!decide (x = y))) :=
  ev_op ha hb fun v u F1 H1 _ e hv hu Q q => by
    cases hv
    cases hu
    refine ⟨rfl, q _ F1 H1 (Gr.refl e) ?_⟩
    have : decide (V.str x = V.str y) = decide (x = y) := by
      by_cases h : x = y
      · rw [h]; simp
      · rw [decide_eq_false h, decide_eq_false (fun z => h (V.str.inj z))]
    first
      | (rw [this]; exact .bl _)
      | (simp only [this]; exact .bl _)
/-- is, is not of truth values -/
theorem ev_notBl {p q : Bool} (ha : EvD K ta σ F (.bool p)) (hb : EvD K tb σ F (.bool q)) : EvD K (tOp rNotB ta tb) σ F (.bool (!decide (p = q))) :=
  ev_op ha hb fun v u F1 H1 _ e hv hu Q k => by
    cases hv
    cases hu
    exact ⟨p, q, rfl, rfl, k _ F1 H1 (Gr.refl e) (.bl _)⟩
theorem ev_isBl {p q : Bool} (ha : EvD K ta σ F (.bool p)) (hb : EvD K tb σ F (.bool q)) : EvD K (tOp rIsB ta tb) σ F (.bool (decide (p = q))) :=
  ev_op ha hb fun v u F1 H1 _ e hv hu Q k => by
    cases hv
    cases hu
    exact ⟨p, q, rfl, rfl, k _ F1 H1 (Gr.refl e) (.bl _)⟩
/-- what is walked, told by what its items are -/
def ItB (K : PySem.W.Frag) (wi : TI) (σ : L2.St) (F : Hp) (Pd : List PyData → Prop) : Prop := ∀ H, Ex F H → ∀ R : It → Hp → Prop, (∀ J F' H' ds, Gr F H F' H' → WQ K J F' ds → Pd ds → R J H') → wi σ H R
theorem s_forB {D : Ends} {ts : TS} {g : TG} {wi : TI} {Pd : List PyData → Prop} (h : ItB K wi σ F Pd) (e : Ex F H) (Pv : L2.St → Hp → Hp → Prop) (h0 : ∀ F' H', Gr F H F' H' → Pv σ F' H')
    (hs : ∀ Fb, Ex F Fb → ∀ ds, Pd ds → ∀ σ' F' H' v d F2 H2, d ∈ ds → Ex Fb F' → Ex F' H' → Pv σ' F' H' → Gr F' H' F2 H2 → Dq K F2 v d →
      g v σ' H2 fun σ2 H3 => ts { D with nx := NxP Fb Pv, ct := NxP Fb Pv, bk := D.nx } σ2 H3)
    (hd : ∀ σ' F' H', Ex F F' → Ex F' H' → Pv σ' F' H' → D.nx σ' H') : tFor wi g ts D σ H := h H e _ fun J F1 H1 ds g1 wd pd => by
  obtain ⟨G, Y, W, hG, hY⟩ := wd
  exact for_it W (fun n => NxP F1 Pv) ⟨F1, Ex.refl _, g1.fh, h0 F1 H1 g1⟩ (fun n σ' H' _ p => by
    obtain ⟨F', e1, e2, p⟩ := p
    exact hG _ (e1.trans e2)) (fun n v σ' H' H2 hn p y => by
    obtain ⟨F', e1, e3, p⟩ := p
    obtain ⟨F2, d, hd, g2, hv⟩ := hY F' n H' v H2 hn e1 e3 y
    exact hs F1 g1.fx ds pd σ' F' H' v d F2 H2 (List.mem_of_getElem? hd) e1 e3 p g2 hv) (fun σ' H' p => by
    obtain ⟨F', e1, e2, p⟩ := p
    exact hd σ' F' H' (g1.fx.trans e1) e2 p)
/-- a new list, told by what its items are -/
def ElB (K : PySem.W.Frag) (te : TE) (σ : L2.St) (F : Hp) (Pd : List PyData → Prop) : Prop := ∀ H, Ex F H → ∀ Q : VK, (∀ p vs F' H' ds, Gr F H F' H' → H p = none → F' p = none → H' p = some (.lst vs) → DqAll K F' vs ds → Pd ds → Q (.ref p) H') → te σ H Q
theorem itb_list {Pd : List PyData → Prop} (h : ElB K te σ F Pd) : ItB K (iList K te) σ F Pd := fun H eH R q => h H eH _ fun p vs F1 H1 ds g1 h1 h2 h3 h4 pd => by
  have g2 := g1.take h1 h2 h3
  refine ⟨p, rfl, ⟨vs, sq_of h3⟩, q _ _ H1 ds g2 ⟨_, _, by rw [← dqs_len h4]; exact walk_list (xs := vs), fun H e => sq_of (e _ _ upd_same), fun F2 i H2 x H3 _ e1 e2 y => ?_⟩ pd⟩
  obtain ⟨rfl, hx⟩ := y
  obtain ⟨d, h1, h2⟩ := dqs_get h4 hx
  exact ⟨F2, d, h1, Gr.refl e2, dq_ex ((Ex.new (by assumption)).trans e1) h2⟩
end
end Dv

set_option Elab.async false
set_option linter.all false
set_option maxRecDepth 100000
set_option maxHeartbeats 4000000
namespace R3
open PySem PySem.Spec PyProof.Rows L2 Evl Dv
open Qa (toF Sx)
/-- a cut between two statements: what holds behind the first is told -/
theorem seq_cut {t u : TS} {D : Ends} {σ : L2.St} {H : Hp} (N : L2.St → Hp → Prop) (hN : ∀ σ H, N σ H → u D σ H) (ht : ∀ M : L2.St → Hp → Prop, (∀ σ H, N σ H → M σ H) → t { D with nx := M } σ H) : tSeq t u D σ H := ht (u D) hN
section
variable {P : Program} {w : World} {K : PySem.W.Frag} {mg : Str → Option Value} {base : Heap}
/-! ### what is refused -/
/-- an error class with the field value -/
structure ErrC (P : Program) (K : PySem.W.Frag) (mg : Str → Option Value) (cn : Str) (C : Addr) : Prop where
  ex : ∃ fI, PySem.Xn.ExT P K mg cn "value" C fI
  hs : (P.main.scope.names.lookup ("super" : Str)).isSome = false
/-- what has another type is no mill -/
structure MillN (K : PySem.W.Frag) (C : Addr) : Prop where
  no : ∀ t ∈ ["NoneType", "bool", "int", "str", "list", "tuple", "dict"], PySem.W.kitOne K (.type t) (.ref C) = some false
theorem tyD_in (d : PyData) : tyD d ∈ ["NoneType", "bool", "int", "str", "list", "tuple", "dict"] := by
  cases d <;> simp [tyD]
/-- v is refused with the error at C -/
def Bad (C : Addr) (F H : Hp) (v : V) (E : XK) : Prop := ∀ F' H' dd, Gr F H F' H' → H' dd = none → E (.ref C) (some dd) (upd H' dd (.xd [("value", v)]))
def spCheckX (K : PySem.W.Frag) (C CM : Addr) : Sp := fun vs H Q E => ∃ v, vs = [v] ∧ ((∃ x dx fs, v = .ref x ∧ H x = some (.ins C dx fs) ∧ Q .non H) ∨ ∃ F d, Ex F H ∧ Dq K F v d ∧ Bad CM F H v E)
theorem sc_check_mill : FnScope (["value"] : List Str) (["value"] : List Str) (defScope sCheckMill) := ⟨rfl, rfl, rfl, by decide +kernel, rfl, by decide +kernel, by decide +kernel⟩
theorem ok_check_millX (D : Def K mg "check_mill" sCheckMill ["value"]) (B : Bl mg) {C CM : Addr} (gC : mg "Mill" = some (.ref C)) (IC : C8.InsC K C) (NC : MillN K C) (EM : ErrC P K mg "InvalidMill" CM) : CalX P w K mg base "check_mill" ["value"] 1 (spCheckX K C CM) := by
  refine calX_mk D sc_check_mill (fun vs H Q E h => ?_) (fun f cdv A outer s H vs Q E hr h => ?_)
  · obtain ⟨v, rfl, _⟩ := h
    rfl
  obtain ⟨v, rfl, h⟩ := h
  obtain ⟨fI, TM⟩ := EM.ex
  refine ⟨_, (pss_one (ps_if (pt_not (pt_val (pe_callB call_isi (by rfl) B.isi (by decide +kernel) (pa_cons (pv 0) (pa_cons (pe_glob (v := .ref C) rfl gC rfl) pa_nil))))) (pss_one (ps_raise rfl (takes_of rfl rfl rfl rfl) (pmk_xn1 TM (raises_own TM.exC TM.tyC) hr EM.hs (pa_cons (pv 0) pa_nil)))) pss_nil)), ?_⟩
  rcases h with ⟨x, dx, fs, rfl, hx, q⟩ | ⟨F, d, e, hd, q⟩
  · exact ⟨_, rfl, _, .ref C, _, .ref C, true, rfl, .own C, .base (.ins hx IC.cl IC.ha IC.hn IC.htk IC.hm), IC.me, _, rfl, q⟩
  · exact ⟨_, rfl, _, .ref C, _, .ref C, false, rfl, .own C, tyq_of (dq_ex e hd), NC.no _ (tyD_in d), _, rfl, _, rfl, v, rfl, fun dd hdd => q F H dd (Gr.refl e) hdd⟩
/-- check_mill(m), a statement, where it may raise -/
theorem sx_check {σ : L2.St} {F H : Hp} {C CM x : Addr} {m : MillD} {i : Nat} {W : WX} {D : Ends} (hi : σ[i]? = some (some (.ref x))) (hm : MillAt K F C x m) (e : Ex F H) (k : D.nx σ H) : tDrop (tCallSD (spCheckX K C CM) [] (WE W) (tCons (tVar i) tNil)) D σ H := by
  obtain ⟨dx, ro, sp, ru, v1, v2, v3, h1, _⟩ := hm.ex
  exact ⟨_, hi, .ref x, rfl, .inl ⟨x, dx, _, rfl, e _ _ h1, k⟩⟩
theorem sx_bad {σ : L2.St} {F H : Hp} {C CM : Addr} {d : PyData} {v : V} {i : Nat} {W : WX} {D : Ends} (hi : σ[i]? = some (some v)) (hd : Dq K F v d) (e : Ex F H) (k : Bad CM F H v (WE W σ)) : tDrop (tCallSD (spCheckX K C CM) [] (WE W) (tCons (tVar i) tNil)) D σ H :=
  ⟨_, hi, v, rfl, .inr ⟨F, d, e, hd, k⟩⟩
end
end R3

set_option Elab.async false
set_option linter.all false
set_option maxRecDepth 100000
set_option maxHeartbeats 4000000
namespace R3
open PySem PySem.Spec PyProof.Rows L2 Evl Dv
open Qa (toF Sx)
theorem isAmt_R {h : Rat} (p : 0 ≤ h) : isAmt (encR h) = true := by
  have p1 := h.den_nz
  have p2 : Nat.gcd h.num.natAbs h.den = 1 := h.reduced
  have p3 : 0 ≤ h.num := Rat.num_nonneg.mpr p
  show ((decide (1 ≤ (h.den : Int)) && (Nat.gcd h.num.natAbs ((h.den : Int)).natAbs == 1)) && decide (0 ≤ h.num)) = true
  rw [Int.natAbs_natCast, p2, decide_eq_true p3, decide_eq_true (by omega)]
  rfl
theorem isAmt_shaped {d : PyData} (h : isAmt d = true) : SeqAt.shaped d = true := by
  unfold isAmt at h
  rw [Bool.and_eq_true] at h
  obtain ⟨a, b, rfl, _⟩ := frac_shape h.1
  simp [SeqAt.shaped, PyData.canLay0, PyData.canLayAll0, PyData.depth, PyData.depthAll]
theorem ev_notNR {K : PySem.W.Frag} {σ : L2.St} {F : Hp} {ta : TE} {d : PyData} (ha : EvD K ta σ F d) : EvD K (tOp rNotN ta (tC .non)) σ F (.bool (!nonB d)) := fun H e Q q => ha H e _ fun v F1 H1 g1 hv => by
  refine ⟨rfl, q _ F1 H1 g1 ?_⟩
  rw [dec_non hv]
  exact .bl _
/-! ### a box, of data -/
def fr : PyData → Int × Int
  | .tuple [.int a, .int b] => (a, b)
  | _ => (0, 1)
def lessF (x y : Int × Int) : Bool := decide (x.1 * y.2 < y.1 * x.2)
/-- an amount, if it is one, of small numbers -/
def smA (d : PyData) : Bool := decide ((fr d).1.natAbs < 30000) && decide ((fr d).2.natAbs < 30000)
theorem amt_fr {d : PyData} (h : isAmt d = true) : d = encF (fr d) ∧ 1 ≤ (fr d).2 := by
  unfold isAmt at h
  rw [Bool.and_eq_true] at h
  obtain ⟨a, b, rfl, hb⟩ := frac_shape h.1
  exact ⟨rfl, hb⟩
theorem amt_sm {d : PyData} (h : isAmt d = true) (s : smA d = true) : Sm (fr d) := by
  unfold smA at s
  rw [Bool.and_eq_true, decide_eq_true_iff, decide_eq_true_iff] at s
  have := (amt_fr h).2
  exact ⟨by omega, by omega, by omega, by omega⟩
def roomB (room : Option Int) (x : Int × Int) : Bool := match room with
  | none => true
  | some k => !lessF (k, 1) x
def isBounds (room : Option Int) : PyData → Bool
  | .tuple [a, b] => isAmt a && (nonB b || (isAmt b && !lessF (fr b) (fr a))) && roomB room (if nonB b = true then fr a else fr b)
  | _ => false
/-- bounds, if they are such, of small numbers -/
def smB : PyData → Bool
  | .tuple [a, b] => smA a && smA b
  | _ => true
def fBounds : List PyData → PyData → Prop := fun ds d => ∃ (x : PyData) (room : Option Int), ds = [x, encRoom room] ∧ gd x = true ∧ smB x = true ∧ (∀ k, room = some k → 0 ≤ k ∧ k < 30000) ∧ d = .bool (isBounds room x)
section
variable {P : Program} {w : World} {K : PySem.W.Frag} {mg : Str → Option Value} {base : Heap}
theorem ev_belowF {σ : L2.St} {F : Hp} {ta tb : TE} {E : XK} {x y : Int × Int} (ha : EvD K ta σ F (encF x)) (hb : EvD K tb σ F (encF y)) (sx : Sm x) (sy : Sm y) : EvD K (tCall (spD K fBelow) [] E (tCons ta (tCons tb tNil))) σ F (.bool (lessF x y)) :=
  ev_callD (Dv.ea_cons ha (Dv.ea_cons hb Dv.ea_nil)) ⟨x, y, rfl, sx, sy, rfl⟩
theorem sc_is_bounds : FnScope (["value", "room", "low", "high", "top"] : List Str) (["value", "room"] : List Str) (defScope sIsBounds) := ⟨rfl, rfl, rfl, by decide +kernel, rfl, by decide +kernel, by decide +kernel⟩
theorem ok_is_bounds (D : Def K mg "is_bounds" sIsBounds ["value", "room"]) (B : Bl mg) (C_is_amount : Cal P w K mg base "is_amount" ["value"] 3 (spD K fIsAmt)) (C_below : Cal P w K mg base "below" ["one", "other"] 1 (spD K fBelow)) :
    Cal P w K mg base "is_bounds" ["value", "room"] 4 (spD K fBounds) := by
  refine cal_mk D sc_is_bounds (len_D (by rintro _ _ ⟨x, room, rfl, _⟩; rfl)) (fun f cdv A outer s H vs Q E hr h => ?_)
  obtain ⟨F, ds, d, e, hv, ⟨x, room, rfl, hg, hsm, hrm, rfl⟩, q⟩ := h
  obtain ⟨v, u, rfl, h1, h2⟩ := Dv.two hv
  refine ⟨_, (pss_cons (ps_if (PW.pt (pw_or (pt_not (pt_val (pe_callB call_isi (by rfl) B.isi (by decide +kernel) (pa_cons (pv 0) (pa_cons (pe_bltn (v := .ty "tuple") (by rfl) B.tuple (by decide +kernel) rfl) pa_nil))))) (pw_or (pt_cmpR op_ne (pe_callB call_len (by rfl) B.len (by decide +kernel) (pa_cons (pv 0) pa_nil)) pe_int (nomark _)) (pw_or1 (pt_not (pt_val (pe_callC C_is_amount hr (pa_cons (pe_ix ix_tup (pv 0) pe_int (fun _ _ => rfl)) pa_nil)))))))) (pss_one (ps_ret pe_bl)) pss_nil)
      (pss_cons (ps_asg (pv 0) (pg_tup (by rfl) (pgs_cons (pg_name (i := 2) sc_is_bounds.nd rfl (.inl rfl)) (pgs_cons (pg_name (i := 3) sc_is_bounds.nd rfl (.inl rfl)) pgs_nil))))
      (pss_cons (ps_if (PW.pt (pw_and (pt_cmpR op_notN (pv 3) pe_non (nomark _)) (pw_and1 (PW.pt (pw_or (pt_not (pt_val (pe_callC C_is_amount hr (pa_cons (pv 3) pa_nil)))) (pw_or1 (pt_val (pe_callC C_below hr (pa_cons (pv 3) (pa_cons (pv 2) pa_nil)))))))))) (pss_one (ps_ret pe_bl)) pss_nil)
      (pss_cons (ps_set (i := 4) sc_is_bounds.nd rfl (.inl rfl) (pe_ifExp (pt_cmpR op_isN (pv 3) pe_non (nomark _)) (pv 2) (pv 3)))
      (pss_one (ps_ret (pe_or (pe_cmpR op_isN (pv 1) pe_non (nomark _)) (pe_one (pe_not (pe_callC C_below hr (pa_cons (pe_tup (pa_cons (pv 1) (pa_cons pe_int pa_nil))) (pa_cons (pv 4) pa_nil)))))))))))), ?_⟩
  have st : start ["value", "room", "low", "high", "top"] [v, u] = [some v, some u, none, none, none] := rfl
  rw [st]
  have vx := Dv.ev_var (K := K) (σ := [some v, some u, none, none, none]) (i := 0) rfl h1
  have hlen : ∀ es, x = .tuple es → es.length ≤ 100000 := fun es he => by
    subst he
    exact Nat.le_trans (gd_tup hg).1 (by decide)
  by_cases hs : ∃ a b, x = .tuple [a, b] ∧ isAmt a = true
  · obtain ⟨a, b, rfl, ha⟩ := hs
    have ga : gd a = true := gds_mem (gd_tup hg).2 (by simp)
    have gb : gd b = true := gds_mem (gd_tup hg).2 (by simp)
    have la : ∀ es, a = .tuple es → es.length ≤ 100000 := fun es he => by subst he; exact Nat.le_trans (gd_tup ga).1 (by decide)
    have lb : ∀ es, b = .tuple es → es.length ≤ 100000 := fun es he => by subst he; exact Nat.le_trans (gd_tup gb).1 (by decide)
    have sab : smA a = true ∧ smA b = true := by
      unfold smB at hsm
      rwa [Bool.and_eq_true] at hsm
    have sa := amt_sm ha sab.1
    refine seq_of (s_ifF (et_tupn (n := 2) vx hlen (fun es he _ => et_notT (et_v (ev_callD (Dv.ea_cons (Dv.ev_ixT (d := a) vx (Dv.ev_int 0) rfl) Dv.ea_nil) ⟨a, rfl, la, rfl⟩) (by rw [ha]))) fun no => absurd ⟨_, rfl, rfl⟩ no) e fun F1 H1 g1 => ?_)
    try unfold tNext
    dsimp only
    have h1' := dp_ex g1.fx h1
    have h2' := dp_ex g1.fx h2
    refine seq_of ⟨_, rfl, ?_⟩
    obtain ⟨y1, y2, hy1, hy2, ht⟩ := tup2 h1'
    refine ht 2 3 _ H1 g1.fh _ ?_
    dsimp only
    show tSeq _ _ _ [some v, some u, some y1, some y2, none] H1
    have ea : a = encF (fr a) := (amt_fr ha).1
    have v2 : ∀ F' σ, Ex F1 F' → σ[2]? = some (some y1) → EvD K (tVar 2) σ F' (encF (fr a)) := fun F' σ e' h => by
      rw [← ea]
      exact Dv.ev_var h (dp_ex e' hy1)
    have v3 : ∀ F' σ, Ex F1 F' → σ[3]? = some (some y2) → EvD K (tVar 3) σ F' b := fun F' σ e' h => Dv.ev_var h (dp_ex e' hy2)
    refine seq_cut (fun σ H' => ∃ F2, σ = [some v, some u, some y1, some y2, none] ∧ Gr F H F2 H' ∧ Ex F1 F2 ∧ (nonB b || (isAmt b && !lessF (fr b) (fr a))) = true) ?_ ?_
    · rintro _ H2 ⟨F2, rfl, g2, x2, hb⟩
      have et : ∃ t, (if nonB b = true then fr a else fr b) = t ∧ Sm t ∧ EvD K (tIf (tTest (tOp rIsN (tVar 3) (tC .non))) (tVar 2) (tVar 3)) [some v, some u, some y1, some y2, none] F2 (encF t) := by
        cases hn : nonB b with
        | true => exact ⟨fr a, rfl, sa, Dv.ev_ifT (et_v (ev_isNR (v3 F2 _ x2 rfl)) (by rw [hn])) (v2 F2 _ x2 rfl)⟩
        | false =>
          rw [hn, Bool.false_or, Bool.and_eq_true] at hb
          refine ⟨fr b, rfl, amt_sm hb.1 sab.2, Dv.ev_ifF (et_v (ev_isNR (v3 F2 _ x2 rfl)) (by rw [hn])) ?_⟩
          rw [← (amt_fr hb.1).1]
          exact v3 F2 _ x2 rfl
      obtain ⟨t, e1, st, ev⟩ := et
      refine seq_of (Dv.s_asg (K := K) (F := F2) ev g2.fh fun tv F3 H3 g3 htv => ?_)
      have e2 : isBounds room (.tuple [a, b]) = roomB room t := by
        show (isAmt a && (nonB b || (isAmt b && !lessF (fr b) (fr a))) && roomB room (if nonB b = true then fr a else fr b)) = _
        rw [ha, hb, e1]
        rfl
      have hu3 := dp_ex (x2.trans g3.fx) h2'
      dsimp only
      refine Dv.s_ret (K := K) (F := F3) (d := .bool (isBounds room (.tuple [a, b]))) ?_ g3.fh fun y F4 H4 g4 hy => q y F4 H4 ((g2.trans g3).trans g4) hy
      rw [e2]
      cases room with
      | none => exact Dv.ev_is (ev_orT (Dv.ev_is (ev_isNR (Dv.ev_var (i := 1) rfl hu3)) rfl)) rfl
      | some k =>
        have hk := hrm k rfl
        exact Dv.ev_is (ev_orF (Dv.ev_is (ev_isNR (Dv.ev_var (i := 1) rfl hu3)) rfl) (ev_notV (ev_belowF (x := (k, 1)) (y := t) (Dv.ev_tup (ds := [.int k, .int 1]) (Dv.ea_cons (Dv.ev_var (i := 1) rfl hu3) (Dv.ea_cons (Dv.ev_int 1) Dv.ea_nil)) (by simp)) (Dv.ev_var (i := 4) rfl htv) ⟨by show (0 : Int) < 1; decide, by show (1 : Int) < 32768; decide, by show -1000000000000 < k; omega, by show k < 1000000000000; omega⟩ st))) rfl
    · intro MM hMM
      cases hn : nonB b with
      | true =>
        refine s_ifF (et_andF (et_v (ev_notNR (v3 F1 _ (Ex.refl _) rfl)) (by rw [hn]; rfl))) g1.fh fun F2 H2 g2 => ?_
        try unfold tNext
        dsimp only
        exact hMM _ _ ⟨F2, rfl, g1.trans g2, g2.fx, by rw [hn]; rfl⟩
      | false =>
        have an := et_v (K := K) (F := F1) (σ := [some v, some u, some y1, some y2, none]) (p := true) (ev_notNR (v3 F1 _ (Ex.refl _) rfl)) (by rw [hn]; rfl)
        have am := et_v (K := K) (p := isAmt b) (ev_callD (f := fIsAmt) (E := E0) (Dv.ea_cons (v3 F1 [some v, some u, some y1, some y2, none] (Ex.refl _) rfl) Dv.ea_nil) ⟨b, rfl, lb, rfl⟩) rfl
        cases hb : isAmt b with
        | false =>
          rw [hb] at am
          refine s_ifT (et_andT an (et_orT (et_notF am))) g1.fh fun F2 H2 g2 => ?_
          have e0 : isBounds room (.tuple [a, b]) = false := by
            show (isAmt a && (nonB b || (isAmt b && !lessF (fr b) (fr a))) && roomB room _) = _
            rw [hn, hb, Bool.false_and, Bool.or_false, Bool.and_false, Bool.false_and]
          exact q _ F2 H2 (g1.trans g2) (by rw [e0]; exact .bl false)
        | true =>
          rw [hb] at am
          have sb := amt_sm hb sab.2
          have v3' := v3 F1 [some v, some u, some y1, some y2, none] (Ex.refl _) rfl
          rw [(amt_fr hb).1] at v3'
          have bl := et_v (K := K) (p := lessF (fr b) (fr a)) (ev_belowF (E := E0) v3' (v2 F1 [some v, some u, some y1, some y2, none] (Ex.refl _) rfl) sb sa) rfl
          cases hl : lessF (fr b) (fr a) with
          | true =>
            rw [hl] at bl
            refine s_ifT (et_andT an (et_orF (et_notT am) bl)) g1.fh fun F2 H2 g2 => ?_
            have e0 : isBounds room (.tuple [a, b]) = false := by
              show (isAmt a && (nonB b || (isAmt b && !lessF (fr b) (fr a))) && roomB room _) = _
              rw [hn, hb, hl, Bool.not_true, Bool.and_false, Bool.or_false, Bool.and_false, Bool.false_and]
            exact q _ F2 H2 (g1.trans g2) (by rw [e0]; exact .bl false)
          | false =>
            rw [hl] at bl
            refine s_ifF (et_andT an (et_orF (et_notT am) bl)) g1.fh fun F2 H2 g2 => ?_
            try unfold tNext
            dsimp only
            exact hMM _ _ ⟨F2, rfl, g1.trans g2, g2.fx, by rw [hn, hb, hl]; rfl⟩
  · have e0 : isBounds room x = false := by
      unfold isBounds
      split
      · rename_i a b
        cases ha : isAmt a with
        | true => exact absurd ⟨a, b, rfl, ha⟩ hs
        | false => rfl
      · rfl
    refine seq_of (s_ifT (et_tupn (n := 2) vx hlen (fun es he hl => ?_) fun _ => rfl) e fun F1 H1 g1 => ?_)
    · obtain ⟨a, b, rfl⟩ := len2 hl
      subst he
      have ga : gd a = true := gds_mem (gd_tup hg).2 (by simp)
      have la : ∀ es, a = .tuple es → es.length ≤ 100000 := fun es he => by subst he; exact Nat.le_trans (gd_tup ga).1 (by decide)
      refine et_notF (et_v (ev_callD (Dv.ea_cons (Dv.ev_ixT (d := a) vx (Dv.ev_int 0) rfl) Dv.ea_nil) ⟨a, rfl, la, rfl⟩) ?_)
      cases ha : isAmt a with
      | true => exact absurd ⟨a, b, rfl, ha⟩ hs
      | false => rfl
    · exact q _ F1 H1 g1 (by rw [e0]; exact .bl false)
end
end R3

set_option Elab.async false
set_option linter.all false
set_option maxRecDepth 100000
set_option maxHeartbeats 4000000
namespace R3
open PySem PySem.Spec PyProof.Rows L2 Evl Dv
open Qa (toF Sx)
def isBox (m : MillD) : PyData → Bool
  | .list ds => decide (ds.length = m.stuffs.length) && (m.stuffs.zip ds).all fun z => isBounds z.1.2 z.2
  | _ => false
def smBox : PyData → Bool
  | .list ds => ds.all smB
  | _ => true
/-- the rooms of a mill are small -/
def RoomSm (m : MillD) : Prop := ∀ z ∈ m.stuffs, ∀ k, z.2 = some k → 0 ≤ k ∧ k < 30000
theorem gd_lstL {xs : List PyData} (h : gd (.list xs) = true) : xs.length ≤ 30000 ∧ gds xs = true := by
  rw [gd, Bool.and_eq_true, decide_eq_true_iff] at h
  exact h
section
variable {P : Program} {w : World} {K : PySem.W.Frag} {mg : Str → Option Value} {base : Heap}
theorem MillAt.roomsAt {F : Hp} {C ml : Addr} {m : MillD} (h : MillAt K F C ml m) : ∃ (dx ro sp ru : Addr) (kvs : List (Key × V)), F ml = some (.ins C dx [("rooms", .ref ro), ("spots", .ref sp), ("rules", .ref ru)]) ∧ F ro = some (.dK kvs) ∧
    DpAll K F (kvs.map Prod.snd) (m.stuffs.map fun z => encRoom z.2) := by
  obtain ⟨dx, ro, sp, ru, v1, v2, v3, h1, h2, h3, h4⟩ := h.ex
  exact ⟨dx, ro, sp, ru, _, h1, h2, by rw [zip_snd (by rw [dps_len h3, List.length_map, List.length_map])]; exact h3⟩
theorem ev_lenD {σ : L2.St} {F : Hp} {td : TE} {ad : Addr} {kvs : List (Key × V)} (ht : ∀ H1, Evl.Ex F H1 → ∀ Q : VK, Q (.ref ad) H1 → td σ H1 Q) (hd : F ad = some (.dK kvs)) :
    EvD K (tCB (fun xs H Q => ∃ a kvs, xs = [V.ref a] ∧ H a = some (.dK kvs) ∧ Q (.int kvs.length) H) (tCons td tNil)) σ F (.int kvs.length) := fun H e Q q => ht H e _ ⟨ad, kvs, rfl, e _ _ hd, q _ F H (Gr.refl e) (.int _)⟩
def spIsBox (K : PySem.W.Frag) (C : Addr) : Sp := fun vs H Q _ => ∃ (F : Hp) (x : Addr) (v : V) (m : MillD) (d : PyData), vs = [.ref x, v] ∧ Evl.Ex F H ∧ MillAt K F C x m ∧ m.stuffs.length ≤ 8 ∧ RoomSm m ∧ Dq K F v d ∧ gd d = true ∧ smBox d = true ∧ ∀ F' H', Gr F H F' H' → Q (.bl (isBox m d)) H'
theorem sc_is_box : FnScope (["mill", "value", "item", "room"] : List Str) (["mill", "value"] : List Str) (defScope sIsBox) := ⟨rfl, rfl, rfl, by decide +kernel, rfl, by decide +kernel, by decide +kernel⟩
theorem ok_is_box (D : Def K mg "is_box" sIsBox ["mill", "value"]) (B : Bl mg) {C : Addr} (MC : MillC K C) (C_is_bounds : Cal P w K mg base "is_bounds" ["value", "room"] 4 (spD K fBounds)) :
    Cal P w K mg base "is_box" ["mill", "value"] 5 (spIsBox K C) := by
  refine cal_mk D sc_is_box (fun vs H Q E h => ?_) (fun f cdv A outer s H vs Q E hr h => ?_)
  · obtain ⟨F, x, v, m, d, rfl, _⟩ := h
    rfl
  obtain ⟨F, ml, v, m, d, rfl, e, hm, l8, hrs, hv, hg, hsm, q⟩ := h
  refine ⟨_, (pss_cons (ps_if (PW.pt (pw_or (pt_not (pt_val (pe_callB call_isi (by rfl) B.isi (by decide +kernel) (pa_cons (pv 1) (pa_cons (pe_bltn (v := .ty "list") (by rfl) B.list (by decide +kernel) rfl) pa_nil))))) (pw_or1 (pt_cmpR op_ne (pe_callB call_len (by rfl) B.len (by decide +kernel) (pa_cons (pv 1) pa_nil)) (pe_callB call_lenD (by rfl) B.len (by decide +kernel) (pa_cons (pe_fld (pv 0) rfl) pa_nil)) (nomark _))))) (pss_one (ps_ret pe_bl)) pss_nil)
      (pss_cons (ps_lock (ps_for PassesOwn.never rfl (pi_zipV (by rfl) B.zip (pv 1) (pe_fld (pv 0) rfl)) (pg_tup (by rfl) (pgs_cons (pg_name (i := 2) sc_is_box.nd rfl (.inl rfl)) (pgs_cons (pg_name (i := 3) sc_is_box.nd rfl (.inl rfl)) pgs_nil))) (pss_one (ps_if (pt_not (pt_val (pe_callC C_is_bounds hr (pa_cons (pv 2) (pa_cons (pv 3) pa_nil))))) (pss_one (ps_ret pe_bl)) pss_nil))))
      (pss_one (ps_ret pe_bl)))), ?_⟩
  have st : start ["mill", "value", "item", "room"] [V.ref ml, v] = [some (.ref ml), some v, none, none] := rfl
  rw [st]
  obtain ⟨dx, ro, sp, ru, kvs, hml, hro, hkd⟩ := hm.roomsAt
  have kl : kvs.length = m.stuffs.length := by
    have := dps_len hkd
    rwa [List.length_map, List.length_map] at this
  have ln := ev_lenD (K := K) (σ := [some (.ref ml), some v, none, none]) (F := F) (td := tFld K (tVar 0) "rooms") (fun H1 e1 Q q => fld_ref rfl hml MC.cl MC.rooms fl1 H1 e1 Q q) hro
  by_cases hL : ∃ ds, d = .list ds
  case neg =>
    have e0 : isBox m d = false := by
      unfold isBox
      split
      · exact absurd ⟨_, rfl⟩ hL
      · rfl
    have e1 : isD d "list" = false := by cases d <;> first | rfl | exact absurd ⟨_, rfl⟩ hL
    refine seq_of (s_ifT (et_orT (et_notF (et_v (eq_isi (T := "list") (eq_var (i := 1) rfl hv) (by decide)) (by rw [e1])))) e fun F1 H1 g1 => ?_)
    have := q F1 H1 g1
    rw [e0] at this
    exact this
  obtain ⟨ds, rfl⟩ := hL
  have hv : Dp K F v (.list ds) := by
    cases hv with
    | dat h => exact h
  have hgl := gd_lstL hg
  have vx := Dv.ev_var (K := K) (σ := [some (.ref ml), some v, none, none]) (i := 1) rfl hv
  by_cases hlen : ds.length = m.stuffs.length
  case neg =>
    have e0 : isBox m (.list ds) = false := by
      show (decide (ds.length = m.stuffs.length) && _) = false
      rw [decide_eq_false hlen]
      rfl
    refine seq_of (s_ifT (et_orF (et_notT (et_v (p := true) (ev_isi (T := "list") vx (by decide)) rfl)) (et_v (Dv.ev_neI (ev_len (n := ds.length) vx rfl (by have := hgl.1; omega)) ln) (by
      rw [kl]
      congr 1
      rw [bne_iff_ne]
      omega))) e fun F1 H1 g1 => ?_)
    have := q F1 H1 g1
    rw [e0] at this
    exact this
  refine seq_of (s_ifF (et_orF (et_notT (et_v (p := true) (ev_isi (T := "list") vx (by decide)) rfl)) (et_v (Dv.ev_neI (ev_len (n := ds.length) vx rfl (by omega)) ln) (by rw [kl, hlen]; simp))) e fun F1 H1 g1 => ?_)
  try unfold tNext
  dsimp only
  have hro1 := g1.fx _ _ hro
  refine seq_of (s_lock hro1 g1.fh fun od => ?_)
  have hmr : ml ≠ ro := fun z => by rw [z, hro] at hml; cases hml
  have hml1 : upd F1 ro (.frz od (.dK kvs)) ml = some (.ins C dx [("rooms", .ref ro), ("spots", .ref sp), ("rules", .ref ru)]) := by rw [upd_ne hmr]; exact g1.fx _ _ hml
  have nq : NoSq (F1 ro) := by rw [hro1]; exact noSq_dK
  have hv1 : Dp K (upd F1 ro (.frz od (.dK kvs))) v (.list ds) := dp_put nq (dp_ex g1.fx hv)
  have hk1 : DpAll K (upd F1 ro (.frz od (.dK kvs))) (kvs.map Prod.snd) (m.stuffs.map fun z => encRoom z.2) := dps_put nq (dps_ex g1.fx hkd)
  have eL : Evl.Ex (upd F1 ro (.frz od (.dK kvs))) (upd H1 ro (.frz od (.dK kvs))) := ex_upd g1.fh
  have zl : (m.stuffs.zip ds).length = m.stuffs.length := by rw [List.length_zip, hlen, Nat.min_self]
  refine Dv.s_for (K := K) (it_is (it_zipV (σ := [some (.ref ml), some v, none, none]) (Dv.ev_var (i := 1) rfl hv1) (fun F2 H2 e1 e2 Q q => fld_ref rfl (e1 _ _ hml1) MC.cl MC.rooms fl1 H2 e2 Q q) upd_same hk1 (by rw [List.length_map, hlen])) (show _ = (m.stuffs.zip ds).map fun z => PyData.tuple [z.2, encRoom z.1.2] from ?_)) eL
    (fun n σ F' H' => ∃ (s2 s3 : Option V), σ = [some (.ref ml), some v, s2, s3] ∧ Gr (upd F1 ro (.frz od (.dK kvs))) (upd H1 ro (.frz od (.dK kvs))) F' H' ∧ ∀ z ∈ (m.stuffs.zip ds).take n, isBounds z.1.2 z.2 = true) (fun F8 H8 g8 => ⟨none, none, rfl, g8, fun z hz => by simp at hz⟩) ?_ (fun σ' F8 H8 e8 e9 p8 => ?_)
  · apply List.ext_getElem
    · simp [hlen]
    · intro i h1 h2
      simp
  · rintro Fb eb n σ F8 H8 u du F9 H9 hdu e8 e9 ⟨s2, s3, rfl, g8, hall⟩ g9 hu9
    obtain ⟨hn, hdn⟩ := List.getElem?_eq_some_iff.mp hdu
    rw [List.length_map] at hn
    rw [List.getElem_map] at hdn
    have hmem : (m.stuffs.zip ds)[n] ∈ m.stuffs.zip ds := List.getElem_mem _
    have htk : (m.stuffs.zip ds).take (n + 1) = (m.stuffs.zip ds).take n ++ [(m.stuffs.zip ds)[n]] := List.take_succ_eq_append_getElem hn
    rw [htk]
    generalize (m.stuffs.zip ds)[n] = z at *
    subst hdn
    obtain ⟨y1, y2, hy1, hy2, ht⟩ := tup2 hu9
    refine ht 2 3 _ H9 g9.fh _ ?_
    dsimp only
    have mh := (List.of_mem_zip hmem).2
    have ms := (List.of_mem_zip hmem).1
    have sz : smB z.2 = true := List.all_eq_true.mp (show ds.all smB = true from hsm) _ mh
    have cb := ev_callD (K := K) (F := F9) (E := E0) (f := fBounds) (σ := [some (.ref ml), some v, some y1, some y2]) (Dv.ea_cons (Dv.ev_var (i := 2) rfl hy1) (Dv.ea_cons (Dv.ev_var (i := 3) rfl hy2) Dv.ea_nil)) ⟨z.2, z.1.2, rfl, gds_mem hgl.2 mh, sz, hrs _ ms, rfl⟩
    have G9 := g8.trans g9
    cases hb : isBounds z.1.2 z.2 with
    | true =>
      rw [hb] at cb
      refine s_ifF (et_notT (et_B cb)) g9.fh fun F10 H10 g10 => ?_
      try unfold tNext
      dsimp only
      refine ⟨F10, e8.trans (g9.fx.trans g10.fx), g10.fh, _, _, rfl, G9.trans g10, fun y hy => ?_⟩
      rcases List.mem_append.mp hy with hy | hy
      · exact hall y hy
      · rw [List.mem_singleton.mp hy]; exact hb
    | false =>
      rw [hb] at cb
      refine s_ifT (et_notF (et_B cb)) g9.fh fun F10 H10 g10 => ?_
      obtain ⟨f1, f2, gg⟩ := Gr.unlock hro1 g1.fh (G9.trans g10)
      have e0 : isBox m (.list ds) = false := by
        show (decide (ds.length = m.stuffs.length) && (m.stuffs.zip ds).all _) = false
        rw [Bool.and_eq_false_iff]
        right
        rw [List.all_eq_false]
        exact ⟨z, hmem, by rw [hb]; decide⟩
      have := q _ _ (g1.trans gg)
      rw [e0] at this
      exact ⟨f2, this⟩
  · obtain ⟨s2, s3, rfl, g8, hall⟩ := p8
    rw [List.length_map, List.take_length] at hall
    obtain ⟨f1, f2, gg⟩ := Gr.unlock hro1 g1.fh g8
    refine ⟨f2, ?_⟩
    have e0 : isBox m (.list ds) = true := by
      show (decide (ds.length = m.stuffs.length) && (m.stuffs.zip ds).all _) = true
      rw [decide_eq_true hlen, Bool.true_and, List.all_eq_true]
      exact hall
    dsimp only
    refine Dv.s_ret (K := K) (Dv.ev_bl true) gg.fh fun y F9 H9 g9 hy => ?_
    cases hy
    have := q _ _ ((g1.trans gg).trans g9)
    rw [e0] at this
    exact this
end
end R3

set_option Elab.async false
set_option linter.all false
set_option maxRecDepth 100000
set_option maxHeartbeats 4000000
/-! GENERAL: what is made, told by the values with a word on each, so that it can be changed later: new lists within new tuples. -/
namespace Dv
open PySem PySem.Spec PyProof.Rows L2 Evl
/-- each value stands to its item as R says -/
inductive AllP {β : Type} (R : Hp → V → β → Prop) (F : Hp) : List V → List β → Prop
  | nil : AllP R F [] []
  | cons {v : V} {x : β} {vs : List V} {xs : List β} (h : R F v x) (t : AllP R F vs xs) : AllP R F (v :: vs) (x :: xs)
section
variable {β : Type} {R : Hp → V → β → Prop} {F F' : Hp}
theorem AllP.mono (m : ∀ v x, R F v x → R F' v x) : ∀ {vs : List V} {xs : List β}, AllP R F vs xs → AllP R F' vs xs
  | _, _, .nil => .nil
  | _, _, .cons h t => .cons (m _ _ h) (t.mono m)
theorem AllP.imp {S : Hp → V → β → Prop} (m : ∀ v x, R F v x → S F' v x) : ∀ {vs : List V} {xs : List β}, AllP R F vs xs → AllP S F' vs xs
  | _, _, .nil => .nil
  | _, _, .cons h t => .cons (m _ _ h) (t.imp m)
theorem AllP.app : ∀ {vs us : List V} {xs ys : List β}, AllP R F vs xs → AllP R F us ys → AllP R F (vs ++ us) (xs ++ ys)
  | _, _, _, _, .nil, g => g
  | _, _, _, _, .cons h t, g => .cons h (t.app g)
theorem AllP.len : ∀ {vs : List V} {xs : List β}, AllP R F vs xs → vs.length = xs.length
  | _, _, .nil => rfl
  | _, _, .cons _ t => by rw [List.length_cons, List.length_cons, t.len]
theorem AllP.at : ∀ {vs : List V} {xs : List β} {i : Nat} {v : V}, AllP R F vs xs → vs[i]? = some v → ∃ x, xs[i]? = some x ∧ R F v x
  | _, _, 0, _, .cons h _, e => by cases e; exact ⟨_, rfl, h⟩
  | _, _, _ + 1, _, .cons _ t, e => t.at e
theorem AllP.dps {K : PySem.W.Frag} {enc : β → PyData} (d : ∀ v x, R F v x → Dp K F v (enc x)) : ∀ {vs : List V} {xs : List β}, AllP R F vs xs → DpAll K F vs (xs.map enc)
  | _, _, .nil => .nil
  | _, _, .cons h t => .cons (d _ _ h) (t.dps d)
theorem AllP.map {α : Type} {f : α → β} : ∀ {vs : List V} {xs : List α}, AllP (fun F v x => R F v (f x)) F vs xs → AllP R F vs (xs.map f)
  | _, _, .nil => .nil
  | _, _, .cons h t => .cons h (t.map)
end
section
variable {K : PySem.W.Frag} {σ : L2.St} {F : Hp} {te tl : TE} {ds : List PyData}
def EvP (te : TE) (σ : L2.St) (F : Hp) (Pd : Hp → V → Prop) : Prop := ∀ H, Ex F H → ∀ Q : VK, (∀ v F' H', Gr F H F' H' → Pd F' v → Q v H') → te σ H Q
/-- a new list, kept, and known as new -/
theorem el_new (h : EvL K te σ F ds) {H : Hp} (e : Ex F H) {Q : VK} (q : ∀ p us F' H', Gr F H F' H' → H p = none → F' p = some (.lst us) → DpAll K F' us ds → Q (.ref p) H') : te σ H Q :=
  h H e _ fun p vs F' H' g h1 h2 h3 h4 => q p vs _ H' (g.take h1 h2 h3) h1 upd_same (dps_ex (Ex.new h2) h4)
/-- (x, [..]), the list new -/
theorem ep_pair {i : Nat} {x : V} (hi : σ[i]? = some (some x)) (hl : EvL K tl σ F ds) : EvP (tTup (tCons (tVar i) (tCons tl tNil))) σ F fun F' v => ∃ T q us, v = .ref T ∧ F' T = some (.tup [x, .ref q]) ∧ F q = none ∧ F' q = some (.lst us) ∧ DpAll K F' us ds := fun H e Q q =>
  ⟨_, hi, el_new hl e fun p us F1 H1 g1 h1 h2 hd => ⟨sz_of (by simp), fun T hT => q _ _ _ (g1.trans (Gr.new g1.fh hT)) ⟨T, p, us, rfl, upd_same, ex_none e h1, Ex.new (ex_none g1.fh hT) _ _ h2, dps_ex (Ex.new (ex_none g1.fh hT)) hd⟩⟩⟩
theorem lcP_rule {α : Type} {wi : TI} {g : TG} {vs : List Nat} (R : Hp → V → α → Prop) (mono : ∀ F F' v x, Ex F F' → R F v x → R F' v x) (xs : List α) (enc : α → PyData) (hi : ItD K wi σ F (xs.map enc)) (hz : xs.length ≤ 40000)
    (hb : ∀ x, x ∈ xs → ∀ v F1, Ex F F1 → Dp K F1 v (enc x) → ∃ σ2, (∀ H, Ex F1 H → ∀ Q : L2.St → Hp → Prop, Q σ2 H → g v (wipe σ vs) H Q) ∧ wipe σ2 vs = wipe σ vs ∧ EvP te σ2 F1 fun F' u => R F' u x)
    {H : Hp} (eH : Ex F H) {Q : VK} (q : ∀ p ws F' H', Gr F H F' H' → H p = none → F' p = none → H' p = some (.lst ws) → AllP R F' ws xs → Q (.ref p) H') : tLc wi g tYes te vs σ H Q := hi H eH _ fun J F1 H1 g1 wd => by
  obtain ⟨G, Y, W, hG, hY⟩ := wd
  rw [List.length_map] at W
  intro D hD
  have fD : F1 D = none := ex_none g1.fh hD
  refine lc_it W (Pv := fun i H' => ∃ F' ws, Gr F1 H1 F' H' ∧ F' D = none ∧ H' D = some (.lst ws) ∧ AllP R F' ws (xs.take i)) ⟨F1, [], Gr.only g1.fh hD, fD, upd_same, by rw [List.take_zero]; exact .nil⟩
    (fun i H' _ p => ?_) (fun i v H2 H3 hin p y => ?_) (fun H' p => ?_)
  · obtain ⟨F', ws, g, _⟩ := p
    exact hG _ (g.fx.trans g.fh)
  · obtain ⟨F2, ws, g2, f2, h2, hw⟩ := p
    obtain ⟨F3, d, hd, g3, hv⟩ := hY F2 i H2 v H3 (by rw [List.length_map]; exact hin) g2.fx g2.fh y
    rw [List.getElem?_map, List.getElem?_eq_getElem hin] at hd
    cases hd
    have hx : xs[i] ∈ xs := List.getElem_mem hin
    obtain ⟨σ2, hg, hwp, he⟩ := hb xs[i] hx v F3 (g1.fx.trans (g2.fx.trans g3.fx)) hv
    refine hg H3 g3.fh _ ⟨hwp, ?_⟩
    have k3 := g3.keep h2 f2
    have tk : (xs.take (i + 1)) = xs.take i ++ [xs[i]] := List.take_succ_eq_append_getElem hin
    have wl : ws.length ≤ 40000 := by
      rw [hw.len, List.length_take]
      omega
    show te σ2 H3 _
    refine he H3 g3.fh _ fun v' F5 H5 g5 hv' => ?_
    have k5 := g5.keep k3.1 k3.2
    refine ⟨ws, k5.1, sz_lt (by omega), F5, ws ++ [v'], (g2.trans (g3.trans g5)).mut hD k5.2, k5.2, upd_same, ?_⟩
    rw [tk]
    exact (hw.mono fun v x h => mono _ _ v x (g3.fx.trans g5.fx) h).app (.cons hv' .nil)
  · obtain ⟨F', ws, g, fd, hd, hw⟩ := p
    rw [List.take_length] at hw
    exact q D ws F' H' (g1.trans g) (ex_none g1.hx hD) fd hd hw
end
end Dv

set_option Elab.async false
set_option linter.all false
set_option maxRecDepth 100000
set_option maxHeartbeats 4000000
/-! GENERAL: [*xs, y] on data. -/
namespace Dv
open PySem PySem.Spec PyProof.Rows L2 Evl StX
section
variable {K : PySem.W.Frag} {σ : L2.St} {F : Hp} {te : TE} {t : TA} {ds es : List PyData}
theorem ea_star (h : EvD K te σ F (.list ds)) (hr : EaD K t σ F es) : EaD K (tStar K te t) σ F (ds ++ es) := fun H e Q q => h H e _ fun v F1 H1 g1 hv => by
  cases hv with
  | lst hs hd =>
    exact ⟨_, _, rfl, .inr (ex_l g1.fh hs), (Dv.EaD.mono g1.fx hr) H1 g1.fh _ fun ws F2 H2 g2 hw => q _ F2 H2 (g1.trans g2) (dps_app (dps_ex g2.fx hd) hw)⟩
end
end Dv

set_option Elab.async false
set_option linter.all false
set_option maxRecDepth 100000
set_option maxHeartbeats 4000000
/-! xs + ys and xs * k of lists that are read (tracked, frozen, or the module's). -/
namespace PySem
namespace OC
open Sem (wp)
theorem list_mulW (l : Addr) (items : Array Value) (n : Nat) (dd : Option Addr) (sl : Array (Option Value)) (x : Int) (u : Tok) (hc0 : ¬(!Builtin.List.listFitsIndex x) = true) (hc1 : ¬items.size * x.toNat > (2 ^ 63 - 1) / 8) (hc2 : ¬Builtin.List.listTooLong (items.size * x.toNat) = true) :
    Meets (Builtin.«list.__mul__» ⟨[.ref l, .int x u], []⟩) (fun _ R s => s.heap.get? l = some { cls := .type "list", dict := dd, data := .seq items n, slots := sl } ∧ R (.ok (.ret (Value.ref s.heap.objs.size))) { s with heap := s.heap.push { cls := Value.type "list", data := Data.seq (List.foldl (fun x1 x2 => x1 ++ x2) #[] (List.replicate (if items.isEmpty = true then 0 else x.toNat) items)) }, toks := s.toks }) :=
  .of_wp fun prog w A R s h => by
    obtain ⟨hp, g, d, tk, os⟩ := s; obtain ⟨hl, h⟩ := h
    have hsz := AutoListH.joined_fits hc2
    wp_walk; refine wpAny_ite_false (decide_eq_false (Nat.not_lt.mpr hsz)) ?_; wp_walk; exact ⟨_, rfl, h⟩
theorem int_rmulW (a : Int) (t : Tok) (l : Addr) (items : Array Value) (n : Nat) (dd : Option Addr) (sl : Array (Option Value)) :
    Meets (Builtin.«int.__rmul__» ⟨[.int a t, .ref l], []⟩) (fun _ R s => s.heap.get? l = some { cls := .type "list", dict := dd, data := .seq items n, slots := sl } ∧ R (.ok (.ret Value.notImplemented)) s) :=
  .of_wp fun prog w A R s h => by obtain ⟨hp, g, d, tk, os⟩ := s; obtain ⟨hl, h⟩ := h; wp_walk; exact ⟨_, rfl, h⟩
end OC
end PySem
namespace L2
open PySem PySem.Spec PyProof.Rows
section
variable {X : Cx}
def rCatS (K : PySem.W.Frag) : R2 := fun x y H Q => ∃ l b xs zs, x = .ref l ∧ y = .ref b ∧ SqL K H l xs ∧ SqL K H b zs ∧ xs.length + zs.length ≤ sizeLine ∧ ∀ p, H p = none → Q (.ref p) (upd H p (.lst (xs ++ zs)))
theorem op_catS : OpR X (binaryOp .Add) (rCatS X.K) := by
  intro pins s σ H x y v u Q I rx ry h
  obtain ⟨l, b, xs, zs, rfl, rfl, hH, hB, hz, q⟩ := h
  cases rx
  cases ry
  obtain ⟨its, r, ⟨⟨cls, dd, data, sl⟩, n, ho, hc, hdd, hd⟩, _⟩ := I.list hH
  obtain ⟨its2, r2, ⟨⟨cls2, dd2, data2, sl2⟩, n2, ho2, hc2, hdd2, hd2⟩, _⟩ := I.list hB
  simp only at hc hd hc2 hd2 hdd hdd2
  subst hc hd hc2 hd2
  have l1 := r.length
  have l2 := r2.length
  refine concat_meets ⟨_, ho, rfl⟩ ⟨_, ho2, rfl⟩ noFill_list_add seq_list_add PySem.F.slot_list_add PySem.F.entry_list_add (PySem.F.args_list_add_2 _ _) (list_addW l b its.toArray its2.toArray n n2 dd dd2 sl sl2 (by rw [List.size_toArray, List.size_toArray]; omega)) ⟨ho, ho2, ?_⟩
  have ea : its.toArray ++ its2.toArray = (its ++ its2).toArray := by simp
  rw [ea]
  exact ⟨.ref _, _, I.lnew (t' := s.toks) (r.append r2) (by rw [List.length_append]; omega), rfl, q _ I.fresh⟩
def rRepS (K : PySem.W.Frag) : R2 := fun x y H Q => ∃ l k xs, x = .ref l ∧ y = .int k ∧ SqL K H l xs ∧ -(2 ^ 63) ≤ k ∧ k < 2 ^ 63 ∧ xs.length * k.toNat ≤ sizeLine ∧
  ∀ p, H p = none → Q (.ref p) (upd H p (.lst (List.replicate k.toNat xs).flatten))
theorem op_repS : OpR X (binaryOp .Mult) (rRepS X.K) := by
  intro pins s σ H x y v u Q I rx ry h
  obtain ⟨l, k, xs, rfl, rfl, hH, h1, h2, hz, q⟩ := h
  cases rx
  obtain ⟨t, rfl⟩ := ry
  obtain ⟨its, r, ⟨⟨cls, dd, data, sl⟩, n, e, hc, hdd, hd⟩, _⟩ := I.list hH
  simp only at hc hd hdd
  subst hc hd
  have hl := r.length
  have hlen : its.toArray.size * k.toNat ≤ sizeLine := by rw [List.size_toArray, ← hl]; exact hz
  have hcap : ¬ its.toArray.size * k.toNat > (2 ^ 63 - 1) / 8 := by
    have : (sizeLine : Nat) ≤ (2 ^ 63 - 1) / 8 := by decide
    omega
  have hfit : ¬ (!Builtin.List.listFitsIndex k) = true := by
    rw [fitsIndex_both h1 h2]
    exact Bool.false_ne_true
  have hlong : ¬ Builtin.List.listTooLong (its.toArray.size * k.toNat) = true := by
    rw [notLongL hlen]
    exact Bool.false_ne_true
  have hnew : List.foldl (fun x1 x2 => x1 ++ x2) #[] (List.replicate (if its.toArray.isEmpty = true then 0 else k.toNat) its.toArray) = (List.replicate k.toNat its).flatten.toArray := by
    have f0 : ∀ m : Nat, List.foldl (fun x1 x2 => x1 ++ x2) #[] (List.replicate m its.toArray) = (List.replicate m its).flatten.toArray := fun m => by
      have := foldl_rep its m []
      rw [List.nil_append] at this
      exact this
    rw [f0]
    cases its with
    | nil => simp
    | cons a r' => rw [if_neg (by simp)]
  refine wpAny_binaryOp_repeat_ref (T := "list") (U := "int") (by decide) ⟨_, e, rfl⟩ (fun s' => typeIs_int s' k t) noFill_list_mul F.fills_int_mul F.slot_int_rmul repeat_list F.slot_int_index.lookup
    (call_meets F.slot_int_rmul (typeIs_int s k t) F.entry_int_rmul (F.args_int_rmul_2 _ _) (OC.int_rmulW k t l its.toArray n dd sl)
      ⟨e, rfl, ⟨_, e, rfl⟩, call_meets F.slot_list_mul ⟨_, e, rfl⟩ F.entry_list_mul (F.args_list_mul_2 _ _) (OC.list_mulW l its.toArray n dd sl k t hfit hcap hlong) ⟨e, ?_⟩⟩)
  rw [hnew]
  exact ⟨.ref _, _, I.lnew (t' := s.toks) (r.rep k.toNat) (by rw [PyProof.Rows.lm_len_rep_flat, Nat.mul_comm]; exact hz), rfl, q _ I.fresh⟩
end
end L2
namespace Dv
open PySem PySem.Spec PyProof.Rows L2 Evl
section
variable {K : PySem.W.Frag} {σ : L2.St} {F : Hp} {ta tb : TE} {ds es : List PyData}
/-- xs + ys of data -/
theorem el_catS (ha : EvD K ta σ F (.list ds)) (hb : EvD K tb σ F (.list es)) (hz : ds.length + es.length ≤ 100000) : EvL K (tOp (rCatS K) ta tb) σ F (ds ++ es) := fun H e Q q =>
  ha H e _ fun v F1 H1 g1 hv => (Dv.EvD.mono g1.fx hb) H1 g1.fh _ fun u F2 H2 g2 hu => by
    cases hv with
    | lst hs hd =>
      cases hu with
      | lst hs2 hd2 =>
        refine ⟨_, _, _, _, rfl, rfl, ex_l g2.fh (ex_l g2.fx hs), ex_l g2.fh hs2, by
          rw [dps_len hd, dps_len hd2]
          exact sz_of hz, fun r hr => q r _ F2 _ ((g1.trans g2).trans (Gr.only g2.fh hr)) (ex_none (g1.trans g2).hx hr) (ex_none g2.fh hr) upd_same (dps_app (dps_ex g2.fx hd) hd2)⟩
theorem dps_rep {F : Hp} {vs : List V} {ds : List PyData} (h : DpAll K F vs ds) : ∀ n : Nat, DpAll K F (List.replicate n vs).flatten (List.replicate n ds).flatten
  | 0 => .nil
  | n + 1 => by
    rw [List.replicate_succ, List.replicate_succ, List.flatten_cons, List.flatten_cons]
    exact dps_app h (dps_rep h n)
/-- xs * k of data -/
theorem el_repS {k : Int} (ha : EvD K ta σ F (.list ds)) (hb : EvD K tb σ F (.int k)) (h1 : -(2 ^ 63) ≤ k) (h2 : k < 2 ^ 63) (hz : ds.length * k.toNat ≤ 100000) : EvL K (tOp (rRepS K) ta tb) σ F (List.replicate k.toNat ds).flatten := fun H e Q q =>
  ha H e _ fun v F1 H1 g1 hv => (Dv.EvD.mono g1.fx hb) H1 g1.fh _ fun u F2 H2 g2 hu => by
    cases hu
    cases hv with
    | lst hs hd =>
      refine ⟨_, _, _, rfl, rfl, ex_l g2.fh (ex_l g2.fx hs), h1, h2, by
        rw [dps_len hd]
        exact sz_of hz, fun r hr => q r _ F2 _ ((g1.trans g2).trans (Gr.only g2.fh hr)) (ex_none (g1.trans g2).hx hr) (ex_none g2.fh hr) upd_same (dps_rep (dps_ex g2.fx hd) _)⟩
end
end Dv

set_option Elab.async false
set_option linter.all false
set_option maxRecDepth 100000
set_option maxHeartbeats 4000000
namespace R3
open PySem PySem.Spec PyProof.Rows L2 Evl Dv
open Qa (toF Sx)
def isClosed (m : MillD) (d : PyData) : Bool := isBox m d && (match d with | .list ds => ds.all (fun x => match x with | .tuple [_, b] => !nonB b | _ => false) | _ => false)
theorem bounds_shape {room : Option Int} {d : PyData} (h : isBounds room d = true) : ∃ a b, d = .tuple [a, b] := by
  unfold isBounds at h
  split at h
  · exact ⟨_, _, rfl⟩
  · cases h
theorem box_shape {m : MillD} {d : PyData} (h : isBox m d = true) : ∃ ds, d = .list ds ∧ ds.length = m.stuffs.length ∧ ∀ x ∈ ds, ∃ a b, x = .tuple [a, b] := by
  unfold isBox at h
  split at h
  · rename_i ds
    rw [Bool.and_eq_true, decide_eq_true_iff, List.all_eq_true] at h
    refine ⟨ds, rfl, h.1, fun x hx => ?_⟩
    obtain ⟨i, hi, rfl⟩ := List.mem_iff_getElem.mp hx
    have hz : i < (m.stuffs.zip ds).length := by rw [List.length_zip]; omega
    have := h.2 _ (List.getElem_mem hz)
    rw [List.getElem_zip] at this
    exact bounds_shape this
  · cases h
def encBd (z : Rat × Rat) : PyData := .tuple [encR z.1, encR z.2]
def sidesL (bx : List (Rat × Rat)) : List (List Rat) := bx.map fun z => if z.1 = z.2 then [z.1] else [z.1, z.2]
def edgesL (ss : List (List Rat)) : List (List Rat) := ss.foldl (fun found side => found.flatMap fun edge => side.map fun x => edge ++ [x]) [[]]
section
variable {P : Program} {w : World} {K : PySem.W.Frag} {mg : Str → Option Value} {base : Heap}
def spCheckBox (K : PySem.W.Frag) (C CX : Addr) : Sp := fun vs H Q E => ∃ (F : Hp) (x : Addr) (v : V) (m : MillD) (d : PyData), vs = [.ref x, v] ∧ Evl.Ex F H ∧ MillAt K F C x m ∧ m.stuffs.length ≤ 8 ∧ RoomSm m ∧ Dq K F v d ∧ gd d = true ∧ smBox d = true ∧
  (isBox m d = true → ∀ F' H', Gr F H F' H' → Q .non H') ∧ (isBox m d = false → Bad CX F H v E)
theorem sc_check_box : FnScope (["mill", "value"] : List Str) (["mill", "value"] : List Str) (defScope sCheckBox) := ⟨rfl, rfl, rfl, by decide +kernel, rfl, by decide +kernel, by decide +kernel⟩
theorem ok_check_box (D : Def K mg "check_box" sCheckBox ["mill", "value"]) {C CX : Addr} (EX : ErrC P K mg "InvalidBox" CX) (C_is_box : Cal P w K mg base "is_box" ["mill", "value"] 5 (spIsBox K C)) :
    CalX P w K mg base "check_box" ["mill", "value"] 6 (spCheckBox K C CX) := by
  refine calX_mk D sc_check_box (fun vs H Q E h => ?_) (fun f cdv A outer s H vs Q E hr h => ?_)
  · obtain ⟨F, x, v, m, d, rfl, _⟩ := h
    rfl
  obtain ⟨F, ml, v, m, d, rfl, e, hm, l8, hrs, hv, hg, hsm, q1, q2⟩ := h
  obtain ⟨fI, TX⟩ := EX.ex
  refine ⟨_, (pss_one (ps_if (pt_not (pt_val (pe_callC C_is_box hr (pa_cons (pv 0) (pa_cons (pv 1) pa_nil))))) (pss_one (ps_raise rfl (takes_of rfl rfl rfl rfl) (pmk_xn1 TX (raises_own TX.exC TX.tyC) hr EX.hs (pa_cons (pv 1) pa_nil)))) pss_nil)), ?_⟩
  have st : start ["mill", "value"] [V.ref ml, v] = [some (.ref ml), some v] := rfl
  rw [st]
  have eb : EvD K (tCall (spIsBox K C) [] E0 (tCons (tVar 0) (tCons (tVar 1) tNil))) [some (.ref ml), some v] F (.bool (isBox m d)) := fun H' e' Q' q' =>
    ⟨_, rfl, _, rfl, F, ml, v, m, d, rfl, e', hm, l8, hrs, hv, hg, hsm, fun F' H'' g => q' _ F' H'' g (.bl _)⟩
  cases hb : isBox m d with
  | true =>
    rw [hb] at eb
    refine s_ifF (et_notT (et_B eb)) e fun F1 H1 g1 => ?_
    exact q1 hb F1 H1 g1
  | false =>
    rw [hb] at eb
    refine s_ifT (et_notF (et_B eb)) e fun F1 H1 g1 => ?_
    exact ⟨_, rfl, v, rfl, fun dd hdd => q2 hb F1 H1 dd g1 hdd⟩
theorem sx_box {σ : L2.St} {F H : Hp} {C CX x : Addr} {m : MillD} {d : PyData} {v : V} {i j : Nat} {W : WX} {D : Ends} (hi : σ[i]? = some (some (.ref x))) (hj : σ[j]? = some (some v)) (hm : MillAt K F C x m) (l8 : m.stuffs.length ≤ 8) (hrs : RoomSm m) (hv : Dq K F v d) (hg : gd d = true) (hs : smBox d = true) (e : Ex F H)
    (q1 : isBox m d = true → ∀ F' H', Gr F H F' H' → D.nx σ H') (q2 : isBox m d = false → Bad CX F H v (WE W σ)) : tDrop (tCallSD (spCheckBox K C CX) [] (WE W) (tCons (tVar i) (tCons (tVar j) tNil))) D σ H :=
  ⟨_, hi, _, hj, F, x, v, m, d, rfl, e, hm, l8, hrs, hv, hg, hs, q1, q2⟩
def spCheckClosed (K : PySem.W.Frag) (C CX : Addr) : Sp := fun vs H Q E => ∃ (F : Hp) (x : Addr) (v : V) (m : MillD) (d : PyData), vs = [.ref x, v] ∧ Evl.Ex F H ∧ MillAt K F C x m ∧ m.stuffs.length ≤ 8 ∧ RoomSm m ∧ Dq K F v d ∧ gd d = true ∧ smBox d = true ∧
  (isClosed m d = true → ∀ F' H', Gr F H F' H' → Q .non H') ∧ (isClosed m d = false → Bad CX F H v E)
theorem sc_check_closed : FnScope (["mill", "box", "low", "high"] : List Str) (["mill", "box"] : List Str) (defScope sCheckClosed) := ⟨rfl, rfl, rfl, by decide +kernel, rfl, by decide +kernel, by decide +kernel⟩
theorem ok_check_closed (D : Def K mg "check_closed" sCheckClosed ["mill", "box"]) {C CX : Addr} (EX : ErrC P K mg "InvalidBox" CX) (C_check_box : CalX P w K mg base "check_box" ["mill", "value"] 6 (spCheckBox K C CX)) :
    CalX P w K mg base "check_closed" ["mill", "box"] 7 (spCheckClosed K C CX) := by
  refine calX_mk D sc_check_closed (fun vs H Q E h => ?_) (fun f cdv A outer s H vs Q E hr h => ?_)
  · obtain ⟨F, x, v, m, d, rfl, _⟩ := h
    rfl
  obtain ⟨F, ml, v, m, d, rfl, e, hm, l8, hrs, hv, hg, hsm, q1, q2⟩ := h
  obtain ⟨fI, TX⟩ := EX.ex
  refine ⟨_, (pss_cons (ps_expr (pe_callXC C_check_box hr (takes_of rfl rfl rfl rfl) (pa_cons (pv 0) (pa_cons (pv 1) pa_nil))))
      (pss_one (ps_if (pt_cmpR (op_neD hr.1.units) (pe_lc (own := [("low", 2), ("high", 3)]) (g := gTup K 2 (gCons (gName 2) (gCons (gName 3) gNil))) rfl sc_check_closed.nd (pi_list (pv 1)) (blkOk_by (own := [("low", 2), ("high", 3)]) (N := ["mill", "box", "low", "high"]) (sc := defScope sCheckClosed) (by decide +kernel)) (fun _ _ _ _ _ => (pg_tup (by rfl) (pgs_cons (pg_name (i := 2) sc_check_closed.nd rfl (.inl rfl)) (pgs_cons (pg_name (i := 3) sc_check_closed.nd rfl (.inl rfl)) pgs_nil))))  (fun _ _ _ _ _ => (pts_one (pt_cmpR op_isN (pv 3) pe_non (nomark _)))) (fun _ _ _ _ _ => (pv 3))) (pe_lst pa_nil) (nomark _)) (pss_one (ps_raise rfl (takes_of rfl rfl rfl rfl) (pmk_xn1 TX (raises_own TX.exC TX.tyC) hr EX.hs (pa_cons (pv 1) pa_nil)))) pss_nil))), ?_⟩
  have st : start ["mill", "box", "low", "high"] [V.ref ml, v] = [some (.ref ml), some v, none, none] := rfl
  rw [st]
  refine seq_of (sx_box (i := 0) (j := 1) rfl rfl hm l8 hrs hv hg hsm e (fun hb F1 H1 g1 => ?_) (fun hb => ?_))
  · obtain ⟨ds, rfl, hl, hx⟩ := box_shape hb
    have hv : Dp K F v (.list ds) := by
      cases hv with
      | dat h => exact h
    dsimp only
    have lc := lc_rule (K := K) (F := F1) (te := tVar 3) (vs := [2, 3]) (tt := tTest (tOp rIsN (tVar 3) (tC .non))) (g := gTup K 2 (gCons (gName 2) (gCons (gName 3) gNil))) (σ := [some (.ref ml), some v, none, none]) ds (fun x => x) (fun x => match x with | .tuple [_, b] => b | _ => .none) (fun x => match x with | .tuple [_, b] => nonB b | _ => false) (it_list (by
        rw [List.map_id']
        exact Dv.ev_var (i := 1) rfl (dp_ex g1.fx hv))) (by omega)
      (fun x hxm v F4 e4 hv4 => by
        obtain ⟨a, b, rfl⟩ := hx x hxm
        obtain ⟨y1, y2, hy1, hy2, ht⟩ := tup2 hv4
        exact ⟨[some (.ref ml), some _, some y1, some y2], fun H e Q q => ht 2 3 _ H e _ q, rfl, et_test (ev_isNR (Dv.ev_var (i := 3) rfl hy2)), fun _ => Dv.ev_var (i := 3) rfl hy2⟩)
    have nb : ∀ d : PyData, nonB d = true → d = .none := fun d h => by cases d <;> first | rfl | cases h
    have sh : SeqAt.shaped (.list ((ds.filter fun x => match x with | .tuple [_, b] => nonB b | _ => false).map fun x => match x with | .tuple [_, b] => b | _ => .none)) = true := by
      have hN : ∀ y ∈ ((ds.filter fun x => match x with | .tuple [_, b] => nonB b | _ => false).map fun x => match x with | .tuple [_, b] => b | _ => .none), y = PyData.none := fun y hy => by
        obtain ⟨x, hx1, rfl⟩ := List.mem_map.mp hy
        obtain ⟨hx2, hx3⟩ := List.mem_filter.mp hx1
        obtain ⟨a, b, rfl⟩ := hx x hx2
        exact nb b hx3
      rw [List.eq_replicate_of_mem hN]
      generalize List.length _ = n
      have : ∀ n : Nat, PyData.canLayAll0 (List.replicate n PyData.none) = true ∧ PyData.depthAll (List.replicate n PyData.none) ≤ 0 := fun n => by
        induction n with
        | zero => exact ⟨by rw [List.replicate_zero, PyData.canLayAll0], by rw [List.replicate_zero, PyData.depthAll]; exact Nat.le_refl _⟩
        | succ n ih =>
          rw [List.replicate_succ]
          refine ⟨by rw [PyData.canLayAll0, ih.1]; rfl, ?_⟩
          rw [PyData.depthAll]
          have := ih.2
          simp [PyData.depth]
          omega
      obtain ⟨k1, k2⟩ := this n
      show (PyData.canLay0 _ && decide (PyData.depth _ ≤ 64)) = true
      rw [PyData.canLay0, k1, PyData.depth, decide_eq_true (by omega)]
      rfl
    have tst := ev_neD (EvL.ev lc) (EvL.ev (Dv.el_lst (σ := [some (.ref ml), some v, none, none]) (Dv.ea_nil) (by simp))) sh shaped_nil
    rw [eqv_nil] at tst
    by_cases hc : isClosed m (.list ds) = true
    · have e0 : ds.filter (fun x => match x with | .tuple [_, b] => nonB b | _ => false) = [] := by
        rw [List.filter_eq_nil_iff]
        intro x hxm hn
        unfold isClosed at hc
        rw [Bool.and_eq_true, List.all_eq_true] at hc
        have := hc.2 x hxm
        obtain ⟨a, b, rfl⟩ := hx x hxm
        have h2 : (!nonB b) = true := this
        have h3 : nonB b = true := hn
        rw [h3] at h2
        cases h2
      rw [e0] at tst
      refine s_ifF (et_v tst rfl) g1.fh fun F2 H2 g2 => ?_
      exact q1 hc F2 H2 (g1.trans g2)
    · have hcf : isClosed m (.list ds) = false := by simpa using hc
      have e0 : (ds.filter (fun x => match x with | .tuple [_, b] => nonB b | _ => false)) ≠ [] := fun z => by
        rw [List.filter_eq_nil_iff] at z
        refine hc ?_
        unfold isClosed
        rw [Bool.and_eq_true, List.all_eq_true]
        refine ⟨hb, fun x hxm => ?_⟩
        have h1 := z x hxm
        obtain ⟨a, b, rfl⟩ := hx x hxm
        show (!nonB b) = true
        cases hn : nonB b with
        | true => exact absurd hn h1
        | false => rfl
      refine s_ifT (et_v tst ?_) g1.fh fun F2 H2 g2 => ?_
      · congr 1
        rw [Bool.not_eq_true', List.isEmpty_eq_false_iff]
        exact fun z => e0 (List.map_eq_nil_iff.mp z)
      · exact ⟨_, rfl, v, rfl, fun dd hdd => q2 hcf F2 H2 dd (g1.trans g2) hdd⟩
  · exact q2 (by unfold isClosed; rw [hb]; rfl)
end
end R3

set_option Elab.async false
set_option linter.all false
set_option maxRecDepth 100000
set_option maxHeartbeats 4000000
namespace R3
open PySem PySem.Spec PyProof.Rows L2 Evl Dv StX
open Qa (toF Sx)
theorem eqv_R (a b : Rat) : PyData.eqv (encR a) (encR b) = decide (a = b) := by
  have : PyData.eqv (encR a) (encR b) = (decide (a.num = b.num) && decide ((a.den : Int) = (b.den : Int))) := by
    unfold encR encF toF
    simp only [PyData.eqv, PyData.eqvAll, Bool.and_true]
    rfl
  rw [this, Bool.eq_iff_iff, Bool.and_eq_true, decide_eq_true_iff, decide_eq_true_iff, decide_eq_true_iff]
  constructor
  · rintro ⟨h1, h2⟩
    exact Rat.ext h1 (by omega)
  · rintro rfl
    exact ⟨rfl, rfl⟩
theorem shaped_R (a : Rat) : SeqAt.shaped (encR a) = true := by
  unfold encR encF
  simp [SeqAt.shaped, PyData.canLay0, PyData.canLayAll0, PyData.depth, PyData.depthAll]
def fSides : List PyData → PyData → Prop := fun ds d => ∃ bx : List (Rat × Rat), ds = [.list (bx.map encBd)] ∧ bx.length ≤ 8 ∧ d = .list ((sidesL bx).map fun s => .list (s.map encR))
def longL (found : List (List Rat)) (side : List Rat) : List (List Rat) := found.flatMap fun edge => side.map fun x => edge ++ [x]
theorem edges_take {ss : List (List Rat)} {n : Nat} (h : n < ss.length) : edgesL (ss.take (n + 1)) = longL (edgesL (ss.take n)) ss[n] := by
  unfold edgesL
  rw [List.take_succ_eq_append_getElem h, List.foldl_append]
  rfl
theorem long_len {found : List (List Rat)} {side : List Rat} (h : side.length ≤ 2) : (longL found side).length ≤ 2 * found.length := by
  induction found with
  | nil => exact Nat.le_refl _
  | cons e t ih =>
    show (side.map _ ++ longL t side).length ≤ _
    rw [List.length_append, List.length_map, List.length_cons]
    omega
theorem edges_len : ∀ {ss : List (List Rat)} {n : Nat}, (∀ s ∈ ss, s.length ≤ 2) → n ≤ ss.length → (edgesL (ss.take n)).length ≤ 2 ^ n
  | ss, 0, _, _ => Nat.le_refl _
  | ss, n + 1, h, hn => by
    rw [edges_take (by omega), Nat.pow_succ]
    have h1 := edges_len (ss := ss) (n := n) h (by omega)
    have h2 := long_len (found := edgesL (ss.take n)) (h _ (List.getElem_mem (show n < ss.length by omega)))
    omega
theorem edges_each : ∀ {ss : List (List Rat)} {n : Nat}, n ≤ ss.length → ∀ e ∈ edgesL (ss.take n), e.length = n
  | ss, 0, _, e, h => by
    rw [List.mem_singleton.mp h]
    rfl
  | ss, n + 1, hn, e, h => by
    rw [edges_take (by omega)] at h
    obtain ⟨e', he', h⟩ := List.mem_flatMap.mp h
    obtain ⟨x, _, rfl⟩ := List.mem_map.mp h
    rw [List.length_append, edges_each (ss := ss) (n := n) (by omega) e' he']
    rfl
/-- a list of fractions that is not of F0, and is as N says -/
def NewE (K : PySem.W.Frag) (N : Addr → Prop) (F0 F : Hp) (v : V) (e : List Rat) : Prop := ∃ q us, v = .ref q ∧ F0 q = none ∧ F q = some (.lst us) ∧ DpAll K F us (e.map encR) ∧ N q
theorem NewE.mono {K : PySem.W.Frag} {N : Addr → Prop} {F0 F F' : Hp} (e : Ex F F') (v : V) (b : List Rat) (h : NewE K N F0 F v b) : NewE K N F0 F' v b := by
  obtain ⟨q, us, h1, h3, h4, h5, h6⟩ := h
  exact ⟨q, us, h1, h3, e _ _ h4, dps_ex e h5, h6⟩
theorem NewE.back {K : PySem.W.Frag} {N : Addr → Prop} {F0 F1 F : Hp} (e : Ex F0 F1) (v : V) (b : List Rat) (h : NewE K N F1 F v b) : NewE K N F0 F v b := by
  obtain ⟨q, us, h1, h3, h4⟩ := h
  exact ⟨q, us, h1, ex_none e h3, h4⟩
theorem NewE.dp {K : PySem.W.Frag} {N : Addr → Prop} {F0 F : Hp} (v : V) (b : List Rat) (h : NewE K N F0 F v b) : Dp K F v (.list (b.map encR)) := by
  obtain ⟨q, us, rfl, h3, h4, h5, _⟩ := h
  exact .lst (SqL.of h4) h5
theorem NewE.ne {K : PySem.W.Frag} {N : Addr → Prop} {F0 F H : Hp} {p : Addr} (e : Ex F H) (hp : H p = none) (v : V) (b : List Rat) (h : NewE K N F0 F v b) : NewE K (· ≠ p) F0 F v b := by
  obtain ⟨q, us, h1, h3, h4, h5, _⟩ := h
  exact ⟨q, us, h1, h3, h4, h5, fun z => by rw [z] at h4; rw [e _ _ h4] at hp; cases hp⟩
theorem lst1_of {te : TE} {σ : L2.St} {H : Hp} {Q : VK} (h : te σ H fun v H1 => [v].length ≤ sizeLine ∧ ∀ p, H1 p = none → Q (.ref p) (upd H1 p (.lst [v]))) : tLst (tCons te tNil) σ H Q := h
theorem ret_of {te : TE} {D : Ends} {σ : L2.St} {H : Hp} (h : te σ H D.rt) : tRet te D σ H := h
section
variable {P : Program} {w : World} {K : PySem.W.Frag} {mg : Str → Option Value} {base : Heap}
theorem sc_sides_of : FnScope (["box", "low", "high"] : List Str) (["box"] : List Str) (defScope sSidesOf) := ⟨rfl, rfl, rfl, by decide +kernel, rfl, by decide +kernel, by decide +kernel⟩
theorem ok_sides_of (D : Def K mg "sides_of" sSidesOf ["box"]) : Cal P w K mg base "sides_of" ["box"] 1 (spD K fSides) := by
  refine cal_mk D sc_sides_of (len_D (by rintro _ _ ⟨bx, rfl, _⟩; rfl)) (fun f cdv A outer s H vs Q E hr h => ?_)
  obtain ⟨F, ds, d, e, hv, ⟨bx, rfl, h8, rfl⟩, q⟩ := h
  obtain ⟨v, rfl, h1⟩ := Dv.one hv
  refine ⟨_, (pss_one (ps_ret (pe_lc (own := [("low", 1), ("high", 2)]) (g := gTup K 2 (gCons (gName 1) (gCons (gName 2) gNil))) rfl sc_sides_of.nd (pi_list (pv 0)) (blkOk_by (own := [("low", 1), ("high", 2)]) (N := ["box", "low", "high"]) (sc := defScope sSidesOf) (by decide +kernel)) (fun _ _ _ _ _ => (pg_tup (by rfl) (pgs_cons (pg_name (i := 1) sc_sides_of.nd rfl (.inl rfl)) (pgs_cons (pg_name (i := 2) sc_sides_of.nd rfl (.inl rfl)) pgs_nil))))  (fun _ _ _ _ _ => pts_nil) (fun _ _ _ _ _ => (pe_ifExp (pt_cmpR (r := rEqD K) (op_eqD (by exact hr.1.units)) (pv 1) (pv 2) (nomark _)) (pe_lst (pa_cons (pv 1) pa_nil)) (pe_lst (pa_cons (pv 1) (pa_cons (pv 2) pa_nil)))))))), ?_⟩
  have st : start ["box", "low", "high"] [v] = [some v, none, none] := rfl
  rw [st]
  have lc := lc_rule (K := K) (F := F) (te := tIf (tTest (tOp (rEqD K) (tVar 1) (tVar 2))) (tLst (tCons (tVar 1) tNil)) (tLst (tCons (tVar 1) (tCons (tVar 2) tNil)))) (vs := [1, 2]) (tt := tYes) (g := gTup K 2 (gCons (gName 1) (gCons (gName 2) gNil))) (σ := [some v, none, none]) bx encBd (fun z => .list ((if z.1 = z.2 then [z.1] else [z.1, z.2]).map encR)) (fun _ => true)
    (it_list (Dv.ev_var (i := 0) rfl h1)) (by omega)
    (fun z hz v F4 e4 hv4 => by
      obtain ⟨y1, y2, hy1, hy2, ht⟩ := tup2 hv4
      refine ⟨[some _, some y1, some y2], fun H e Q q => ht 1 2 _ H e _ q, rfl, fun H e Q q => q F4 H (Gr.refl e), fun _ => ?_⟩
      refine Dv.ev_if (p := decide (z.1 = z.2)) (et_v (ev_eqD (Dv.ev_var (i := 1) rfl hy1) (Dv.ev_var (i := 2) rfl hy2) (shaped_R _) (shaped_R _)) (by rw [eqv_R])) (fun h => ?_) (fun h => ?_)
      · rw [if_pos (of_decide_eq_true h)]
        exact EvL.ev (Dv.el_lst (Dv.ea_cons (Dv.ev_var (i := 1) rfl hy1) Dv.ea_nil) (by simp))
      · rw [if_neg (of_decide_eq_false h)]
        exact EvL.ev (Dv.el_lst (Dv.ea_cons (Dv.ev_var (i := 1) rfl hy1) (Dv.ea_cons (Dv.ev_var (i := 2) rfl hy2) Dv.ea_nil)) (by simp)))
  rw [filt_true] at lc
  refine Dv.s_ret (K := K) (EvL.ev lc) e fun x F1 H1 g1 hx => q x F1 H1 g1 ?_
  unfold sidesL
  rw [List.map_map]
  exact hx
def spEdgesOf (K : PySem.W.Frag) : Sp := fun vs H Q _ => ∃ (F : Hp) (v : V) (ss : List (List Rat)), vs = [v] ∧ Ex F H ∧ Dp K F v (.list (ss.map fun s => .list (s.map encR))) ∧ ss.length ≤ 3 ∧ (∀ s ∈ ss, s.length ≤ 2) ∧
  ∀ p ws F' H', Gr F H F' H' → F p = none → F' p = some (.lst ws) → AllP (NewE K (· ≠ p) F) F' ws (edgesL ss) → Q (.ref p) H'
theorem sc_edges_of : FnScope (["sides", "found", "side", "longer", "edge", "end"] : List Str) (["sides"] : List Str) (defScope sEdgesOf) := ⟨rfl, rfl, rfl, by decide +kernel, rfl, by decide +kernel, by decide +kernel⟩
theorem ok_edges_of (D : Def K mg "edges_of" sEdgesOf ["sides"]) : Cal P w K mg base "edges_of" ["sides"] 1 (spEdgesOf K) := by
  refine cal_mk D sc_edges_of (fun vs H Q E h => ?_) (fun f cdv A outer s H vs Q E hr h => ?_)
  · obtain ⟨F, v, ss, rfl, _⟩ := h
    rfl
  obtain ⟨F, v, ss, rfl, e, hv, h3, h2, q⟩ := h
  refine ⟨_, (pss_cons (ps_set (i := 1) sc_edges_of.nd rfl (.inl rfl) (pe_lst (pa_cons (pe_lst pa_nil) pa_nil)))
      (pss_cons (ps_for PassesOwn.never rfl (pi_list (pv 0)) (pg_name (i := 2) sc_edges_of.nd rfl (.inl rfl)) (pss_cons (ps_set (i := 3) sc_edges_of.nd rfl (.inl rfl) (pe_lst pa_nil))
      (pss_cons (ps_for PassesOwn.never rfl (pi_list (pv 1)) (pg_name (i := 4) sc_edges_of.nd rfl (.inr rfl)) (pss_one (ps_set (i := 3) sc_edges_of.nd rfl (.inl rfl) (pe_op op_catS (pv 3) (pe_lc (own := [("end", 5)]) (g := gName 5) rfl sc_edges_of.nd (pi_list (pv 2)) (blkOk_by (own := [("end", 5)]) (N := ["sides", "found", "side", "longer", "edge", "end"]) (sc := defScope sEdgesOf) (by decide +kernel)) (fun _ _ _ _ _ => (pg_name (i := 5) sc_edges_of.nd rfl (.inl rfl)))  (fun _ _ _ _ _ => pts_nil) (fun _ _ _ _ _ => (show PE _ _ (tLst (tStar K (tVar 4) (tCons (tVar 5) tNil))) from pe_lst (pa_star (pv 4) (pa_cons (pv 5) pa_nil)))))))))
      (pss_one (ps_set (i := 1) sc_edges_of.nd rfl (.inl rfl) (pv 3))))))
      (pss_one (ps_ret (pv 1))))), ?_⟩
  have st : start ["sides", "found", "side", "longer", "edge", "end"] [v] = [some v, none, none, none, none, none] := rfl
  rw [st]
  refine seq_of (asg_of ?_)
  refine lst1_of (el_new (Dv.el_lst (K := K) (F := F) (σ := [some v, none, none, none, none, none]) Dv.ea_nil (by simp)) e fun p0 us0 F1 H1 g1 n0 hus0 hd0 => ⟨sz_of (by simp), fun pf0 hpf0 => ?_⟩)
  have g2 := g1.trans (Gr.new (o := .lst [.ref p0]) g1.fh hpf0)
  have npf0 : F pf0 = none := ex_none (g1.fx.trans g1.fh) hpf0
  have p0f : p0 ≠ pf0 := fun z => by rw [← z, g1.fh _ _ hus0] at hpf0; cases hpf0
  have all0 : AllP (NewE K (· ≠ pf0) F) (upd F1 pf0 (.lst [.ref p0])) [.ref p0] (edgesL (ss.take 0)) := .cons ⟨p0, us0, rfl, ex_none e n0, Ex.new (ex_none g1.fh hpf0) _ _ hus0, dps_ex (Ex.new (ex_none g1.fh hpf0)) hd0, p0f⟩ .nil
  have hpf0' : upd F1 pf0 (.lst [.ref p0]) pf0 = some (.lst [.ref p0]) := upd_same
  generalize upd F1 pf0 (.lst [.ref p0]) = F2 at *
  generalize upd H1 pf0 (.lst [.ref p0]) = H2 at *
  dsimp only
  show tSeq _ _ _ [some v, some (.ref pf0), none, none, none, none] H2
  refine seq_of (Dv.s_for (K := K) (it_list (σ := [some v, some (.ref pf0), none, none, none, none]) (Dv.ev_var (i := 0) rfl (dp_ex g2.fx hv))) g2.fh
    (fun n σ' F' H' => ∃ pf ws s2 s3 s4, σ' = [some v, some (.ref pf), s2, s3, s4, none] ∧ Gr F H F' H' ∧ F pf = none ∧ F' pf = some (.lst ws) ∧ AllP (NewE K (· ≠ pf) F) F' ws (edgesL (ss.take n)))
    (fun F' H' g3 => ⟨pf0, _, _, _, _, rfl, g2.trans g3, npf0, g3.fx _ _ hpf0', all0.mono fun v x h => NewE.mono g3.fx v x h⟩) ?_ (fun σ' F' H' e1 e2 pv => ?_))
  · rintro Fb eb n σ' F3 H3 u du F4 H4 hdu e3 e4 ⟨pf, ws, s2, s3, s4, rfl, gg, npf, hpf, hall⟩ g4 hu
    obtain ⟨hn, hdn⟩ := List.getElem?_eq_some_iff.mp hdu
    rw [List.length_map] at hn
    rw [List.getElem_map] at hdn
    subst hdn
    rw [edges_take hn]
    have side2 := h2 _ (List.getElem_mem hn)
    have el := edges_len (n := n) h2 (by omega)
    have el8 : (edgesL (ss.take n)).length ≤ 4 := by
      have : n ≤ 2 := by omega
      have : (2 : Nat) ^ n ≤ 2 ^ 2 := Nat.pow_le_pow_right (by decide) this
      omega
    generalize ss[n] = side at *
    have eln := edges_each (ss := ss) (n := n) (by omega)
    generalize edgesL (ss.take n) = es at *
    have gg4 := gg.trans g4
    show tSeq _ _ _ [some v, some (.ref pf), some u, s3, s4, none] H4
    refine seq_of (asg_of (el_new (Dv.el_lst (K := K) (F := F4) (σ := [some v, some (.ref pf), some u, s3, s4, none]) Dv.ea_nil (by simp)) gg4.fh fun pl0 ul0 F5 H5 g5 nl0 hul0 hdl0 => ?_))
    cases hdl0
    have gg5 := gg4.trans g5
    have npl0 : F pl0 = none := ex_none (gg4.fx.trans gg4.fh) nl0
    have hpf5 := (g4.fx.trans g5.fx) _ _ hpf
    have hall5 := hall.mono fun v x h => NewE.mono (g4.fx.trans g5.fx) v x h
    dsimp only
    show tSeq _ _ _ [some v, some (.ref pf), some u, some (.ref pl0), s4, none] H5
    have hfd : Dp K F5 (.ref pf) (.list (es.map fun e => .list (e.map encR))) := .lst (SqL.of hpf5) (hall5.dps fun v x h => NewE.dp v x h)
    refine seq_of (Dv.s_for (K := K) (it_list (σ := [some v, some (.ref pf), some u, some (.ref pl0), s4, none]) (Dv.ev_var (i := 1) rfl hfd)) gg5.fh
      (fun i σ' F' H' => ∃ pl wl s4, σ' = [some v, some (.ref pf), some u, some (.ref pl), s4, none] ∧ Gr F H F' H' ∧ Ex F5 F' ∧ F pl = none ∧ F' pl = some (.lst wl) ∧ AllP (NewE K (· ≠ pl) F) F' wl (longL (es.take i) side))
      (fun F' H' g6 => ⟨pl0, [], _, rfl, gg5.trans g6, g6.fx, npl0, g6.fx _ _ hul0, .nil⟩) ?_ (fun σ' F' H' e1 e2 pv => ?_))
    · rintro Fc ec i σ' F6 H6 x dx F7 H7 hdx e6 e7 ⟨pl, wl, s4, rfl, gg6, ex6, npl, hpl, hall6⟩ g7 hx
      obtain ⟨hi, hdi⟩ := List.getElem?_eq_some_iff.mp hdx
      rw [List.length_map] at hi
      rw [List.getElem_map] at hdi
      subst hdi
      have tk : es.take (i + 1) = es.take i ++ [es[i]] := List.take_succ_eq_append_getElem hi
      have ll : (longL (es.take i) side).length ≤ 8 := by
        refine Nat.le_trans (long_len side2) ?_
        rw [List.length_take]
        omega
      have e9 : longL (es.take (i + 1)) side = longL (es.take i) side ++ side.map fun x => es[i] ++ [x] := by
        rw [tk]
        unfold longL
        rw [List.flatMap_append]
        congr 1
        simp
      rw [e9]
      have edl := eln es[i] (List.getElem_mem _)
      generalize es[i] = edge at *
      have gg7 := gg6.trans g7
      have hu7 := dp_ex (g5.fx.trans (ex6.trans g7.fx)) hu
      show tAsg _ _ _ [some v, some (.ref pf), some u, some (.ref pl), some x, none] H7
      refine asg_of ⟨_, rfl, ?_⟩
      refine lcP_rule (K := K) (F := F7) (fun F' w y => NewE K (fun _ => True) F7 F' w (edge ++ [y])) (fun F F' w y e => NewE.mono e w _) (vs := [5]) (g := gName 5) (σ := [some v, some (.ref pf), some u, some (.ref pl), some x, none]) side encR (it_list (Dv.ev_var (i := 2) rfl hu7)) (by omega) (fun y hy w F8 e8 hw => ?_) gg7.fh fun p ws2 F9 H9 g9 n1 n2 n3 hall9 => ?_
      · refine ⟨[some v, some (.ref pf), some u, some (.ref pl), some x, some w], fun H e Q q => q, rfl, fun H e Q q => ?_⟩
        refine el_new (Dv.el_lst (ds := (edge ++ [y]).map encR) (by
          rw [List.map_append]
          exact ea_star (Dv.ev_var (i := 4) rfl (dp_ex e8 hx)) (Dv.ea_cons (Dv.ev_var (i := 5) rfl hw) Dv.ea_nil)) (by
          rw [List.length_map, List.length_append, List.length_singleton]
          omega)) e fun p us F' H' g n1 h1 h2 => q _ F' H' g ⟨p, us, rfl, ex_none (e8.trans e) n1, h1, h2, trivial⟩
      · have wl1 : wl.length ≤ 8 := by rw [hall6.len]; exact ll
        have wl2 : ws2.length ≤ 2 := by rw [hall9.len]; exact side2
        have hpl9 : F9 pl = some (.lst wl) := (g7.fx.trans g9.fx) _ _ hpl
        refine ⟨pl, p, wl, ws2, rfl, rfl, SqL.of (g9.fh _ _ hpl9), SqL.of n3, sz_of (by omega), fun p' hp' => ?_⟩
        have g10 := g9.trans (Gr.new (o := .lst (wl ++ ws2)) g9.fh hp')
        have np' : F p' = none := ex_none (gg7.fx.trans (g9.fx.trans g9.fh)) hp'
        have hall' : AllP (NewE K (· ≠ p') F) (upd F9 p' (.lst (wl ++ ws2))) (wl ++ ws2) (longL (es.take i) side ++ side.map fun x => edge ++ [x]) :=
          (hall6.imp fun v x h => NewE.mono (Ex.new (ex_none g9.fh hp')) v x (NewE.ne g9.fh hp' v x (NewE.mono (g7.fx.trans g9.fx) v x h))).app ((hall9.imp (S := fun F' w y => NewE K (· ≠ p') F F' w (edge ++ [y])) fun v x h => NewE.mono (Ex.new (ex_none g9.fh hp')) v _ (NewE.ne g9.fh hp' v _ (NewE.back gg7.fx v _ h))).map)
        have hp9 : upd F9 p' (.lst (wl ++ ws2)) p' = some (.lst (wl ++ ws2)) := upd_same
        generalize upd F9 p' (.lst (wl ++ ws2)) = F10 at *
        exact ⟨F10, e6.trans (g7.fx.trans g10.fx), g10.fh, p', _, _, rfl, gg7.trans g10, ex6.trans (g7.fx.trans g10.fx), np', hp9, hall'⟩
    · obtain ⟨pl, wl, s4, rfl, gg6, ex6, npl, hpl, hall6⟩ := pv
      rw [List.length_map, List.take_length] at hall6
      dsimp only
      exact asg_of ⟨_, rfl, F', e3.trans ((g4.fx.trans g5.fx).trans ex6), gg6.fh, pl, wl, _, _, _, rfl, gg6, npl, hpl, hall6⟩
  · obtain ⟨pf, ws, s2, s3, s4, rfl, gg, npf, hpf, hall⟩ := pv
    rw [List.length_map, List.take_length] at hall
    dsimp only
    exact ret_of ⟨_, rfl, q pf ws F' H' gg npf hpf hall⟩
end
end R3

set_option Elab.async false
set_option linter.all false
set_option maxRecDepth 100000
set_option maxHeartbeats 4000000
namespace R3
open PySem PySem.Spec PyProof.Rows L2 Evl Dv StX
open Qa (toF Sx)
section
variable {P : Program} {w : World} {K : PySem.W.Frag} {mg : Str → Option Value} {base : Heap}
theorem sides_two (bx : List (Rat × Rat)) : ∀ s ∈ sidesL bx, s.length ≤ 2 := fun s h => by
  obtain ⟨z, _, rfl⟩ := List.mem_map.mp h
  split <;> simp
def spEdges (K : PySem.W.Frag) (C CM CX : Addr) : Sp := fun vs H Q E => ∃ (F : Hp) (mv bv : V), vs = [mv, bv] ∧ Ex F H ∧
  ((∃ d, Dq K F mv d ∧ Bad CM F H mv E) ∨
   (∃ (ml : Addr) (m : MillD) (d : PyData), mv = .ref ml ∧ MillAt K F C ml m ∧ m.stuffs.length ≤ 8 ∧ RoomSm m ∧ Dq K F bv d ∧ gd d = true ∧ smBox d = true ∧ isClosed m d = false ∧ Bad CX F H bv E) ∨
   (∃ (ml : Addr) (m : MillD) (bx : List (Rat × Rat)), mv = .ref ml ∧ MillAt K F C ml m ∧ m.stuffs.length ≤ 3 ∧ RoomSm m ∧ Dp K F bv (.list (bx.map encBd)) ∧ bx.length ≤ 3 ∧ gd (.list (bx.map encBd)) = true ∧ smBox (.list (bx.map encBd)) = true ∧ isClosed m (.list (bx.map encBd)) = true ∧
     ∀ p ws F' H', Gr F H F' H' → F p = none → F' p = some (.lst ws) → AllP (NewE K (· ≠ p) F) F' ws (edgesL (sidesL bx)) → Q (.ref p) H'))
theorem sc_edges : FnScope (["mill", "box"] : List Str) (["mill", "box"] : List Str) (defScope sEdges) := ⟨rfl, rfl, rfl, by decide +kernel, rfl, by decide +kernel, by decide +kernel⟩
theorem ok_edges (D : Def K mg "edges" sEdges ["mill", "box"]) {C CM CX : Addr} (C_check_mill : CalX P w K mg base "check_mill" ["value"] 1 (spCheckX K C CM)) (C_check_closed : CalX P w K mg base "check_closed" ["mill", "box"] 7 (spCheckClosed K C CX)) (C_sides_of : Cal P w K mg base "sides_of" ["box"] 1 (spD K fSides)) (C_edges_of : Cal P w K mg base "edges_of" ["sides"] 1 (spEdgesOf K)) :
    CalX P w K mg base "edges" ["mill", "box"] 8 (spEdges K C CM CX) := by
  refine calX_mk D sc_edges (fun vs H Q E h => ?_) (fun f cdv A outer s H vs Q E hr h => ?_)
  · obtain ⟨F, mv, bv, rfl, _⟩ := h
    rfl
  obtain ⟨F, mv, bv, rfl, e, h⟩ := h
  refine ⟨_, (pss_cons (ps_expr (pe_callXC C_check_mill hr (takes_of rfl rfl rfl rfl) (pa_cons (pv 0) pa_nil)))
      (pss_cons (ps_expr (pe_callXC C_check_closed hr (takes_of rfl rfl rfl rfl) (pa_cons (pv 0) (pa_cons (pv 1) pa_nil))))
      (pss_one (ps_ret (pe_callC C_edges_of hr (pa_cons (pe_callC C_sides_of hr (pa_cons (pv 1) pa_nil)) pa_nil)))))), ?_⟩
  have st : start ["mill", "box"] [mv, bv] = [some mv, some bv] := rfl
  rw [st]
  rcases h with ⟨d, hd, bad⟩ | ⟨ml, m, d, rfl, hm, l8, hrs, hv, hg, hs, hc, bad⟩ | ⟨ml, m, bx, rfl, hm, l3, hrs, hv, b3, hg, hs, hc, q⟩
  · exact seq_of (sx_bad (i := 0) rfl hd e bad)
  · refine seq_of (sx_check (i := 0) rfl hm e ?_)
    dsimp only
    exact seq_of ⟨_, rfl, _, rfl, F, ml, bv, m, d, rfl, e, hm, l8, hrs, hv, hg, hs, (fun h => by rw [hc] at h; cases h), fun _ => bad⟩
  · refine seq_of (sx_check (i := 0) rfl hm e ?_)
    dsimp only
    refine seq_of ⟨_, rfl, _, rfl, F, ml, bv, m, _, rfl, e, hm, by omega, hrs, .dat hv, hg, hs, fun _ F1 H1 g1 => ?_, fun h => by rw [hc] at h; cases h⟩
    dsimp only
    refine ret_of ((ev_callD (K := K) (F := F1) (E := E0) (f := fSides) (σ := [some (.ref ml), some bv]) (Dv.ea_cons (Dv.ev_var (i := 1) rfl (dp_ex g1.fx hv)) Dv.ea_nil) ⟨bx, rfl, by omega, rfl⟩) H1 g1.fh _ fun sv F2 H2 g2 hsv => ?_)
    have gg := g1.trans g2
    exact ⟨F2, sv, sidesL bx, rfl, g2.fh, hsv, by unfold sidesL; rw [List.length_map]; exact b3, sides_two bx, fun p ws F' H' g3 np hp hall => q p ws F' H' (gg.trans g3) (ex_none gg.fx np) hp ((hall.imp fun v x h => NewE.back gg.fx v x h))⟩
end
end R3

set_option Elab.async false
set_option linter.all false
set_option maxRecDepth 100000
set_option maxHeartbeats 4000000
/-! fields of an object under __init__, told by data (of S3j) -/
namespace Dv
open PySem L2 Evl
section
variable {K : PySem.W.Frag} {σ : L2.St} {F F0 H0 H : Hp} {te tv : TE} {d : PyData} {ds es : List PyData} {D : Ends} {C dx x : Addr} {fs : List (Str × V)} {f : Str} {i : Nat}
theorem noSq_ins : NoSq (some (.ins C dx fs)) := fun xs => ⟨(fun z => by cases z), (fun z => by cases z), fun ob => ⟨(fun z => by cases z), (fun z => by cases z)⟩⟩
theorem putF_new {v : V} : ∀ {fs : List (Str × V)}, (∀ p ∈ fs, p.1 ≠ f) → putF f v fs = fs ++ [(f, v)]
  | [], _ => rfl
  | (g, y) :: r, h => by
    have h1 : ¬ g = f := h (g, y) List.mem_cons_self
    show (if g = f then _ else _) = _
    rw [if_neg h1, putF_new fun p hp => h p (List.mem_cons_of_mem _ hp)] <;> rfl
theorem nofs {fs : List (Str × V)} {f : Str} (h : (fs.all fun p => !(p.1 == f)) = true) : ∀ p ∈ fs, p.1 ≠ f := fun p hp z => by
  have := List.all_eq_true.mp h p hp
  rw [z] at this
  simp at this
/-- self.f = data -/
theorem s_fldD (h : EvD K tv σ F d) (hi : σ[i]? = some (some (.ref x))) (hx : F x = some (.ins C dx fs)) (c : Cls K C) (n : NoAttr K C f) (hl : fs.length < 1000) (hn : ∀ p ∈ fs, p.1 ≠ f) (b : Bx x dx F0 H0 F H) (f0 : F0 x = none) (hf : DpAll K F (fs.map Prod.snd) ds)
    (k : ∀ v F' H', Bx x dx F0 H0 F' H' → F' x = some (.ins C dx (fs ++ [(f, v)])) → DpAll K F' ((fs ++ [(f, v)]).map Prod.snd) (ds ++ [d]) → D.nx σ H') : sFld K (tVar i) tv f D σ H :=
  h H b.fh _ fun v F' H' g hv => ⟨_, hi, x, C, dx, fs, rfl, g.hx _ _ (b.fh _ _ hx), c, n, hl, by
    rw [putF_new hn]
    have n1 : NoSq (F' x) := by rw [g.fx _ _ hx]; exact noSq_ins
    refine k v (upd F' x (.ins C dx (fs ++ [(f, v)]))) _ ((b.step g).put (.inr rfl) f0) upd_same ?_
    rw [List.map_append]
    exact dps_app (dps_put n1 (dps_ex g.fx hf)) (.cons (dp_put n1 hv) .nil)⟩
/-- self.f = a new list that is to grow -/
theorem s_fldL (h : EvL K tv σ F es) (hi : σ[i]? = some (some (.ref x))) (hx : F x = some (.ins C dx fs)) (c : Cls K C) (n : NoAttr K C f) (hl : fs.length < 1000) (hn : ∀ p ∈ fs, p.1 ≠ f) (b : Bx x dx F0 H0 F H) (f0 : F0 x = none) (hf : DpAll K F (fs.map Prod.snd) ds)
    (k : ∀ p ws F' H', Bx x dx F0 H0 F' H' → F' x = some (.ins C dx (fs ++ [(f, .ref p)])) → DpAll K F' (fs.map Prod.snd) ds → F' p = none → H' p = some (.lst ws) → H0 p = none → DpAll K F' ws es → D.nx σ H') : sFld K (tVar i) tv f D σ H :=
  h H b.fh _ fun p ws F' H' g h1 h2 h3 h4 => ⟨_, hi, x, C, dx, fs, rfl, g.hx _ _ (b.fh _ _ hx), c, n, hl, by
    rw [putF_new hn]
    have n1 : NoSq (F' x) := by rw [g.fx _ _ hx]; exact noSq_ins
    have hpx : p ≠ x := fun z => by rw [z, b.fh _ _ hx] at h1; cases h1
    have hp0 : H0 p = none := by
      cases z : H0 p with
      | none => rfl
      | some o => rw [b.hx p o hpx z] at h1; cases h1
    exact k p ws (upd F' x (.ins C dx (fs ++ [(f, .ref p)]))) _ ((b.step g).put (.inr rfl) f0) upd_same (dps_put n1 (dps_ex g.fx hf)) (by rw [upd_ne hpx]; exact h2) (by rw [upd_ne hpx]; exact h3) hp0 (dps_put n1 h4)⟩
theorem ev_fld {v : V} (hi : σ[i]? = some (some (.ref x))) (hx : F x = some (.ins C dx fs)) (c : Cls K C) (n : NoAttr K C f) (hl : fs.lookup f = some v) (hv : Dp K F v d) : EvD K (tFld K (tVar i) f) σ F d := fun H e Q q =>
  fld_ref hi hx c n hl H e Q (q v F H (Gr.refl e) hv)
/-- self.f.append(data), the list of H alone -/
theorem s_appF {l : Addr} {xs : List V} (hi : σ[i]? = some (some (.ref x))) (hx : F x = some (.ins C dx fs)) (c : Cls K C) (n : NoAttr K C f) (hlk : fs.lookup f = some (.ref l)) (hl : H l = some (.lst xs)) (fl : F l = none) (h : EvD K te σ F d) (e : Ex F H) (hz : xs.length < 100000)
    (k : ∀ v F' H', Gr F H F' H' → Dp K F' v d → F' l = none → H' l = some (.lst xs) → D.nx σ (upd H' l (.lst (xs ++ [v])))) : tDrop (tBM K "list" rAppend (tFld K (tVar i) f) (tCons te tNil)) D σ H :=
  show tFld K (tVar i) f σ H (fun x H1 => tyV K "list" x H1 ∧ (tCons te tNil) σ H1 fun xs H2 => rAppend x xs H2 fun _ H3 => D.nx σ H3) from
  fld_ref hi hx c n hlk H e _ ⟨Or.inl ⟨rfl, xs, sq_of hl⟩, h H e _ fun v F' H' g hv => ⟨l, xs, v, rfl, rfl, (g.keep hl fl).1, sz_lt hz, k v F' H' g hv (g.keep hl fl).2 (g.keep hl fl).1⟩⟩
/-- list(d.values()), list(d) -/
theorem el_listVals {ad : Addr} {kvs : List (Key × V)} {td : TE} (ht : ∀ H1, Ex F H1 → ∀ Q : VK, Q (.ref ad) H1 → td σ H1 Q) (hd : F ad = some (.dK kvs)) (hv : DpAll K F (kvs.map Prod.snd) ds) : EvL K (tListVals td) σ F ds := fun H e Q q =>
  ht H e _ ⟨ad, kvs, rfl, e _ _ hd, fun p hp => q p _ F _ (Gr.only e hp) hp (ex_none e hp) upd_same hv⟩
theorem dps_keys : ∀ {names : List Str}, DpAll K F ((names.map (Sum.inr : Str → Key)).map kV) (names.map PyData.str)
  | [] => .nil
  | n :: r => .cons (.str n) dps_keys
theorem el_listKeys {ad : Addr} {kvs : List (Key × V)} {names : List Str} {td : TE} (ht : ∀ H1, Ex F H1 → ∀ Q : VK, Q (.ref ad) H1 → td σ H1 Q) (hd : F ad = some (.dK kvs)) (hn : kvs.map Prod.fst = names.map Sum.inr) : EvL K (tCB rListD (tCons td tNil)) σ F (names.map PyData.str) := fun H e Q q =>
  ht H e _ ⟨ad, kvs, rfl, e _ _ hd, fun p hp => q p _ F _ (Gr.only e hp) hp (ex_none e hp) upd_same (by
    have e1 : (kvs.map fun kv => kV kv.1) = (names.map (Sum.inr : Str → Key)).map kV := by
      rw [← hn, List.map_map] <;> rfl
    rw [e1]
    exact dps_keys)⟩
end
end Dv

set_option Elab.async false
set_option linter.all false
set_option maxRecDepth 100000
set_option maxHeartbeats 4000000
namespace Dv
open PySem L2 Evl
section
variable {K : PySem.W.Frag} {σ : L2.St} {F : Hp} {ds : List PyData}
/-- enumerate(xs), xs a list read as data -/
theorem it_enum {tas : TA} (h : EaD K tas σ F [.list ds]) : ItD K (iEnum K tas) σ F (ds.zipIdx.map fun z => .tuple [.int (z.2 : Nat), z.1]) := fun H eH R q => h H eH _ fun vs F1 H1 g1 hv => by
  cases hv with
  | cons hv hr =>
    cases hr
    cases hv with
    | lst hs hd =>
      rename_i p xs
      refine ⟨p, xs, rfl, ex_l g1.fh hs, q _ F1 H1 g1 ⟨_, _, by rw [List.length_map, List.length_zipIdx, ← dps_len hd]; exact walk_enum (xs := xs), fun H e => ex_l e hs, fun F2 i H2 x H3 hi e1 e2 y => ?_⟩⟩
      obtain ⟨T, x, y, rfl, hT, rfl, f1, f2⟩ := y
      cases f1
      obtain ⟨d, h1, h2⟩ := dps_get hd f2
      refine ⟨_, .tuple [.int (i : Nat), d], ?_, Gr.new e2 hT, .tup (st_of upd_same) (.cons (.int _) (.cons (dp_ex (Gr.new e2 hT).fx (dp_ex e1 h2)) .nil))⟩
      rw [List.getElem?_map, List.getElem?_zipIdx, h1]
      simp
end
end Dv

set_option Elab.async false
set_option linter.all false
set_option maxRecDepth 100000
set_option maxHeartbeats 4000000
namespace Dv
open PySem PySem.Spec PyProof.Rows L2 Evl
/-! ### an object x out of F that is read and set: entered into F for one evaluation -/
section
variable {K : PySem.W.Frag} {x : Addr} {F F' H H' : Hp} {o : HO} {C dx : Addr} {fs : List (Str × V)}
theorem ex_enter (e : Ex F H) (h : H x = some o) : Ex (upd F x o) H := fun a u ha => by
  by_cases q : a = x
  · rw [q] at ha ⊢
    rw [upd_same] at ha
    cases ha
    exact h
  · rw [upd_ne q] at ha
    exact e a u ha
theorem ex_upd_of (f : F x = none) : Ex F (upd F x o) := Ex.new f
theorem ex_erm (e : Ex F F') (f : F x = none) : Ex F (er x F') := ex_er e f
theorem Gr.exit (f : F x = none) (hx : H x = some o) (g : Gr (upd F x o) H F' H') : GrG x F H (er x F') H' ∧ H' x = some o ∧ F' x = some o := by
  have f1 : F' x = some o := g.fx x o upd_same
  refine ⟨⟨?_, ?_, ?_, ?_⟩, g.fh x o f1, f1⟩
  · exact ex_er ((ex_upd_of f).trans g.fx) f
  · intro a u h
    by_cases q : a = x
    · rw [q, er_same] at h; cases h
    · rw [er_ne q] at h ⊢
      exact g.fh a u h
  · intro a u h
    by_cases q : a = x
    · rw [q, er_same] at h; cases h
    · rw [er_ne q] at h ⊢
      exact g.hx a u h
  · intro a h1 h2
    by_cases q : a = x
    · rw [q, er_same]
    · rw [er_ne q] at h2 ⊢
      exact g.fr a (by rw [upd_ne q]; exact h1) h2
theorem rd_er {u : HO} {a : Addr} (n : ∀ z, z = u ∨ (∃ ob, z = HO.frz ob u) → F x ≠ some z) (r : Rd F a u) : Rd (er x F) a u := by
  have q : a ≠ x := fun q => by
    rcases r with r | ⟨ob, r⟩
    · exact n u (.inl rfl) (q ▸ r)
    · exact n _ (.inr ⟨ob, rfl⟩) (q ▸ r)
  rcases r with r | ⟨ob, r⟩
  · exact .inl (by rw [er_ne q]; exact r)
  · exact .inr ⟨ob, by rw [er_ne q]; exact r⟩
theorem sqL_er {a : Addr} {xs : List V} (n : NoSq (F x)) (r : SqL K F a xs) : SqL K (er x F) a xs := by
  rcases r with r | r
  · exact .inl (rd_er (fun z hz => by
      rcases hz with rfl | ⟨ob, rfl⟩
      · exact (n xs).1
      · exact ((n xs).2.2 ob).1) r)
  · exact .inr r
theorem sqT_er {a : Addr} {xs : List V} (n : NoSq (F x)) (r : SqT K F a xs) : SqT K (er x F) a xs := by
  rcases r with r | r
  · exact .inl (rd_er (fun z hz => by
      rcases hz with rfl | ⟨ob, rfl⟩
      · exact (n xs).2.1
      · exact ((n xs).2.2 ob).2) r)
  · exact .inr r
mutual
theorem dp_er (n : NoSq (F x)) : ∀ {d : PyData} {v : V}, Dp K F v d → Dp K (er x F) v d
  | .none, _, h => by cases h; exact .non
  | .bool b, _, h => by cases h; exact .bl b
  | .int i, _, h => by cases h; exact .int i
  | .str y, _, h => by cases h; exact .str y
  | .list ds, _, h => by
    cases h with
    | lst hs ha =>
      exact .lst (sqL_er n hs) (dps_er n ha)
  | .tuple ds, _, h => by
    cases h with
    | tup hs ha => exact .tup (sqT_er n hs) (dps_er n ha)
  | .dict _, _, h => by cases h
theorem dps_er (n : NoSq (F x)) : ∀ {ds : List PyData} {vs : List V}, DpAll K F vs ds → DpAll K (er x F) vs ds
  | [], _, h => by cases h; exact .nil
  | d :: ds, _, h => by
    cases h with
    | cons h1 h2 => exact .cons (dp_er n h1) (dps_er n h2)
end
theorem noSq_insW : NoSq (some (HO.ins C dx fs)) := fun xs => ⟨(fun z => by cases z), (fun z => by cases z), fun ob => ⟨(fun z => by cases z), (fun z => by cases z)⟩⟩
end
section
variable {K : PySem.W.Frag} {σ : L2.St} {x : Addr} {F H : Hp} {C dx : Addr} {fs : List (Str × V)} {te tv : TE} {d : PyData} {ds : List PyData} {tt : TT} {p : Bool} {D : Ends} {i : Nat} {f : Str}
theorem ex_insn (h : EvD K te σ (upd F x (.ins C dx fs)) d) (fx : F x = none) (hx : H x = some (.ins C dx fs)) (e : Ex F H) (Q : VK) (q : ∀ v F' H', GrG x F H F' H' → H' x = some (.ins C dx fs) → Dp K F' v d → Q v H') : te σ H Q :=
  h H (ex_enter e hx) Q fun v F' H' g hv => by
    obtain ⟨g1, g2, g3⟩ := Gr.exit fx hx g
    exact q v _ H' g1 g2 (dp_er (by rw [g3]; exact noSq_insW) hv)
theorem ex_insL (h : EvL K te σ (upd F x (.ins C dx fs)) ds) (fx : F x = none) (hx : H x = some (.ins C dx fs)) (e : Ex F H) (Q : VK)
    (q : ∀ p vs F' H', GrG x F H F' H' → H' x = some (.ins C dx fs) → H p = none → F' p = none → p ≠ x → H' p = some (.lst vs) → DpAll K F' vs ds → Q (.ref p) H') : te σ H Q :=
  h H (ex_enter e hx) Q fun p vs F' H' g h1 h2 h3 h4 => by
    obtain ⟨g1, g2, g3⟩ := Gr.exit fx hx g
    have hp : p ≠ x := fun z => by rw [z, hx] at h1; cases h1
    exact q p vs _ H' g1 g2 h1 (by rw [er_ne hp]; exact h2) hp h3 (dps_er (by rw [g3]; exact noSq_insW) h4)
theorem ex_insT (h : EtD tt σ (upd F x (.ins C dx fs)) p) (fx : F x = none) (hx : H x = some (.ins C dx fs)) (e : Ex F H) (Q : Bool → Hp → Prop) (q : ∀ F' H', GrG x F H F' H' → H' x = some (.ins C dx fs) → Q p H') : tt σ H Q :=
  h H (ex_enter e hx) Q fun F' H' g => by
    obtain ⟨g1, g2, g3⟩ := Gr.exit fx hx g
    exact q _ H' g1 g2
/-- self.f = a new list, x out of F; the list is taken into F -/
theorem s_fldX (h : EvL K tv σ (upd F x (.ins C dx fs)) ds) (fx : F x = none) (hx : H x = some (.ins C dx fs)) (e : Ex F H) (hi : σ[i]? = some (some (.ref x))) (c : Cls K C) (n : NoAttr K C f) (hl : fs.length < 1000)
    (k : ∀ p vs F' H', GrG x F H F' H' → H p = none → p ≠ x → F' p = some (.lst vs) → DpAll K F' vs ds → H' x = some (.ins C dx (putF f (.ref p) fs)) → D.nx σ H') : sFld K (tVar i) tv f D σ H :=
  ex_insL h fx hx e _ fun p vs F' H' g h1 h2 h3 h4 h5 h6 => ⟨_, hi, x, C, dx, fs, rfl, h1, c, n, hl, by
    refine k p vs (upd F' p (.lst vs)) _ ((g.take ?_ h3 h4 h5).draw) h2 h4 upd_same (dps_ex (Ex.new h3) h6) upd_same
    exact h2⟩
end
end Dv

set_option Elab.async false
set_option linter.all false
set_option maxRecDepth 100000
set_option maxHeartbeats 4000000
namespace Dv
open PySem PySem.Spec PyProof.Rows L2 Evl
/-- a method that can be called: what the class holds under its name, and what it does -/
structure CalM (P : Program) (w : World) (K : PySem.W.Frag) (mg : Str → Option Value) (base : Heap) (C : Addr) (m : Str) (ps : List Str) (k : Nat) (sp : Sp) : Prop where
  ex : ∃ f fd, Meth K C m f ∧ Binds K fd ("self" :: ps) [] ∧ FnOkG P w K mg base CX0 k f fd ("self" :: ps) sp
/-- what the class says of a method -/
structure DefM (K : PySem.W.Frag) (C : Addr) (m qual : Str) (st : Stmt) (ps : List Str) : Prop where
  ex : ∃ f fd, Meth K C m f ∧ Fun K m qual st f fd ∧ Binds K fd ("self" :: ps) []
section
variable {P : Program} {w : World} {K : PySem.W.Frag} {mg : Str → Option Value} {base : Heap} {C : Addr} {m qual : Str} {st : Stmt} {N ps : List Str} {k : Nat} {sp : Sp}
theorem calM_mk (D : DefM K C m qual st ps) (S : FnScope N ("self" :: ps) (defScope st)) (len : ∀ vs H Q E, sp vs H Q E → vs.length = (("self" : Str) :: ps).length)
    (hbody : ∀ (f : Addr) (cdv : Value) (A : Around) (outer : List Env) (s : Shared) (H : Hp) (vs : List V) (Q : VK) (E : XK), RoomG k (A.deeper (envOfC qual (defScope st) s.heap.objs.size f cdv)) → sp vs H Q E →
      ∃ t, PSs (cxOf CX0 P w K mg base N qual (defScope st) f cdv A outer s H E).nox (defBody st) t ∧ t { nx := fun _ H' => Q .non H', rt := Q } (start N vs) H) : CalM P w K mg base C m ps (k + 1) sp := by
  obtain ⟨f, fd, g, F, b⟩ := D.ex
  exact ⟨f, fd, g, b, F.okG S len (hbody f)⟩
end
section
variable {X : Cx} {o e : Expr} {es : List Expr} {m : Str} {pos apos : Pos} {ta : TE} {t : TA} {k j : Nat} {ps : List Str} {sp : Sp} {C : Addr} {pl : Sem Bool}
theorem pe_methC (M : CalM X.prog X.w X.K X.mg X.base C m ps k sp) (c : Cls X.K C) (hr : RoomG j X.A) (he : PE X o ta) (ha : PA X (e :: es) t) (hj : k ≤ j := by decide)
    (hst : starEach (e :: es) X.env = (false, eval e X.env) :: starEach es X.env := by rfl) (hpl : (backTo pos (starEach es X.env)).any (·.1) = false := by rfl)
    (ht : eval (.Call (.Attribute o m apos) (e :: es) [] pos) X.env = (do
      let ov ← eval o X.env
      standAt apos.atName
      let (f, first) ← holding [ov] (getMethod ov m pl)
      callWith pos f first (backTo pos (starEach (e :: es) X.env)) (backToKw pos (keywordEach [] X.env))) := by rfl) : PE X (.Call (.Attribute o m apos) (e :: es) [] pos) (tMeth C m sp [] E0 ta t) := by
  obtain ⟨f, fd, hm, b, G⟩ := M.ex
  exact pe_methG he c hm G (hr.mono hj) b .nil pass0 ha hst hpl ht
theorem pe_meth0C (M : CalM X.prog X.w X.K X.mg X.base C m ps k sp) (c : Cls X.K C) (hr : RoomG j X.A) (he : PE X o ta) (hj : k ≤ j := by decide)
    (ht : eval (.Call (.Attribute o m apos) [] [] pos) X.env = (do
      let ov ← eval o X.env
      standAt apos.atName
      let (f, first) ← holding [ov] (getMethod ov m pl)
      callWith pos f first (backTo pos (starEach [] X.env)) (backToKw pos (keywordEach [] X.env))) := by rfl) : PE X (.Call (.Attribute o m apos) [] [] pos) (tMeth C m sp [] E0 ta tNil) := by
  obtain ⟨f, fd, hm, b, G⟩ := M.ex
  exact pe_meth0G he c hm G (hr.mono hj) b .nil pass0 ht
end
end Dv

set_option Elab.async false
set_option linter.all false
set_option maxRecDepth 100000
set_option maxHeartbeats 4000000
namespace R3
open PySem PySem.Spec PyProof.Rows L2 Evl Dv StX
open Qa (toF Sx)
abbrev sBrinksInit : Stmt := inClass (top 44) 0
abbrev sBrinksMostOf : Stmt := inClass (top 44) 1
abbrev sBrinksSide : Stmt := inClass (top 44) 2
abbrev sBrinksBehind : Stmt := inClass (top 44) 3
abbrev sBrinksCanStep : Stmt := inClass (top 44) 4
abbrev sBrinksShares : Stmt := inClass (top 44) 5
/-- a stuff: its room, what is taken, what is given -/
abbrev Tri := Option Int × Int × Int
def need (z : Tri) : Int := if z.2.2 > z.2.1 then z.2.2 else z.2.1
def lessQ (x y : Rat) : Rat := if y < x then y else x
def lessO (f : Option Rat) (sh : Rat) : Rat := match f with
  | none => sh
  | some q => lessQ q sh
def stepMost (f : Option Rat) (z : Tri) : Option Rat := match z.1 with
  | none => f
  | some k => if 0 < need z then some (lessO f (mkRat k (need z).toNat)) else f
def mostO (zs : List Tri) : Option Rat := zs.foldl stepMost none
def mostQ (zs : List Tri) : Rat := (mostO zs).getD 1
def encMo : Option Rat → PyData
  | none => .none
  | some q => encR q
def pairQ (mst : Rat) (z : Tri) : Rat × Rat := (mst * (z.2.1 : Rat), match z.1 with | none => mst * (z.2.1 : Rat) | some k => (k : Rat) - mst * ((if 0 < z.2.2 - z.2.1 then z.2.2 - z.2.1 else 0 : Int) : Rat))
/-- small numbers -/
structure TriOk (z : Tri) : Prop where
  r : ∀ k, z.1 = some k → 0 ≤ k ∧ k ≤ 3
  t : 0 ≤ z.2.1 ∧ z.2.1 ≤ 3
  g : 0 ≤ z.2.2 ∧ z.2.2 ≤ 3
theorem share_sx {k n : Int} (h : 0 ≤ k ∧ k ≤ 3) (hn : 1 ≤ n ∧ n ≤ 3) : Sx 180 (mkRat k n.toNat) ∧ 0 ≤ mkRat k n.toNat := by
  have hk : k = 0 ∨ k = 1 ∨ k = 2 ∨ k = 3 := by omega
  have hm : n = 1 ∨ n = 2 ∨ n = 3 := by omega
  rcases hk with rfl | rfl | rfl | rfl <;> rcases hm with rfl | rfl | rfl
  · exact ⟨⟨0, by decide +kernel, by decide⟩, by decide +kernel⟩
  · exact ⟨⟨0, by decide +kernel, by decide⟩, by decide +kernel⟩
  · exact ⟨⟨0, by decide +kernel, by decide⟩, by decide +kernel⟩
  · exact ⟨⟨60, by decide +kernel, by decide⟩, by decide +kernel⟩
  · exact ⟨⟨30, by decide +kernel, by decide⟩, by decide +kernel⟩
  · exact ⟨⟨20, by decide +kernel, by decide⟩, by decide +kernel⟩
  · exact ⟨⟨120, by decide +kernel, by decide⟩, by decide +kernel⟩
  · exact ⟨⟨60, by decide +kernel, by decide⟩, by decide +kernel⟩
  · exact ⟨⟨40, by decide +kernel, by decide⟩, by decide +kernel⟩
  · exact ⟨⟨180, by decide +kernel, by decide⟩, by decide +kernel⟩
  · exact ⟨⟨90, by decide +kernel, by decide⟩, by decide +kernel⟩
  · exact ⟨⟨60, by decide +kernel, by decide⟩, by decide +kernel⟩
theorem need_bd {z : Tri} (h : TriOk z) : 0 ≤ need z ∧ need z ≤ 3 := by
  have h1 := h.t
  have h2 := h.g
  unfold need
  split <;> omega
def MoOk (f : Option Rat) : Prop := ∀ q, f = some q → Sx 180 q ∧ 0 ≤ q
theorem step_ok {f : Option Rat} {z : Tri} (hf : MoOk f) (hz : TriOk z) : MoOk (stepMost f z) := fun q hq => by
  obtain ⟨r, t, g⟩ := z
  unfold stepMost at hq
  cases r with
  | none => exact hf q hq
  | some k =>
    dsimp only at hq
    by_cases hn : 0 < need (some k, t, g)
    · rw [if_pos hn] at hq
      have hs := share_sx (hz.r k rfl) (show 1 ≤ need (some k, t, g) ∧ need (some k, t, g) ≤ 3 from ⟨by omega, (need_bd hz).2⟩)
      cases f with
      | none =>
        cases hq
        exact hs
      | some p =>
        cases hq
        show Sx 180 (lessQ p _) ∧ 0 ≤ lessQ p _
        unfold lessQ
        split
        · exact hs
        · exact hf p rfl
    · rw [if_neg hn] at hq
      exact hf q hq
theorem most_ok : ∀ {zs : List Tri} {f : Option Rat}, MoOk f → (∀ z ∈ zs, TriOk z) → MoOk (zs.foldl stepMost f)
  | [], _, h, _ => h
  | z :: r, f, h, hz => most_ok (zs := r) (step_ok h (hz z List.mem_cons_self)) fun y hy => hz y (List.mem_cons_of_mem _ hy)
theorem mostQ_ok {zs : List Tri} (h : ∀ z ∈ zs, TriOk z) : Sx 180 (mostQ zs) ∧ 0 ≤ mostQ zs := by
  have := most_ok (f := none) (fun q hq => by cases hq) h
  unfold mostQ mostO
  cases e : zs.foldl stepMost none with
  | none => exact ⟨⟨60, by decide +kernel, by decide⟩, by decide⟩
  | some q => exact this q e
structure BrinksC (K : PySem.W.Frag) (G : Addr) : Prop where
  cl : Cls K G
  takes : NoAttr K G "takes"
  gives : NoAttr K G "gives"
  gains : NoAttr K G "gains"
  rooms : NoAttr K G "rooms"
  most : NoAttr K G "most"
  sides : NoAttr K G "sides"
  edges : NoAttr K G "edges"
/-- the module's pair of ones -/
structure Ones (K : PySem.W.Frag) (mg : Str → Option Value) : Prop where
  ex : ∃ a, mg "ONE" = some (.ref a) ∧ ∀ F, Dp K F (.ref a) (.tuple [.int 1, .int 1])
/-- the fields that the methods read -/
structure BrAt (K : PySem.W.Frag) (F : Hp) (G x : Addr) (zs : List Tri) (fs : List (Str × V)) : Prop where
  ex : ∃ (dx : Addr) (a1 a2 a3 a4 : V), F x = some (.ins G dx fs) ∧ fs.lookup ("takes" : Str) = some a1 ∧ fs.lookup ("gives" : Str) = some a2 ∧ fs.lookup ("gains" : Str) = some a3 ∧ fs.lookup ("rooms" : Str) = some a4 ∧
    Dp K F a1 (.list (zs.map fun z => .int z.2.1)) ∧ Dp K F a2 (.list (zs.map fun z => .int z.2.2)) ∧ Dp K F a3 (.list (zs.map fun z => .int (z.2.2 - z.2.1))) ∧ Dp K F a4 (.list (zs.map fun z => encRoom z.1))
theorem ev_max {K : PySem.W.Frag} {σ : L2.St} {F : Hp} {ta tb : TE} {i j : Int} (ha : EvD K ta σ F (.int i)) (hb : EvD K tb σ F (.int j)) : EvD K (tCB (fun xs H Q => ∃ i j, xs = [V.int i, V.int j] ∧ Q (V.int (if j > i then j else i)) H) (tCons ta (tCons tb tNil))) σ F (.int (if j > i then j else i)) := fun H e Q q =>
  ha H e _ fun v F1 H1 g1 hv => (Dv.EvD.mono g1.fx hb) H1 g1.fh _ fun u F2 H2 g2 hu => by
    cases hv
    cases hu
    exact ⟨i, j, rfl, q _ F2 H2 (g1.trans g2) (.int _)⟩
section
variable {P : Program} {w : World} {K : PySem.W.Frag} {mg : Str → Option Value} {base : Heap}
theorem one_R : encR 1 = .tuple [.int 1, .int 1] := by
  unfold encR
  rw [show toF (1 : Rat) = (1, 1) by decide +kernel] <;> rfl
def spMostOf (K : PySem.W.Frag) (G : Addr) : Sp := fun vs H Q _ => ∃ (F : Hp) (x : Addr) (zs : List Tri) (fs : List (Str × V)), vs = [.ref x] ∧ Ex F H ∧ BrAt K F G x zs fs ∧ zs.length ≤ 8 ∧ (∀ z ∈ zs, TriOk z) ∧ ∀ v F' H', Gr F H F' H' → Dp K F' v (encR (mostQ zs)) → Q v H'
theorem sc_Brinks_most_of : FnScope (["self", "found", "spot", "room", "need", "share"] : List Str) (["self"] : List Str) (defScope sBrinksMostOf) := ⟨rfl, rfl, rfl, by decide +kernel, rfl, by decide +kernel, by decide +kernel⟩
theorem ok_most_of {G : Addr} (D : DefM K G "most_of" "Brinks.most_of" sBrinksMostOf []) (B : Bl mg) (OO : Ones K mg) (GC : BrinksC K G) (C_fraction : Cal P w K mg base "fraction" ["top", "under"] 2 (spD K fFrac)) (C_lesser : Cal P w K mg base "lesser" ["one", "other"] 2 (spD K fLesser)) :
    CalM P w K mg base G "most_of" [] 3 (spMostOf K G) := by
  refine calM_mk D sc_Brinks_most_of (fun vs H Q E h => ?_) (fun f cdv A outer s H vs Q E hr h => ?_)
  · obtain ⟨F, x, zs, fs, rfl, _⟩ := h
    rfl
  obtain ⟨F, x, zs, fs, rfl, e, hb, l8, hz, q⟩ := h
  obtain ⟨aO, gO, dO⟩ := OO.ex
  obtain ⟨dx, a1, a2, a3, a4, hx, k1, k2, k3, k4, d1, d2, d3, d4⟩ := hb.ex
  refine ⟨_, (pss_cons (ps_set (i := 1) sc_Brinks_most_of.nd rfl (.inl rfl) pe_non)
      (pss_cons (ps_for PassesOwn.never rfl (pi_enum (by rfl) B.enum (pa_cons (pe_fld (pv 0) rfl) pa_nil)) (pg_tup (by rfl) (pgs_cons (pg_name (i := 2) sc_Brinks_most_of.nd rfl (.inl rfl)) (pgs_cons (pg_name (i := 3) sc_Brinks_most_of.nd rfl (.inl rfl)) pgs_nil))) (pss_cons (ps_set (i := 4) sc_Brinks_most_of.nd rfl (.inl rfl) (pe_callB (call_max2 rfl) (by rfl) B.max (by decide +kernel) (pa_cons (pe_ix ix_list (pe_fld (pv 0) rfl) (pv 2) (fun _ _ => rfl)) (pa_cons (pe_ix ix_list (pe_fld (pv 0) rfl) (pv 2) (fun _ _ => rfl)) pa_nil))))
      (pss_one (ps_if (PW.pt (pw_and (pt_cmpR op_notN (pv 3) pe_non (nomark _)) (pw_and1 (pt_cmpR op_gt (pv 4) pe_int (nomark _))))) (pss_cons (ps_set (i := 5) sc_Brinks_most_of.nd rfl (.inl rfl) (pe_callC C_fraction hr (pa_cons (pv 3) (pa_cons (pv 4) pa_nil))))
      (pss_one (ps_set (i := 1) sc_Brinks_most_of.nd rfl (.inl rfl) (pe_ifExp (pt_cmpR op_isN (pv 1) pe_non (nomark _)) (pv 5) (pe_callC C_lesser hr (pa_cons (pv 1) (pa_cons (pv 5) pa_nil))))))) pss_nil))))
      (pss_one (ps_ret (pe_ifExp (pt_cmpR op_isN (pv 1) pe_non (nomark _)) (pe_glob (v := .ref aO) rfl gO rfl) (pv 1)))))), ?_⟩
  have st : start ["self", "found", "spot", "room", "need", "share"] [V.ref x] = [some (.ref x), none, none, none, none, none] := rfl
  rw [st]
  refine seq_of (Dv.s_asg (K := K) (F := F) Dv.ev_non e fun nv F1 H1 g1 hnv => ?_)
  cases hnv
  dsimp only
  show tSeq _ _ _ [some (.ref x), some .non, none, none, none, none] H1
  have fR : ∀ (σ : L2.St) (F' : Hp), Ex F F' → σ[0]? = some (some (.ref x)) → EvD K (tFld K (tVar 0) "rooms") σ F' (.list (zs.map fun z => encRoom z.1)) := fun σ F' e' h => ev_fld h (e' _ _ hx) GC.cl GC.rooms k4 (dp_ex e' d4)
  have fT : ∀ (σ : L2.St) (F' : Hp), Ex F F' → σ[0]? = some (some (.ref x)) → EvD K (tFld K (tVar 0) "takes") σ F' (.list (zs.map fun z => .int z.2.1)) := fun σ F' e' h => ev_fld h (e' _ _ hx) GC.cl GC.takes k1 (dp_ex e' d1)
  have fG : ∀ (σ : L2.St) (F' : Hp), Ex F F' → σ[0]? = some (some (.ref x)) → EvD K (tFld K (tVar 0) "gives") σ F' (.list (zs.map fun z => .int z.2.2)) := fun σ F' e' h => ev_fld h (e' _ _ hx) GC.cl GC.gives k2 (dp_ex e' d2)
  refine seq_of (Dv.s_for (K := K) (it_enum (σ := [some (.ref x), some .non, none, none, none, none]) (Dv.ea_cons (fR _ F1 g1.fx rfl) Dv.ea_nil)) g1.fh
    (fun n σ' F' H' => ∃ fv s2 s3 s4 s5, σ' = [some (.ref x), some fv, s2, s3, s4, s5] ∧ Gr F H F' H' ∧ Dp K F' fv (encMo ((zs.take n).foldl stepMost none)))
    (fun F' H' g2 => ⟨.non, _, _, _, _, rfl, g1.trans g2, .non⟩) ?_ (fun σ' F' H' e1 e2 pv => ?_))
  · rintro Fb eb n σ' F3 H3 u du F4 H4 hdu e3 e4 ⟨fv, s2, s3, s4, s5, rfl, gg, hfv⟩ g4 hu
    obtain ⟨hn, hdn⟩ := List.getElem?_eq_some_iff.mp hdu
    rw [List.length_map, List.length_zipIdx, List.length_map] at hn
    have hdn' : du = .tuple [.int (n : Int), encRoom zs[n].1] := by
      rw [← hdn, List.getElem_map, List.getElem_zipIdx, List.getElem_map]
      simp
    subst hdn'
    have tk : zs.take (n + 1) = zs.take n ++ [zs[n]] := List.take_succ_eq_append_getElem hn
    rw [tk, List.foldl_append, List.foldl_cons, List.foldl_nil]
    have mo := most_ok (f := none) (zs := zs.take n) (fun q hq => by cases hq) fun z h => hz z (List.mem_of_mem_take h)
    have hzn := hz _ (List.getElem_mem hn)
    have at1 : (zs.map fun z => PyData.int z.2.1)[n]? = some (.int zs[n].2.1) := by rw [List.getElem?_map, List.getElem?_eq_getElem hn] <;> rfl
    have at2 : (zs.map fun z => PyData.int z.2.2)[n]? = some (.int zs[n].2.2) := by rw [List.getElem?_map, List.getElem?_eq_getElem hn] <;> rfl
    generalize zs[n] = z at *
    generalize (zs.take n).foldl stepMost none = fo at *
    obtain ⟨u1, u2, hu1, hu2, hut⟩ := tup2 hu
    cases hu1
    refine hut 2 3 _ H4 g4.fh _ ?_
    have gg4 := gg.trans g4
    dsimp only
    show tSeq _ _ _ [some (.ref x), some fv, some (.int (n : Int)), some u2, s4, s5] H4
    refine seq_of (Dv.s_asg (K := K) (F := F4) (d := .int (need z)) (ev_max (Dv.ev_ixL (fT _ F4 gg4.fx rfl) (Dv.ev_var (i := 2) rfl (.int _)) (atI_nat at1)) (Dv.ev_ixL (fG _ F4 gg4.fx rfl) (Dv.ev_var (i := 2) rfl (.int _)) (atI_nat at2))) gg4.fh fun nv F5 H5 g5 hnv => ?_)
    cases hnv
    have gg5 := gg4.trans g5
    have hu25 := dp_ex g5.fx hu2
    have hfv5 := dp_ex (g4.fx.trans g5.fx) hfv
    dsimp only
    show tIfS _ _ _ _ [some (.ref x), some fv, some (.int (n : Int)), some u2, some (.int (need z)), s5] H5
    have skip : ∀ (_ : stepMost fo z = fo) (F6 : Hp) (H6 : Hp), Gr F5 H5 F6 H6 → ∃ F'' : Hp, Ex Fb F'' ∧ Ex F'' H6 ∧ ∃ fv' s2 s3 s4 s5', [some (V.ref x), some fv, some (.int (n : Int)), some u2, some (.int (need z)), s5] = [some (V.ref x), some fv', s2, s3, s4, s5'] ∧ Gr F H F'' H6 ∧ Dp K F'' fv' (encMo (stepMost fo z)) := fun h F6 H6 g6 =>
      ⟨F6, e3.trans ((g4.fx.trans g5.fx).trans g6.fx), g6.fh, fv, _, _, _, _, rfl, gg5.trans g6, by rw [h]; exact dp_ex g6.fx hfv5⟩
    obtain ⟨r, t, g⟩ := z
    cases r with
    | none => exact s_ifF (et_andF (et_v (ev_notNR (Dv.ev_var (i := 3) rfl hu25)) rfl)) gg5.fh fun F6 H6 g6 => skip rfl F6 H6 g6
    | some k =>
      have an := et_v (K := K) (F := F5) (σ := [some (.ref x), some fv, some (.int (n : Int)), some u2, some (.int (need (some k, t, g))), s5]) (p := true) (ev_notNR (Dv.ev_var (i := 3) rfl hu25)) rfl
      have nd : EtD (tTest (tOp (rI0 fun i j => V.bl (decide (j < i))) (tVar 4) (tC (.int 0)))) [some (.ref x), some fv, some (.int (n : Int)), some u2, some (.int (need (some k, t, g))), s5] F5 (decide (0 < need (some k, t, g))) := et_v (K := K) (d := .bool (decide (0 < need (some k, t, g)))) (Dv.ev_I0 (g := fun i j => V.bl (decide (j < i))) (i := need (some k, t, g)) (j := 0) (k := .bool (decide (0 < need (some k, t, g)))) (fun _ => .bl _) (Dv.ev_var (i := 4) rfl (.int _)) (Dv.ev_int 0)) rfl
      by_cases hnd : 0 < need (some k, t, g)
      · rw [decide_eq_true hnd] at nd
        have hk := hzn.r k rfl
        have nb := need_bd hzn
        have hs := share_sx hk (show 1 ≤ need (some k, t, g) ∧ need (some k, t, g) ≤ 3 from ⟨by omega, nb.2⟩)
        have e0 : stepMost fo (some k, t, g) = some (lessO fo (mkRat k (need (some k, t, g)).toNat)) := by
          cases fo <;> exact if_pos hnd
        rw [e0]
        refine s_ifT (et_andT an nd) gg5.fh fun F6 H6 g6 => ?_
        refine seq_of (Dv.s_asg (K := K) (F := F6) (d := encR (mkRat k (need (some k, t, g)).toNat)) (ev_callD (f := fFrac) (Dv.ea_cons (Dv.ev_var (i := 3) rfl (dp_ex g6.fx hu25)) (Dv.ea_cons (Dv.ev_var (i := 4) rfl (.int _)) Dv.ea_nil)) ⟨k, need (some k, t, g), rfl, hnd, by omega, congrArg encF (Qa.frac_rat' (by omega)).symm⟩) g6.fh fun sv F7 H7 g7 hsv => ?_)
        have x57 := g6.fx.trans g7.fx
        dsimp only
        show tAsg _ _ _ [some (.ref x), some fv, some (.int (n : Int)), some u2, some (.int (need (some k, t, g))), some sv] H7
        generalize mkRat k (need (some k, t, g)).toNat = sh at *
        refine Dv.s_asg (K := K) (F := F7) (d := encR (lessO fo sh)) ?_ g7.fh fun fv' F8 H8 g8 hfv' => ⟨F8, e3.trans (((g4.fx.trans g5.fx).trans x57).trans g8.fx), g8.fh, fv', _, _, _, _, rfl, (((gg5.trans g6).trans g7).trans g8), hfv'⟩
        cases fo with
        | none => exact Dv.ev_ifT (et_v (ev_isNR (Dv.ev_var (i := 1) rfl (dp_ex x57 hfv5))) rfl) (Dv.ev_var (i := 5) rfl hsv)
        | some q0 => exact Dv.ev_ifF (et_v (ev_isNR (Dv.ev_var (i := 1) rfl (dp_ex x57 hfv5))) rfl) (ev_lesser (B := 180) (C := 180) (Dv.ev_var (i := 1) rfl (dp_ex x57 hfv5)) (Dv.ev_var (i := 5) rfl hsv) (mo q0 rfl).1 hs.1)
      · rw [decide_eq_false hnd] at nd
        refine s_ifF (et_andT an nd) gg5.fh fun F6 H6 g6 => skip ?_ F6 H6 g6
        unfold stepMost
        dsimp only
        rw [if_neg hnd]
  · obtain ⟨fv, s2, s3, s4, s5, rfl, gg, hfv⟩ := pv
    rw [List.length_map, List.length_zipIdx, List.length_map, List.take_length] at hfv
    dsimp only
    refine Dv.s_ret (K := K) (F := F') (d := encR (mostQ zs)) ?_ gg.fh fun v F2 H2 g2 hv => q v F2 H2 (gg.trans g2) hv
    unfold mostQ mostO
    cases hfo : zs.foldl stepMost none with
    | none =>
      rw [hfo] at hfv
      refine Dv.ev_ifT (et_v (ev_isNR (Dv.ev_var (i := 1) rfl hfv)) rfl) ?_
      show EvD K _ _ _ (encR 1)
      rw [one_R]
      exact fun H1 e1 Q q => q _ F' H1 (Gr.refl e1) (dO F')
    | some q0 =>
      rw [hfo] at hfv
      exact Dv.ev_ifF (et_v (ev_isNR (Dv.ev_var (i := 1) rfl hfv)) rfl) (Dv.ev_var (i := 1) rfl hfv)
def spSide (K : PySem.W.Frag) (G : Addr) : Sp := fun vs H Q _ => ∃ (F : Hp) (x : Addr) (zs : List Tri) (fs : List (Str × V)) (am : V) (mst : Rat) (j : Nat), vs = [.ref x, .int (j : Int)] ∧ Ex F H ∧ BrAt K F G x zs fs ∧ fs.lookup ("most" : Str) = some am ∧ Dp K F am (encR mst) ∧ Sx 180 mst ∧ zs.length ≤ 8 ∧ (∀ z ∈ zs, TriOk z) ∧ j < zs.length ∧
  ∀ v F' H', Gr F H F' H' → (∀ h : j < zs.length, Dp K F' v (.list ((if (pairQ mst zs[j]).1 = (pairQ mst zs[j]).2 then [(pairQ mst zs[j]).1] else [(pairQ mst zs[j]).1, (pairQ mst zs[j]).2]).map encR))) → Q v H'
theorem sc_Brinks_side : FnScope (["self", "spot", "low", "high"] : List Str) (["self", "spot"] : List Str) (defScope sBrinksSide) := ⟨rfl, rfl, rfl, by decide +kernel, rfl, by decide +kernel, by decide +kernel⟩
theorem ok_side {G : Addr} (D : DefM K G "side" "Brinks.side" sBrinksSide ["spot"]) (B : Bl mg) (GC : BrinksC K G) (C_scaled : Cal P w K mg base "scaled" ["one", "number"] 3 (spD K fScaled)) (C_minus : Cal P w K mg base "minus" ["one", "other"] 3 (spD K fMinus)) :
    CalM P w K mg base G "side" ["spot"] 4 (spSide K G) := by
  refine calM_mk D sc_Brinks_side (fun vs H Q E h => ?_) (fun f cdv A outer s H vs Q E hr h => ?_)
  · obtain ⟨F, x, zs, fs, am, mst, j, rfl, _⟩ := h
    rfl
  obtain ⟨F, x, zs, fs, am, mst, j, rfl, e, hb, km, dm, sm, l8, hz, hj, q⟩ := h
  obtain ⟨dx, a1, a2, a3, a4, hx, k1, k2, k3, k4, d1, d2, d3, d4⟩ := hb.ex
  refine ⟨_, (pss_cons (ps_set (i := 2) sc_Brinks_side.nd rfl (.inl rfl) (pe_callC C_scaled hr (pa_cons (pe_fld (pv 0) rfl) (pa_cons (pe_ix ix_list (pe_fld (pv 0) rfl) (pv 1) (fun _ _ => rfl)) pa_nil))))
      (pss_cons (ps_if (pt_cmpR op_isN (pe_ix ix_list (pe_fld (pv 0) rfl) (pv 1) (fun _ _ => rfl)) pe_non (nomark _)) (pss_one (ps_ret (pe_lst (pa_cons (pv 2) pa_nil)))) pss_nil)
      (pss_cons (ps_set (i := 3) sc_Brinks_side.nd rfl (.inl rfl) (pe_callC C_minus hr (pa_cons (pe_tup (pa_cons (pe_ix ix_list (pe_fld (pv 0) rfl) (pv 1) (fun _ _ => rfl)) (pa_cons pe_int pa_nil))) (pa_cons (pe_callC C_scaled hr (pa_cons (pe_fld (pv 0) rfl) (pa_cons (pe_callB (call_max2 rfl) (by rfl) B.max (by decide +kernel) (pa_cons pe_int (pa_cons (pe_ix ix_list (pe_fld (pv 0) rfl) (pv 1) (fun _ _ => rfl)) pa_nil))) pa_nil))) pa_nil))))
      (pss_one (ps_ret (pe_ifExp (pt_cmpR (op_eqD hr.1.units) (pv 2) (pv 3) (nomark _)) (pe_lst (pa_cons (pv 2) pa_nil)) (pe_lst (pa_cons (pv 2) (pa_cons (pv 3) pa_nil))))))))), ?_⟩
  have st : start ["self", "spot", "low", "high"] [V.ref x, .int (j : Int)] = [some (.ref x), some (.int (j : Int)), none, none] := rfl
  rw [st]
  have q : ∀ v F' H', Gr F H F' H' → Dp K F' v (.list ((if (pairQ mst zs[j]).1 = (pairQ mst zs[j]).2 then [(pairQ mst zs[j]).1] else [(pairQ mst zs[j]).1, (pairQ mst zs[j]).2]).map encR)) → Q v H' := fun v F' H' g h => q v F' H' g fun _ => h
  have fld : ∀ (σ : L2.St) (F' : Hp) (n : Str) (a : V) (d : PyData), Ex F F' → σ[0]? = some (some (.ref x)) → fs.lookup n = some a → Dp K F a d → NoAttr K G n → EvD K (tFld K (tVar 0) n) σ F' d := fun σ F' n a d e' h k hd na => ev_fld h (e' _ _ hx) GC.cl na k (dp_ex e' hd)
  have at1 : (zs.map fun z => PyData.int z.2.1)[j]? = some (.int zs[j].2.1) := by rw [List.getElem?_map, List.getElem?_eq_getElem hj] <;> rfl
  have at3 : (zs.map fun z => PyData.int (z.2.2 - z.2.1))[j]? = some (.int (zs[j].2.2 - zs[j].2.1)) := by rw [List.getElem?_map, List.getElem?_eq_getElem hj] <;> rfl
  have at4 : (zs.map fun z => encRoom z.1)[j]? = some (encRoom zs[j].1) := by rw [List.getElem?_map, List.getElem?_eq_getElem hj] <;> rfl
  have hzj := hz _ (List.getElem_mem hj)
  generalize zs[j] = z at *
  have ht := hzj.t
  have hg := hzj.g
  refine seq_of (Dv.s_asg (K := K) (F := F) (ev_scaled (B := 180) (fld _ F "most" am _ (Ex.refl _) rfl km dm GC.most) (Dv.ev_ixL (fld _ F "takes" a1 _ (Ex.refl _) rfl k1 d1 GC.takes) (Dv.ev_var (i := 1) rfl (.int _)) (atI_nat at1)) sm (by omega)) e fun lv F1 H1 g1 hlv => ?_)
  dsimp only
  show tSeq _ _ _ [some (.ref x), some (.int (j : Int)), some lv, none] H1
  have rm : EvD K (tOp (rIxL K) (tFld K (tVar 0) "rooms") (tVar 1)) [some (.ref x), some (.int (j : Int)), some lv, none] F1 (encRoom z.1) := Dv.ev_ixL (fld _ F1 "rooms" a4 _ g1.fx rfl k4 d4 GC.rooms) (Dv.ev_var (i := 1) rfl (.int _)) (atI_nat at4)
  obtain ⟨r, t, g⟩ := z
  cases r with
  | none =>
    refine seq_of (s_ifT (et_v (ev_isNR rm) rfl) g1.fh fun F2 H2 g2 => ?_)
    have e0 : (if (pairQ mst ((none, t, g) : Tri)).1 = (pairQ mst (none, t, g)).2 then [(pairQ mst ((none, t, g) : Tri)).1] else [(pairQ mst ((none, t, g) : Tri)).1, (pairQ mst (none, t, g)).2]) = [mst * (t : Rat)] := if_pos rfl
    rw [e0] at q
    exact Dv.s_ret (K := K) (F := F2) (EvL.ev (Dv.el_lst (ds := [encR (mst * (t : Rat))]) (Dv.ea_cons (Dv.ev_var (i := 2) rfl (dp_ex g2.fx hlv)) Dv.ea_nil) (by simp))) g2.fh fun v F3 H3 g3 hv => q v F3 H3 ((g1.trans g2).trans g3) hv
  | some k =>
    have hk := hzj.r k rfl
    refine seq_of (s_ifF (et_v (ev_isNR rm) rfl) g1.fh fun F2 H2 g2 => ?_)
    try unfold tNext
    dsimp only
    show tSeq _ _ _ [some (.ref x), some (.int (j : Int)), some lv, none] H2
    have rm2 := rm.mono g2.fx
    have x2 := g1.fx.trans g2.fx
    have gm : (0 : Int) ≤ (if 0 < g - t then g - t else 0) ∧ (if 0 < g - t then g - t else 0) ≤ 3 := by
      dsimp only at ht hg
      split <;> omega
    have mx : EvD K (tCB (fun xs H Q => ∃ i j, xs = [V.int i, V.int j] ∧ Q (V.int (if j > i then j else i)) H) (tCons (tC (.int 0)) (tCons (tOp (rIxL K) (tFld K (tVar 0) "gains") (tVar 1)) tNil))) [some (.ref x), some (.int (j : Int)), some lv, none] F2 (.int (if 0 < g - t then g - t else 0)) :=
      ev_max (Dv.ev_int 0) (Dv.ev_ixL (fld _ F2 "gains" a3 _ x2 rfl k3 d3 GC.gains) (Dv.ev_var (i := 1) rfl (.int _)) (atI_nat at3))
    refine seq_of (Dv.s_asg (K := K) (F := F2) (d := encR ((k : Rat) - mst * ((if 0 < g - t then g - t else 0 : Int) : Rat))) (ev_minus (B := 60 * 3) (C := 180 * 3) (a := (k : Rat)) (Dv.ev_tup (ds := [.int k, .int 1]) (Dv.ea_cons rm2 (Dv.ea_cons (Dv.ev_int 1) Dv.ea_nil)) (by simp)) (ev_scaled (B := 180) (fld _ F2 "most" am _ x2 rfl km dm GC.most) mx sm (by omega)) ((Sx.int k).mono (Nat.mul_le_mul_left _ (by omega))) ((sm.mul _).mono (Nat.mul_le_mul_left _ (by omega)))) g2.fh fun hv F3 H3 g3 hhv => ?_)
    dsimp only
    show tRet _ _ [some (.ref x), some (.int (j : Int)), some lv, some hv] H3
    have hlv3 := dp_ex (g2.fx.trans g3.fx) hlv
    refine Dv.s_ret (K := K) (F := F3) (Dv.ev_if (p := decide ((pairQ mst (some k, t, g)).1 = (pairQ mst (some k, t, g)).2)) (et_v (ev_eqD (Dv.ev_var (i := 2) rfl hlv3) (Dv.ev_var (i := 3) rfl hhv) (shaped_R _) (shaped_R _)) (by rw [eqv_R]; rfl)) (fun h => ?_) (fun h => ?_)) g3.fh fun v F4 H4 g4 hv => q v F4 H4 (((g1.trans g2).trans g3).trans g4) hv
    · rw [if_pos (of_decide_eq_true h)]
      exact EvL.ev (Dv.el_lst (Dv.ea_cons (Dv.ev_var (i := 2) rfl hlv3) Dv.ea_nil) (by simp))
    · rw [if_neg (of_decide_eq_false h)]
      exact EvL.ev (Dv.el_lst (Dv.ea_cons (Dv.ev_var (i := 2) rfl hlv3) (Dv.ea_cons (Dv.ev_var (i := 3) rfl hhv) Dv.ea_nil)) (by simp))
end
end R3

set_option Elab.async false
set_option linter.all false
set_option maxRecDepth 100000
set_option maxHeartbeats 4000000
namespace R3
open PySem PySem.Spec PyProof.Rows L2 Evl Dv StX
open Qa (toF Sx)
def sidesQ (zs : List Tri) : List (List Rat) := zs.map fun z => if (pairQ (mostQ zs) z).1 = (pairQ (mostQ zs) z).2 then [(pairQ (mostQ zs) z).1] else [(pairQ (mostQ zs) z).1, (pairQ (mostQ zs) z).2]
/-- the stuffs with what a recipe takes and gives -/
structure TriOf (m : MillD) (r : Str × List (Str × Int) × List (Str × Int)) (zs : List Tri) : Prop where
  rm : zs.map (·.1) = m.stuffs.map (·.2)
  tk : zs.map (·.2.1) = numbersOf m.names r.2.1
  gv : zs.map (·.2.2) = numbersOf m.names r.2.2
  ok : ∀ z ∈ zs, TriOk z
  pt : ∀ p ∈ r.2.1, p.1 ∈ m.names
  pg : ∀ p ∈ r.2.2, p.1 ∈ m.names
theorem TriOf.len {m : MillD} {r} {zs : List Tri} (h : TriOf m r zs) : zs.length = m.stuffs.length := by
  have := congrArg List.length h.rm
  rwa [List.length_map, List.length_map] at this
section
variable {P : Program} {w : World} {K : PySem.W.Frag} {mg : Str → Option Value} {base : Heap}
theorem ev_numsL {σ : L2.St} {F : Hp} {te : TE} {C ml : Addr} {m : MillD} {ps : List (Str × Int)} {E : XK} {i : Nat} (hi : σ[i]? = some (some (.ref ml))) (hm : Mill0 K F C ml m) (hl : m.stuffs.length ≤ 8) (h : EvD K te σ F (.list (ps.map encPart))) (hin : ∀ p ∈ ps, p.1 ∈ m.names) :
    EvD K (tCall (spNums K C) [] E (tCons (tVar i) (tCons te tNil))) σ F (.list ((numbersOf m.names ps).map PyData.int)) := fun H e Q q =>
  ⟨_, hi, h H e _ fun v F1 H1 g1 hv => ⟨F1, ml, v, m, ps, rfl, g1.fh, hm.mono g1.fx, hl, hv, hin, fun p ws F' H' g h1 h2 h3 h4 => q _ _ _ (g1.trans (g.take h1 h2 h3)) (.lst (Evl.sq_of upd_same) (dps_ex (Evl.Ex.new h2) h4))⟩⟩
theorem ev_mostM {σ : L2.St} {F : Hp} {G x : Addr} {zs : List Tri} {fs : List (Str × V)} {E : XK} {i : Nat} (hi : σ[i]? = some (some (.ref x))) (hb : BrAt K F G x zs fs) (nm : fs.lookup ("most_of" : Str) = none) (l8 : zs.length ≤ 8) (hz : ∀ z ∈ zs, TriOk z) : EvD K (tMeth G "most_of" (spMostOf K G) [] E (tVar i) tNil) σ F (encR (mostQ zs)) := fun H e Q q => by
  obtain ⟨dx, a1, a2, a3, a4, hx, _⟩ := hb.ex
  exact ⟨_, hi, x, dx, fs, rfl, e _ _ hx, nm, F, x, zs, fs, rfl, e, hb, l8, hz, fun v F' H' g hv => q v F' H' g hv⟩
theorem ev_sideM {σ : L2.St} {F : Hp} {G x : Addr} {zs : List Tri} {fs : List (Str × V)} {E : XK} {i j n : Nat} {am : V} (hi : σ[i]? = some (some (.ref x))) (hj : σ[j]? = some (some (.int (n : Int)))) (hb : BrAt K F G x zs fs) (nm : fs.lookup ("side" : Str) = none) (km : fs.lookup ("most" : Str) = some am) (dm : Dp K F am (encR (mostQ zs))) (l8 : zs.length ≤ 8) (hz : ∀ z ∈ zs, TriOk z) (hn : n < zs.length) :
    EvD K (tMeth G "side" (spSide K G) [] E (tVar i) (tCons (tVar j) tNil)) σ F (.list ((if (pairQ (mostQ zs) zs[n]).1 = (pairQ (mostQ zs) zs[n]).2 then [(pairQ (mostQ zs) zs[n]).1] else [(pairQ (mostQ zs) zs[n]).1, (pairQ (mostQ zs) zs[n]).2]).map encR)) := fun H e Q q => by
  obtain ⟨dx, a1, a2, a3, a4, hx, _⟩ := hb.ex
  exact ⟨_, hi, x, dx, fs, rfl, e _ _ hx, nm, _, hj, F, x, zs, fs, am, mostQ zs, n, rfl, e, hb, km, dm, (mostQ_ok hz).1, l8, hz, hn, fun v F' H' g hv => q v F' H' g (hv hn)⟩
def spBrinksInit (K : PySem.W.Frag) (C G : Addr) : Sp := fun vs H Q _ => ∃ (F : Hp) (x dx ml : Addr) (rv : V) (m : MillD) (r : Str × List (Str × Int) × List (Str × Int)) (zs : List Tri), vs = [.ref x, .ref ml, rv] ∧ Ex F H ∧ F x = none ∧ F dx = none ∧ H x = some (.ins G dx []) ∧ (H dx).isSome = true ∧ x ≠ dx ∧
  MillAt K F C ml m ∧ m.stuffs.length ≤ 3 ∧ Dp K F rv (encRecipe r) ∧ TriOf m r zs ∧
  ∀ F' H' fs am p ws, Bx x dx F H F' H' → F' x = some (.ins G dx fs) → fs.lookup ("most" : Str) = some am → fs.lookup ("edges" : Str) = some (.ref p) → Dp K F' am (encR (mostQ zs)) → F p = none → F' p = some (.lst ws) → AllP (NewE K (· ≠ p) F) F' ws (edgesL (sidesQ zs)) → Q .non H'
theorem sc_Brinks___init__ : FnScope (["self", "mill", "recipe", "less", "more", "spot"] : List Str) (["self", "mill", "recipe"] : List Str) (defScope sBrinksInit) := ⟨rfl, rfl, rfl, by decide +kernel, rfl, by decide +kernel, by decide +kernel⟩
theorem ok_brinks_init {f : Addr} {fd : FuncData} {C G : Addr} (D : Fun K "__init__" "Brinks.__init__" sBrinksInit f fd) (MC : MillC K C) (GC : BrinksC K G) (B : Bl mg) (C_numbers_of : Cal P w K mg base "numbers_of" ["mill", "parts"] 1 (spNums K C))
    (M_most : CalM P w K mg base G "most_of" [] 3 (spMostOf K G)) (M_side : CalM P w K mg base G "side" ["spot"] 4 (spSide K G)) (C_edges_of : Cal P w K mg base "edges_of" ["sides"] 1 (spEdgesOf K)) :
    FnOkG P w K mg base CX0 5 f fd ["self", "mill", "recipe"] (spBrinksInit K C G) := by
  refine D.okG sc_Brinks___init__ (fun vs H Q E h => ?_) (fun cdv A outer s H vs Q E hr h => ?_)
  · obtain ⟨F, x, dx, ml, rv, m, r, zs, rfl, _⟩ := h
    rfl
  obtain ⟨F, x, dx, ml, rv, m, r, zs, rfl, e, fx, fdx, hx, hdx, hxd, hm, l3, hrv, tri, q⟩ := h
  refine ⟨_, (pss_cons (ps_fld (pv 0) (pe_callC C_numbers_of hr (pa_cons (pv 1) (pa_cons (pe_ix ix_tup (pv 2) pe_int (fun _ _ => rfl)) pa_nil))) rfl)
      (pss_cons (ps_fld (pv 0) (pe_callC C_numbers_of hr (pa_cons (pv 1) (pa_cons (pe_ix ix_tup (pv 2) pe_int (fun _ _ => rfl)) pa_nil))) rfl)
      (pss_cons (ps_fld (pv 0) (pe_lc (own := [("less", 3), ("more", 4)]) (g := gTup K 2 (gCons (gName 3) (gCons (gName 4) gNil))) rfl sc_Brinks___init__.nd (pi_zipS (by rfl) B.zip (pa_cons (pe_fld (pv 0) rfl) (pa_cons (pe_fld (pv 0) rfl) pa_nil))) (blkOk_by (own := [("less", 3), ("more", 4)]) (N := ["self", "mill", "recipe", "less", "more", "spot"]) (sc := defScope sBrinksInit) (by decide +kernel)) (fun _ _ _ _ _ => (pg_tup (by rfl) (pgs_cons (pg_name (i := 3) sc_Brinks___init__.nd rfl (.inl rfl)) (pgs_cons (pg_name (i := 4) sc_Brinks___init__.nd rfl (.inl rfl)) pgs_nil))))  (fun _ _ _ _ _ => pts_nil) (fun _ _ _ _ _ => (pe_op op_sub (pv 4) (pv 3)))) rfl)
      (pss_cons (ps_fld (pv 0) (pe_listVals rfl rfl B.list (pe_fld (pv 1) rfl)) rfl)
      (pss_cons (ps_fld (pv 0) (pe_meth0C M_most GC.cl hr (pv 0)) rfl)
      (pss_cons (ps_fld (pv 0) (pe_lc (own := [("spot", 5)]) (g := gName 5) rfl sc_Brinks___init__.nd (pi_range1 rfl B.range (pa_cons (pe_callB call_len (by rfl) B.len (by decide +kernel) (pa_cons (pe_fld (pv 0) rfl) pa_nil)) pa_nil)) (blkOk_by (own := [("spot", 5)]) (N := ["self", "mill", "recipe", "less", "more", "spot"]) (sc := defScope sBrinksInit) (by decide +kernel)) (fun _ _ _ _ _ => (pg_name (i := 5) sc_Brinks___init__.nd rfl (.inl rfl)))  (fun _ _ _ _ _ => pts_nil) (fun _ _ _ _ _ => (pe_methC M_side GC.cl hr (pv 0) (pa_cons (pv 5) pa_nil)))) rfl)
      (pss_one (ps_fld (pv 0) (pe_callC C_edges_of hr (pa_cons (pe_fld (pv 0) rfl) pa_nil)) rfl)))))))), ?_⟩
  have st : start ["self", "mill", "recipe", "less", "more", "spot"] [V.ref x, V.ref ml, rv] = [some (.ref x), some (.ref ml), some rv, none, none, none] := rfl
  rw [st]
  have zl := tri.len
  have b0 : Bx x dx F H F H := ⟨Ex.refl F, e, fun _ _ _ h => h, fun a h1 h2 => absurd h1 h2⟩
  have b1 : Bx x dx F H (upd F x (.ins G dx [])) H := by
    have := b0.put (p := x) (o := .ins G dx []) (.inr rfl) fx
    rwa [show upd H x (.ins G dx []) = H from by
      funext a
      by_cases z : a = x
      · rw [z, upd_same, hx]
      · rw [upd_ne z]] at this
  have part : ∀ (F' : Hp) (i : Nat) (ps : List (Str × Int)), Ex F F' → (i = 1 ∧ ps = r.2.1 ∨ i = 2 ∧ ps = r.2.2) → EvD K (tOp (rIxT K) (tVar 2) (tC (.int (i : Int)))) [some (.ref x), some (.ref ml), some rv, none, none, none] F' (.list (ps.map encPart)) := fun F' i ps e' h => by
    rcases h with ⟨rfl, rfl⟩ | ⟨rfl, rfl⟩
    · exact Dv.ev_ixT (Dv.ev_var (i := 2) rfl (dp_ex e' hrv)) (Dv.ev_int 1) rfl
    · exact Dv.ev_ixT (Dv.ev_var (i := 2) rfl (dp_ex e' hrv)) (Dv.ev_int 2) rfl
  -- self.takes, self.gives
  refine s_fldD (K := K) (f := "takes") (fs := []) (ds := []) (ev_numsL (i := 1) rfl (hm.part.mono b1.fx) (by omega) (part _ 1 _ b1.fx (.inl ⟨rfl, rfl⟩)) tri.pt) rfl upd_same GC.cl GC.takes (by simp) (by simp) b1 fx .nil fun a1 F2 H2 b2 x2 f2 => ?_
  refine s_fldD (K := K) (f := "gives") (fs := [("takes", a1)]) (ev_numsL (i := 1) rfl (hm.part.mono b2.fx) (by omega) (part _ 2 _ b2.fx (.inr ⟨rfl, rfl⟩)) tri.pg) rfl x2 GC.cl GC.gives (by simp) (nofs (by rfl)) b2 fx f2 fun a2 F3 H3 b3 x3 f3 => ?_
  rw [← tri.tk, ← tri.gv] at f3
  cases f3 with
  | cons d1 f3' =>
  cases f3' with
  | cons d2 _ =>
  have x3' : F3 x = some (.ins G dx [("takes", a1), ("gives", a2)]) := x3
  -- self.gains
  have inner : EvL K (tLc (iZipS K (tCons (tFld K (tVar 0) "takes") (tCons (tFld K (tVar 0) "gives") tNil))) (gTup K 2 (gCons (gName 3) (gCons (gName 4) gNil))) tYes (tOp (rI0 fun i j => V.int (i - j)) (tVar 4) (tVar 3)) [3, 4]) [some (.ref x), some (.ref ml), some rv, none, none, none] F3 (zs.map fun z => PyData.int (z.2.2 - z.2.1)) := by
    refine Dv.el_is (lc_rule (K := K) (σ := [some (.ref x), some (.ref ml), some rv, none, none, none]) zs (fun z => PyData.tuple [.int z.2.1, .int z.2.2]) (fun z => PyData.int (z.2.2 - z.2.1)) (fun _ => true)
      (it_is (it_zipS (Dv.ea_cons (ev_fld (i := 0) rfl x3' GC.cl GC.takes (by rfl) d1) (Dv.ea_cons (ev_fld (i := 0) rfl x3' GC.cl GC.gives (by rfl) d2) Dv.ea_nil)) (by simp)) (by rw [List.map_map, List.map_map, List.zip_map', List.map_map] <;> rfl)) (by omega) fun z _ v F1 e1 hv => ?_) (by
        rw [List.filter_eq_self.mpr fun _ _ => rfl])
    obtain ⟨z1, z2, hz1, hz2, hzt⟩ := tup2 hv
    exact ⟨[some (.ref x), some (.ref ml), some rv, some z1, some z2, none], fun H e Q q => hzt 3 4 _ H e Q q, rfl, fun H e Q q => q F1 H (Gr.refl e), fun _ => Dv.ev_I0 (fun _ => .int _) (Dv.ev_var rfl hz2) (Dv.ev_var rfl hz1)⟩
  refine s_fldD (K := K) (f := "gains") (fs := [("takes", a1), ("gives", a2)]) (EvL.ev inner) rfl x3' GC.cl GC.gains (by simp) (nofs (by rfl)) b3 fx (.cons d1 (.cons d2 .nil)) fun a3 F4 H4 b4 x4 f4 => ?_
  -- self.rooms
  obtain ⟨mdx, ro, sp, ru, kvs, hml, hro, hkd⟩ := (hm.mono b4.fx).roomsAt
  refine s_fldD (K := K) (f := "rooms") (fs := [("takes", a1), ("gives", a2), ("gains", a3)]) (EvL.ev (el_listVals (fun H1 e1 Q q => fld_ref rfl hml MC.cl MC.rooms fl1 H1 e1 Q q) hro hkd)) rfl x4 GC.cl GC.rooms (by simp) (nofs (by rfl)) b4 fx f4 fun a4 F5 H5 b5 x5 f5 => ?_
  have er : (m.stuffs.map fun z => encRoom z.2) = zs.map fun z => encRoom z.1 := by
    have := congrArg (List.map encRoom) tri.rm
    rw [List.map_map, List.map_map] at this
    exact this.symm
  rw [er] at f5
  have bat : ∀ (F' : Hp) (fs : List (Str × V)) (es : List PyData), DpAll K F' (a1 :: a2 :: a3 :: a4 :: fs.map Prod.snd) (.list (zs.map fun z => .int z.2.1) :: .list (zs.map fun z => .int z.2.2) :: .list (zs.map fun z => .int (z.2.2 - z.2.1)) :: .list (zs.map fun z => encRoom z.1) :: es) →
      F' x = some (.ins G dx (("takes", a1) :: ("gives", a2) :: ("gains", a3) :: ("rooms", a4) :: fs)) → BrAt K F' G x zs (("takes", a1) :: ("gives", a2) :: ("gains", a3) :: ("rooms", a4) :: fs) := fun F' fs es f h => by
    cases f with
    | cons d1 f5 =>
    cases f5 with
    | cons d2 f5 =>
    cases f5 with
    | cons d3 f5 =>
    cases f5 with
    | cons d4 f5 => exact ⟨dx, a1, a2, a3, a4, h, rfl, rfl, rfl, rfl, d1, d2, d3, d4⟩
  rw [show (([PyData.list ((zs.map (·.2.1)).map PyData.int), PyData.list ((zs.map (·.2.2)).map PyData.int)] ++ [PyData.list (zs.map fun z => PyData.int (z.2.2 - z.2.1))]) ++ [PyData.list (zs.map fun z => encRoom z.1)]) = [.list (zs.map fun z => .int z.2.1), .list (zs.map fun z => .int z.2.2), .list (zs.map fun z => .int (z.2.2 - z.2.1)), .list (zs.map fun z => encRoom z.1)] from by rw [List.map_map, List.map_map] <;> rfl] at f5
  -- self.most
  refine s_fldD (K := K) (f := "most") (fs := [("takes", a1), ("gives", a2), ("gains", a3), ("rooms", a4)]) (ev_mostM (i := 0) rfl (bat F5 [] [] f5 x5) (by rfl) (by omega) tri.ok) rfl x5 GC.cl GC.most (by simp) (nofs (by rfl)) b5 fx f5 fun a5 F6 H6 b6 x6 f6 => ?_
  have x6' : F6 x = some (.ins G dx [("takes", a1), ("gives", a2), ("gains", a3), ("rooms", a4), ("most", a5)]) := x6
  have bt6 := bat F6 [("most", a5)] [encR (mostQ zs)] f6 x6'
  have dat4 : ∀ (F' : Hp) (fs : List V) (es : List PyData), DpAll K F' (a1 :: a2 :: a3 :: a4 :: fs) (.list (zs.map fun z => .int z.2.1) :: .list (zs.map fun z => .int z.2.2) :: .list (zs.map fun z => .int (z.2.2 - z.2.1)) :: .list (zs.map fun z => encRoom z.1) :: es) → Dp K F' a4 (.list (zs.map fun z => encRoom z.1)) ∧ DpAll K F' fs es := fun F' fs es f => by
    cases f with
    | cons d1 f5 =>
    cases f5 with
    | cons d2 f5 =>
    cases f5 with
    | cons d3 f5 =>
    cases f5 with
    | cons d4 f5 => exact ⟨d4, f5⟩
  have d56 := dat4 F6 [a5] [encR (mostQ zs)] f6
  have dm6 : Dp K F6 a5 (encR (mostQ zs)) := by
    cases d56.2 with
    | cons d _ => exact d
  -- self.sides
  have sds : EvL K (tLc (iRng1 (tCons (tCB (fun xs H Q => ∃ x n, xs = [x] ∧ LenV K x H n ∧ Q (.int n) H) (tCons (tFld K (tVar 0) "rooms") tNil)) tNil)) (gName 5) tYes (tMeth G "side" (spSide K G) [] E0 (tVar 0) (tCons (tVar 5) tNil)) [5]) [some (.ref x), some (.ref ml), some rv, none, none, none] F6 ((sidesQ zs).map fun s => PyData.list (s.map encR)) := by
    refine Dv.el_is (lc_rule (K := K) (σ := [some (.ref x), some (.ref ml), some rv, none, none, none]) (List.range zs.length) (fun i : Nat => PyData.int (i : Int)) (fun i => PyData.list ((if (pairQ (mostQ zs) (zs.getD i (none, 0, 0))).1 = (pairQ (mostQ zs) (zs.getD i (none, 0, 0))).2 then [(pairQ (mostQ zs) (zs.getD i (none, 0, 0))).1] else [(pairQ (mostQ zs) (zs.getD i (none, 0, 0))).1, (pairQ (mostQ zs) (zs.getD i (none, 0, 0))).2]).map encR)) (fun _ => true)
      (it_is (it_rng1 (n := (zs.length : Nat)) (Dv.ea_cons (Dv.ev_is (ev_len (n := (zs.map fun z => encRoom z.1).length) (ev_fld (i := 0) rfl x6' GC.cl GC.rooms (by rfl) d56.1) rfl (by rw [List.length_map]; omega)) (by rw [List.length_map])) Dv.ea_nil) (by omega) (by omega)) (by rw [Int.toNat_natCast])) (by rw [List.length_range]; omega) fun n hn v F1 e1 hv => ?_) (by
        rw [List.filter_eq_self.mpr fun _ _ => rfl]
        apply List.ext_getElem
        · unfold sidesQ
          simp
        · intro i h1 h2
          rw [List.length_map, List.length_range] at h1
          unfold sidesQ
          simp [List.getD, h1])
    have hn' : n < zs.length := List.mem_range.mp hn
    cases hv
    refine ⟨[some (.ref x), some (.ref ml), some rv, none, none, some (.int (n : Int))], fun H e Q q => q, rfl, fun H e Q q => q F1 H (Gr.refl e), fun _ => ?_⟩
    rw [show zs.getD n (none, 0, 0) = zs[n] from by simp [List.getD, hn']]
    obtain ⟨dx', a1', a2', a3', a4', hx', k1, k2, k3, k4, c1, c2, c3, c4⟩ := bt6.ex
    exact ev_sideM (i := 0) (j := 5) (am := a5) rfl rfl ⟨dx', a1', a2', a3', a4', e1 _ _ hx', k1, k2, k3, k4, dp_ex e1 c1, dp_ex e1 c2, dp_ex e1 c3, dp_ex e1 c4⟩ (by rfl) (by rfl) (dp_ex e1 dm6) (by omega) tri.ok hn'
  refine s_fldD (K := K) (f := "sides") (fs := [("takes", a1), ("gives", a2), ("gains", a3), ("rooms", a4), ("most", a5)]) (EvL.ev sds) rfl x6' GC.cl GC.sides (by simp) (nofs (by rfl)) b6 fx f6 fun a6 F7 H7 b7 x7 f7 => ?_
  have x7' : F7 x = some (.ins G dx [("takes", a1), ("gives", a2), ("gains", a3), ("rooms", a4), ("most", a5), ("sides", a6)]) := x7
  have d57 := dat4 F7 [a5, a6] [encR (mostQ zs), .list ((sidesQ zs).map fun (s : List Rat) => PyData.list (s.map encR))] f7
  have dm7 : Dp K F7 a5 (encR (mostQ zs)) ∧ Dp K F7 a6 (.list ((sidesQ zs).map fun s => PyData.list (s.map encR))) := by
    cases d57.2 with
    | cons d f =>
    cases f with
    | cons d' _ => exact ⟨d, d'⟩
  -- self.edges
  have hx7 := b7.fh _ _ x7'
  refine fld_ref (K := K) (i := 0) rfl x7' GC.cl GC.sides (by rfl) H7 b7.fh _ ⟨F7, a6, sidesQ zs, rfl, b7.fh, dm7.2, by unfold sidesQ; rw [List.length_map]; omega, fun s hs => ?_, fun p ws F8 H8 g8 np hp hall => ⟨_, rfl, x, G, dx, _, rfl, g8.hx _ _ hx7, GC.cl, GC.edges, show 6 < 1000 by decide, ?_⟩⟩
  · unfold sidesQ at hs
    obtain ⟨z, _, rfl⟩ := List.mem_map.mp hs
    split <;> simp
  · have n1 : NoSq (F8 x) := by rw [g8.fx _ _ x7']; exact noSq_ins
    have hpx : p ≠ x := fun z => by rw [z, x7'] at np; cases np
    show Q .non (upd H8 x (.ins G dx [("takes", a1), ("gives", a2), ("gains", a3), ("rooms", a4), ("most", a5), ("sides", a6), ("edges", .ref p)]))
    refine q (upd F8 x (.ins G dx [("takes", a1), ("gives", a2), ("gains", a3), ("rooms", a4), ("most", a5), ("sides", a6), ("edges", .ref p)])) _ _ a5 p ws ((b7.step g8).put (.inr rfl) fx) upd_same (by rfl) (by rfl) (dp_put n1 (dp_ex g8.fx dm7.1)) (ex_none b7.fx np) (by rw [upd_ne hpx]; exact hp) ((hall.mono (F' := upd F8 x (.ins G dx [("takes", a1), ("gives", a2), ("gains", a3), ("rooms", a4), ("most", a5), ("sides", a6), ("edges", .ref p)])) fun v y h => ?_).imp fun v y h => NewE.back b7.fx v y h)
    obtain ⟨a, us, h1, h2, h3, h4, h5⟩ := h
    have hax : a ≠ x := fun z => by rw [z, x7'] at h2; cases h2
    exact ⟨a, us, h1, h2, by rw [upd_ne hax]; exact h3, dps_put n1 h4, h5⟩
end
end R3

set_option Elab.async false
set_option linter.all false
set_option maxRecDepth 100000
set_option maxHeartbeats 4000000
namespace R3
open PySem PySem.Spec PyProof.Rows L2 Evl Dv StX
open Qa (toF Sx)
section
variable {P : Program} {w : World} {K : PySem.W.Frag} {mg : Str → Option Value} {base : Heap}
def spRecipeQ (K : PySem.W.Frag) : Sp := fun vs H Q _ => ∃ (F : Hp) (v : V) (d : PyData) (sp : Addr) (names : List Str), vs = [v, .ref sp] ∧ Ex F H ∧ Dq K F v d ∧ gd d = true ∧ SpotsAt F sp names ∧ ∀ F' H', Gr F H F' H' → Q (.bl (isRecipe names d)) H'
theorem ok_is_recipeQ (D : Def K mg "is_recipe" sIsRecipe ["value", "spots"]) (B : Bl mg) (C_is_name : Cal P w K mg base "is_name" ["value"] 1 (spD K fIsName)) (C_are_parts : Cal P w K mg base "are_parts" ["value", "spots"] 3 (spParts K)) :
    Cal P w K mg base "is_recipe" ["value", "spots"] 4 (spRecipeQ K) := by
  refine cal_mk D sc_is_recipe (fun vs H Q E h => ?_) (fun f cdv A outer s H vs Q E hr h => ?_)
  · obtain ⟨F, v, d, sp, names, rfl, _⟩ := h
    rfl
  obtain ⟨F, v, d, sp, names, rfl, e, hvq, hg, hsp, q⟩ := h
  refine ⟨_, (pss_cons (ps_if (PW.pt (pw_or (pt_not (pt_val (pe_callB call_isi (by rfl) B.isi (by decide +kernel) (pa_cons (pv 0) (pa_cons (pe_bltn (v := .ty "tuple") (by rfl) B.tuple (by decide +kernel) rfl) pa_nil))))) (pw_or (pt_cmpR op_ne (pe_callB call_len (by rfl) B.len (by decide +kernel) (pa_cons (pv 0) pa_nil)) pe_int (nomark _)) (pw_or1 (pt_not (pt_val (pe_callC C_is_name hr (pa_cons (pe_ix ix_tup (pv 0) pe_int (fun _ _ => rfl)) pa_nil)))))))) (pss_one (ps_ret pe_bl)) pss_nil)
      (pss_one (ps_ret (pe_and (pe_callC C_are_parts hr (pa_cons (pe_ix ix_tup (pv 0) pe_int (fun _ _ => rfl)) (pa_cons (pv 1) pa_nil))) (pe_one (pe_callC C_are_parts hr (pa_cons (pe_ix ix_tup (pv 0) pe_int (fun _ _ => rfl)) (pa_cons (pv 1) pa_nil)))))))), ?_⟩
  cases hvq with
  | mt hp =>
    have hvq : Dq K F _ (.dict []) := .mt hp
    exact s_ifT (et_orT (et_notF (et_v (eq_isi (T := "tuple") (eq_var (σ := [some _, some (.ref sp)]) (i := 0) rfl hvq) (by decide)) rfl))) e fun F1 H1 g1 => q F1 H1 g1
  | dat hv =>
  have vx := Dv.ev_var (K := K) (σ := [some v, some (.ref sp)]) (i := 0) rfl hv
  have nm : ∀ a t g, d = .tuple [a, t, g] → EvD K (tCall (spD K fIsName) [] E0 (tCons (tOp (rIxT K) (tVar 0) (tC (.int 0))) tNil)) [some v, some (.ref sp)] F (.bool (isName a)) := by
    intro a t g hd
    subst hd
    have ga : gd a = true := gds_mem (gd_tup hg).2 (by simp)
    exact ev_callD (Dv.ea_cons (Dv.ev_ixT (d := a) vx (Dv.ev_int 0) rfl) Dv.ea_nil) ⟨a, rfl, fun y hy => gd_str (by rw [← hy]; exact ga), rfl⟩
  have hlen : ∀ es, d = .tuple es → es.length ≤ 100000 := fun es he => by
    subst he
    exact Nat.le_trans (gd_tup hg).1 (by decide)
  by_cases hs : ∃ a t g, d = .tuple [a, t, g] ∧ isName a = true
  · obtain ⟨a, t, g, rfl, hn⟩ := hs
    have gt : gd t = true := gds_mem (gd_tup hg).2 (by simp)
    have gg : gd g = true := gds_mem (gd_tup hg).2 (by simp)
    refine s_ifF (et_tupn (n := 3) vx hlen (fun es he _ => et_notT (et_v (nm a t g rfl) (by rw [hn]))) fun no => absurd ⟨_, rfl, rfl⟩ no) e fun F1 H1 g1 => ?_
    refine Dv.s_ret (K := K) (d := .bool (isRecipe names (.tuple [a, t, g]))) (Dv.ev_is (Dv.ev_andV (ev_parts (j := 1) (Dv.ev_ixT (d := t) (vx.mono g1.fx) (Dv.ev_int 1) rfl) rfl (hsp.ex g1.fx) gt) fun _ => ev_parts (j := 1) (Dv.ev_ixT (d := g) (vx.mono g1.fx) (Dv.ev_int 2) rfl) rfl (hsp.ex g1.fx) gg) (by
      show _ = PyData.bool (isName a && areParts names t && areParts names g)
      rw [hn, Bool.true_and])) g1.fh fun y F2 H2 g2 hy => ?_
    cases hy
    exact q F2 H2 (g1.trans g2)
  · have e0 : isRecipe names d = false := by
      unfold isRecipe
      split
      · rename_i a t g
        cases hn : isName a with
        | true => exact absurd ⟨a, t, g, rfl, hn⟩ hs
        | false => rfl
      · rfl
    refine s_ifT (et_tupn (n := 3) vx hlen (fun es he hl => ?_) fun _ => rfl) e fun F1 H1 g1 => ?_
    · obtain ⟨a, t, g, rfl⟩ := len3 hl
      cases hn : isName a with
      | true => exact absurd ⟨a, t, g, he, hn⟩ hs
      | false => exact et_notF (et_v (nm a t g he) (by rw [hn]))
    · have := q F1 H1 g1
      rw [e0] at this
      exact this

theorem MillAt.spotsAt {F : Hp} {C ml : Addr} {m : MillD} (h : MillAt K F C ml m) : ∃ (dx ro sp ru : Addr), F ml = some (.ins C dx [("rooms", .ref ro), ("spots", .ref sp), ("rules", .ref ru)]) ∧ SpotsAt F sp m.names := by
  obtain ⟨dx, ro, sp, ru, v1, v2, v3, h1, h2, h3, h4, h5, _⟩ := h.ex
  refine ⟨dx, ro, sp, ru, h1, _, h4, fun x => ?_⟩
  refine names_spots (by
    have := dps_len h5
    rwa [List.length_map, List.length_zipIdx] at this) x
def spCheckRecipe (K : PySem.W.Frag) (C CM CI G : Addr) : Sp := fun vs H Q E => ∃ (F : Hp) (mv rv : V), vs = [mv, rv] ∧ Ex F H ∧
  ((∃ d, Dq K F mv d ∧ Bad CM F H mv E) ∨
   (∃ (ml : Addr) (m : MillD) (d : PyData), mv = .ref ml ∧ MillAt K F C ml m ∧ Dq K F rv d ∧ gd d = true ∧ isRecipe m.names d = false ∧ Bad CI F H rv E) ∨
   (∃ (ml : Addr) (m : MillD) (r : Str × List (Str × Int) × List (Str × Int)) (zs : List Tri), mv = .ref ml ∧ MillAt K F C ml m ∧ m.stuffs.length ≤ 3 ∧ Dp K F rv (encRecipe r) ∧ gd (encRecipe r) = true ∧ isRecipe m.names (encRecipe r) = true ∧ TriOf m r zs ∧
     ∀ F' H' x dx fs am p ws, Gr F H F' H' → F' x = some (.ins G dx fs) → fs.lookup ("most" : Str) = some am → fs.lookup ("edges" : Str) = some (.ref p) → Dp K F' am (encR (mostQ zs)) → F p = none → F' p = some (.lst ws) → AllP (NewE K (· ≠ p) F) F' ws (edgesL (sidesQ zs)) → Q (.ref x) H'))
theorem sc_check_recipe : FnScope (["mill", "recipe"] : List Str) (["mill", "recipe"] : List Str) (defScope sCheckRecipe) := ⟨rfl, rfl, rfl, by decide +kernel, rfl, by decide +kernel, by decide +kernel⟩
theorem ok_check_recipe (D : Def K mg "check_recipe" sCheckRecipe ["mill", "recipe"]) {C CM CI G : Addr} (MC : MillC K C) (EI : ErrC P K mg "InvalidItem" CI) (C_check_mill : CalX P w K mg base "check_mill" ["value"] 1 (spCheckX K C CM)) (C_is_recipe : Cal P w K mg base "is_recipe" ["value", "spots"] 4 (spRecipeQ K)) (M_Brinks : Mak P w K mg base "Brinks" G ["mill", "recipe"] 5 (spBrinksInit K C G)) :
    CalX P w K mg base "check_recipe" ["mill", "recipe"] 7 (spCheckRecipe K C CM CI G) := by
  refine calX_mk D sc_check_recipe (fun vs H Q E h => ?_) (fun f cdv A outer s H vs Q E hr h => ?_)
  · obtain ⟨F, mv, rv, rfl, _⟩ := h
    rfl
  obtain ⟨F, mv, rv, rfl, e, h⟩ := h
  obtain ⟨fI, TI⟩ := EI.ex
  refine ⟨_, (pss_cons (ps_expr (pe_callXC C_check_mill hr (takes_of rfl rfl rfl rfl) (pa_cons (pv 0) pa_nil)))
      (pss_cons (ps_if (pt_not (pt_val (pe_callC C_is_recipe hr (pa_cons (pv 1) (pa_cons (pe_fld (pv 0) rfl) pa_nil))))) (pss_one (ps_raise rfl (takes_of rfl rfl rfl rfl) (pmk_xn1 TI (raises_own TI.exC TI.tyC) hr EI.hs (pa_cons (pv 1) pa_nil)))) pss_nil)
      (pss_one (ps_ret (pe_makC M_Brinks hr (pa_cons (pv 0) (pa_cons (pv 1) pa_nil))))))), ?_⟩
  have st : start ["mill", "recipe"] [mv, rv] = [some mv, some rv] := rfl
  rw [st]
  have ev : ∀ (ml : Addr) (m : MillD) (d : PyData) (Ez : XK), MillAt K F C ml m → Dq K F rv d → gd d = true → EvD K (tCall (spRecipeQ K) [] Ez (tCons (tVar 1) (tCons (tFld K (tVar 0) "spots") tNil))) [some (.ref ml), some rv] F (.bool (isRecipe m.names d)) := fun ml m d Ez hm hv hg H e Q q => by
    obtain ⟨dx, ro, sp, ru, hml, hsp⟩ := hm.spotsAt
    exact ⟨rv, rfl, fld_ref (K := K) (i := 0) rfl hml MC.cl MC.spots fl2 H e _ ⟨F, rv, d, sp, m.names, rfl, e, hv, hg, hsp, fun F' H' g => q _ F' H' g (.bl _)⟩⟩
  rcases h with ⟨d, hd, bad⟩ | ⟨ml, m, d, rfl, hm, hv, hg, hc, bad⟩ | ⟨ml, m, r, zs, rfl, hm, l3, hv, hg, hc, tri, q⟩
  · exact seq_of (sx_bad (i := 0) rfl hd e bad)
  · refine seq_of (sx_check (i := 0) rfl hm e ?_)
    dsimp only
    refine seq_of (s_ifT (et_notF (et_v (ev ml m d _ hm hv hg) (by rw [hc]))) e fun F1 H1 g1 => ?_)
    exact ⟨rv, rfl, rv, rfl, fun dd hdd => bad F1 H1 dd g1 hdd⟩
  · refine seq_of (sx_check (i := 0) rfl hm e ?_)
    dsimp only
    refine seq_of (s_ifF (et_notT (et_v (ev ml m _ _ hm (.dat hv) hg) (by rw [hc]))) e fun F1 H1 g1 => ?_)
    try unfold tNext
    dsimp only
    refine ret_of ⟨_, rfl, _, rfl, fun x dx hx hdx hne => ⟨F1, x, dx, ml, rv, m, r, zs, rfl, ex_new2 g1.fh hx hdx, ex_none g1.fh hx, ex_none g1.fh hdx, upd_same, by rw [upd_ne hne, upd_same] <;> rfl, Ne.symm hne, hm.mono g1.fx, l3, dp_ex g1.fx hv, tri, fun F' H' fs am p ws b h1 h2 h3 h4 h5 h6 h7 => ⟨rfl, q F' H' x dx fs am p ws (g1.trans (b.gr hx hdx)) h1 h2 h3 h4 (ex_none g1.fx h5) h6 (h7.imp fun v y h => NewE.back g1.fx v y h)⟩⟩⟩
theorem tup2_of {ta tb : TE} {σ : L2.St} {H : Hp} {Q : VK} (h : ta σ H fun a H1 => tb σ H1 fun b H2 => [a, b].length ≤ sizeLine ∧ ∀ t, H2 t = none → Q (.ref t) (upd H2 t (.tup [a, b]))) : tTup (tCons ta (tCons tb tNil)) σ H Q := h
def spBrinks (K : PySem.W.Frag) (C CM CI G : Addr) : Sp := fun vs H Q E => ∃ (F : Hp) (mv rv : V), vs = [mv, rv] ∧ Ex F H ∧
  ((∃ d, Dq K F mv d ∧ Bad CM F H mv E) ∨
   (∃ (ml : Addr) (m : MillD) (d : PyData), mv = .ref ml ∧ MillAt K F C ml m ∧ Dq K F rv d ∧ gd d = true ∧ isRecipe m.names d = false ∧ Bad CI F H rv E) ∨
   (∃ (ml : Addr) (m : MillD) (r : Str × List (Str × Int) × List (Str × Int)) (zs : List Tri), mv = .ref ml ∧ MillAt K F C ml m ∧ m.stuffs.length ≤ 3 ∧ Dp K F rv (encRecipe r) ∧ gd (encRecipe r) = true ∧ isRecipe m.names (encRecipe r) = true ∧ TriOf m r zs ∧
     ∀ F' H' t am p ws, Gr F H F' H' → F' t = some (.tup [am, .ref p]) → Dp K F' am (encR (mostQ zs)) → F p = none → F' p = some (.lst ws) → AllP (NewE K (· ≠ p) F) F' ws (edgesL (sidesQ zs)) → Q (.ref t) H'))
theorem sc_brinks : FnScope (["mill", "recipe", "book"] : List Str) (["mill", "recipe"] : List Str) (defScope sBrinks) := ⟨rfl, rfl, rfl, by decide +kernel, rfl, by decide +kernel, by decide +kernel⟩
theorem ok_brinks (D : Def K mg "brinks" sBrinks ["mill", "recipe"]) {C CM CI G : Addr} (GC : BrinksC K G) (C_check_recipe : CalX P w K mg base "check_recipe" ["mill", "recipe"] 7 (spCheckRecipe K C CM CI G)) :
    CalX P w K mg base "brinks" ["mill", "recipe"] 8 (spBrinks K C CM CI G) := by
  refine calX_mk D sc_brinks (fun vs H Q E h => ?_) (fun f cdv A outer s H vs Q E hr h => ?_)
  · obtain ⟨F, mv, rv, rfl, _⟩ := h
    rfl
  obtain ⟨F, mv, rv, rfl, e, h⟩ := h
  refine ⟨_, (pss_cons (ps_set (i := 2) sc_brinks.nd rfl (.inl rfl) (pe_callXC C_check_recipe hr (takes_of rfl rfl rfl rfl) (pa_cons (pv 0) (pa_cons (pv 1) pa_nil))))
      (pss_one (ps_ret (pe_tup (pa_cons (pe_fld (pv 2) rfl) (pa_cons (pe_fld (pv 2) rfl) pa_nil)))))), ?_⟩
  have st : start ["mill", "recipe", "book"] [mv, rv] = [some mv, some rv, none] := rfl
  rw [st]
  refine seq_of (asg_of ⟨_, rfl, _, rfl, F, mv, rv, rfl, e, ?_⟩)
  rcases h with ⟨d, hd, bad⟩ | ⟨ml, m, d, rfl, hm, hv, hg, hc, bad⟩ | ⟨ml, m, r, zs, rfl, hm, l3, hv, hg, hc, tri, q⟩
  · exact .inl ⟨d, hd, bad⟩
  · exact .inr (.inl ⟨ml, m, d, rfl, hm, hv, hg, hc, bad⟩)
  · refine .inr (.inr ⟨ml, m, r, zs, rfl, hm, l3, hv, hg, hc, tri, fun F1 H1 x dx fs am p ws g h1 h2 h3 h4 h5 h6 h7 => ?_⟩)
    dsimp only
    refine ret_of (tup2_of (fld_ref (K := K) (i := 2) rfl h1 GC.cl GC.most h2 H1 g.fh _ (fld_ref (K := K) (i := 2) rfl h1 GC.cl GC.edges h3 H1 g.fh _ ⟨sz_of (by simp), fun t ht => ?_⟩)))
    exact q (upd F1 t (.tup [am, .ref p])) _ t am p ws (g.trans (Gr.new g.fh ht)) upd_same (dp_ex (Ex.new (ex_none g.fh ht)) h4) h5 (Ex.new (ex_none g.fh ht) _ _ h6) (h7.mono fun v y h => NewE.mono (Ex.new (ex_none g.fh ht)) v y h)
end
end R3

set_option Elab.async false
set_option linter.all false
set_option maxRecDepth 100000
set_option maxHeartbeats 4000000
namespace R3
open PySem PySem.Spec PyProof.Rows L2 Dv
open Qa (toF Sx)
def fProd : List PyData → PyData → Prop := fun ds d => ∃ x y : Int × Int, ds = [encF x, encF y] ∧ Sm x ∧ Sm y ∧ d = encF (frac (x.1 * y.1) (x.2 * y.2))
def fMore : List PyData → PyData → Prop := fun ds d => ∃ x y : Int × Int, ds = [encF x, encF y] ∧ Sm x ∧ Sm y ∧ d = if decide (x.1 * y.2 < y.1 * x.2) then encF y else encF x
theorem prod_rat (a b : Rat) : frac ((toF a).1 * (toF b).1) ((toF a).2 * (toF b).2) = toF (a * b) := by
  show Qa.frac (a.num * b.num) ((a.den : Int) * (b.den : Int)) = _
  rw [← Int.natCast_mul, Qa.frac_rat _ (Nat.mul_ne_zero a.den_nz b.den_nz), Rat.mul_def']
section
variable {P : Program} {w : World} {K : PySem.W.Frag} {mg : Str → Option Value} {base : Heap}
theorem sc__law_fraction : FnScope (["top", "under", "one", "other"] : List Str) (["top", "under"] : List Str) (defScope sLawFraction) := ⟨rfl, rfl, rfl, by decide +kernel, rfl, by decide +kernel, by decide +kernel⟩
theorem ok_law_fraction (D : Def K mg "_law_fraction" sLawFraction ["top", "under"]) (B : Bl mg) : Cal P w K mg base "_law_fraction" ["top", "under"] 1 (spD K fFrac) := by
  refine cal_mk D sc__law_fraction (len_D (by rintro _ _ ⟨t, u, rfl, _⟩; rfl)) (fun f cdv A outer s H vs Q E hr h => ?_)
  obtain ⟨F, ds, d, e, hv, ⟨t, u, rfl, hu, hu2, rfl⟩, q⟩ := h
  obtain ⟨x, y, rfl, h1, h2⟩ := Dv.two hv
  cases h1
  cases h2
  refine ⟨_, (pss_cons (ps_par (i := 2) (j := 3) (by rfl) sc__law_fraction.nd rfl rfl (by decide) rfl rfl (pa_cons (pe_callB call_abs (by rfl) B.abs (by decide +kernel) (pa_cons (pv 0) pa_nil)) (pa_cons (pv 1) pa_nil)) (by rfl))
      (pss_cons (ps_while PassesOwn.never (pt_cmpR op_ne (pv 3) pe_int (nomark _)) (pss_one (ps_par (i := 2) (j := 3) (by rfl) sc__law_fraction.nd rfl rfl (by decide) rfl rfl (pa_cons (pv 3) (pa_cons (pe_op op_mod (pv 2) (pv 3)) pa_nil)) (by rfl))))
      (pss_one (ps_ret (pe_tup (pa_cons (pe_op op_fdiv (pv 0) (pv 2)) (pa_cons (pe_op op_fdiv (pv 1) (pv 2)) pa_nil))))))), ?_⟩
  have st : start ["top", "under", "one", "other"] [V.int t, V.int u] = [some (.int t), some (.int u), none, none] := rfl
  rw [st]
  have hg : 0 < Nat.gcd t.natAbs u.natAbs := Nat.gcd_pos_of_pos_right _ (by omega)
  have hg2 : Nat.gcd t.natAbs u.natAbs ≤ u.natAbs := Nat.gcd_le_right _ (by omega)
  refine s_par (K := K) (F := F) (a := .int (t.natAbs : Int)) (b := .int u) (Dv.ea_cons (ev_abs (Dv.ev_var rfl (.int t))) (Dv.ea_cons (Dv.ev_var rfl (.int u)) Dv.ea_nil)) e fun a b F1 H1 g1 ha hb => ?_
  cases ha
  cases hb
  refine Dv.s_while (F := F1) (fun m σ F' H' => ∃ a b : Nat, σ = [some (.int t), some (.int u), some (.int a), some (.int b)] ∧ Nat.gcd a b = Nat.gcd t.natAbs u.natAbs ∧ m = b ∧ Gr F H F' H') u.natAbs ⟨t.natAbs, u.natAbs, by
    rw [show ((u.natAbs : Nat) : Int) = u by omega] <;> rfl, rfl, rfl, g1⟩ g1.fh ?_
  rintro m σ F2 H2 ⟨a, b, rfl, hgc, rfl, g2⟩ e1 e2
  refine ⟨decide (m ≠ 0), et_v (K := K) (Dv.ev_neI (Dv.ev_var (i := 3) rfl (.int _)) (Dv.ev_int 0)) (by
    congr 1
    rw [Bool.eq_iff_iff]
    simp), fun hm F3 H3 g3 => ?_, fun hm F3 H3 g3 => ?_⟩
  · have hm : m ≠ 0 := of_decide_eq_true hm
    refine ⟨fun σ' H' => ∃ (F' : Hp) (a' b' : Nat), σ' = [some (.int t), some (.int u), some (.int a'), some (.int b')] ∧ Nat.gcd a' b' = Nat.gcd t.natAbs u.natAbs ∧ b' < m ∧ Gr F H F' H' ∧ Evl.Ex F1 F' ∧ Evl.Ex F' H', ?_, ?_⟩
    · rintro σ' H' ⟨F', a', b', r1, r2, r3, r4, r5, r6⟩
      exact ⟨b', F', r3, ⟨a', b', r1, r2, rfl, r4⟩, r5, r6⟩
    · refine s_par (K := K) (F := F3) (a := .int (m : Int)) (b := .int ((a % m : Nat) : Int)) (Dv.ea_cons (Dv.ev_var (i := 3) rfl (.int _)) (Dv.ea_cons (Dv.ev_I (i := (a : Int)) (j := (m : Int)) (by omega) (fun _ => by rw [Int.natCast_emod]; exact .int _) (Dv.ev_var (i := 2) rfl (.int _)) (Dv.ev_var (i := 3) rfl (.int _))) Dv.ea_nil)) g3.fh fun x1 x2 F4 H4 g4 hx1 hx2 => ?_
      cases hx1
      cases hx2
      exact ⟨F4, m, a % m, rfl, by rw [Nat.gcd_comm m, ← Nat.gcd_rec, Nat.gcd_comm m a, hgc], Nat.mod_lt _ (by omega), (g2.trans g3).trans g4, e1.trans (g3.fx.trans g4.fx), g4.fh⟩
  · have hm : m = 0 := by simpa using hm
    subst hm
    rw [Nat.gcd_zero_right] at hgc
    subst hgc
    dsimp only
    refine Dv.s_ret (K := K) (F := F3) (d := encF (frac t u)) (Dv.ev_tup (Dv.ea_cons (Dv.ev_I (i := t) (j := (Nat.gcd t.natAbs u.natAbs : Nat)) ⟨by omega, by omega⟩ (fun _ => .int _) (Dv.ev_var (i := 0) rfl (.int _)) (Dv.ev_var (i := 2) rfl (.int _))) (Dv.ea_cons (Dv.ev_I (i := u) (j := (Nat.gcd t.natAbs u.natAbs : Nat)) ⟨by omega, by omega⟩ (fun _ => .int _) (Dv.ev_var (i := 1) rfl (.int _)) (Dv.ev_var (i := 2) rfl (.int _))) Dv.ea_nil)) (by simp)) g3.fh fun v F4 H4 g4 hv => ?_
    exact q v F4 H4 ((g2.trans g3).trans g4) hv
theorem sc__law_sum : FnScope (["one", "other"] : List Str) (["one", "other"] : List Str) (defScope sLawSum) := ⟨rfl, rfl, rfl, by decide +kernel, rfl, by decide +kernel, by decide +kernel⟩
theorem ok_law_sum (D : Def K mg "_law_sum" sLawSum ["one", "other"]) (C__law_fraction : Cal P w K mg base "_law_fraction" ["top", "under"] 1 (spD K fFrac)) : Cal P w K mg base "_law_sum" ["one", "other"] 2 (spD K fPlus) := by
  refine cal_mk D sc__law_sum (len_D (by rintro _ _ ⟨t, u, rfl, _⟩; rfl)) (fun f cdv A outer s H vs Q E hr h => ?_)
  obtain ⟨F, ds, d, e, hv, ⟨⟨a, b⟩, ⟨c, d⟩, rfl, ⟨s1, s2, s3, s4⟩, ⟨t1, t2, t3, t4⟩, rfl⟩, q⟩ := h
  obtain ⟨x, y, rfl, h1, h2⟩ := Dv.two hv
  dsimp only at s1 s2 s3 s4 t1 t2 t3 t4
  refine ⟨_, (pss_one (ps_ret (pe_callC C__law_fraction hr (pa_cons (pe_op op_add (pe_op op_mul (pe_ix ix_tup (pv 0) pe_int (fun _ _ => rfl)) (pe_ix ix_tup (pv 1) pe_int (fun _ _ => rfl))) (pe_op op_mul (pe_ix ix_tup (pv 1) pe_int (fun _ _ => rfl)) (pe_ix ix_tup (pv 0) pe_int (fun _ _ => rfl)))) (pa_cons (pe_op op_mul (pe_ix ix_tup (pv 0) pe_int (fun _ _ => rfl)) (pe_ix ix_tup (pv 1) pe_int (fun _ _ => rfl))) pa_nil))))), ?_⟩
  have p1 : 0 < b * d := Int.mul_pos s1 t1
  have p2 : b * d < 1073741824 := by
    have : b * d ≤ 32767 * 32767 := Int.mul_le_mul (by omega) (by omega) (by omega) (by omega)
    omega
  have o0 := Dv.ev_ixT (K := K) (F := F) (σ := [some x, some y]) (i := 0) (d := .int a) (Dv.ev_var (i := 0) rfl h1) (Dv.ev_int 0) rfl
  have o1 := Dv.ev_ixT (K := K) (F := F) (σ := [some x, some y]) (i := 1) (d := .int b) (Dv.ev_var (i := 0) rfl h1) (Dv.ev_int 1) rfl
  have t0 := Dv.ev_ixT (K := K) (F := F) (σ := [some x, some y]) (i := 0) (d := .int c) (Dv.ev_var (i := 1) rfl h2) (Dv.ev_int 0) rfl
  have u1 := Dv.ev_ixT (K := K) (F := F) (σ := [some x, some y]) (i := 1) (d := .int d) (Dv.ev_var (i := 1) rfl h2) (Dv.ev_int 1) rfl
  refine Dv.s_ret (K := K) (d := encF (fplus (a, b) (c, d))) (ev_callD (Dv.ea_cons (Dv.ev_I0 (fun _ => .int _) (Dv.ev_I (.inl ⟨by omega, by omega⟩) (fun _ => .int _) o0 u1) (Dv.ev_I (.inl ⟨by omega, by omega⟩) (fun _ => .int _) t0 o1))
    (Dv.ea_cons (Dv.ev_I (.inl ⟨by omega, by omega⟩) (fun _ => .int _) o1 u1) Dv.ea_nil)) ⟨_, _, rfl, p1, p2, rfl⟩) e ?_
  exact fun v F2 H2 g2 hv => q v F2 H2 g2 hv
theorem sc__law_less : FnScope (["one", "other"] : List Str) (["one", "other"] : List Str) (defScope sLawLess) := ⟨rfl, rfl, rfl, by decide +kernel, rfl, by decide +kernel, by decide +kernel⟩
theorem ok_law_less (D : Def K mg "_law_less" sLawLess ["one", "other"]) : Cal P w K mg base "_law_less" ["one", "other"] 1 (spD K fBelow) := by
  refine cal_mk D sc__law_less (len_D (by rintro _ _ ⟨t, u, rfl, _⟩; rfl)) (fun f cdv A outer s H vs Q E hr h => ?_)
  obtain ⟨F, ds, d, e, hv, ⟨⟨a, b⟩, ⟨c, d⟩, rfl, ⟨s1, s2, s3, s4⟩, ⟨t1, t2, t3, t4⟩, rfl⟩, q⟩ := h
  obtain ⟨x, y, rfl, h1, h2⟩ := Dv.two hv
  dsimp only at s1 s2 s3 s4 t1 t2 t3 t4
  refine ⟨_, (pss_one (ps_ret (pe_cmpR op_lt (pe_op op_mul (pe_ix ix_tup (pv 0) pe_int (fun _ _ => rfl)) (pe_ix ix_tup (pv 1) pe_int (fun _ _ => rfl))) (pe_op op_mul (pe_ix ix_tup (pv 1) pe_int (fun _ _ => rfl)) (pe_ix ix_tup (pv 0) pe_int (fun _ _ => rfl))) (nomark _)))), ?_⟩
  have o0 := Dv.ev_ixT (K := K) (F := F) (σ := [some x, some y]) (i := 0) (d := .int a) (Dv.ev_var (i := 0) rfl h1) (Dv.ev_int 0) rfl
  have o1 := Dv.ev_ixT (K := K) (F := F) (σ := [some x, some y]) (i := 1) (d := .int b) (Dv.ev_var (i := 0) rfl h1) (Dv.ev_int 1) rfl
  have t0 := Dv.ev_ixT (K := K) (F := F) (σ := [some x, some y]) (i := 0) (d := .int c) (Dv.ev_var (i := 1) rfl h2) (Dv.ev_int 0) rfl
  have u1 := Dv.ev_ixT (K := K) (F := F) (σ := [some x, some y]) (i := 1) (d := .int d) (Dv.ev_var (i := 1) rfl h2) (Dv.ev_int 1) rfl
  refine Dv.s_ret (K := K) (d := .bool (decide (a * d < c * b))) (Dv.ev_I0 (fun _ => .bl _) (Dv.ev_I (.inl ⟨by omega, by omega⟩) (fun _ => .int _) o0 u1) (Dv.ev_I (.inl ⟨by omega, by omega⟩) (fun _ => .int _) t0 o1)) e ?_
  exact fun v F2 H2 g2 hv => q v F2 H2 g2 hv
theorem sc__law_rest : FnScope (["one", "other"] : List Str) (["one", "other"] : List Str) (defScope sLawRest) := ⟨rfl, rfl, rfl, by decide +kernel, rfl, by decide +kernel, by decide +kernel⟩
theorem ok_law_rest (D : Def K mg "_law_rest" sLawRest ["one", "other"]) (C__law_fraction : Cal P w K mg base "_law_fraction" ["top", "under"] 1 (spD K fFrac)) : Cal P w K mg base "_law_rest" ["one", "other"] 2 (spD K fMinus) := by
  refine cal_mk D sc__law_rest (len_D (by rintro _ _ ⟨t, u, rfl, _⟩; rfl)) (fun f cdv A outer s H vs Q E hr h => ?_)
  obtain ⟨F, ds, d, e, hv, ⟨⟨a, b⟩, ⟨c, d⟩, rfl, ⟨s1, s2, s3, s4⟩, ⟨t1, t2, t3, t4⟩, rfl⟩, q⟩ := h
  obtain ⟨x, y, rfl, h1, h2⟩ := Dv.two hv
  dsimp only at s1 s2 s3 s4 t1 t2 t3 t4
  refine ⟨_, (pss_one (ps_ret (pe_callC C__law_fraction hr (pa_cons (pe_op op_sub (pe_op op_mul (pe_ix ix_tup (pv 0) pe_int (fun _ _ => rfl)) (pe_ix ix_tup (pv 1) pe_int (fun _ _ => rfl))) (pe_op op_mul (pe_ix ix_tup (pv 1) pe_int (fun _ _ => rfl)) (pe_ix ix_tup (pv 0) pe_int (fun _ _ => rfl)))) (pa_cons (pe_op op_mul (pe_ix ix_tup (pv 0) pe_int (fun _ _ => rfl)) (pe_ix ix_tup (pv 1) pe_int (fun _ _ => rfl))) pa_nil))))), ?_⟩
  have p1 : 0 < b * d := Int.mul_pos s1 t1
  have p2 : b * d < 1073741824 := by
    have : b * d ≤ 32767 * 32767 := Int.mul_le_mul (by omega) (by omega) (by omega) (by omega)
    omega
  have o0 := Dv.ev_ixT (K := K) (F := F) (σ := [some x, some y]) (i := 0) (d := .int a) (Dv.ev_var (i := 0) rfl h1) (Dv.ev_int 0) rfl
  have o1 := Dv.ev_ixT (K := K) (F := F) (σ := [some x, some y]) (i := 1) (d := .int b) (Dv.ev_var (i := 0) rfl h1) (Dv.ev_int 1) rfl
  have t0 := Dv.ev_ixT (K := K) (F := F) (σ := [some x, some y]) (i := 0) (d := .int c) (Dv.ev_var (i := 1) rfl h2) (Dv.ev_int 0) rfl
  have u1 := Dv.ev_ixT (K := K) (F := F) (σ := [some x, some y]) (i := 1) (d := .int d) (Dv.ev_var (i := 1) rfl h2) (Dv.ev_int 1) rfl
  refine Dv.s_ret (K := K) (d := encF (fminus (a, b) (c, d))) (ev_callD (Dv.ea_cons (Dv.ev_I0 (fun _ => .int _) (Dv.ev_I (.inl ⟨by omega, by omega⟩) (fun _ => .int _) o0 u1) (Dv.ev_I (.inl ⟨by omega, by omega⟩) (fun _ => .int _) t0 o1))
    (Dv.ea_cons (Dv.ev_I (.inl ⟨by omega, by omega⟩) (fun _ => .int _) o1 u1) Dv.ea_nil)) ⟨_, _, rfl, p1, p2, rfl⟩) e ?_
  exact fun v F2 H2 g2 hv => q v F2 H2 g2 hv
theorem sc__law_product : FnScope (["one", "other"] : List Str) (["one", "other"] : List Str) (defScope sLawProduct) := ⟨rfl, rfl, rfl, by decide +kernel, rfl, by decide +kernel, by decide +kernel⟩
theorem ok_law_product (D : Def K mg "_law_product" sLawProduct ["one", "other"]) (C__law_fraction : Cal P w K mg base "_law_fraction" ["top", "under"] 1 (spD K fFrac)) : Cal P w K mg base "_law_product" ["one", "other"] 2 (spD K fProd) := by
  refine cal_mk D sc__law_product (len_D (by rintro _ _ ⟨t, u, rfl, _⟩; rfl)) (fun f cdv A outer s H vs Q E hr h => ?_)
  obtain ⟨F, ds, d, e, hv, ⟨⟨a, b⟩, ⟨c, d⟩, rfl, ⟨s1, s2, s3, s4⟩, ⟨t1, t2, t3, t4⟩, rfl⟩, q⟩ := h
  obtain ⟨x, y, rfl, h1, h2⟩ := Dv.two hv
  dsimp only at s1 s2 s3 s4 t1 t2 t3 t4
  refine ⟨_, (pss_one (ps_ret (pe_callC C__law_fraction hr (pa_cons (pe_op op_mul (pe_ix ix_tup (pv 0) pe_int (fun _ _ => rfl)) (pe_ix ix_tup (pv 1) pe_int (fun _ _ => rfl))) (pa_cons (pe_op op_mul (pe_ix ix_tup (pv 0) pe_int (fun _ _ => rfl)) (pe_ix ix_tup (pv 1) pe_int (fun _ _ => rfl))) pa_nil))))), ?_⟩
  have p1 : 0 < b * d := Int.mul_pos s1 t1
  have p2 : b * d < 1073741824 := by
    have : b * d ≤ 32767 * 32767 := Int.mul_le_mul (by omega) (by omega) (by omega) (by omega)
    omega
  have o0 := Dv.ev_ixT (K := K) (F := F) (σ := [some x, some y]) (i := 0) (d := .int a) (Dv.ev_var (i := 0) rfl h1) (Dv.ev_int 0) rfl
  have o1 := Dv.ev_ixT (K := K) (F := F) (σ := [some x, some y]) (i := 1) (d := .int b) (Dv.ev_var (i := 0) rfl h1) (Dv.ev_int 1) rfl
  have t0 := Dv.ev_ixT (K := K) (F := F) (σ := [some x, some y]) (i := 0) (d := .int c) (Dv.ev_var (i := 1) rfl h2) (Dv.ev_int 0) rfl
  have u1 := Dv.ev_ixT (K := K) (F := F) (σ := [some x, some y]) (i := 1) (d := .int d) (Dv.ev_var (i := 1) rfl h2) (Dv.ev_int 1) rfl
  refine Dv.s_ret (K := K) (d := encF (frac (a * c) (b * d))) (ev_callD (Dv.ea_cons (Dv.ev_I (.inl ⟨by omega, by omega⟩) (fun _ => .int _) o0 t0)
    (Dv.ea_cons (Dv.ev_I (.inl ⟨by omega, by omega⟩) (fun _ => .int _) o1 u1) Dv.ea_nil)) ⟨_, _, rfl, p1, p2, rfl⟩) e ?_
  exact fun v F2 H2 g2 hv => q v F2 H2 g2 hv
theorem sc__law_fewer : FnScope (["one", "other"] : List Str) (["one", "other"] : List Str) (defScope sLawFewer) := ⟨rfl, rfl, rfl, by decide +kernel, rfl, by decide +kernel, by decide +kernel⟩
theorem ok_law_fewer (D : Def K mg "_law_fewer" sLawFewer ["one", "other"]) (C__law_less : Cal P w K mg base "_law_less" ["one", "other"] 1 (spD K fBelow)) : Cal P w K mg base "_law_fewer" ["one", "other"] 2 (spD K fLesser) := by
  refine cal_mk D sc__law_fewer (len_D (by rintro _ _ ⟨t, u, rfl, _⟩; rfl)) (fun f cdv A outer s H vs Q E hr h => ?_)
  obtain ⟨F, ds, d, e, hv, ⟨a, b, rfl, s, t, rfl⟩, q⟩ := h
  obtain ⟨x, y, rfl, h1, h2⟩ := Dv.two hv
  refine ⟨_, (pss_one (ps_ret (pe_ifExp (pt_val (pe_callC C__law_less hr (pa_cons (pv 1) (pa_cons (pv 0) pa_nil)))) (pv 1) (pv 0)))), ?_⟩
  refine Dv.s_ret (K := K) (Dv.ev_if (et_test (ev_callD (Dv.ea_cons (Dv.ev_var (i := 1) rfl h2) (Dv.ea_cons (Dv.ev_var (i := 0) rfl h1) Dv.ea_nil)) ⟨_, _, rfl, t, s, rfl⟩)) (fun z => ?_) (fun z => ?_)) e (fun v F2 H2 g2 hv => q v F2 H2 g2 hv)
  · rw [if_pos z]
    exact Dv.ev_var rfl h2
  · rw [if_neg (by rw [z]; decide)]
    exact Dv.ev_var rfl h1
theorem sc__law_more : FnScope (["one", "other"] : List Str) (["one", "other"] : List Str) (defScope sLawMore) := ⟨rfl, rfl, rfl, by decide +kernel, rfl, by decide +kernel, by decide +kernel⟩
theorem ok_law_more (D : Def K mg "_law_more" sLawMore ["one", "other"]) (C__law_less : Cal P w K mg base "_law_less" ["one", "other"] 1 (spD K fBelow)) : Cal P w K mg base "_law_more" ["one", "other"] 2 (spD K fMore) := by
  refine cal_mk D sc__law_more (len_D (by rintro _ _ ⟨t, u, rfl, _⟩; rfl)) (fun f cdv A outer s H vs Q E hr h => ?_)
  obtain ⟨F, ds, d, e, hv, ⟨a, b, rfl, s, t, rfl⟩, q⟩ := h
  obtain ⟨x, y, rfl, h1, h2⟩ := Dv.two hv
  refine ⟨_, (pss_one (ps_ret (pe_ifExp (pt_val (pe_callC C__law_less hr (pa_cons (pv 0) (pa_cons (pv 1) pa_nil)))) (pv 1) (pv 0)))), ?_⟩
  refine Dv.s_ret (K := K) (Dv.ev_if (et_test (ev_callD (Dv.ea_cons (Dv.ev_var (i := 0) rfl h1) (Dv.ea_cons (Dv.ev_var (i := 1) rfl h2) Dv.ea_nil)) ⟨_, _, rfl, s, t, rfl⟩)) (fun z => ?_) (fun z => ?_)) e (fun v F2 H2 g2 hv => q v F2 H2 g2 hv)
  · rw [if_pos z]
    exact Dv.ev_var rfl h2
  · rw [if_neg (by rw [z]; decide)]
    exact Dv.ev_var rfl h1
theorem ev_prod {σ : L2.St} {F : Hp} {ta tb : TE} {a b : Rat} {B C : Nat} {E : XK} (ha : EvD K ta σ F (encR a)) (hb : EvD K tb σ F (encR b)) (sa : Sx B a) (sb : Sx C b) (hB : B < 1000000000000 := by omega) (hC : C < 1000000000000 := by omega) : EvD K (tCall (spD K fProd) [] E (tCons ta (tCons tb tNil))) σ F (encR (a * b)) :=
  ev_callD (Dv.ea_cons ha (Dv.ea_cons hb Dv.ea_nil)) ⟨toF a, toF b, rfl, sm_of sa hB, sm_of sb hC, congrArg encF (prod_rat a b).symm⟩
theorem ev_more {σ : L2.St} {F : Hp} {ta tb : TE} {a b : Rat} {B C : Nat} {E : XK} (ha : EvD K ta σ F (encR a)) (hb : EvD K tb σ F (encR b)) (sa : Sx B a) (sb : Sx C b) (hB : B < 1000000000000 := by omega) (hC : C < 1000000000000 := by omega) : EvD K (tCall (spD K fMore) [] E (tCons ta (tCons tb tNil))) σ F (encR (if a < b then b else a)) :=
  ev_callD (Dv.ea_cons ha (Dv.ea_cons hb Dv.ea_nil)) ⟨_, _, rfl, sm_of sa hB, sm_of sb hC, by rw [Qa.below_rat]; by_cases h : a < b <;> simp [h, encR]⟩
/-- a fraction of two whole numbers -/
theorem ev_frac {σ : L2.St} {F : Hp} {ta tb : TE} {i j : Int} {E : XK} (ha : EvD K ta σ F (.int i)) (hb : EvD K tb σ F (.int j)) (h0 : 0 < j) (h1 : j < 1073741824) : EvD K (tCall (spD K fFrac) [] E (tCons ta (tCons tb tNil))) σ F (encR (mkRat i j.toNat)) :=
  ev_callD (Dv.ea_cons ha (Dv.ea_cons hb Dv.ea_nil)) ⟨i, j, rfl, h0, h1, congrArg encF (Qa.frac_rat' h0).symm⟩
end
end R3

set_option Elab.async false
set_option linter.all false
set_option maxRecDepth 100000
set_option maxHeartbeats 4000000
namespace Dv
open PySem PySem.Spec PyProof.Rows L2 Evl
section
variable {K : PySem.W.Frag} {σ : L2.St} {F : Hp} {ta tb : TE} {ds es : List PyData}
theorem ev_intB {b : Bool} (h : EvD K ta σ F (.bool b)) : EvD K (tCB (fun xs H Q => (∃ i, xs = [V.int i] ∧ Q (.int i) H) ∨ ∃ k, xs = [V.bl k] ∧ Q (.int (if k then 1 else 0)) H) (tCons ta tNil)) σ F (.int (if b then 1 else 0)) := fun H e Q q =>
  h H e _ fun v F1 H1 g1 hv => by
    cases hv
    exact .inr ⟨b, rfl, q _ F1 H1 g1 (.int _)⟩
theorem ev_intI {i : Int} (h : EvD K ta σ F (.int i)) : EvD K (tCB (fun xs H Q => (∃ i, xs = [V.int i] ∧ Q (.int i) H) ∨ ∃ k, xs = [V.bl k] ∧ Q (.int (if k then 1 else 0)) H) (tCons ta tNil)) σ F (.int i) := fun H e Q q =>
  h H e _ fun v F1 H1 g1 hv => by
    cases hv
    exact .inl ⟨i, rfl, q _ F1 H1 g1 (.int _)⟩
end
end Dv
namespace R3
open PySem PySem.Spec PyProof.Rows L2 Evl Dv StX
open Qa (toF Sx)
def fLEdges : List PyData → PyData → Prop := fun ds d => ∃ bx : List (Rat × Rat), ds = [.list (bx.map encBd)] ∧ bx.length ≤ 3 ∧ d = .list ((edgesL (sidesL bx)).map fun e => .list (e.map encR))
section
variable {P : Program} {w : World} {K : PySem.W.Frag} {mg : Str → Option Value} {base : Heap}
theorem sides_at {bx : List (Rat × Rat)} {n : Nat} (h : n < bx.length) (h' : n < (sidesL bx).length) : (sidesL bx)[n] = if bx[n].1 = bx[n].2 then [bx[n].1] else [bx[n].1, bx[n].2] := by
  have : (sidesL bx)[n]? = some (if bx[n].1 = bx[n].2 then [bx[n].1] else [bx[n].1, bx[n].2]) := by
    unfold sidesL
    rw [List.getElem?_map, List.getElem?_eq_getElem h] <;> rfl
  rw [List.getElem?_eq_getElem h'] at this
  exact Option.some.inj this
theorem sides_len (bx : List (Rat × Rat)) : (sidesL bx).length = bx.length := by
  unfold sidesL
  rw [List.length_map]
theorem sc__law_edges : FnScope (["box_here", "found", "low", "high", "longer", "edge", "end"] : List Str) (["box_here"] : List Str) (defScope sLawEdges) := ⟨rfl, rfl, rfl, by decide +kernel, rfl, by decide +kernel, by decide +kernel⟩
theorem ok_law_edges (D : Def K mg "_law_edges" sLawEdges ["box_here"]) (B : Bl mg) : Cal P w K mg base "_law_edges" ["box_here"] 1 (spD K fLEdges) := by
  refine cal_mk D sc__law_edges (len_D (by rintro _ _ ⟨bx, rfl, _⟩; rfl)) (fun f cdv A outer s H vs Q E hr h => ?_)
  obtain ⟨F, ds, d, e, hv, ⟨bx, rfl, l3, rfl⟩, q⟩ := h
  obtain ⟨v, rfl, h1⟩ := Dv.one hv
  refine ⟨_, (pss_cons (ps_set (i := 1) sc__law_edges.nd rfl (.inl rfl) (pe_lst (pa_cons (pe_lst pa_nil) pa_nil)))
      (pss_cons (ps_for PassesOwn.never rfl (pi_list (pv 0)) (pg_tup (by rfl) (pgs_cons (pg_name (i := 2) sc__law_edges.nd rfl (.inl rfl)) (pgs_cons (pg_name (i := 3) sc__law_edges.nd rfl (.inl rfl)) pgs_nil))) (pss_cons (ps_set (i := 4) sc__law_edges.nd rfl (.inl rfl) (pe_lst pa_nil))
      (pss_cons (ps_for PassesOwn.never rfl (pi_list (pv 1)) (pg_name (i := 5) sc__law_edges.nd rfl (.inr rfl)) (pss_one (ps_set (i := 4) sc__law_edges.nd rfl (.inl rfl) (pe_op op_catS (pv 4) (pe_lc (own := [("end", 6)]) (g := gName 6) rfl sc__law_edges.nd (pi_list (pe_slice sl_list (pe_lst (pa_cons (pv 2) (pa_cons (pv 3) pa_nil))) po_none (po_some (pe_op op_add pe_int (pe_callTy call_int1 (by rfl) B.int (by decide +kernel) (pa_cons (pe_cmpR (r := rNeD K) (op_neD (by exact hr.1.units)) (pv 2) (pv 3) (nomark _)) pa_nil)))))) (blkOk_by (own := [("end", 6)]) (N := ["box_here", "found", "low", "high", "longer", "edge", "end"]) (sc := defScope sLawEdges) (by decide +kernel)) (fun _ _ _ _ _ => (pg_name (i := 6) sc__law_edges.nd rfl (.inl rfl)))  (fun _ _ _ _ _ => pts_nil) (fun _ _ _ _ _ => (pe_op (r := rCatS K) op_catS (pv 5) (pe_lst (pa_cons (pv 6) pa_nil)))))))))
      (pss_one (ps_set (i := 1) sc__law_edges.nd rfl (.inl rfl) (pv 4))))))
      (pss_one (ps_ret (pv 1))))), ?_⟩
  have st : start ["box_here", "found", "low", "high", "longer", "edge", "end"] [v] = [some v, none, none, none, none, none, none] := rfl
  rw [st]
  refine seq_of (Dv.s_asg (K := K) (F := F) (d := .list ((edgesL ((sidesL bx).take 0)).map fun e => .list (e.map encR))) (EvL.ev (Dv.el_lst (Dv.ea_cons (EvL.ev (Dv.el_lst Dv.ea_nil (by simp))) Dv.ea_nil) (show (1 : Nat) ≤ 100000 by decide))) e fun f0 F1 H1 g1 hf0 => ?_)
  dsimp only
  show tSeq _ _ _ [some v, some f0, none, none, none, none, none] H1
  refine seq_of (Dv.s_for (K := K) (it_list (σ := [some v, some f0, none, none, none, none, none]) (Dv.ev_var (i := 0) rfl (dp_ex g1.fx h1))) g1.fh
    (fun n σ' F' H' => ∃ fv s2 s3 s4 s5, σ' = [some v, some fv, s2, s3, s4, s5, none] ∧ Gr F H F' H' ∧ Dp K F' fv (.list ((edgesL ((sidesL bx).take n)).map fun e => .list (e.map encR))))
    (fun F' H' g3 => ⟨f0, _, _, _, _, rfl, g1.trans g3, dp_ex g3.fx hf0⟩) ?_ (fun σ' F' H' e1 e2 pv => ?_))
  · rintro Fb eb n σ' F3 H3 u du F4 H4 hdu e3 e4 ⟨fv, s2, s3, s4, s5, rfl, gg, hfv⟩ g4 hu
    obtain ⟨hn, hdn⟩ := List.getElem?_eq_some_iff.mp hdu
    rw [List.length_map] at hn
    rw [List.getElem_map] at hdn
    subst hdn
    have hn2 : n < (sidesL bx).length := by rw [sides_len]; exact hn
    rw [edges_take hn2]
    have el := edges_len (n := n) (sides_two bx) (by omega)
    have el8 : (edgesL ((sidesL bx).take n)).length ≤ 4 := by
      have : n ≤ 2 := by omega
      have : (2 : Nat) ^ n ≤ 2 ^ 2 := Nat.pow_le_pow_right (by decide) this
      omega
    have eln := edges_each (ss := sidesL bx) (n := n) (by omega)
    rw [sides_at hn hn2]
    generalize bx[n] = z at *
    generalize edgesL ((sidesL bx).take n) = es at *
    have gg4 := gg.trans g4
    obtain ⟨y1, y2, hy1, hy2, ht⟩ := tup2 hu
    refine ht 2 3 _ H4 gg4.fh _ ?_
    dsimp only
    show tSeq _ _ _ [some v, some fv, some y1, some y2, s4, s5, none] H4
    refine seq_of (Dv.s_asg (K := K) (F := F4) (d := .list ((longL (es.take 0) (if z.1 = z.2 then [z.1] else [z.1, z.2])).map fun e => .list (e.map encR))) (EvL.ev (Dv.el_lst Dv.ea_nil (show (0 : Nat) ≤ 100000 by decide))) gg4.fh fun l0 F5 H5 g5 hl0 => ?_)
    dsimp only
    show tSeq _ _ _ [some v, some fv, some y1, some y2, some l0, s5, none] H5
    have gg5 := gg4.trans g5
    refine seq_of (Dv.s_for (K := K) (it_list (σ := [some v, some fv, some y1, some y2, some l0, s5, none]) (Dv.ev_var (i := 1) rfl (dp_ex (g4.fx.trans g5.fx) hfv))) gg5.fh
      (fun i σ' F' H' => ∃ lv s5, σ' = [some v, some fv, some y1, some y2, some lv, s5, none] ∧ Gr F H F' H' ∧ Ex F5 F' ∧ Dp K F' lv (.list ((longL (es.take i) (if z.1 = z.2 then [z.1] else [z.1, z.2])).map fun e => .list (e.map encR))))
      (fun F' H' g6 => ⟨l0, _, rfl, gg5.trans g6, g6.fx, dp_ex g6.fx hl0⟩) ?_ (fun σ' F' H' e1 e2 pv => ?_))
    · rintro Fc ec i σ' F6 H6 x dx F7 H7 hdx e6 e7 ⟨lv, s5, rfl, gg6, ex6, hlv⟩ g7 hx
      obtain ⟨hi, hdi⟩ := List.getElem?_eq_some_iff.mp hdx
      rw [List.length_map] at hi
      rw [List.getElem_map] at hdi
      subst hdi
      have tk : es.take (i + 1) = es.take i ++ [es[i]] := List.take_succ_eq_append_getElem hi
      have s2 : (if z.1 = z.2 then [z.1] else [z.1, z.2] : List Rat).length ≤ 2 := by split <;> simp
      have ll : (longL (es.take i) (if z.1 = z.2 then [z.1] else [z.1, z.2])).length ≤ 8 := by
        refine Nat.le_trans (long_len s2) ?_
        rw [List.length_take]
        omega
      have e9 : longL (es.take (i + 1)) (if z.1 = z.2 then [z.1] else [z.1, z.2]) = longL (es.take i) (if z.1 = z.2 then [z.1] else [z.1, z.2]) ++ (if z.1 = z.2 then [z.1] else [z.1, z.2]).map fun x => es[i] ++ [x] := by
        rw [tk]
        unfold longL
        rw [List.flatMap_append]
        congr 1
        simp
      rw [e9]
      have edl := eln es[i] (List.getElem_mem _)
      generalize es[i] = edge at *
      have gg7 := gg6.trans g7
      have hy17 := dp_ex (g5.fx.trans (ex6.trans g7.fx)) hy1
      have hy27 := dp_ex (g5.fx.trans (ex6.trans g7.fx)) hy2
      show tAsg _ _ _ [some v, some fv, some y1, some y2, some lv, some x, none] H7
      have sl : EvD K (tSl (rSlL K) (tLst (tCons (tVar 2) (tCons (tVar 3) tNil))) tNoPart (tPart (tOp rAdd (tC (.int 1)) (tCB (fun xs H Q => (∃ i, xs = [V.int i] ∧ Q (.int i) H) ∨ ∃ k, xs = [V.bl k] ∧ Q (.int (if k then 1 else 0)) H) (tCons (tOp (rNeD K) (tVar 2) (tVar 3)) tNil))))) [some v, some fv, some y1, some y2, some lv, some x, none] F7 (.list ((if z.1 = z.2 then [z.1] else [z.1, z.2]).map encR)) := by
        have ne := ev_neD (K := K) (F := F7) (σ := [some v, some fv, some y1, some y2, some lv, some x, none]) (Dv.ev_var (i := 2) rfl hy17) (Dv.ev_var (i := 3) rfl hy27) (shaped_R _) (shaped_R _)
        rw [eqv_R] at ne
        have cut := el_sl (K := K) (F := F7) (σ := [some v, some fv, some y1, some y2, some lv, some x, none]) (EvL.ev (Dv.el_lst (Dv.ea_cons (Dv.ev_var (i := 2) rfl hy17) (Dv.ea_cons (Dv.ev_var (i := 3) rfl hy27) Dv.ea_nil)) (by simp))) eo_none (eo_some (Dv.ev_I0 (g := fun i j => V.int (i + j)) (fun _ => .int _) (Dv.ev_int 1) (ev_intB ne)))
        refine EvL.ev (Dv.el_is cut ?_)
        by_cases h : z.1 = z.2
        · rw [if_pos h, decide_eq_true h]
          rfl
        · rw [if_neg h, decide_eq_false h]
          rfl
      have lc := lc_rule (K := K) (F := F7) (te := tOp (rCatS K) (tVar 5) (tLst (tCons (tVar 6) tNil))) (vs := [6]) (tt := tYes) (g := gName 6) (σ := [some v, some fv, some y1, some y2, some lv, some x, none]) (if z.1 = z.2 then [z.1] else [z.1, z.2]) encR (fun y => .list ((edge ++ [y]).map encR)) (fun _ => true) (it_list sl) (by omega)
        (fun y _ w F8 e8 hw => ⟨[some v, some fv, some y1, some y2, some lv, some x, some w], fun H e Q q => q, rfl, fun H e Q q => q F8 H (Gr.refl e), fun _ => by
          refine EvL.ev (Dv.el_is (el_catS (Dv.ev_var (i := 5) rfl (dp_ex e8 hx)) (EvL.ev (Dv.el_lst (Dv.ea_cons (Dv.ev_var (i := 6) rfl hw) Dv.ea_nil) (by simp))) ?_) ?_)
          · simp
            omega
          · rw [List.map_append] <;> rfl⟩)
      rw [filt_true] at lc
      refine Dv.s_asg (K := K) (F := F7) (EvL.ev (Dv.el_is (el_catS (Dv.ev_var (i := 4) rfl (dp_ex g7.fx hlv)) (EvL.ev lc) (by rw [List.length_map, List.length_map]; omega)) ?_)) gg7.fh fun lv' F8 H8 g8 hlv' => ⟨F8, e6.trans (g7.fx.trans g8.fx), g8.fh, lv', _, rfl, gg7.trans g8, ex6.trans (g7.fx.trans g8.fx), hlv'⟩
      rw [List.map_append, List.map_map] <;> rfl
    · obtain ⟨lv, s5, rfl, gg6, ex6, hlv⟩ := pv
      rw [List.length_map, List.take_length] at hlv
      dsimp only
      exact Dv.s_asg (K := K) (F := F') (Dv.ev_var (i := 4) rfl hlv) gg6.fh fun fv' F8 H8 g8 hfv' => ⟨F8, e3.trans ((g4.fx.trans g5.fx).trans (ex6.trans g8.fx)), g8.fh, fv', _, _, _, _, rfl, gg6.trans g8, hfv'⟩
  · obtain ⟨fv, s2, s3, s4, s5, rfl, gg, hfv⟩ := pv
    rw [List.length_map, ← sides_len bx, List.take_length] at hfv
    dsimp only
    exact Dv.s_ret (K := K) (F := F') (Dv.ev_var (i := 1) rfl hfv) gg.fh fun v F2 H2 g2 hv => q v F2 H2 (gg.trans g2) hv
end
end R3

set_option Elab.async false
set_option linter.all false
set_option maxRecDepth 100000
set_option maxHeartbeats 4000000
namespace Dv
open PySem PySem.Spec PyProof.Rows L2 Evl
section
variable {K : PySem.W.Frag} {σ : L2.St} {F H : Hp} {ta tb : TE} {a b : PyData} {ds es : List PyData} {D : Ends}
/-- a, b = data, a new list -/
theorem s_parDL {i j : Nat} (ha : EvD K ta σ F a) (hb : EvL K tb σ F es) (e : Ex F H) (k : ∀ v p ws F' H', Gr F H F' H' → Dp K F' v a → H p = none → F' p = none → H' p = some (.lst ws) → DpAll K F' ws es → D.nx ((σ.set i (some v)).set j (some (.ref p))) H') : tPar i j (tCons ta (tCons tb tNil)) D σ H :=
  ha H e _ fun v F1 H1 g1 hv => (hb.mono g1.fx) H1 g1.fh _ fun p ws F2 H2 g2 h1 h2 h3 h4 => ⟨v, _, rfl, k v p ws F2 H2 (g1.trans g2) (dp_ex g2.fx hv) (ex_none g1.hx h1) h2 h3 h4⟩
/-- a, b = two new lists -/
theorem s_parLL {i j : Nat} (ha : EvL K ta σ F ds) (hb : EvL K tb σ F es) (e : Ex F H) (k : ∀ p1 p2 us ws F' H', Gr F H F' H' → H p1 = none → F' p1 = none → H' p1 = some (.lst us) → DpAll K F' us ds → p1 ≠ p2 → H p2 = none → F' p2 = none → H' p2 = some (.lst ws) → DpAll K F' ws es → D.nx ((σ.set i (some (.ref p1))).set j (some (.ref p2))) H') : tPar i j (tCons ta (tCons tb tNil)) D σ H :=
  ha H e _ fun p1 us F1 H1 g1 n1 f1 h1 d1 => (hb.mono g1.fx) H1 g1.fh _ fun p ws F2 H2 g2 h2 h3 h4 h5 => ⟨_, _, rfl, by
    have kp := g2.keep h1 f1
    exact k p1 p us ws F2 H2 (g1.trans g2) n1 kp.2 kp.1 (dps_ex g2.fx d1) (fun z => by rw [← z, h1] at h2; cases h2) (ex_none g1.hx h2) h3 h4 h5⟩
end
end Dv
namespace R3
open PySem PySem.Spec PyProof.Rows L2 Evl Dv StX
open Qa (toF Sx)
/-- the number that is told last of a name -/
def lastOf (ps : List (Str × Int)) (n : Str) : Int := ps.foldl (fun acc z => if z.1 = n then z.2 else acc) 0
theorem merge_last {n : Str} : ∀ (ps : List (Str × Int)) (kvs : List (Key × V)) (i0 : Int), (valV kvs (.inr n)).getD (.int 0) = .int i0 →
    (valV (mergeK kvs (ps.map fun z => ((Sum.inr z.1 : Key), V.int z.2))) (.inr n)).getD (.int 0) = .int (ps.foldl (fun acc z => if z.1 = n then z.2 else acc) i0)
  | [], _, _, h => h
  | z :: r, kvs, i0, h => by
    rw [List.foldl_cons]
    show (valV (mergeK (putK kvs (Sum.inr z.1) (V.int z.2)) (r.map _)) (.inr n)).getD (.int 0) = _
    refine merge_last r _ _ ?_
    rw [valV_put]
    by_cases e : z.1 = n
    · rw [if_pos (by rw [e]), if_pos e] <;> rfl
    · rw [if_neg (fun q => e (Sum.inr.inj q).symm), if_neg e]
      exact h
theorem paired_ex {K : PySem.W.Frag} {F F1 : Hp} (e : Evl.Ex F F1) : ∀ {as : List Addr} {kvs : List (Key × V)}, Paired (fun p kv => SqT K F p [kV kv.1, kv.2]) as kvs → Paired (fun p kv => SqT K F1 p [kV kv.1, kv.2]) as kvs
  | _, _, .nil => .nil
  | _, _, .cons h r => .cons (Evl.ex_t e h) (paired_ex e r)
def triL (stuffs : List (Str × Option Int)) (r : Str × List (Str × Int) × List (Str × Int)) : List Tri := stuffs.map fun s => (s.2, lastOf r.2.1 s.1, lastOf r.2.2 s.1)
def fLMost : List PyData → PyData → Prop := fun ds d => ∃ (stuffs : List (Str × Option Int)) (rest : PyData) (r : Str × List (Str × Int) × List (Str × Int)), ds = [.list [.list (stuffs.map encStuff), rest], encRecipe r] ∧ stuffs.length ≤ 8 ∧ (∀ z ∈ triL stuffs r, TriOk z) ∧ d = encR (mostQ (triL stuffs r))
section
variable {P : Program} {w : World} {K : PySem.W.Frag} {mg : Str → Option Value} {base : Heap}
theorem parts_refs {F : Hp} : ∀ {ps : List (Str × Int)} {xs : List V}, DpAll K F xs (ps.map encPart) → ∃ as : List Addr, xs = as.map V.ref ∧ Paired (fun p kv => SqT K F p [kV kv.1, kv.2]) as (ps.map fun z => ((Sum.inr z.1 : Key), V.int z.2))
  | [], _, h => by
    cases h
    exact ⟨[], rfl, .nil⟩
  | z :: r, _, h => by
    cases h with
    | cons h1 h2 =>
      obtain ⟨as, rfl, hp⟩ := parts_refs h2
      cases h1 with
      | tup hs hd =>
        obtain ⟨y1, y2, rfl, d1, d2⟩ := Dv.two hd
        cases d1
        cases d2
        exact ⟨_ :: as, rfl, .cons hs hp⟩
/-- dict(parts).get(name, 0) -/
theorem ev_dget {σ : L2.St} {F : Hp} {tl : TE} {ps : List (Str × Int)} {n : Str} {i : Nat} (h : EvD K tl σ F (.list (ps.map encPart))) (hi : σ[i]? = some (some (.str n))) :
    EvD K (tDGet2 (tCB (fun xs H Q => ∃ (a : Addr) (ps : List Addr) (kvs : List (Key × V)), xs = [.ref a] ∧ SqL K H a (ps.map V.ref) ∧ Paired (fun p kv => SqT K H p [kV kv.1, kv.2]) ps kvs ∧ ∀ p, H p = none → Q (.ref p) (upd H p (.dK (mergeK [] kvs)))) (tCons tl tNil)) (tVar i) (tC (.int 0))) σ F (.int (lastOf ps n)) := fun H e Q q =>
  h H e _ fun v F1 H1 g1 hv => by
    cases hv with
    | lst hs hd =>
      obtain ⟨as, rfl, hpa⟩ := parts_refs hd
      refine ⟨_, as, _, rfl, Evl.ex_l g1.fh hs, paired_ex g1.fh hpa, fun p hp => ?_⟩
      have hdq : upd H1 p (.dK (mergeK [] (ps.map fun z => ((Sum.inr z.1 : Key), V.int z.2)))) p = some (.dK (mergeK [] (ps.map fun z => ((Sum.inr z.1 : Key), V.int z.2)))) := upd_same
      refine ⟨p, rfl, .inl ⟨_, .inl hdq⟩, _, hi, _, DGet.k (k := Sum.inr n) hdq, ?_⟩
      rw [merge_last ps [] 0 rfl]
      exact q _ _ _ (g1.trans (Gr.new g1.fh hp)) (.int _)
theorem sc__law_most : FnScope (["parts", "recipe_here", "found", "name", "room", "need", "share"] : List Str) (["parts", "recipe_here"] : List Str) (defScope sLawMost) := ⟨rfl, rfl, rfl, by decide +kernel, rfl, by decide +kernel, by decide +kernel⟩
theorem ok_law_most (D : Def K mg "_law_most" sLawMost ["parts", "recipe_here"]) (B : Bl mg) (C__law_fraction : Cal P w K mg base "_law_fraction" ["top", "under"] 1 (spD K fFrac)) (C__law_fewer : Cal P w K mg base "_law_fewer" ["one", "other"] 2 (spD K fLesser)) :
    Cal P w K mg base "_law_most" ["parts", "recipe_here"] 3 (spD K fLMost) := by
  refine cal_mk D sc__law_most (len_D (by rintro _ _ ⟨t, u, r, rfl, _⟩; rfl)) (fun f cdv A outer s H vs Q E hr h => ?_)
  obtain ⟨F, ds, d, e, hv, ⟨stuffs, rest, r, rfl, l8, hz, rfl⟩, q⟩ := h
  obtain ⟨x, y, rfl, h1, h2⟩ := Dv.two hv
  have hu := hu_of hr.1
  refine ⟨_, (pss_cons (ps_set (i := 2) sc__law_most.nd rfl (.inl rfl) pe_non)
      (pss_cons (ps_for PassesOwn.never rfl (pi_list (pe_ix ix_list (pv 0) pe_int (fun _ _ => rfl))) (pg_tup (by rfl) (pgs_cons (pg_name (i := 3) sc__law_most.nd rfl (.inl rfl)) (pgs_cons (pg_name (i := 4) sc__law_most.nd rfl (.inl rfl)) pgs_nil))) (pss_cons (ps_set (i := 5) sc__law_most.nd rfl (.inl rfl) (pe_callB (call_max2 rfl) (by rfl) B.max (by decide +kernel) (pa_cons (pe_dget2 hu (pe_callTy (call_dictP (by rfl)) (by rfl) B.dict (by decide +kernel) (pa_cons (pe_ix ix_tup (pv 1) pe_int (fun _ _ => rfl)) pa_nil)) (pv 3) pe_int ⟨rfl, rfl, rfl, rfl⟩) (pa_cons (pe_dget2 hu (pe_callTy (call_dictP (by rfl)) (by rfl) B.dict (by decide +kernel) (pa_cons (pe_ix ix_tup (pv 1) pe_int (fun _ _ => rfl)) pa_nil)) (pv 3) pe_int ⟨rfl, rfl, rfl, rfl⟩) pa_nil))))
      (pss_one (ps_if (PW.pt (pw_and (pt_cmpR op_notN (pv 4) pe_non (nomark _)) (pw_and1 (pt_cmpR op_gt (pv 5) pe_int (nomark _))))) (pss_cons (ps_set (i := 6) sc__law_most.nd rfl (.inl rfl) (pe_callC C__law_fraction hr (pa_cons (pv 4) (pa_cons (pv 5) pa_nil))))
      (pss_one (ps_set (i := 2) sc__law_most.nd rfl (.inl rfl) (pe_ifExp (pt_cmpR op_isN (pv 2) pe_non (nomark _)) (pv 6) (pe_callC C__law_fewer hr (pa_cons (pv 2) (pa_cons (pv 6) pa_nil))))))) pss_nil))))
      (pss_one (ps_ret (pe_ifExp (pt_cmpR op_isN (pv 2) pe_non (nomark _)) (pe_tup (pa_cons pe_int (pa_cons pe_int pa_nil))) (pv 2)))))), ?_⟩
  have st : start ["parts", "recipe_here", "found", "name", "room", "need", "share"] [x, y] = [some x, some y, none, none, none, none, none] := rfl
  rw [st]
  refine seq_of (Dv.s_asg (K := K) (F := F) Dv.ev_non e fun nv F1 H1 g1 hnv => ?_)
  cases hnv
  dsimp only
  show tSeq _ _ _ [some x, some y, some .non, none, none, none, none] H1
  refine seq_of (Dv.s_for (K := K) (it_list (σ := [some x, some y, some .non, none, none, none, none]) (Dv.ev_ixL (Dv.ev_var (i := 0) rfl (dp_ex g1.fx h1)) (Dv.ev_int 0) rfl)) g1.fh
    (fun n σ' F' H' => ∃ fv s3 s4 s5 s6, σ' = [some x, some y, some fv, s3, s4, s5, s6] ∧ Gr F H F' H' ∧ Dp K F' fv (encMo (((triL stuffs r).take n).foldl stepMost none)))
    (fun F' H' g2 => ⟨.non, _, _, _, _, rfl, g1.trans g2, .non⟩) ?_ (fun σ' F' H' e1 e2 pv => ?_))
  · rintro Fb eb n σ' F3 H3 u du F4 H4 hdu e3 e4 ⟨fv, s3, s4, s5, s6, rfl, gg, hfv⟩ g4 hu4
    obtain ⟨hn, hdn⟩ := List.getElem?_eq_some_iff.mp hdu
    rw [List.length_map] at hn
    rw [List.getElem_map] at hdn
    subst hdn
    have hn2 : n < (triL stuffs r).length := by
      unfold triL
      rw [List.length_map]
      exact hn
    have tk : (triL stuffs r).take (n + 1) = (triL stuffs r).take n ++ [(triL stuffs r)[n]] := List.take_succ_eq_append_getElem hn2
    rw [tk, List.foldl_append, List.foldl_cons, List.foldl_nil]
    have mo := most_ok (f := none) (zs := (triL stuffs r).take n) (fun q hq => by cases hq) fun z h => hz z (List.mem_of_mem_take h)
    have hzn := hz _ (List.getElem_mem hn2)
    have ez : (triL stuffs r)[n] = (stuffs[n].2, lastOf r.2.1 stuffs[n].1, lastOf r.2.2 stuffs[n].1) := by
      have : (triL stuffs r)[n]? = some (stuffs[n].2, lastOf r.2.1 stuffs[n].1, lastOf r.2.2 stuffs[n].1) := by
        unfold triL
        rw [List.getElem?_map, List.getElem?_eq_getElem hn] <;> rfl
      rw [List.getElem?_eq_getElem hn2] at this
      exact Option.some.inj this
    rw [ez] at hzn ⊢
    generalize stuffs[n] = sf at *
    obtain ⟨sn, sr⟩ := sf
    generalize ((triL stuffs r).take n).foldl stepMost none = fo at *
    obtain ⟨u1, u2, hu1, hu2, hut⟩ := tup2 hu4
    cases hu1
    refine hut 3 4 _ H4 g4.fh _ ?_
    have gg4 := gg.trans g4
    dsimp only
    show tSeq _ _ _ [some x, some y, some fv, some (.str sn), some u2, s5, s6] H4
    have hy4 := dp_ex gg4.fx h2
    refine seq_of (Dv.s_asg (K := K) (F := F4) (d := .int (need (sr, lastOf r.2.1 sn, lastOf r.2.2 sn))) (ev_max (ev_dget (n := sn) (ps := r.2.1) (Dv.ev_ixT (d := .list (r.2.1.map encPart)) (Dv.ev_var (i := 1) rfl hy4) (Dv.ev_int 1) rfl) rfl) (ev_dget (n := sn) (ps := r.2.2) (Dv.ev_ixT (d := .list (r.2.2.map encPart)) (Dv.ev_var (i := 1) rfl hy4) (Dv.ev_int 2) rfl) rfl)) gg4.fh fun nv F5 H5 g5 hnv => ?_)
    cases hnv
    have gg5 := gg4.trans g5
    have hu25 := dp_ex g5.fx hu2
    have hfv5 := dp_ex (g4.fx.trans g5.fx) hfv
    dsimp only
    generalize hz0 : ((sr, lastOf r.2.1 sn, lastOf r.2.2 sn) : Tri) = z at *
    show tIfS _ _ _ _ [some x, some y, some fv, some (.str sn), some u2, some (.int (need z)), s6] H5
    have skip : ∀ (_ : stepMost fo z = fo) (F6 : Hp) (H6 : Hp), Gr F5 H5 F6 H6 → ∃ F'' : Hp, Ex Fb F'' ∧ Ex F'' H6 ∧ ∃ fv' s3 s4 s5 s6', [some x, some y, some fv, some (.str sn), some u2, some (.int (need z)), s6] = [some x, some y, some fv', s3, s4, s5, s6'] ∧ Gr F H F'' H6 ∧ Dp K F'' fv' (encMo (stepMost fo z)) := fun h F6 H6 g6 =>
      ⟨F6, e3.trans ((g4.fx.trans g5.fx).trans g6.fx), g6.fh, fv, _, _, _, _, rfl, gg5.trans g6, by rw [h]; exact dp_ex g6.fx hfv5⟩
    have zr : z.1 = sr := by rw [← hz0]
    obtain ⟨zr', t, g⟩ := z
    dsimp only at zr
    subst zr
    clear hz0
    cases zr' with
    | none => exact s_ifF (et_andF (et_v (ev_notNR (Dv.ev_var (i := 4) rfl hu25)) rfl)) gg5.fh fun F6 H6 g6 => skip rfl F6 H6 g6
    | some k =>
      have an := et_v (K := K) (F := F5) (σ := [some x, some y, some fv, some (.str sn), some u2, some (.int (need (some k, t, g))), s6]) (p := true) (ev_notNR (Dv.ev_var (i := 4) rfl hu25)) rfl
      have nd : EtD (tTest (tOp (rI0 fun i j => V.bl (decide (j < i))) (tVar 5) (tC (.int 0)))) [some x, some y, some fv, some (.str sn), some u2, some (.int (need (some k, t, g))), s6] F5 (decide (0 < need (some k, t, g))) := et_v (K := K) (d := .bool (decide (0 < need (some k, t, g)))) (Dv.ev_I0 (g := fun i j => V.bl (decide (j < i))) (i := need (some k, t, g)) (j := 0) (k := .bool (decide (0 < need (some k, t, g)))) (fun _ => .bl _) (Dv.ev_var (i := 5) rfl (.int _)) (Dv.ev_int 0)) rfl
      by_cases hnd : 0 < need (some k, t, g)
      · rw [decide_eq_true hnd] at nd
        have hk := hzn.r k rfl
        have nb := need_bd hzn
        have hs := share_sx hk (show 1 ≤ need (some k, t, g) ∧ need (some k, t, g) ≤ 3 from ⟨by omega, nb.2⟩)
        have e0 : stepMost fo (some k, t, g) = some (lessO fo (mkRat k (need (some k, t, g)).toNat)) := by
          cases fo <;> exact if_pos hnd
        rw [e0]
        refine s_ifT (et_andT an nd) gg5.fh fun F6 H6 g6 => ?_
        refine seq_of (Dv.s_asg (K := K) (F := F6) (d := encR (mkRat k (need (some k, t, g)).toNat)) (ev_frac (Dv.ev_var (i := 4) rfl (dp_ex g6.fx hu25)) (Dv.ev_var (i := 5) rfl (.int _)) hnd (by omega)) g6.fh fun sv F7 H7 g7 hsv => ?_)
        have x57 := g6.fx.trans g7.fx
        dsimp only
        show tAsg _ _ _ [some x, some y, some fv, some (.str sn), some u2, some (.int (need (some k, t, g))), some sv] H7
        generalize mkRat k (need (some k, t, g)).toNat = sh at *
        refine Dv.s_asg (K := K) (F := F7) (d := encR (lessO fo sh)) ?_ g7.fh fun fv' F8 H8 g8 hfv' => ⟨F8, e3.trans (((g4.fx.trans g5.fx).trans x57).trans g8.fx), g8.fh, fv', _, _, _, _, rfl, (((gg5.trans g6).trans g7).trans g8), hfv'⟩
        cases fo with
        | none => exact Dv.ev_ifT (et_v (ev_isNR (Dv.ev_var (i := 2) rfl (dp_ex x57 hfv5))) rfl) (Dv.ev_var (i := 6) rfl hsv)
        | some q0 => exact Dv.ev_ifF (et_v (ev_isNR (Dv.ev_var (i := 2) rfl (dp_ex x57 hfv5))) rfl) (ev_lesser (B := 180) (C := 180) (Dv.ev_var (i := 2) rfl (dp_ex x57 hfv5)) (Dv.ev_var (i := 6) rfl hsv) (mo q0 rfl).1 hs.1)
      · rw [decide_eq_false hnd] at nd
        refine s_ifF (et_andT an nd) gg5.fh fun F6 H6 g6 => skip ?_ F6 H6 g6
        unfold stepMost
        dsimp only
        rw [if_neg hnd]
  · obtain ⟨fv, s2, s3, s4, s5, rfl, gg, hfv⟩ := pv
    have tl : (triL stuffs r).take (stuffs.map encStuff).length = triL stuffs r := by
      rw [List.length_map]
      exact List.take_of_length_le (by unfold triL; rw [List.length_map]; exact Nat.le_refl _)
    rw [tl] at hfv
    dsimp only
    refine Dv.s_ret (K := K) (F := F') (d := encR (mostQ (triL stuffs r))) ?_ gg.fh fun v F2 H2 g2 hv => q v F2 H2 (gg.trans g2) hv
    unfold mostQ mostO
    cases hfo : (triL stuffs r).foldl stepMost none with
    | none =>
      rw [hfo] at hfv
      refine Dv.ev_ifT (et_v (ev_isNR (Dv.ev_var (i := 2) rfl hfv)) rfl) ?_
      show EvD K _ _ _ (encR 1)
      rw [one_R]
      exact Dv.ev_tup (Dv.ea_cons (Dv.ev_int 1) (Dv.ea_cons (Dv.ev_int 1) Dv.ea_nil)) (by simp)
    | some q0 =>
      rw [hfo] at hfv
      exact Dv.ev_ifF (et_v (ev_isNR (Dv.ev_var (i := 2) rfl hfv)) rfl) (Dv.ev_var (i := 2) rfl hfv)
end
end R3

set_option Elab.async false
set_option linter.all false
set_option maxRecDepth 100000
set_option maxHeartbeats 4000000
namespace R3
open PySem PySem.Spec PyProof.Rows L2 Evl Dv StX
open Qa (toF Sx)
def fLSides : List PyData → List PyData → Prop := fun ds es => ∃ (stuffs : List (Str × Option Int)) (rest : PyData) (r : Str × List (Str × Int) × List (Str × Int)), ds = [.list [.list (stuffs.map encStuff), rest], encRecipe r] ∧ stuffs.length ≤ 8 ∧ (∀ z ∈ triL stuffs r, TriOk z) ∧ es = (triL stuffs r).map fun z => encBd (pairQ (mostQ (triL stuffs r)) z)
def fLBrinks : List PyData → PyData → Prop := fun ds d => ∃ (stuffs : List (Str × Option Int)) (rest : PyData) (r : Str × List (Str × Int) × List (Str × Int)), ds = [.list [.list (stuffs.map encStuff), rest], encRecipe r] ∧ stuffs.length ≤ 3 ∧ (∀ z ∈ triL stuffs r, TriOk z) ∧ d = .tuple [encR (mostQ (triL stuffs r)), .list ((edgesL (sidesQ (triL stuffs r))).map fun e => .list (e.map encR))]
theorem tri_at {stuffs : List (Str × Option Int)} {r : Str × List (Str × Int) × List (Str × Int)} {n : Nat} (hn : n < stuffs.length) (hn2 : n < (triL stuffs r).length) : (triL stuffs r)[n] = (stuffs[n].2, lastOf r.2.1 stuffs[n].1, lastOf r.2.2 stuffs[n].1) := by
  have : (triL stuffs r)[n]? = some (stuffs[n].2, lastOf r.2.1 stuffs[n].1, lastOf r.2.2 stuffs[n].1) := by
    unfold triL
    rw [List.getElem?_map, List.getElem?_eq_getElem hn] <;> rfl
  rw [List.getElem?_eq_getElem hn2] at this
  exact Option.some.inj this
theorem tri_len {stuffs : List (Str × Option Int)} {r : Str × List (Str × Int) × List (Str × Int)} : (triL stuffs r).length = stuffs.length := by
  unfold triL
  rw [List.length_map]
section
variable {P : Program} {w : World} {K : PySem.W.Frag} {mg : Str → Option Value} {base : Heap}
/-- _law_fraction(q[0] * n, q[1]) -/
theorem ev_scl {σ : L2.St} {F : Hp} {tm tn : TE} {E : XK} {a : Rat} {n : Int} {B : Nat} (hm : EvD K tm σ F (encR a)) (hn : EvD K tn σ F (.int n)) (sa : Sx B a) (hB : B < 1000000000000) (h : -1000000000000 < n ∧ n < 1000000000000) :
    EvD K (tCall (spD K fFrac) [] E (tCons (tOp (rI CMul fun i j => V.int (i * j)) (tOp (rIxT K) tm (tC (.int 0))) tn) (tCons (tOp (rIxT K) tm (tC (.int 1))) tNil))) σ F (encR (a * (n : Rat))) := by
  have s := sm_of sa hB
  obtain ⟨s1, s2, s3, s4⟩ := s
  have m0 : EvD K (tOp (rIxT K) tm (tC (.int 0))) σ F (.int (toF a).1) := Dv.ev_ixT hm (Dv.ev_int 0) rfl
  have m1 : EvD K (tOp (rIxT K) tm (tC (.int 1))) σ F (.int (toF a).2) := Dv.ev_ixT hm (Dv.ev_int 1) rfl
  exact ev_callD (Dv.ea_cons (Dv.ev_I (.inr ⟨by omega, by omega⟩) (fun _ => .int _) m0 hn) (Dv.ea_cons m1 Dv.ea_nil)) ⟨_, _, rfl, s1, Int.lt_trans s2 (by omega), congrArg encF (Qa.fscaled_rat a n).symm⟩
theorem sc__law_brink_sides : FnScope (["parts", "recipe_here", "most", "sides", "name", "room", "take", "give", "low", "high"] : List Str) (["parts", "recipe_here"] : List Str) (defScope sLawBrinkSides) := ⟨rfl, rfl, rfl, by decide +kernel, rfl, by decide +kernel, by decide +kernel⟩
theorem ok_law_brink_sides (D : Def K mg "_law_brink_sides" sLawBrinkSides ["parts", "recipe_here"]) (B : Bl mg) (C__law_fraction : Cal P w K mg base "_law_fraction" ["top", "under"] 1 (spD K fFrac)) (C__law_rest : Cal P w K mg base "_law_rest" ["one", "other"] 2 (spD K fMinus)) (C__law_most : Cal P w K mg base "_law_most" ["parts", "recipe_here"] 3 (spD K fLMost)) :
    Cal P w K mg base "_law_brink_sides" ["parts", "recipe_here"] 4 (spN K fLSides) := by
  refine cal_mk D sc__law_brink_sides (len_N (by rintro _ _ ⟨t, u, r, rfl, _⟩; rfl)) (fun f cdv A outer s H vs Q E hr h => ?_)
  obtain ⟨F, ds, es, e, hv, ⟨stuffs, rest, r, rfl, l8, hz, rfl⟩, q⟩ := h
  obtain ⟨x, y, rfl, h1, h2⟩ := Dv.two hv
  have hu := hu_of hr.1
  refine ⟨_, (pss_cons (ps_par (i := 2) (j := 3) (by rfl) sc__law_brink_sides.nd rfl rfl (by decide) rfl rfl (pa_cons (pe_callC C__law_most hr (pa_cons (pv 0) (pa_cons (pv 1) pa_nil))) (pa_cons (pe_lst pa_nil) pa_nil)) (by rfl))
      (pss_cons (ps_for PassesOwn.never rfl (pi_list (pe_ix ix_list (pv 0) pe_int (fun _ _ => rfl))) (pg_tup (by rfl) (pgs_cons (pg_name (i := 4) sc__law_brink_sides.nd rfl (.inl rfl)) (pgs_cons (pg_name (i := 5) sc__law_brink_sides.nd rfl (.inl rfl)) pgs_nil))) (pss_cons (ps_par (i := 6) (j := 7) (by rfl) sc__law_brink_sides.nd rfl rfl (by decide) rfl rfl (pa_cons (pe_dget2 hu (pe_callTy (call_dictP (by rfl)) (by rfl) B.dict (by decide +kernel) (pa_cons (pe_ix ix_tup (pv 1) pe_int (fun _ _ => rfl)) pa_nil)) (pv 4) pe_int ⟨rfl, rfl, rfl, rfl⟩) (pa_cons (pe_dget2 hu (pe_callTy (call_dictP (by rfl)) (by rfl) B.dict (by decide +kernel) (pa_cons (pe_ix ix_tup (pv 1) pe_int (fun _ _ => rfl)) pa_nil)) (pv 4) pe_int ⟨rfl, rfl, rfl, rfl⟩) pa_nil)) (by rfl))
      (pss_cons (ps_set (i := 8) sc__law_brink_sides.nd rfl (.inl rfl) (pe_callC C__law_fraction hr (pa_cons (pe_op op_mul (pe_ix ix_tup (pv 2) pe_int (fun _ _ => rfl)) (pv 6)) (pa_cons (pe_ix ix_tup (pv 2) pe_int (fun _ _ => rfl)) pa_nil))))
      (pss_cons (ps_set (i := 9) sc__law_brink_sides.nd rfl (.inl rfl) (pv 8))
      (pss_cons (ps_if (pt_cmpR op_notN (pv 5) pe_non (nomark _)) (pss_one (ps_set (i := 9) sc__law_brink_sides.nd rfl (.inl rfl) (pe_callC C__law_rest hr (pa_cons (pe_tup (pa_cons (pv 5) (pa_cons pe_int pa_nil))) (pa_cons (pe_callC C__law_fraction hr (pa_cons (pe_op op_mul (pe_ix ix_tup (pv 2) pe_int (fun _ _ => rfl)) (pe_callB (call_max2 rfl) (by rfl) B.max (by decide +kernel) (pa_cons pe_int (pa_cons (pe_op op_sub (pv 7) (pv 6)) pa_nil)))) (pa_cons (pe_ix ix_tup (pv 2) pe_int (fun _ _ => rfl)) pa_nil))) pa_nil))))) pss_nil)
      (pss_one (ps_expr (pe_bm PySem.F.plainAttrs_list PySem.F.slot_list_append PySem.F.type_list_append mt_append (pv 3) (pa_cons (pe_tup (pa_cons (pv 8) (pa_cons (pv 9) pa_nil))) pa_nil)))))))))
      (pss_one (ps_ret (pv 3))))), ?_⟩
  have st : start ["parts", "recipe_here", "most", "sides", "name", "room", "take", "give", "low", "high"] [x, y] = [some x, some y, none, none, none, none, none, none, none, none] := rfl
  rw [st]
  have mk := mostQ_ok hz
  generalize hm : mostQ (triL stuffs r) = mst at *
  refine seq_of (s_parDL (K := K) (F := F) (a := encR mst) (ev_callD (f := fLMost) (Dv.ea_cons (Dv.ev_var (i := 0) rfl h1) (Dv.ea_cons (Dv.ev_var (i := 1) rfl h2) Dv.ea_nil)) ⟨stuffs, rest, r, rfl, l8, hz, by rw [hm]⟩) (Dv.el_lst Dv.ea_nil (by simp)) e fun mv p ws F1 H1 g1 hmv np fp hp hws => ?_)
  cases hws
  dsimp only
  show tSeq _ _ _ [some x, some y, some mv, some (.ref p), none, none, none, none, none, none] H1
  refine seq_of (Dv.s_for (K := K) (it_list (σ := [some x, some y, some mv, some (.ref p), none, none, none, none, none, none]) (Dv.ev_ixL (Dv.ev_var (i := 0) rfl (dp_ex g1.fx h1)) (Dv.ev_int 0) rfl)) g1.fh
    (fun n σ' F' H' => ∃ s4 s5 s6 s7 s8 s9 ws, σ' = [some x, some y, some mv, some (.ref p), s4, s5, s6, s7, s8, s9] ∧ Gr F H F' H' ∧ Ex F1 F' ∧ F' p = none ∧ H' p = some (.lst ws) ∧ DpAll K F' ws (((triL stuffs r).take n).map fun z => encBd (pairQ mst z)))
    (fun F' H' g2 => ?_) ?_ (fun σ' F' H' e1 e2 pv => ?_))
  · have k := g2.keep hp fp
    exact ⟨_, _, _, _, _, _, [], rfl, g1.trans g2, g2.fx, k.2, k.1, .nil⟩
  · rintro Fb eb n σ' F3 H3 u du F4 H4 hdu e3 e4 ⟨s4, s5, s6, s7, s8, s9, ws, rfl, gg, ex3, fp3, hp3, hws⟩ g4 hu4
    obtain ⟨hn, hdn⟩ := List.getElem?_eq_some_iff.mp hdu
    rw [List.length_map] at hn
    rw [List.getElem_map] at hdn
    subst hdn
    have hn2 : n < (triL stuffs r).length := by rw [tri_len]; exact hn
    have tk : (triL stuffs r).take (n + 1) = (triL stuffs r).take n ++ [(triL stuffs r)[n]] := List.take_succ_eq_append_getElem hn2
    have hzn := hz _ (List.getElem_mem hn2)
    have wl : ws.length ≤ 8 := by
      rw [dps_len hws, List.length_map, List.length_take]
      omega
    rw [tk, List.map_append]
    rw [tri_at hn hn2] at hzn ⊢
    generalize ((triL stuffs r).take n).map (fun z => encBd (pairQ mst z)) = done at *
    generalize stuffs[n] = sf at *
    obtain ⟨sn, sr⟩ := sf
    obtain ⟨u1, u2, hu1, hu2, hut⟩ := tup2 hu4
    cases hu1
    refine hut 4 5 _ H4 g4.fh _ ?_
    have gg4 := gg.trans g4
    have k4 := g4.keep hp3 fp3
    dsimp only
    show tSeq _ _ _ [some x, some y, some mv, some (.ref p), some (.str sn), some u2, s6, s7, s8, s9] H4
    have hy4 := dp_ex gg4.fx h2
    refine seq_of (Dv.s_par (K := K) (F := F4) (a := .int (lastOf r.2.1 sn)) (b := .int (lastOf r.2.2 sn)) (Dv.ea_cons (ev_dget (n := sn) (ps := r.2.1) (Dv.ev_ixT (d := .list (r.2.1.map encPart)) (Dv.ev_var (i := 1) rfl hy4) (Dv.ev_int 1) rfl) rfl) (Dv.ea_cons (ev_dget (n := sn) (ps := r.2.2) (Dv.ev_ixT (d := .list (r.2.2.map encPart)) (Dv.ev_var (i := 1) rfl hy4) (Dv.ev_int 2) rfl) rfl) Dv.ea_nil)) gg4.fh fun v1 v2 F5 H5 g5 hv1 hv2 => ?_)
    cases hv1
    cases hv2
    have gg5 := gg4.trans g5
    have k5 := g5.keep k4.1 k4.2
    dsimp only at hzn ⊢
    generalize lastOf r.2.1 sn = t at *
    generalize lastOf r.2.2 sn = g at *
    show tSeq _ _ _ [some x, some y, some mv, some (.ref p), some (.str sn), some u2, some (.int t), some (.int g), s8, s9] H5
    have ht := hzn.t
    have hg := hzn.g
    dsimp only at ht hg
    have hmv5 : Dp K F5 mv (encR mst) := dp_ex (ex3.trans (g4.fx.trans g5.fx)) hmv
    refine seq_of (Dv.s_asg (K := K) (F := F5) (ev_scl (B := 180) (Dv.ev_var (i := 2) rfl hmv5) (Dv.ev_var (i := 6) rfl (.int _)) mk.1 (by omega) (by omega)) gg5.fh fun lv F6 H6 g6 hlv => ?_)
    dsimp only
    show tSeq _ _ _ [some x, some y, some mv, some (.ref p), some (.str sn), some u2, some (.int t), some (.int g), some lv, s9] H6
    have gg6 := gg5.trans g6
    have k6 := g6.keep k5.1 k5.2
    refine seq_of (Dv.s_asg (K := K) (F := F6) (Dv.ev_var (i := 8) rfl hlv) gg6.fh fun hv F7 H7 g7 hhv => ?_)
    dsimp only
    show tSeq _ _ _ [some x, some y, some mv, some (.ref p), some (.str sn), some u2, some (.int t), some (.int g), some lv, some hv] H7
    have gg7 := gg6.trans g7
    have k7 := g7.keep k6.1 k6.2
    have hu27 := dp_ex ((g5.fx.trans g6.fx).trans g7.fx) hu2
    have fin : ∀ (hv : V) (F8 H8 : Hp), Gr F7 H7 F8 H8 → Dp K F8 hv (encR (pairQ mst (sr, t, g)).2) → tDrop (tBM K "list" rAppend (tVar 3) (tCons (tTup (tCons (tVar 8) (tCons (tVar 9) tNil))) tNil)) { nx := fun σ' H' => ∃ F'', Ex Fb F'' ∧ Ex F'' H' ∧ ∃ s4 s5 s6 s7 s8 s9 ws, σ' = [some x, some y, some mv, some (.ref p), s4, s5, s6, s7, s8, s9] ∧ Gr F H F'' H' ∧ Ex F1 F'' ∧ F'' p = none ∧ H' p = some (.lst ws) ∧ DpAll K F'' ws (done ++ [(encBd (pairQ mst (sr, t, g)))]), rt := Q } [some x, some y, some mv, some (.ref p), some (.str sn), some u2, some (.int t), some (.int g), some lv, some hv] H8 := fun hv F8 H8 g8 hhv8 => by
      have k8 := g8.keep k7.1 k7.2
      refine Dv.s_app (K := K) (F := F8) (d := encBd (pairQ mst (sr, t, g))) k8.1 k8.2 rfl (Dv.ev_tup (Dv.ea_cons (Dv.ev_var (i := 8) rfl (dp_ex (g7.fx.trans g8.fx) hlv)) (Dv.ea_cons (Dv.ev_var (i := 9) rfl hhv8) Dv.ea_nil)) (by simp)) g8.fh (by omega) fun v F9 H9 g9 hv9 f9 h9 => ?_
      have x39 : Ex F3 F9 := g4.fx.trans (g5.fx.trans (g6.fx.trans (g7.fx.trans (g8.fx.trans g9.fx))))
      exact ⟨F9, e3.trans x39, Evl.Ex.mut g9.fh f9, _, _, _, _, _, _, ws ++ [v], rfl, ((gg7.trans g8).trans g9).mut np f9, ex3.trans x39, f9, upd_same, dps_app (dps_ex x39 hws) (.cons hv9 .nil)⟩
    cases sr with
    | none =>
      refine seq_of (s_ifF (et_v (ev_notNR (Dv.ev_var (i := 5) rfl hu27)) rfl) gg7.fh fun F8 H8 g8 => ?_)
      exact fin hv F8 H8 g8 (dp_ex g8.fx hhv)
    | some k =>
      have hk := hzn.r k rfl
      have gm : (0 : Int) ≤ (if 0 < g - t then g - t else 0) ∧ (if 0 < g - t then g - t else 0) ≤ 3 := by split <;> omega
      refine seq_of (s_ifT (et_v (ev_notNR (Dv.ev_var (i := 5) rfl hu27)) rfl) gg7.fh fun F8 H8 g8 => ?_)
      have hmv8 := dp_ex (g6.fx.trans (g7.fx.trans g8.fx)) hmv5
      refine Dv.s_asg (K := K) (F := F8) (d := encR ((k : Rat) - mst * ((if 0 < g - t then g - t else 0 : Int) : Rat))) (ev_minus (B := 60 * 3) (C := 180 * 3) (a := (k : Rat)) (Dv.ev_tup (ds := [.int k, .int 1]) (Dv.ea_cons (Dv.ev_var (i := 5) rfl (dp_ex g8.fx hu27)) (Dv.ea_cons (Dv.ev_int 1) Dv.ea_nil)) (by simp)) (ev_scl (B := 180) (Dv.ev_var (i := 2) rfl hmv8) (ev_max (Dv.ev_int 0) (Dv.ev_I0 (fun _ => .int _) (Dv.ev_var (i := 7) rfl (.int _)) (Dv.ev_var (i := 6) rfl (.int _)))) mk.1 (by omega) (by omega)) ((Sx.int k).mono (Nat.mul_le_mul_left _ (by omega))) ((mk.1.mul _).mono (Nat.mul_le_mul_left _ (by omega)))) g8.fh fun hv2 F9 H9 g9 hhv2 => ?_
      exact fin hv2 F9 H9 (g8.trans g9) hhv2
  · obtain ⟨s4, s5, s6, s7, s8, s9, ws, rfl, gg, ex3, fp3, hp3, hws⟩ := pv
    have tl : (triL stuffs r).take (stuffs.map encStuff).length = triL stuffs r := by
      rw [List.length_map]
      exact List.take_of_length_le (by rw [tri_len]; exact Nat.le_refl _)
    rw [tl] at hws
    dsimp only
    exact ⟨_, rfl, q p ws F' H' gg np fp3 hp3 hws⟩
theorem sc__law_brinks : FnScope (["parts", "recipe_here"] : List Str) (["parts", "recipe_here"] : List Str) (defScope sLawBrinks) := ⟨rfl, rfl, rfl, by decide +kernel, rfl, by decide +kernel, by decide +kernel⟩
theorem ok_law_brinks (D : Def K mg "_law_brinks" sLawBrinks ["parts", "recipe_here"]) (C__law_edges : Cal P w K mg base "_law_edges" ["box_here"] 1 (spD K fLEdges)) (C__law_most : Cal P w K mg base "_law_most" ["parts", "recipe_here"] 3 (spD K fLMost)) (C__law_brink_sides : Cal P w K mg base "_law_brink_sides" ["parts", "recipe_here"] 4 (spN K fLSides)) :
    Cal P w K mg base "_law_brinks" ["parts", "recipe_here"] 5 (spD K fLBrinks) := by
  refine cal_mk D sc__law_brinks (len_D (by rintro _ _ ⟨t, u, r, rfl, _⟩; rfl)) (fun f cdv A outer s H vs Q E hr h => ?_)
  obtain ⟨F, ds, d, e, hv, ⟨stuffs, rest, r, rfl, l3, hz, rfl⟩, q⟩ := h
  obtain ⟨x, y, rfl, h1, h2⟩ := Dv.two hv
  refine ⟨_, (pss_one (ps_ret (pe_tup (pa_cons (pe_callC C__law_most hr (pa_cons (pv 0) (pa_cons (pv 1) pa_nil))) (pa_cons (pe_callC C__law_edges hr (pa_cons (pe_callC C__law_brink_sides hr (pa_cons (pv 0) (pa_cons (pv 1) pa_nil))) pa_nil)) pa_nil))))), ?_⟩
  refine Dv.s_ret (K := K) (F := F) (Dv.ev_tup (Dv.ea_cons (ev_callD (f := fLMost) (Dv.ea_cons (Dv.ev_var (i := 0) rfl h1) (Dv.ea_cons (Dv.ev_var (i := 1) rfl h2) Dv.ea_nil)) ⟨stuffs, rest, r, rfl, by omega, hz, rfl⟩) (Dv.ea_cons (ev_callD (f := fLEdges) (Dv.ea_cons (EvL.ev (el_callN (f := fLSides) (Dv.ea_cons (Dv.ev_var (i := 0) rfl h1) (Dv.ea_cons (Dv.ev_var (i := 1) rfl h2) Dv.ea_nil)) ⟨stuffs, rest, r, rfl, by omega, hz, rfl⟩)) Dv.ea_nil) ⟨(triL stuffs r).map (pairQ (mostQ (triL stuffs r))), by rw [List.map_map] <;> rfl, by rw [List.length_map, tri_len]; exact l3, rfl⟩) Dv.ea_nil)) (by simp)) e fun v F2 H2 g2 hv => q v F2 H2 g2 ?_
  unfold sidesQ
  unfold sidesL at hv
  rw [List.map_map] at hv
  exact hv
end
end R3

set_option Elab.async false
set_option linter.all false
set_option maxRecDepth 100000
set_option maxHeartbeats 4000000
namespace R3
open PySem PySem.Spec PyProof.Rows L2 Evl Dv StX
open Qa (toF Sx)
section
variable {P : Program} {w : World} {K : PySem.W.Frag} {mg : Str → Option Value} {base : Heap}
def fSide : List PyData → List PyData → Prop := fun ds es => ∃ (stuffs : List (Str × Option Int)) (rest : PyData) (z : Str × List (Str × Int) × List (Str × Int)) (sd : Int) (ps : List (Str × Int)), ds = [.list [.list (stuffs.map encStuff), rest], encRecipe z, .int sd] ∧ stuffs.length ≤ 1000 ∧
  ((sd = 1 ∧ ps = z.2.1) ∨ (sd = 2 ∧ ps = z.2.2)) ∧ es = stuffs.map fun s => PyData.int (lastOf ps s.1)
theorem sc__law_side : FnScope (["parts", "recipe_here", "side", "told", "name", "room"] : List Str) (["parts", "recipe_here", "side"] : List Str) (defScope sLawSide) := ⟨rfl, rfl, rfl, by decide +kernel, rfl, by decide +kernel, by decide +kernel⟩
theorem ok_law_side (D : Def K mg "_law_side" sLawSide ["parts", "recipe_here", "side"]) (B : Bl mg) : Cal P w K mg base "_law_side" ["parts", "recipe_here", "side"] 1 (spN K fSide) := by
  refine cal_mk D sc__law_side (len_N (by rintro _ _ ⟨t, u, z, sd, ps, rfl, _⟩; rfl)) (fun f cdv A outer s H vs Q E hr h => ?_)
  obtain ⟨F, ds, es, e, hv, ⟨stuffs, rest, z, sd, ps, rfl, hl, hsd, rfl⟩, q⟩ := h
  obtain ⟨x, y, t, rfl, h1, h2, h3⟩ := Dv.three hv
  have hu := hu_of hr.1
  refine ⟨_, (pss_cons (ps_set (i := 3) sc__law_side.nd rfl (.inr rfl) (pe_callTy (call_dictP (by rfl)) (by rfl) B.dict (by decide +kernel) (pa_cons (pe_ix ix_tup (pv 1) (pv 2) (fun _ _ => rfl)) pa_nil)))
      (pss_one (ps_ret (pe_lc (own := [("name", 4), ("room", 5)]) (g := gTup K 2 (gCons (gName 4) (gCons (gName 5) gNil))) rfl sc__law_side.nd (pi_list (pe_ix ix_list (pv 0) pe_int (fun _ _ => rfl))) (blkOk_by (own := [("name", 4), ("room", 5)]) (N := ["parts", "recipe_here", "side", "told", "name", "room"]) (sc := defScope sLawSide) (by decide +kernel)) (fun _ _ _ _ _ => (pg_tup (by rfl) (pgs_cons (pg_name (i := 4) sc__law_side.nd rfl (.inl rfl)) (pgs_cons (pg_name (i := 5) sc__law_side.nd rfl (.inl rfl)) pgs_nil)))) (te := tDGet2 (tVar 3) (tVar 4) (tC (.int 0))) (fun _ _ _ _ _ => pts_nil) (fun _ _ _ _ _ => (pe_dget2 hu (pv 3) (pv 4) pe_int ⟨rfl, rfl, rfl, rfl⟩)))))), ?_⟩
  have st : start ["parts", "recipe_here", "side", "told", "name", "room"] [x, y, t] = [some x, some y, some t, none, none, none] := rfl
  rw [st]
  have vp : EvD K (tOp (rIxT K) (tVar 1) (tVar 2)) [some x, some y, some t, none, none, none] F (.list (ps.map encPart)) := by
    rcases hsd with ⟨rfl, rfl⟩ | ⟨rfl, rfl⟩
    · exact Dv.ev_ixT (Dv.ev_var (i := 1) rfl h2) (Dv.ev_var (i := 2) rfl h3) rfl
    · exact Dv.ev_ixT (Dv.ev_var (i := 1) rfl h2) (Dv.ev_var (i := 2) rfl h3) rfl
  refine vp H e _ fun v F1 H1 g1 hv1 => ?_
  cases hv1 with
  | lst hs hd =>
    obtain ⟨as, rfl, hpa⟩ := parts_refs hd
    refine ⟨_, as, _, rfl, Evl.ex_l g1.fh hs, paired_ex g1.fh hpa, fun p hp => ?_⟩
    have g2 := g1.trans (Gr.new (o := .dK (mergeK [] (ps.map fun z => ((Sum.inr z.1 : Key), V.int z.2)))) g1.fh hp)
    generalize hF2 : upd F1 p (.dK (mergeK [] (ps.map fun z => ((Sum.inr z.1 : Key), V.int z.2)))) = F2 at g2
    have hd2 : F2 p = some (.dK (mergeK [] (ps.map fun z => ((Sum.inr z.1 : Key), V.int z.2)))) := by rw [← hF2]; exact upd_same
    dsimp only
    refine Dv.s_retL (K := K) (F := F2) (ds := stuffs.map fun s => PyData.int (lastOf ps s.1)) (Dv.el_is (lc_rule (K := K) (σ := [some x, some y, some t, some (.ref p), none, none]) stuffs encStuff (fun s => PyData.int (lastOf ps s.1)) (fun _ => true) (it_list (Dv.ev_ixL (Dv.ev_var (i := 0) rfl (dp_ex g2.fx h1)) (Dv.ev_int 0) rfl)) (by omega) fun s _ v3 F3 e3 hv3 => ?_) (by
      rw [List.filter_eq_self.mpr fun _ _ => rfl])) g2.fh fun p' ws F4 H4 g4 a1 a2 a3 a4 => q p' ws F4 H4 (g2.trans g4) (ex_none g2.hx a1) a2 a3 a4
    obtain ⟨y1, y2, hy1, hy2, ht⟩ := tup2 hv3
    refine ⟨[some x, some y, some t, some (.ref p), some y1, some y2], fun H e Q q => ht 4 5 _ H e Q q, rfl, fun H e Q q => q F3 H (Gr.refl e), fun _ => ?_⟩
    cases hy1
    intro Hq eq Q q
    have hdq := eq _ _ (e3 _ _ hd2)
    refine ⟨_, rfl, p, rfl, .inl ⟨_, .inl hdq⟩, _, rfl, _, DGet.k (k := Sum.inr s.1) hdq, ?_⟩
    rw [merge_last ps [] 0 rfl]
    exact q _ F3 Hq (Gr.refl eq) (.int _)
theorem ev_eqS {σ : L2.St} {F : Hp} {ta tb : TE} {a b : Str} (ha : EvD K ta σ F (.str a)) (hb : EvD K tb σ F (.str b)) : EvD K (tOp rEq ta tb) σ F (.bool (decide (a = b))) :=
  Dv.ev_op ha hb fun v u F1 H1 _ e hv hu Q q => by
    cases hv
    cases hu
    refine ⟨rfl, q _ F1 H1 (Gr.refl e) ?_⟩
    rw [show decide (V.str a = V.str b) = decide (a = b) by
      rw [Bool.eq_iff_iff]
      simp]
    exact .bl _
def fLRecipe : List PyData → PyData → Prop := fun ds d => ∃ (st : PyData) (rs : List (Str × List (Str × Int) × List (Str × Int))) (n : Str) (z : Str × List (Str × Int) × List (Str × Int)), ds = [.list [st, .list (rs.map encRecipe)], .str n] ∧ rs.length ≤ 1000 ∧ (rs.filter fun r => decide (r.1 = n))[0]? = some z ∧ d = encRecipe z
theorem sc__law_recipe : FnScope (["parts", "name", "recipe_here"] : List Str) (["parts", "name"] : List Str) (defScope sLawRecipe) := ⟨rfl, rfl, rfl, by decide +kernel, rfl, by decide +kernel, by decide +kernel⟩
theorem ok_law_recipe (D : Def K mg "_law_recipe" sLawRecipe ["parts", "name"]) : Cal P w K mg base "_law_recipe" ["parts", "name"] 1 (spD K fLRecipe) := by
  refine cal_mk D sc__law_recipe (len_D (by rintro _ _ ⟨t, u, z, n, rfl, _⟩; rfl)) (fun f cdv A outer s H vs Q E hr h => ?_)
  obtain ⟨F, ds, d, e, hv, ⟨sx, rs, n, z, rfl, hl, hz, rfl⟩, q⟩ := h
  obtain ⟨x, y, rfl, h1, h2⟩ := Dv.two hv
  refine ⟨_, (pss_one (ps_ret (pe_ix ix_list (pe_lc (own := [("recipe_here", 2)]) (g := gName 2) rfl sc__law_recipe.nd (pi_list (pe_ix ix_list (pv 0) pe_int (fun _ _ => rfl))) (blkOk_by (own := [("recipe_here", 2)]) (N := ["parts", "name", "recipe_here"]) (sc := defScope sLawRecipe) (by decide +kernel)) (fun _ _ _ _ _ => (pg_name (i := 2) sc__law_recipe.nd rfl (.inl rfl)))  (fun _ _ _ _ _ => (pts_one (pt_cmpR op_eq (pe_ix (r := rIxT K) ix_tup (pv 2) pe_int (fun _ _ => rfl)) (pv 1) (nomark _)))) (fun _ _ _ _ _ => (pv 2))) pe_int (fun _ _ => rfl)))), ?_⟩
  have st : start ["parts", "name", "recipe_here"] [x, y] = [some x, some y, none] := rfl
  rw [st]
  refine Dv.s_ret (K := K) (F := F) (d := encRecipe z) (Dv.ev_ixL (EvL.ev (lc_rule (K := K) (σ := [some x, some y, none]) rs encRecipe encRecipe (fun r => decide (r.1 = n)) (it_list (Dv.ev_ixL (Dv.ev_var (i := 0) rfl h1) (Dv.ev_int 1) rfl)) (by omega) fun r _ v F1 e1 hv => ⟨[some x, some y, some v], fun _ _ _ q => q, rfl, et_test (ev_eqS (Dv.ev_ixT (d := .str r.1) (Dv.ev_var (i := 2) rfl hv) (Dv.ev_int 0) rfl) (Dv.ev_var (i := 1) rfl (dp_ex e1 h2))), fun _ => Dv.ev_var (i := 2) rfl hv⟩)) (Dv.ev_int 0) (by
    obtain ⟨hlt, hget⟩ := List.getElem?_eq_some_iff.mp hz
    unfold atI
    rw [List.length_map, show (0 : Int) = ((0 : Nat) : Int) from rfl, Evl.ixN_nat hlt]
    show (List.map _ _)[0]? = _
    rw [List.getElem?_map, hz] <;> rfl)) e fun v F2 H2 g2 hv => q v F2 H2 g2 hv

/-- an amount moved: what is held, and more or less of each -/
def movedQ (hs : List Rat) (a : Rat) (row : List Int) (sg : Int) : List Rat := (hs.zip row).map fun z => z.1 + a * ((sg * z.2 : Int) : Rat)
def fMoved : List PyData → List PyData → Prop := fun ds es => ∃ (hs : List Rat) (a : Rat) (row : List Int) (sg : Int) (B : Nat), ds = [.list (hs.map encR), encR a, .list (row.map PyData.int), .int sg] ∧ hs.length ≤ 8 ∧ Sx 180 a ∧ B < 1000000 ∧ (sg = 1 ∨ sg = -1) ∧
  (∀ q ∈ hs, Sx B q) ∧ (∀ n ∈ row, 0 ≤ n ∧ n ≤ 3) ∧ es = (movedQ hs a row sg).map encR
theorem four {F : Hp} {vs : List V} {a b c d : PyData} (h : DpAll K F vs [a, b, c, d]) : ∃ x y z t, vs = [x, y, z, t] ∧ Dp K F x a ∧ Dp K F y b ∧ Dp K F z c ∧ Dp K F t d := by
  cases h with
  | cons h1 h =>
  obtain ⟨x, y, z, rfl, h2, h3, h4⟩ := Dv.three h
  exact ⟨_, _, _, _, rfl, h1, h2, h3, h4⟩
theorem frac_sg (a : Rat) (sg n : Int) : encF (frac (sg * (toF a).1 * n) (toF a).2) = encR (a * ((sg * n : Int) : Rat)) := by
  have := Qa.fscaled_rat a (sg * n)
  show encF (Qa.frac (sg * (toF a).1 * n) (toF a).2) = encF (toF (a * ((sg * n : Int) : Rat)))
  rw [← this]
  show _ = encF (Qa.frac ((toF a).1 * (sg * n)) (toF a).2)
  rw [show sg * (toF a).1 * n = (toF a).1 * (sg * n) by
    rw [Int.mul_comm sg, Int.mul_assoc]]
theorem sg_bd {sg n : Int} (h : sg = 1 ∨ sg = -1) (hn : 0 ≤ n ∧ n ≤ 3) : (sg * n).natAbs ≤ 3 := by
  rcases h with rfl | rfl <;> omega
theorem moved_sx {hs : List Rat} {a : Rat} {row : List Int} {sg : Int} {B : Nat} (ha : Sx 180 a) (hs1 : sg = 1 ∨ sg = -1) (hB : ∀ q ∈ hs, Sx B q) (hr : ∀ n ∈ row, 0 ≤ n ∧ n ≤ 3) : ∀ q ∈ movedQ hs a row sg, Sx (B + 540) q := fun q hq => by
  obtain ⟨z, hz, rfl⟩ := List.mem_map.mp hq
  have h1 := List.of_mem_zip hz
  refine (hB _ h1.1).add ((ha.mul _).mono ?_)
  have := sg_bd hs1 (hr _ h1.2)
  have : 180 * (sg * z.2).natAbs ≤ 180 * 3 := Nat.mul_le_mul_left _ this
  omega
theorem sc__law_moved : FnScope (["held", "amount", "numbers", "sign", "found", "one", "number"] : List Str) (["held", "amount", "numbers", "sign"] : List Str) (defScope sLawMoved) := ⟨rfl, rfl, rfl, by decide +kernel, rfl, by decide +kernel, by decide +kernel⟩
theorem ok_law_moved (D : Def K mg "_law_moved" sLawMoved ["held", "amount", "numbers", "sign"]) (B : Bl mg) (C__law_fraction : Cal P w K mg base "_law_fraction" ["top", "under"] 1 (spD K fFrac)) (C__law_sum : Cal P w K mg base "_law_sum" ["one", "other"] 2 (spD K fPlus)) :
    Cal P w K mg base "_law_moved" ["held", "amount", "numbers", "sign"] 3 (spN K fMoved) := by
  refine cal_mk D sc__law_moved (len_N (by rintro _ _ ⟨t, u, r, sg, B0, rfl, _⟩; rfl)) (fun f cdv A outer s H vs Q E hr h => ?_)
  obtain ⟨F, ds, d, e, hv, ⟨held, a, row, sg, B0, rfl, hl, sa, hB0, hsg, hh, hrw, rfl⟩, q⟩ := h
  obtain ⟨x, y, z, t, rfl, h1, h2, h3, h4⟩ := four hv
  cases h4
  refine ⟨_, (pss_cons (ps_set (i := 4) sc__law_moved.nd rfl (.inl rfl) (pe_lst pa_nil))
      (pss_cons (ps_for PassesOwn.never rfl (pi_zip (by rfl) B.zip (pa_cons (pv 0) (pa_cons (pv 2) pa_nil))) (pg_tup (by rfl) (pgs_cons (pg_name (i := 5) sc__law_moved.nd rfl (.inl rfl)) (pgs_cons (pg_name (i := 6) sc__law_moved.nd rfl (.inl rfl)) pgs_nil))) (pss_one (ps_expr (pe_bm PySem.F.plainAttrs_list PySem.F.slot_list_append PySem.F.type_list_append mt_append (pv 4) (pa_cons (pe_callC C__law_sum hr (pa_cons (pv 5) (pa_cons (pe_callC C__law_fraction hr (pa_cons (pe_op op_mul (pe_op op_mul (pv 3) (pe_ix ix_tup (pv 1) pe_int (fun _ _ => rfl))) (pv 6)) (pa_cons (pe_ix ix_tup (pv 1) pe_int (fun _ _ => rfl)) pa_nil))) pa_nil))) pa_nil)))))
      (pss_one (ps_ret (pv 4))))), ?_⟩
  have st : start ["held", "amount", "numbers", "sign", "found", "one", "number"] [x, y, z, .int sg] = [some x, some y, some z, some (.int sg), none, none, none] := rfl
  rw [st]
  refine Dv.s_asgL (K := K) (Dv.el_lst Dv.ea_nil (by simp)) e fun p ws F1 H1 g1 hp fp hp1 hws => ?_
  cases hws
  refine Dv.s_for (K := K) (it_is (it_zip (Dv.ea_cons (Dv.ev_var (i := 0) rfl (dp_ex g1.fx h1)) (Dv.ea_cons (Dv.ev_var (i := 2) rfl (dp_ex g1.fx h3)) Dv.ea_nil))) (show _ = (held.zip row).map fun z => PyData.tuple [encR z.1, .int z.2] by rw [List.zip_map, List.map_map] <;> rfl)) g1.fh
    (fun k σ F' H' => ∃ (ws : List V) (s6 s7 : Option V), σ = [some x, some y, some z, some (.int sg), some (.ref p), s6, s7] ∧ F' p = none ∧ H' p = some (.lst ws) ∧ DpAll K F' ws ((((held.zip row).take k).map fun z => z.1 + a * ((sg * z.2 : Int) : Rat)).map encR) ∧ Gr F H F' H')
    (fun F7 H7 g7 => ⟨[], none, none, rfl, (g7.keep hp1 fp).2, (g7.keep hp1 fp).1, by rw [List.take_zero]; exact .nil, g1.trans g7⟩) ?_ (fun σ' F7 H7 e4 e5 p7 => ?_)
  · rintro Fc ec k σ F7 H7 u2 d2 F8 H8 hd2 e4 e5 ⟨ws, s6, s7, rfl, fp7, hp7, hw7, g07⟩ g8 hu8
    obtain ⟨hk, hdk⟩ := List.getElem?_eq_some_iff.mp hd2
    rw [List.length_map] at hk
    have hd2' : d2 = PyData.tuple [encR (held.zip row)[k].1, .int (held.zip row)[k].2] := by rw [← hdk, List.getElem_map]
    subst hd2'
    obtain ⟨y1, y2, hy1, hy2, ht⟩ := tup2 hu8
    have hmem : (held.zip row)[k].1 ∈ held ∧ (held.zip row)[k].2 ∈ row := List.of_mem_zip (List.getElem_mem hk)
    have tk : (held.zip row).take (k + 1) = (held.zip row).take k ++ [(held.zip row)[k]] := List.take_succ_eq_append_getElem hk
    have wl : ws.length ≤ 1000 := by
      rw [dps_len hw7, List.length_map, List.length_map, List.length_take, List.length_zip]
      omega
    rw [tk, List.map_append, List.map_append]
    generalize ((held.zip row).take k).map (fun z => z.1 + a * ((sg * z.2 : Int) : Rat)) = done at *
    generalize (held.zip row)[k] = zz at *
    have w1 := hh _ hmem.1
    have w2 := hrw _ hmem.2
    have k8 := g8.keep hp7 fp7
    refine ht 5 6 _ H8 g8.fh _ ?_
    show tDrop _ _ [some x, some y, some z, some (.int sg), some (.ref p), some y1, some y2] H8
    have eF := g07.fx.trans g8.fx
    have f0 := Dv.ev_ixT (K := K) (F := F8) (σ := [some x, some y, some z, some (.int sg), some (.ref p), some y1, some y2]) (i := 0) (d := .int (toF a).1) (Dv.ev_var (i := 1) rfl (dp_ex eF h2)) (Dv.ev_int 0) rfl
    have f1 := Dv.ev_ixT (K := K) (F := F8) (σ := [some x, some y, some z, some (.int sg), some (.ref p), some y1, some y2]) (i := 1) (d := .int (toF a).2) (Dv.ev_var (i := 1) rfl (dp_ex eF h2)) (Dv.ev_int 1) rfl
    obtain ⟨s1, s2, s3, s4⟩ := sm_of sa (by omega)
    have sgb : -2 < sg ∧ sg < 2 := by omega
    have sgm : (sg * (toF a).1).natAbs = (toF a).1.natAbs := by
      rw [Int.natAbs_mul]
      rcases hsg with rfl | rfl <;> simp
    have amt : EvD K (tCall (spD K fFrac) [] E0 (tCons (tOp (rI CMul fun i j => V.int (i * j)) (tOp (rI CMul fun i j => V.int (i * j)) (tVar 3) (tOp (rIxT K) (tVar 1) (tC (.int 0)))) (tVar 6)) (tCons (tOp (rIxT K) (tVar 1) (tC (.int 1))) tNil))) [some x, some y, some z, some (.int sg), some (.ref p), some y1, some y2] F8 (encR (a * ((sg * zz.2 : Int) : Rat))) :=
      ev_callD (Dv.ea_cons (Dv.ev_I (.inr ⟨by omega, by omega⟩) (fun _ => .int _) (Dv.ev_I (.inl ⟨by omega, by omega⟩) (fun _ => .int _) (Dv.ev_var (i := 3) rfl (.int _)) f0) (Dv.ev_var (i := 6) rfl hy2)) (Dv.ea_cons f1 Dv.ea_nil)) ⟨_, _, rfl, s1, Int.lt_trans s2 (by omega), (frac_sg a sg zz.2).symm⟩
    refine Dv.s_app (K := K) (F := F8) (d := encR (zz.1 + a * ((sg * zz.2 : Int) : Rat))) k8.1 k8.2 rfl (ev_plus (B := B0) (C := 540) (Dv.ev_var (i := 5) rfl hy1) amt w1 ((sa.mul _).mono (by
      have : 180 * (sg * zz.2).natAbs ≤ 180 * 3 := Nat.mul_le_mul_left _ (sg_bd hsg w2)
      omega))) g8.fh (by omega) fun v F9 H9 g9 hv9 f9 h9 => ?_
    dsimp only
    exact ⟨F9, e4.trans (g8.fx.trans g9.fx), Evl.Ex.mut g9.fh f9, ws ++ [v], some y1, some y2, rfl, f9, upd_same, dps_app (dps_ex (g8.fx.trans g9.fx) hw7) (.cons hv9 .nil), (g07.trans (g8.trans g9)).mut hp f9⟩
  · obtain ⟨ws, s6, s7, rfl, fp7, hp7, hw7, g07⟩ := p7
    rw [List.length_map, List.take_length] at hw7
    exact ⟨_, rfl, q p ws F7 H7 g07 hp fp7 hp7 hw7⟩
/-- within the rooms -/
def FitsQ (stuffs : List (Str × Option Int)) (hs : List Rat) : Prop := ∀ i (h : i < hs.length) (h' : i < stuffs.length), 0 ≤ hs[i] ∧ ∀ k, stuffs[i].2 = some k → hs[i] ≤ (k : Rat)
def fFits : List PyData → PyData → Prop := fun ds d => ∃ (stuffs : List (Str × Option Int)) (rest : PyData) (hs : List Rat) (B : Nat), ds = [.list [.list (stuffs.map encStuff), rest], .list (hs.map encR)] ∧ hs.length ≤ 8 ∧ hs.length = stuffs.length ∧ B < 1000000 ∧ (∀ q ∈ hs, Sx B q) ∧ (∀ z ∈ stuffs, ∀ k, z.2 = some k → 0 ≤ k ∧ k ≤ 3) ∧ FitsQ stuffs hs ∧ d = .bool true
theorem sc__law_fits : FnScope (["parts", "held", "at", "room"] : List Str) (["parts", "held"] : List Str) (defScope sLawFits) := ⟨rfl, rfl, rfl, by decide +kernel, rfl, by decide +kernel, by decide +kernel⟩
theorem ok_law_fits (D : Def K mg "_law_fits" sLawFits ["parts", "held"]) (B : Bl mg) (C__law_less : Cal P w K mg base "_law_less" ["one", "other"] 1 (spD K fBelow)) :
    Cal P w K mg base "_law_fits" ["parts", "held"] 2 (spD K fFits) := by
  refine cal_mk D sc__law_fits (len_D (by rintro _ _ ⟨t, u, r, B0, rfl, _⟩; rfl)) (fun f cdv A outer s H vs Q E hr h => ?_)
  obtain ⟨F, ds, d, e, hv, ⟨stuffs, rest, hs, B0, rfl, l8, hl, hB0, hB, hst, hfit, rfl⟩, q⟩ := h
  obtain ⟨x, y, rfl, h1, h2⟩ := Dv.two hv
  refine ⟨_, (pss_cons (ps_for PassesOwn.never rfl (pi_range1 rfl B.range (pa_cons (pe_callB call_len (by rfl) B.len (by decide +kernel) (pa_cons (pv 1) pa_nil)) pa_nil)) (pg_name (i := 2) sc__law_fits.nd rfl (.inl rfl)) (pss_cons (ps_set (i := 3) sc__law_fits.nd rfl (.inl rfl) (pe_ix ix_tup (pe_ix ix_list (pe_ix ix_list (pv 0) pe_int (fun _ _ => rfl)) (pv 2) (fun _ _ => rfl)) pe_int (fun _ _ => rfl)))
      (pss_one (ps_if (PW.pt (pw_or (pt_cmpR op_lt (pe_ix ix_tup (pe_ix ix_list (pv 1) (pv 2) (fun _ _ => rfl)) pe_int (fun _ _ => rfl)) pe_int (nomark _)) (pw_or1 (PW.pt (pw_and (pt_cmpR op_notN (pv 3) pe_non (nomark _)) (pw_and1 (pt_val (pe_callC C__law_less hr (pa_cons (pe_tup (pa_cons (pv 3) (pa_cons pe_int pa_nil))) (pa_cons (pe_ix ix_list (pv 1) (pv 2) (fun _ _ => rfl)) pa_nil)))))))))) (pss_one (ps_ret pe_bl)) pss_nil))))
      (pss_one (ps_ret pe_bl))), ?_⟩
  have st : start ["parts", "held", "at", "room"] [x, y] = [some x, some y, none, none] := rfl
  rw [st]
  refine seq_of (Dv.s_for (K := K) (it_rng1 (σ := [some x, some y, none, none]) (n := (hs.length : Nat)) (Dv.ea_cons (Dv.ev_is (ev_len (n := (hs.map encR).length) (Dv.ev_var (i := 1) rfl h2) rfl (by rw [List.length_map]; omega)) (by rw [List.length_map])) Dv.ea_nil) (by omega) (by omega)) e
    (fun n σ' F' H' => ∃ s2 s3, σ' = [some x, some y, s2, s3] ∧ Gr F H F' H') (fun F' H' g => ⟨_, _, rfl, g⟩) ?_ (fun σ' F' H' e1 e2 pv => ?_))
  · rintro Fb eb n σ' F3 H3 u du F4 H4 hdu e3 e4 ⟨s2, s3, rfl, gg⟩ g4 hu4
    rw [Int.toNat_natCast, List.getElem?_map] at hdu
    obtain ⟨i, hi, rfl⟩ := Option.map_eq_some_iff.mp hdu
    have hi2 := List.mem_range.mp (List.mem_of_getElem? hi)
    cases hu4
    have gg4 := gg.trans g4
    have hst1 := hst stuffs[i] (List.getElem_mem (by omega))
    have hf := hfit i hi2 (by omega)
    have sq := hB _ (List.getElem_mem hi2)
    have at1 : (hs.map encR)[i]? = some (encR hs[i]) := by rw [List.getElem?_map, List.getElem?_eq_getElem hi2] <;> rfl
    have at2 : (stuffs.map encStuff)[i]? = some (encStuff stuffs[i]) := by rw [List.getElem?_map, List.getElem?_eq_getElem (by omega)] <;> rfl
    generalize hs[i] = qh at *
    have hi3 : i < stuffs.length := by omega
    generalize hsf : stuffs[i] = sf at *
    clear hsf
    obtain ⟨sn, sr⟩ := sf
    dsimp only
    show tSeq _ _ _ [some x, some y, some (.int (i : Int)), s3] H4
    refine seq_of (Dv.s_asg (K := K) (F := F4) (d := encRoom sr) (Dv.ev_ixT (Dv.ev_ixL (Dv.ev_ixL (Dv.ev_var (i := 0) rfl (dp_ex gg4.fx h1)) (Dv.ev_int 0) rfl) (Dv.ev_var (i := 2) rfl (.int _)) (atI_nat at2)) (Dv.ev_int 1) rfl) gg4.fh fun rv F5 H5 g5 hrv => ?_)
    have gg5 := gg4.trans g5
    dsimp only
    show tIfS _ _ _ _ [some x, some y, some (.int (i : Int)), some rv] H5
    have hq : EvD K (tOp (rIxL K) (tVar 1) (tVar 2)) [some x, some y, some (.int (i : Int)), some rv] F5 (encR qh) := Dv.ev_ixL (Dv.ev_var (i := 1) rfl (dp_ex gg5.fx h2)) (Dv.ev_var (i := 2) rfl (.int _)) (atI_nat at1)
    have neg : EtD (tTest (tOp (rI0 fun i j => V.bl (decide (i < j))) (tOp (rIxT K) (tOp (rIxL K) (tVar 1) (tVar 2)) (tC (.int 0))) (tC (.int 0)))) [some x, some y, some (.int (i : Int)), some rv] F5 false := by
      refine et_v (K := K) (d := .bool (decide ((toF qh).1 < 0))) (Dv.ev_I0 (g := fun i j => V.bl (decide (i < j))) (i := (toF qh).1) (j := 0) (fun _ => .bl _) (Dv.ev_ixT hq (Dv.ev_int 0) rfl) (Dv.ev_int 0)) ?_
      have : 0 ≤ qh.num := Rat.num_nonneg.mpr hf.1
      congr 1
      exact decide_eq_false (show ¬ qh.num < 0 by omega)
    have hrv' : Dp K F5 rv (encRoom sr) := hrv
    cases sr with
    | none => exact s_ifF (et_orF neg (et_andF (et_v (ev_notNR (Dv.ev_var (i := 3) rfl hrv')) rfl))) gg5.fh fun F6 H6 g6 => ⟨F6, e3.trans (g4.fx.trans (g5.fx.trans g6.fx)), g6.fh, _, _, rfl, gg5.trans g6⟩
    | some k =>
      have hk := hst1 k rfl
      have less := ev_below (E := E0) (B := 180) (C := B0) (a := (k : Rat)) (Dv.ev_tup (ds := [.int k, .int 1]) (Dv.ea_cons (Dv.ev_var (i := 3) rfl hrv') (Dv.ea_cons (Dv.ev_int 1) Dv.ea_nil)) (by simp)) hq ((Sx.int k).mono (by
        have : 60 * k.natAbs ≤ 60 * 3 := Nat.mul_le_mul_left _ (by omega)
        omega)) sq
      exact s_ifF (et_orF neg (et_andT (et_v (p := true) (ev_notNR (Dv.ev_var (i := 3) rfl hrv')) rfl) (et_v less (by
        congr 1
        exact decide_eq_false (Rat.not_lt.mpr (hf.2 k rfl)))))) gg5.fh fun F6 H6 g6 => ⟨F6, e3.trans (g4.fx.trans (g5.fx.trans g6.fx)), g6.fh, _, _, rfl, gg5.trans g6⟩
  · obtain ⟨s2, s3, rfl, gg⟩ := pv
    dsimp only
    exact Dv.s_ret (K := K) (F := F') (Dv.ev_bl true) gg.fh fun v F2 H2 g2 hv => q v F2 H2 (gg.trans g2) hv
end
end R3

set_option Elab.async false
set_option linter.all false
set_option maxRecDepth 100000
set_option maxHeartbeats 4000000
namespace R3
open PySem PySem.Spec PyProof.Rows L2 Evl Dv StX
open Qa (toF Sx)
abbrev Rcp := Str × List (Str × Int) × List (Str × Int)
def lastsT (stuffs : List (Str × Option Int)) (r : Rcp) : List Int := stuffs.map fun s => lastOf r.2.1 s.1
def lastsG (stuffs : List (Str × Option Int)) (r : Rcp) : List Int := stuffs.map fun s => lastOf r.2.2 s.1
def midQ (stuffs : List (Str × Option Int)) (r : Rcp) (hs : List Rat) (a : Rat) : List Rat := movedQ hs a (lastsT stuffs r) (-1)
def endQ (stuffs : List (Str × Option Int)) (r : Rcp) (hs : List Rat) (a : Rat) : List Rat := movedQ (midQ stuffs r hs a) a (lastsG stuffs r) 1
structure StepOk (stuffs : List (Str × Option Int)) (r : Rcp) (hs : List Rat) (a : Rat) (B : Nat) : Prop where
  l8 : stuffs.length ≤ 8
  l : hs.length = stuffs.length
  aS : Sx 180 a
  bB : B < 100000
  hB : ∀ q ∈ hs, Sx B q
  rm : ∀ z ∈ stuffs, ∀ k, z.2 = some k → 0 ≤ k ∧ k ≤ 3
  t : ∀ n ∈ lastsT stuffs r, 0 ≤ n ∧ n ≤ 3
  g : ∀ n ∈ lastsG stuffs r, 0 ≤ n ∧ n ≤ 3
  f1 : FitsQ stuffs (midQ stuffs r hs a)
  f2 : FitsQ stuffs (endQ stuffs r hs a)
theorem moved_len {hs : List Rat} {a : Rat} {row : List Int} {sg : Int} : (movedQ hs a row sg).length = min hs.length row.length := by
  unfold movedQ
  rw [List.length_map, List.length_zip]
def fLTurn : List PyData → PyData → Prop := fun ds d => ∃ (stuffs : List (Str × Option Int)) (r : Rcp) (hs : List Rat) (a : Rat) (B : Nat), ds = [.list [.list (stuffs.map encStuff), .list [encRecipe r]], .list (hs.map encR), .list [.tuple [.str r.1, encR a]]] ∧ StepOk stuffs r hs a B ∧ d = .list ((endQ stuffs r hs a).map encR)
def fLStep : List PyData → PyData → Prop := fun ds d => ∃ (stuffs : List (Str × Option Int)) (rest : PyData) (r : Rcp) (hs : List Rat) (a : Rat) (B : Nat), ds = [.list [.list (stuffs.map encStuff), rest], encRecipe r, .list (hs.map encR), encR a] ∧ StepOk stuffs r hs a B ∧ d = .list ((endQ stuffs r hs a).map encR)
section
variable {P : Program} {w : World} {K : PySem.W.Frag} {mg : Str → Option Value} {base : Heap}
theorem sc__law_turn : FnScope (["parts", "held", "steps", "name", "amount", "recipe_here"] : List Str) (["parts", "held", "steps"] : List Str) (defScope sLawTurn) := ⟨rfl, rfl, rfl, by decide +kernel, rfl, by decide +kernel, by decide +kernel⟩
theorem ok_law_turn (D : Def K mg "_law_turn" sLawTurn ["parts", "held", "steps"]) (C__law_recipe : Cal P w K mg base "_law_recipe" ["parts", "name"] 1 (spD K fLRecipe)) (C__law_side : Cal P w K mg base "_law_side" ["parts", "recipe_here", "side"] 1 (spN K fSide)) (C__law_moved : Cal P w K mg base "_law_moved" ["held", "amount", "numbers", "sign"] 3 (spN K fMoved)) (C__law_fits : Cal P w K mg base "_law_fits" ["parts", "held"] 2 (spD K fFits)) :
    Cal P w K mg base "_law_turn" ["parts", "held", "steps"] 4 (spD K fLTurn) := by
  refine cal_mk D sc__law_turn (len_D (by rintro _ _ ⟨t, u, r, a, B0, rfl, _⟩; rfl)) (fun f cdv A outer s H vs Q E hr h => ?_)
  obtain ⟨F, ds, d, e, hv, ⟨stuffs, r, hs, a, B0, rfl, ok, rfl⟩, q⟩ := h
  obtain ⟨x, y, z, rfl, h1, h2, h3⟩ := Dv.three hv
  refine ⟨_, (pss_cons (ps_for PassesOwn.never rfl (pi_list (pv 2)) (pg_tup (by rfl) (pgs_cons (pg_name (i := 3) sc__law_turn.nd rfl (.inl rfl)) (pgs_cons (pg_name (i := 4) sc__law_turn.nd rfl (.inl rfl)) pgs_nil))) (pss_cons (ps_set (i := 5) sc__law_turn.nd rfl (.inl rfl) (pe_callC C__law_recipe hr (pa_cons (pv 0) (pa_cons (pv 3) pa_nil))))
      (pss_cons (ps_set (i := 1) sc__law_turn.nd rfl (.inl rfl) (pe_callC C__law_moved hr (pa_cons (pv 1) (pa_cons (pv 4) (pa_cons (pe_callC C__law_side hr (pa_cons (pv 0) (pa_cons (pv 5) (pa_cons pe_int pa_nil)))) (pa_cons (pe_un un_neg pe_int) pa_nil))))))
      (pss_cons (ps_if (pt_not (pt_val (pe_callC C__law_fits hr (pa_cons (pv 0) (pa_cons (pv 1) pa_nil))))) (pss_one (ps_ret pe_non)) pss_nil)
      (pss_cons (ps_set (i := 1) sc__law_turn.nd rfl (.inl rfl) (pe_callC C__law_moved hr (pa_cons (pv 1) (pa_cons (pv 4) (pa_cons (pe_callC C__law_side hr (pa_cons (pv 0) (pa_cons (pv 5) (pa_cons pe_int pa_nil)))) (pa_cons pe_int pa_nil))))))
      (pss_one (ps_if (pt_not (pt_val (pe_callC C__law_fits hr (pa_cons (pv 0) (pa_cons (pv 1) pa_nil))))) (pss_one (ps_ret pe_non)) pss_nil)))))))
      (pss_one (ps_ret (pv 1)))), ?_⟩
  have st : start ["parts", "held", "steps", "name", "amount", "recipe_here"] [x, y, z] = [some x, some y, some z, none, none, none] := rfl
  rw [st]
  refine seq_of (Dv.s_for (K := K) (it_list (σ := [some x, some y, some z, none, none, none]) (Dv.ev_var (i := 2) rfl h3)) e
    (fun n σ' F' H' => ∃ hv s3 s4 s5, σ' = [some x, some hv, some z, s3, s4, s5] ∧ Gr F H F' H' ∧ (n = 0 → hv = y) ∧ (n = 1 → Dp K F' hv (.list ((endQ stuffs r hs a).map encR)))) (fun F' H' g => ⟨y, _, _, _, rfl, g, fun _ => rfl, fun h => by cases h⟩) ?_ (fun σ' F' H' e1 e2 pv => ?_))
  · rintro Fb eb n σ' F3 H3 u du F4 H4 hdu e3 e4 ⟨hv3, s3, s4, s5, rfl, gg, hy0, _⟩ g4 hu4
    have hn : n = 0 := by
      have := (List.getElem?_eq_some_iff.mp hdu).1
      simp at this
      exact this
    subst hn
    obtain rfl := hy0 rfl
    cases hdu
    obtain ⟨u1, u2, hu1, hu2, hut⟩ := tup2 hu4
    refine hut 3 4 _ H4 g4.fh _ ?_
    have gg4 := gg.trans g4
    dsimp only
    show tSeq _ _ _ [some x, some hv3, some z, some u1, some u2, s5] H4
    refine seq_of (Dv.s_asg (K := K) (F := F4) (d := encRecipe r) (ev_callD (f := fLRecipe) (Dv.ea_cons (Dv.ev_var (i := 0) rfl (dp_ex gg4.fx h1)) (Dv.ea_cons (Dv.ev_var (i := 3) rfl hu1) Dv.ea_nil)) ⟨.list (stuffs.map encStuff), [r], r.1, r, rfl, by simp, by simp, rfl⟩) gg4.fh fun rv F5 H5 g5 hrv => ?_)
    have gg5 := gg4.trans g5
    dsimp only
    show tSeq _ _ _ [some x, some hv3, some z, some u1, some u2, some rv] H5
    have sd : ∀ (hh : V) (F' : Hp), Ex F5 F' → ∀ (i : Int) (ps : List (Str × Int)), (i = 1 ∧ ps = r.2.1 ∨ i = 2 ∧ ps = r.2.2) → EvL K (tCall (spN K fSide) [] E0 (tCons (tVar 0) (tCons (tVar 5) (tCons (tC (.int i)) tNil)))) [some x, some hh, some z, some u1, some u2, some rv] F' ((stuffs.map fun s => lastOf ps s.1).map PyData.int) := fun hh F' e' i ps hi => Dv.el_is (el_callN (f := fSide) (Dv.ea_cons (Dv.ev_var (i := 0) rfl (dp_ex (gg5.fx.trans e') h1)) (Dv.ea_cons (Dv.ev_var (i := 5) rfl (dp_ex e' hrv)) (Dv.ea_cons (Dv.ev_int i) Dv.ea_nil))) ⟨stuffs, .list [encRecipe r], r, i, ps, rfl, by have := ok.l8; omega, hi, rfl⟩) (by rw [List.map_map] <;> rfl)
    have l8 := ok.l8
    have ll := ok.l
    have lB := ok.bB
    have lT : (lastsT stuffs r).length = stuffs.length := by unfold lastsT; rw [List.length_map]
    have lG : (lastsG stuffs r).length = stuffs.length := by unfold lastsG; rw [List.length_map]
    have m1 : (midQ stuffs r hs a).length = stuffs.length := by
      unfold midQ
      rw [moved_len, lT, ll]
      omega
    have m2 : (endQ stuffs r hs a).length = stuffs.length := by
      unfold endQ
      rw [moved_len, lG, m1]
      omega
    have x1 : ∀ q ∈ midQ stuffs r hs a, Sx (B0 + 540) q := moved_sx ok.aS (.inr rfl) ok.hB ok.t
    have x2 : ∀ q ∈ endQ stuffs r hs a, Sx (B0 + 540 + 540) q := moved_sx ok.aS (.inl rfl) x1 ok.g
    refine seq_of (Dv.s_asg (K := K) (F := F5) (d := .list ((midQ stuffs r hs a).map encR)) (EvL.ev (el_callN (f := fMoved) (Dv.ea_cons (Dv.ev_var (i := 1) rfl (dp_ex gg5.fx h2)) (Dv.ea_cons (Dv.ev_var (i := 4) rfl (dp_ex g5.fx hu2)) (Dv.ea_cons (EvL.ev (sd _ F5 (Ex.refl _) 1 r.2.1 (.inl ⟨rfl, rfl⟩))) (Dv.ea_cons (Dv.ev_U (i := 1) (k := .int (-1)) (fun _ => .int _) (Dv.ev_int 1)) Dv.ea_nil)))) ⟨hs, a, lastsT stuffs r, -1, B0, rfl, by omega, ok.aS, by omega, .inr rfl, ok.hB, ok.t, rfl⟩)) gg5.fh fun v1 F6 H6 g6 hv1 => ?_)
    have gg6 := gg5.trans g6
    dsimp only
    show tSeq _ _ _ [some x, some v1, some z, some u1, some u2, some rv] H6
    refine seq_of (s_ifF (et_notT (et_v (K := K) (ev_callD (f := fFits) (Dv.ea_cons (Dv.ev_var (i := 0) rfl (dp_ex gg6.fx h1)) (Dv.ea_cons (Dv.ev_var (i := 1) rfl hv1) Dv.ea_nil)) ⟨stuffs, .list [encRecipe r], midQ stuffs r hs a, B0 + 540, rfl, by omega, m1, by omega, x1, ok.rm, ok.f1, rfl⟩) rfl)) gg6.fh fun F7 H7 g7 => ?_)
    try unfold tNext
    dsimp only
    have gg7 := gg6.trans g7
    refine seq_of (Dv.s_asg (K := K) (F := F7) (d := .list ((endQ stuffs r hs a).map encR)) (EvL.ev (el_callN (f := fMoved) (Dv.ea_cons (Dv.ev_var (i := 1) rfl (dp_ex g7.fx hv1)) (Dv.ea_cons (Dv.ev_var (i := 4) rfl (dp_ex (g5.fx.trans (g6.fx.trans g7.fx)) hu2)) (Dv.ea_cons (EvL.ev (sd _ F7 (g6.fx.trans g7.fx) 2 r.2.2 (.inr ⟨rfl, rfl⟩))) (Dv.ea_cons (Dv.ev_int 1) Dv.ea_nil)))) ⟨midQ stuffs r hs a, a, lastsG stuffs r, 1, B0 + 540, rfl, by omega, ok.aS, by omega, .inl rfl, x1, ok.g, rfl⟩)) gg7.fh fun v2 F8 H8 g8 hv2 => ?_)
    have gg8 := gg7.trans g8
    dsimp only
    show tIfS _ _ _ _ [some x, some v2, some z, some u1, some u2, some rv] H8
    refine s_ifF (et_notT (et_v (K := K) (ev_callD (f := fFits) (Dv.ea_cons (Dv.ev_var (i := 0) rfl (dp_ex gg8.fx h1)) (Dv.ea_cons (Dv.ev_var (i := 1) rfl hv2) Dv.ea_nil)) ⟨stuffs, .list [encRecipe r], endQ stuffs r hs a, B0 + 540 + 540, rfl, by omega, m2, by omega, x2, ok.rm, ok.f2, rfl⟩) rfl)) gg8.fh fun F9 H9 g9 => ?_
    exact ⟨F9, e3.trans (g4.fx.trans (g5.fx.trans (g6.fx.trans (g7.fx.trans (g8.fx.trans g9.fx))))), g9.fh, v2, _, _, _, rfl, gg8.trans g9, ⟨fun h => absurd h (by decide), fun _ => dp_ex g9.fx hv2⟩⟩
  · obtain ⟨hv3, s3, s4, s5, rfl, gg, _, hd⟩ := pv
    dsimp only
    exact Dv.s_ret (K := K) (F := F') (Dv.ev_var (i := 1) rfl (hd rfl)) gg.fh fun v F2 H2 g2 hv => q v F2 H2 (gg.trans g2) hv
theorem sc__law_stepped : FnScope (["parts", "recipe_here", "held", "amount"] : List Str) (["parts", "recipe_here", "held", "amount"] : List Str) (defScope sLawStepped) := ⟨rfl, rfl, rfl, by decide +kernel, rfl, by decide +kernel, by decide +kernel⟩
theorem ok_law_stepped (D : Def K mg "_law_stepped" sLawStepped ["parts", "recipe_here", "held", "amount"]) (C__law_turn : Cal P w K mg base "_law_turn" ["parts", "held", "steps"] 4 (spD K fLTurn)) :
    Cal P w K mg base "_law_stepped" ["parts", "recipe_here", "held", "amount"] 5 (spD K fLStep) := by
  refine cal_mk D sc__law_stepped (len_D (by rintro _ _ ⟨t, re, u, r, a, B0, rfl, _⟩; rfl)) (fun f cdv A outer s H vs Q E hr h => ?_)
  obtain ⟨F, ds, d, e, hv, ⟨stuffs, rest, r, hs, a, B0, rfl, ok, rfl⟩, q⟩ := h
  obtain ⟨x, y, z, t, rfl, h1, h2, h3, h4⟩ := four hv
  refine ⟨_, (pss_one (ps_ret (pe_callC C__law_turn hr (pa_cons (pe_lst (pa_cons (pe_ix ix_list (pv 0) pe_int (fun _ _ => rfl)) (pa_cons (pe_lst (pa_cons (pv 1) pa_nil)) pa_nil))) (pa_cons (pv 2) (pa_cons (pe_lst (pa_cons (pe_tup (pa_cons (pe_ix ix_tup (pv 1) pe_int (fun _ _ => rfl)) (pa_cons (pv 3) pa_nil))) pa_nil)) pa_nil)))))), ?_⟩
  have st : start ["parts", "recipe_here", "held", "amount"] [x, y, z, t] = [some x, some y, some z, some t] := rfl
  rw [st]
  exact Dv.s_ret (K := K) (F := F) (ev_callD (f := fLTurn) (Dv.ea_cons (EvL.ev (Dv.el_lst (Dv.ea_cons (Dv.ev_ixL (Dv.ev_var (i := 0) rfl h1) (Dv.ev_int 0) rfl) (Dv.ea_cons (EvL.ev (Dv.el_lst (Dv.ea_cons (Dv.ev_var (i := 1) rfl h2) Dv.ea_nil) (by simp))) Dv.ea_nil)) (by simp))) (Dv.ea_cons (Dv.ev_var (i := 2) rfl h3) (Dv.ea_cons (EvL.ev (Dv.el_lst (Dv.ea_cons (Dv.ev_tup (Dv.ea_cons (Dv.ev_ixT (d := .str r.1) (Dv.ev_var (i := 1) rfl h2) (Dv.ev_int 0) rfl) (Dv.ea_cons (Dv.ev_var (i := 3) rfl h4) Dv.ea_nil)) (by simp)) Dv.ea_nil) (by simp))) Dv.ea_nil))) ⟨stuffs, r, hs, a, B0, rfl, ok, rfl⟩) e fun v F2 H2 g2 hv => q v F2 H2 g2 hv
end
end R3

set_option Elab.async false
set_option linter.all false
set_option maxRecDepth 100000
set_option maxHeartbeats 4000000
namespace R3
open PySem PySem.Spec PyProof.Rows L2 Evl Dv StX
open Qa (toF Sx)
section
variable {P : Program} {w : World} {K : PySem.W.Frag} {mg : Str → Option Value} {base : Heap}
theorem sm_new {H : Hp} {p : Addr} {o : HO} (h : H p = none) : Same H (upd H p o) := fun b u e => by
  rw [upd_ne (ne_of_none e h)]
  exact e
def CPowW : Int → Int → Prop := fun i j => 0 ≤ j ∧ (Builtin.Int.intBits i : Int) * j ≤ 2 ^ 27
theorem op_powW {X : Cx} : OpR X (binaryOp .Pow) (rI CPowW fun i j => .int (i ^ j.toNat)) := by
  intro pins s σ H x y v u Q I rx ry h
  obtain ⟨i, j, rfl, rfl, hc, q⟩ := h
  obtain ⟨t, rfl⟩ := rx
  obtain ⟨t', rfl⟩ := ry
  exact pow_int hc.1 hc.2 ⟨.int _, H, I.tok _, ⟨_, rfl⟩, q⟩
def spGen (K : PySem.W.Frag) : Sp := fun vs H Q _ => ∃ (a : Addr) (ns : List Int) (n : Nat), vs = [.ref a, .int n] ∧ n ≤ 3 ∧ SqL K H a (ns.map V.int) ∧ ns.length ≤ 63 ∧
  ∀ (g : Addr) (x s : Int) (H1 : Hp), Same H H1 → H1 g = none → 0 ≤ x → 0 ≤ s → s < 2147483647 → Q (.ref g) (upd H1 g (.lst [.int x, .int s, .int (1000 * (n : Int))]))
theorem sc__law_generator : FnScope (["script", "index", "seed"] : List Str) (["script", "index"] : List Str) (defScope sLawGenerator) := ⟨rfl, rfl, rfl, by decide +kernel, rfl, by decide +kernel, by decide +kernel⟩
theorem ok_law_generator (D : Def K mg "_law_generator" sLawGenerator ["script", "index"]) (B : Bl mg) : Cal P w K mg base "_law_generator" ["script", "index"] 1 (spGen K) := by
  refine cal_mk D sc__law_generator (fun vs H Q E h => ?_) (fun f cdv A outer s H vs Q E hr h => ?_)
  · obtain ⟨a, ns, n, rfl, _⟩ := h
    rfl
  obtain ⟨a, ns, n, rfl, hn, hS, hl, q⟩ := h
  refine ⟨_, pss_cons (ps_set (i := 2) sc__law_generator.nd rfl (.inl rfl) (pe_ifExp (pt_cmpR op_lt (pv 1) (pe_callB call_len_seq (by rfl) B.len PySem.boot_len (pa_cons (pv 0) pa_nil)) (nomark _)) (pe_ix ix_list (pv 0) (pv 1) (fun _ _ => rfl)) (pe_op op_mod (pe_callB (cr_sum rfl) (by rfl) B.sum (by decide +kernel) (pa_cons (pe_slice sl_list (pv 0) po_none (po_some pe_int)) pa_nil)) pe_int)))
      (pss_one (ps_ret (pe_lst (pa_cons (pe_op op_modN (pe_callTy call_int1 (by rfl) B.int (by decide +kernel) (pa_cons (pe_callB (call_max2 rfl) (by rfl) B.max (by decide +kernel) (pa_cons (pe_op op_sub (pv 2) (pe_op op_pow pe_int pe_int)) (pa_cons pe_int pa_nil))) pa_nil)) (pe_op op_powW (pe_op op_pow pe_int pe_int) pe_int))
        (pa_cons (pe_op op_mod (pe_callTy call_int1 (by rfl) B.int (by decide +kernel) (pa_cons (pv 2) pa_nil)) pe_int)
        (pa_cons (pe_op op_mul pe_int (pv 1)) pa_nil)))))), ?_⟩
  refine ⟨_, rfl, _, rfl, a, _, rfl, .inl hS, _, _, rfl, rfl, _, rfl, ?_⟩
  refine ite2 (fun h => ?_) (fun h => ?_)
  · rw [List.length_map] at h
    have h' : n < ns.length := by
      have := of_decide_eq_true h
      omega
    obtain ⟨z, hz⟩ : ∃ z, ns[n]? = some z := ⟨ns[n], List.getElem?_eq_getElem h'⟩
    have s1 := Same.refl H
    refine ⟨_, rfl, _, rfl, a, _, _, .int z, rfl, rfl, hS, atI_nat (j := n) (by rw [List.getElem?_map, hz]; rfl), ?_⟩
    refine ⟨_, rfl, _, _, rfl, rfl, ⟨by decide, by decide, by decide⟩, _, _, rfl, rfl, _, _, rfl, .inl ⟨_, rfl, ?_⟩⟩
    refine ⟨_, _, rfl, rfl, ⟨by decide, by decide, by decide⟩, ?_⟩
    refine ⟨_, _, rfl, rfl, ⟨by decide, by decide +kernel⟩, ?_⟩
    refine ⟨_, _, rfl, rfl, (by show (_ : Int) ≠ 0; decide +kernel), ?_⟩
    refine ⟨_, rfl, .inl ⟨_, rfl, _, _, rfl, rfl, (by show (0 : Int) < _; decide), ?_⟩⟩
    refine ⟨_, rfl, _, _, rfl, rfl, .inl ⟨by decide, by decide⟩, (by show 3 ≤ sizeLine; decide), fun p hp => ?_⟩
    exact q p _ _ _ s1 hp (Int.fmod_nonneg_of_pos _ (by decide +kernel)) (Int.emod_nonneg _ (by decide)) (Int.emod_lt_of_pos _ (by decide))
  · refine ⟨_, rfl, _, rfl, a, _, rfl, hS, fun p hp => ?_⟩
    have s1 : Same H (upd H p (.lst (cutV (ns.map V.int) none (some 1)))) := sm_new hp
    refine ⟨p, ns.take 1, rfl, ?_, ?_⟩
    · have ec : cutV (ns.map V.int) none (some 1) = (ns.take 1).map V.int := by
        cases ns with
        | nil => rfl
        | cons x r =>
          have h1 : HT.sIx (r.length + 1) (r.length + 1) (some 1) = 1 := by
            simp [HT.sIx]
          simp [cutV, h1]
          try rfl
      rw [ec]
      exact SqL.of upd_same
    refine ⟨_, _, rfl, rfl, (by show (0 : Int) < _; decide), ?_⟩
    refine ⟨_, rfl, _, _, rfl, rfl, ⟨by decide, by decide, by decide⟩, _, _, rfl, rfl, _, _, rfl, .inl ⟨_, rfl, ?_⟩⟩
    refine ⟨_, _, rfl, rfl, ⟨by decide, by decide, by decide⟩, ?_⟩
    refine ⟨_, _, rfl, rfl, ⟨by decide, by decide +kernel⟩, ?_⟩
    refine ⟨_, _, rfl, rfl, (by show (_ : Int) ≠ 0; decide +kernel), ?_⟩
    refine ⟨_, rfl, .inl ⟨_, rfl, _, _, rfl, rfl, (by show (0 : Int) < _; decide), ?_⟩⟩
    refine ⟨_, rfl, _, _, rfl, rfl, .inl ⟨by decide, by decide⟩, (by show 3 ≤ sizeLine; decide), fun p hp => ?_⟩
    exact q p _ _ _ s1 hp (Int.fmod_nonneg_of_pos _ (by decide +kernel)) (Int.emod_nonneg _ (by decide)) (Int.emod_lt_of_pos _ (by decide))
/-- parts of six of a number -/
theorem bet_tab : ((List.range 7).all fun r => (List.range 4).all fun k => decide ((0 : Rat) + mkRat (r : Int) 6 * (((k : Nat) : Int) - (0 : Rat)) = mkRat ((10 * r * k : Nat) : Int) 60) && decide ((0 : Rat) ≤ (0 : Rat) + mkRat (r : Int) 6 * (((k : Nat) : Int) - (0 : Rat))) && decide ((0 : Rat) + mkRat (r : Int) 6 * (((k : Nat) : Int) - (0 : Rat)) ≤ (((k : Nat) : Int) : Rat)) && decide (((k : Nat) : Int) - (0 : Rat) = (((k : Nat) : Int) : Rat)) && decide (mkRat (r : Int) 6 = mkRat ((10 * r : Nat) : Int) 60)) = true := by decide +kernel
structure BetOk (r k : Nat) : Prop where
  e : (0 : Rat) + mkRat (r : Int) 6 * (((k : Nat) : Int) - (0 : Rat)) = mkRat ((10 * r * k : Nat) : Int) 60
  l : (0 : Rat) ≤ (0 : Rat) + mkRat (r : Int) 6 * (((k : Nat) : Int) - (0 : Rat))
  u : (0 : Rat) + mkRat (r : Int) 6 * (((k : Nat) : Int) - (0 : Rat)) ≤ (((k : Nat) : Int) : Rat)
  z : ((k : Nat) : Int) - (0 : Rat) = (((k : Nat) : Int) : Rat)
  m : mkRat (r : Int) 6 = mkRat ((10 * r : Nat) : Int) 60
theorem bet_ok {r k : Nat} (hr : r < 7) (hk : k < 4) : BetOk r k := by
  have h := List.all_eq_true.mp (List.all_eq_true.mp bet_tab r (List.mem_range.mpr hr)) k (List.mem_range.mpr hk)
  simp only [Bool.and_eq_true, decide_eq_true_iff] at h
  exact ⟨h.1.1.1.1, h.1.1.1.2, h.1.1.2, h.1.2, h.2⟩
def spBetween (K : PySem.W.Frag) : Sp := fun vs H Q _ => ∃ (F : Hp) (g : Addr) (c : Nat) (lv hv : V) (k : Int), vs = [.ref g, lv, hv] ∧ Ex F H ∧ F g = none ∧ GenAt H g c ∧ c + 1 < 999000 ∧ 0 ≤ k ∧ k ≤ 3 ∧ Dp K F lv (encR 0) ∧ Dp K F hv (encR (k : Rat)) ∧
  ∀ x F' H' q, GrG g F H F' H' → GenAt H' g (c + 1) → 0 ≤ q → q ≤ (k : Rat) → Sx 180 q → Dp K F' x (encR q) → Q x H'
theorem sc__law_between : FnScope (["generator", "low", "high", "part"] : List Str) (["generator", "low", "high"] : List Str) (defScope sLawBetween) := ⟨rfl, rfl, rfl, by decide +kernel, rfl, by decide +kernel, by decide +kernel⟩
theorem ok_law_between (D : Def K mg "_law_between" sLawBetween ["generator", "low", "high"]) (C__law_random : Cal P w K mg base "_law_random" ["generator", "bound"] 2 spRandom) (C__law_fraction : Cal P w K mg base "_law_fraction" ["top", "under"] 1 (spD K fFrac)) (C__law_sum : Cal P w K mg base "_law_sum" ["one", "other"] 2 (spD K fPlus)) (C__law_product : Cal P w K mg base "_law_product" ["one", "other"] 2 (spD K fProd)) (C__law_rest : Cal P w K mg base "_law_rest" ["one", "other"] 2 (spD K fMinus)) :
    Cal P w K mg base "_law_between" ["generator", "low", "high"] 3 (spBetween K) := by
  refine cal_mk D sc__law_between (fun vs H Q E h => ?_) (fun f cdv A outer s H vs Q E hr h => ?_)
  · obtain ⟨F, g, c, lv, hv, k, rfl, _⟩ := h
    rfl
  obtain ⟨F, g, c, lv, hv, k, rfl, e, fg, hg, hc, k0, k3, dl, dh, q⟩ := h
  refine ⟨_, (pss_cons (ps_set (i := 3) sc__law_between.nd rfl (.inl rfl) (pe_callC C__law_fraction hr (pa_cons (pe_callC C__law_random hr (pa_cons (pv 0) (pa_cons pe_int pa_nil))) (pa_cons pe_int pa_nil))))
      (pss_one (ps_ret (pe_callC C__law_sum hr (pa_cons (pv 1) (pa_cons (pe_callC C__law_product hr (pa_cons (pv 3) (pa_cons (pe_callC C__law_rest hr (pa_cons (pv 2) (pa_cons (pv 1) pa_nil))) pa_nil))) pa_nil)))))), ?_⟩
  have st : start ["generator", "low", "high", "part"] [V.ref g, lv, hv] = [some (.ref g), some lv, some hv, none] := rfl
  rw [st]
  refine seq_of (sr_asg (K := K) (g := g) (F := F) (dr_call (K := K) (E := E0) (k := 1) (f := fFrac) (Pe := fun d => ∃ r : Nat, r < 7 ∧ d = encR (mkRat (r : Int) 6)) (da_cons (dr_random (i := 0) (b := 7) rfl (by decide) (by decide) (by decide +kernel)) (da_cons (dr_of (Dv.ev_int 6) (Pd := (· = .int 6)) rfl) da_nil)) fun ds hds => ?_) e fg hg (by omega) fun pv F1 H1 d k1 hg1 hd hpv => ?_)
  · obtain ⟨d1, r1, rfl, ⟨r, rfl, r0, r7⟩, d2, r2, rfl, rfl, rfl⟩ := hds
    refine ⟨encF (frac r 6), ⟨r, 6, rfl, by decide, by decide, rfl⟩, r.toNat, by omega, ?_⟩
    have := congrArg encF (Qa.frac_rat r (d := 6) (by decide))
    rw [show ((r.toNat : Nat) : Int) = r from Int.toNat_of_nonneg r0]
    exact this
  · obtain ⟨r, hr7, rfl⟩ := hd
    obtain ⟨kn, rfl⟩ : ∃ kn : Nat, k = (kn : Int) := ⟨k.toNat, by omega⟩
    have bo := bet_ok hr7 (show kn < 4 by omega)
    dsimp only
    show tRet _ _ [some (.ref g), some lv, some hv, some pv] H1
    have sr : Sx 60 (mkRat (r : Int) 6) := ⟨((10 * r : Nat) : Int), bo.m, by omega⟩
    have hkk : 10 * r * kn ≤ 180 := by
      have : 10 * r * kn ≤ 60 * 3 := Nat.mul_le_mul (by omega) (by omega)
      omega
    have sk : Sx 180 ((kn : Int) : Rat) := (Sx.int (kn : Int)).mono (by omega)
    have s0 : Sx 0 (0 : Rat) := ⟨0, by decide +kernel, by decide⟩
    have sd : Sx 180 (((kn : Int) : Rat) - 0) := by rw [bo.z]; exact sk
    have sp : Sx 180 (mkRat (r : Int) 6 * (((kn : Int) : Rat) - 0)) := by
      refine ⟨((10 * r * kn : Nat) : Int), ?_, by omega⟩
      have := bo.e
      rwa [Rat.zero_add] at this
    refine Dv.s_ret (K := K) (F := F1) (ev_plus (B := 0) (C := 180) (Dv.ev_var (i := 1) rfl (dp_ex k1.fx dl)) (ev_prod (B := 60) (C := 180) (Dv.ev_var (i := 3) rfl hpv) (ev_minus (B := 180) (C := 0) (Dv.ev_var (i := 2) rfl (dp_ex k1.fx dh)) (Dv.ev_var (i := 1) rfl (dp_ex k1.fx dl)) sk s0) sr sd) s0 sp) k1.fh fun x F2 H2 g2 hx => ?_
    obtain ⟨k2, hg2⟩ := hg1.of g2 k1.fg
    exact q x F2 H2 _ (k1.trans k2) hg2 bo.l bo.u ⟨((10 * r * kn : Nat) : Int), bo.e, by omega⟩ hx
end
end R3

set_option Elab.async false
set_option linter.all false
set_option maxRecDepth 100000
set_option maxHeartbeats 4000000
namespace Dv
open PySem PySem.Spec PyProof.Rows L2 Evl
section
variable {K : PySem.W.Frag} {σ : L2.St} {F H : Hp} {tt : TT} {b : Bool} {p : Addr} {o : HO}
/-- what was held still for a while is let go -/
theorem Gr.unpin {F' H' : Hp} (g : Gr (upd F p o) H F' H') (fp : F p = none) : Gr F H (er p F') H' := by
  refine ⟨fun a u h => ?_, fun a u h => ?_, g.hx, fun a h1 h2 => ?_⟩
  · have hap : a ≠ p := fun z => by rw [z, fp] at h; cases h
    rw [er_ne hap]
    exact g.fx _ _ (by rw [upd_ne hap]; exact h)
  · by_cases z : a = p
    · unfold er at h
      rw [if_pos z] at h
      cases h
    · rw [er_ne z] at h
      exact g.fh _ _ h
  · by_cases z : a = p
    · unfold er at h2
      rw [if_pos z] at h2
      exact absurd rfl h2
    · rw [er_ne z] at h2
      exact g.fr a (by rw [upd_ne z]; exact h1) h2
theorem ex_pin (e : Ex F H) (hp : H p = some o) : Ex (upd F p o) H := fun a u h => by
  by_cases z : a = p
  · rw [z, upd_same] at h
    rw [z, hp]
    exact h
  · rw [upd_ne z] at h
    exact e _ _ h
/-- a test that reads a list that is to change later -/
theorem et_trk (h : EtD tt σ (upd F p o) b) (e : Ex F H) (fp : F p = none) (hp : H p = some o) {Q : Bool → Hp → Prop} (q : ∀ F' H', Gr F H F' H' → F' p = none → H' p = some o → Q b H') : tt σ H Q :=
  h H (ex_pin e hp) _ fun F' H' g => q _ H' (g.unpin fp) er_same (g.hx _ _ hp)
end
end Dv
namespace R3
open PySem PySem.Spec PyProof.Rows L2 Evl Dv StX
open Qa (toF Sx)
def chr (s : Str) (i : Nat) : Str := ⟨#[(s.cps.toList)[i]?.getD 0]⟩
def stuffsFrom (k : Nat) (rs : List (Option Int)) : List (Str × Option Int) := (rs.zipIdx k).map fun z => (chr "abc" z.2, z.1)
def stuffsOf (rs : List (Option Int)) : List (Str × Option Int) := stuffsFrom 0 rs
theorem stuffs_snoc (rs : List (Option Int)) (r : Option Int) : stuffsOf (rs ++ [r]) = stuffsOf rs ++ [(chr "abc" rs.length, r)] := by
  unfold stuffsOf stuffsFrom
  rw [List.zipIdx_append, List.map_append]
  simp
theorem stuffs_len (rs : List (Option Int)) : (stuffsOf rs).length = rs.length := by
  unfold stuffsOf stuffsFrom
  rw [List.length_map, List.length_zipIdx]
def RoomIn (r : Option Int) : Prop := r ∈ [none, some 1, some 2, some 3, some 0]
section
variable {P : Program} {w : World} {K : PySem.W.Frag} {mg : Str → Option Value} {base : Heap}
def spStuffsDrawn (K : PySem.W.Frag) : Sp := fun vs H Q _ => ∃ (F : Hp) (g : Addr) (c wide : Nat) (most : Int), vs = [.ref g, .int wide, .int most] ∧ 1 ≤ wide ∧ wide ≤ 3 ∧ Ex F H ∧ F g = none ∧ GenAt H g c ∧ c < 990000 ∧
  ∀ x F' H' rs, GrG g F H F' H' → GenAt H' g (c + 3) → rs.length = wide → (∀ r ∈ rs, RoomIn r) → Dp K F' x (.list ((stuffsOf rs).map encStuff)) → Q x H'
theorem sc__law_stuffs_drawn : FnScope (["generator", "wide", "most", "found", "at", "room", "one"] : List Str) (["generator", "wide", "most"] : List Str) (defScope sLawStuffsDrawn) := ⟨rfl, rfl, rfl, by decide +kernel, rfl, by decide +kernel, by decide +kernel⟩
theorem ok_law_stuffs_drawn (D : Def K mg "_law_stuffs_drawn" sLawStuffsDrawn ["generator", "wide", "most"]) (B : Bl mg) (C__law_random : Cal P w K mg base "_law_random" ["generator", "bound"] 2 spRandom) :
    Cal P w K mg base "_law_stuffs_drawn" ["generator", "wide", "most"] 3 (spStuffsDrawn K) := by
  refine cal_mk D sc__law_stuffs_drawn (fun vs H Q E h => ?_) (fun f cdv A outer s H vs Q E hr h => ?_)
  · obtain ⟨F, g, c, wide, most, rfl, _⟩ := h
    rfl
  obtain ⟨F, g, c, wide, most, rfl, w1, w3, e, fg, hg, hc, q⟩ := h
  refine ⟨_, (pss_cons (ps_set (i := 3) sc__law_stuffs_drawn.nd rfl (.inl rfl) (pe_lst pa_nil))
      (pss_cons (ps_for PassesOwn.never rfl (pi_range1 rfl B.range (pa_cons (pv 1) pa_nil)) (pg_name (i := 4) sc__law_stuffs_drawn.nd rfl (.inl rfl)) (pss_cons (ps_set (i := 5) sc__law_stuffs_drawn.nd rfl (.inl rfl) (pe_ix ix_list (pe_lst (pa_cons pe_non (pa_cons pe_int (pa_cons pe_int (pa_cons pe_int (pa_cons pe_int (pa_cons pe_non pa_nil))))))) (pe_callC C__law_random hr (pa_cons (pv 0) (pa_cons pe_int pa_nil))) (fun _ _ => rfl)))
      (pss_cons (ps_if (pt_cmpR op_eq (pe_callB call_len (by rfl) B.len (by decide +kernel) (pa_cons (pe_lc (own := [("one", 6)]) (g := gName 6) rfl sc__law_stuffs_drawn.nd (pi_list (pv 3)) (blkOk_by (own := [("one", 6)]) (N := ["generator", "wide", "most", "found", "at", "room", "one"]) (sc := defScope sLawStuffsDrawn) (by decide +kernel)) (fun _ _ _ _ _ => (pg_name (i := 6) sc__law_stuffs_drawn.nd rfl (.inl rfl)))  (fun _ _ _ _ _ => (pts_one (pt_cmpR op_notN (pe_ix (r := rIxT K) ix_tup (pv 6) pe_int (fun _ _ => rfl)) pe_non (nomark _)))) (fun _ _ _ _ _ => (pv 6))) pa_nil)) (pv 2) (nomark _)) (pss_one (ps_set (i := 5) sc__law_stuffs_drawn.nd rfl (.inl rfl) pe_non)) pss_nil)
      (pss_one (ps_expr (pe_bm PySem.F.plainAttrs_list PySem.F.slot_list_append PySem.F.type_list_append mt_append (pv 3) (pa_cons (pe_tup (pa_cons (pe_ix ix_str pe_str (pv 4) (fun _ _ => rfl)) (pa_cons (pv 5) pa_nil))) pa_nil)))))))
      (pss_one (ps_ret (pv 3))))), ?_⟩
  have st : start ["generator", "wide", "most", "found", "at", "room", "one"] [V.ref g, .int wide, .int most] = [some (.ref g), some (.int wide), some (.int most), none, none, none, none] := rfl
  rw [st]
  refine seq_of (Dv.s_asgL (K := K) (Dv.el_lst Dv.ea_nil (by simp)) e fun p vs0 F1 H1 g1 p1 p2 p3 p4 => ?_)
  cases p4
  have pg : p ≠ g := hg.ne p1
  obtain ⟨k1, hg1⟩ := hg.of g1 fg
  dsimp only
  show tSeq _ _ _ [some (.ref g), some (.int wide), some (.int most), some (.ref p), none, none, none] H1
  refine seq_of (Dv.s_for (K := K) (it_rng1 (σ := [some (.ref g), some (.int wide), some (.int most), some (.ref p), none, none, none]) (n := (wide : Nat)) (Dv.ea_cons (Dv.ev_var (i := 1) rfl (.int (wide : Int))) Dv.ea_nil) (by omega) (by omega)) k1.fh
    (fun n σ' F' H' => (∃ y1 y2, σ' = [some (.ref g), some (.int wide), some (.int most), some (.ref p), y1, y2, none]) ∧ GrG g F H F' H' ∧ GenAt H' g (c + n) ∧ F' p = none ∧ ∃ vs rs, H' p = some (.lst vs) ∧ DpAll K F' vs ((stuffsOf rs).map encStuff) ∧ rs.length = n ∧ ∀ r ∈ rs, RoomIn r)
    (fun F' H' g2 => ?_) ?_ (fun σ' F' H' e1 e2 pv => ?_))
  · obtain ⟨k2, hg2⟩ := hg1.of g2 k1.fg
    have k3 := g2.keep p3 p2
    exact ⟨⟨none, none, rfl⟩, k1.trans k2, hg2, k3.2, [], [], k3.1, .nil, rfl, fun h hh => nomatch hh⟩
  · rintro Fb eb n σ' F2 H2 u du F3 H3 hdu e1 e2 ⟨⟨y1, y2, rfl⟩, kk, hg2, fp, vs, rs, hp, hds, hl, hro⟩ g3 hu3
    rw [Int.toNat_natCast, List.getElem?_map] at hdu
    obtain ⟨i, hi, rfl⟩ := Option.map_eq_some_iff.mp hdu
    have hi2 := List.getElem?_eq_some_iff.mp hi
    obtain ⟨hn, hi3⟩ := hi2
    rw [List.length_range] at hn
    rw [List.getElem_range] at hi3
    subst hi3
    cases hu3
    obtain ⟨k3, hg3⟩ := hg2.of g3 kk.fg
    have kp3 := g3.keep hp fp
    dsimp only
    show tSeq _ _ _ [some (.ref g), some (.int wide), some (.int most), some (.ref p), some (.int (n : Int)), y2, none] H3
    refine seq_of (sr_asg (K := K) (g := g) (k := 1) (c := c + n) (dr_ixL (ds := [.none, .int 1, .int 2, .int 3, .int 0, .none]) (EvL.ev (Dv.el_lst (Dv.ea_cons Dv.ev_non (Dv.ea_cons (Dv.ev_int 1) (Dv.ea_cons (Dv.ev_int 2) (Dv.ea_cons (Dv.ev_int 3) (Dv.ea_cons (Dv.ev_int 0) (Dv.ea_cons Dv.ev_non Dv.ea_nil)))))) (by simp))) (fun F3 _ => dr_random (i := 0) rfl (by decide) (by decide) (by decide +kernel))) k3.fh k3.fg hg3 (by omega) fun rv F4 H4 d k4 hg4 hm hrv => ?_)
    obtain ⟨r, rfl, hr⟩ : ∃ r : Option Int, d = encRoom r ∧ RoomIn r := by
      simp only [List.mem_cons, List.not_mem_nil, or_false] at hm
      rcases hm with rfl | rfl | rfl | rfl | rfl | rfl
      · exact ⟨none, rfl, by simp [RoomIn]⟩
      · exact ⟨some 1, rfl, by simp [RoomIn]⟩
      · exact ⟨some 2, rfl, by simp [RoomIn]⟩
      · exact ⟨some 3, rfl, by simp [RoomIn]⟩
      · exact ⟨some 0, rfl, by simp [RoomIn]⟩
      · exact ⟨none, rfl, by simp [RoomIn]⟩
    have kp4 := k4.keep kp3.1 kp3.2 pg
    dsimp only
    show tSeq _ _ _ [some (.ref g), some (.int wide), some (.int most), some (.ref p), some (.int (n : Int)), some rv, none] H4
    have kt4 := (kk.trans k3).trans k4
    have hds4 := dps_ex (k3.fx.trans k4.fx) hds
    have dp4 : Dp K (upd F4 p (.lst vs)) (.ref p) (.list ((stuffsOf rs).map encStuff)) := .lst (SqL.of upd_same) (dps_ex (Ex.new kp4.2) hds4)
    have sl : (stuffsOf rs).length ≤ 3 := by rw [stuffs_len]; omega
    have lc := lc_rule (K := K) (F := upd F4 p (.lst vs)) (te := tVar 6) (vs := [6]) (tt := tTest (tOp rNotN (tOp (rIxT K) (tVar 6) (tC (.int 1))) (tC .non))) (g := gName 6) (σ := [some (.ref g), some (.int wide), some (.int most), some (.ref p), some (.int (n : Int)), some rv, none]) (stuffsOf rs) encStuff encStuff (fun z => !(nonB (encRoom z.2))) (it_list (Dv.ev_var (i := 3) rfl dp4)) (by omega)
      (fun z _ w F8 e8 hw => ⟨[some (.ref g), some (.int wide), some (.int most), some (.ref p), some (.int (n : Int)), some rv, some w], fun H e Q q => q, rfl, et_test (ev_notNR (Dv.ev_ixT (d := encRoom z.2) (Dv.ev_var (i := 6) rfl hw) (Dv.ev_int 1) rfl)), fun _ => Dv.ev_var (i := 6) rfl hw⟩)
    have ln := ev_len (EvL.ev lc) rfl (by
      rw [List.length_map]
      have := List.length_filter_le (fun z : Str × Option Int => !(nonB (encRoom z.2))) (stuffsOf rs)
      omega)
    have tst := et_v (Dv.ev_eqI ln (Dv.ev_var (i := 2) rfl (.int most))) rfl
    have fin : ∀ (F5 H5 : Hp) (bv : V) (r1 : Option Int), GrG g F4 H4 F5 H5 → GenAt H5 g (c + n + 1) → H5 p = some (.lst vs) → F5 p = none → Dp K F5 bv (encRoom r1) → RoomIn r1 →
        tDrop (tBM K "list" rAppend (tVar 3) (tCons (tTup (tCons (tOp rIxS (tC (.str "abc")) (tVar 4)) (tCons (tVar 5) tNil))) tNil)) { nx := NxP Fb fun σ' F' H' => (∃ y1 y2, σ' = [some (.ref g), some (.int wide), some (.int most), some (.ref p), y1, y2, none]) ∧ GrG g F H F' H' ∧ GenAt H' g (c + (n + 1)) ∧ F' p = none ∧ ∃ vs rs, H' p = some (.lst vs) ∧ DpAll K F' vs ((stuffsOf rs).map encStuff) ∧ rs.length = n + 1 ∧ ∀ r ∈ rs, RoomIn r, rt := Q } [some (.ref g), some (.int wide), some (.int most), some (.ref p), some (.int (n : Int)), some bv, none] H5 := fun F5 H5 bv r1 k5 hg5 hp5 fp5 hbv hr1 => by
      have vl : vs.length = n := by rw [dps_len hds, List.length_map, stuffs_len, hl]
      have kt := kt4.trans k5
      have xx : Ex F2 F5 := (k3.fx.trans k4.fx).trans k5.fx
      have h4 : n < ("abc" : Str).cps.toList.length := Nat.lt_of_lt_of_le (show n < 3 by omega) (by decide +kernel)
      refine Dv.s_app (K := K) (F := F5) (d := encStuff (chr "abc" n, r1)) (l := p) (xs := vs) (i := 3) hp5 fp5 rfl (Dv.ev_tup (Dv.ea_cons (Dv.ev_ixS (x := ("abc" : Str)) (c := (("abc" : Str).cps.toList)[n]?.getD 0) (Dv.ev_str _) (Dv.ev_var (i := 4) rfl (.int _)) (by decide +kernel) (atI_nat (by rw [List.getElem?_eq_getElem h4] <;> rfl))) (Dv.ea_cons (Dv.ev_var (i := 5) rfl hbv) Dv.ea_nil)) (by simp)) k5.fh (by omega) fun v2 F6 H6 g6 hv6 f6 h6 => ?_
      obtain ⟨k6, hg6⟩ := hg5.of g6 k5.fg
      refine ⟨F6, e1.trans (xx.trans k6.fx), Ex.mut k6.fh f6, ⟨_, _, rfl⟩, (kt.trans k6).mut p1 f6 pg, (hg6.upd pg).mono (by omega), f6, vs ++ [v2], rs ++ [r1], upd_same, ?_, by rw [List.length_append, hl]; rfl, fun y hy => ?_⟩
      · rw [stuffs_snoc, hl, List.map_append]
        exact dps_app (dps_ex (xx.trans k6.fx) hds) (.cons hv6 .nil)
      · rcases List.mem_append.mp hy with h1 | h1
        · exact hro y h1
        · rw [List.mem_singleton.mp h1]
          exact hr1
    have rIn : RoomIn none := by simp [RoomIn]
    refine seq_of (et_trk tst k4.fh kp4.2 kp4.1 fun F5 H5 g5 fp5 hp5 => ?_)
    obtain ⟨k5, hg5⟩ := hg4.of g5 k4.fg
    refine ite2 (fun _ => ?_) (fun _ => ?_)
    · refine Dv.s_asg (K := K) (F := F5) (d := encRoom none) Dv.ev_non g5.fh fun nv F6 H6 g6 hnv => ?_
      obtain ⟨k6, hg6⟩ := hg5.of g6 k5.fg
      have kp6 := g6.keep hp5 fp5
      exact fin F6 H6 nv none (k5.trans k6) hg6 kp6.1 kp6.2 hnv rIn
    · exact fin F5 H5 rv r k5 hg5 hp5 fp5 (dp_ex k5.fx hrv) hr
  · obtain ⟨⟨y1, y2, rfl⟩, kk, hg2, fp, vs, rs, hp, hds, hl, hro⟩ := pv
    have ll : ((List.range ((wide : Int)).toNat).map fun i : Nat => PyData.int (i : Int)).length = wide := by
      rw [List.length_map, List.length_range]
      omega
    rw [ll] at hg2 hl
    dsimp only
    exact ⟨_, rfl, q _ _ _ rs (kk.take p1 fp pg hp) (hg2.mono (by omega)) hl hro (.lst (SqL.of upd_same) (dps_ex (Ex.new fp) hds))⟩
end
end R3

set_option Elab.async false
set_option linter.all false
set_option maxRecDepth 100000
set_option maxHeartbeats 4000000
namespace R3
open PySem PySem.Spec PyProof.Rows L2 Evl Dv StX
open Qa (toF Sx)
def partsOf (stuffs : List (Str × Option Int)) (ns : List Int) : List (Str × Int) := (stuffs.zip ns).filterMap fun z => if 0 < z.2 then some (z.1.1, z.2) else none
theorem parts_snoc {stuffs : List (Str × Option Int)} {ns : List Int} {s : Str × Option Int} {n : Int} (h : stuffs.length = ns.length) : partsOf (stuffs ++ [s]) (ns ++ [n]) = partsOf stuffs ns ++ if 0 < n then [(s.1, n)] else [] := by
  unfold partsOf
  rw [List.zip_append h, List.filterMap_append]
  congr 1
  show List.filterMap _ [(s, n)] = _
  by_cases hn : 0 < n <;> simp [hn]
theorem parts_len {stuffs : List (Str × Option Int)} {ns : List Int} : (partsOf stuffs ns).length ≤ stuffs.length := by
  unfold partsOf
  refine Nat.le_trans (List.length_filterMap_le _ _) ?_
  rw [List.length_zip]
  omega
def NumIn (n : Int) : Prop := 0 ≤ n ∧ n ≤ 3
section
variable {P : Program} {w : World} {K : PySem.W.Frag} {mg : Str → Option Value} {base : Heap}
def spRecipeDrawn (K : PySem.W.Frag) : Sp := fun vs H Q _ => ∃ (F : Hp) (g : Addr) (c : Nat) (v : V) (sf : List (Str × Option Int)), vs = [.ref g, v] ∧ Ex F H ∧ F g = none ∧ GenAt H g c ∧ c < 990000 ∧ Dp K F v (.list (sf.map encStuff)) ∧ sf.length ≤ 3 ∧
  ∀ x F' H' ts gs, GrG g F H F' H' → GenAt H' g (c + 6) → ts.length = sf.length → gs.length = sf.length → (∀ n ∈ ts, NumIn n) → (∀ n ∈ gs, NumIn n) → Dp K F' x (encRecipe ("r", partsOf sf ts, partsOf sf gs)) → Q x H'
theorem sc__law_recipe_drawn : FnScope (["generator", "stuffs", "takes", "gives", "name", "room", "less", "more"] : List Str) (["generator", "stuffs"] : List Str) (defScope sLawRecipeDrawn) := ⟨rfl, rfl, rfl, by decide +kernel, rfl, by decide +kernel, by decide +kernel⟩
theorem ok_law_recipe_drawn (D : Def K mg "_law_recipe_drawn" sLawRecipeDrawn ["generator", "stuffs"]) (C__law_random : Cal P w K mg base "_law_random" ["generator", "bound"] 2 spRandom) :
    Cal P w K mg base "_law_recipe_drawn" ["generator", "stuffs"] 3 (spRecipeDrawn K) := by
  refine cal_mk D sc__law_recipe_drawn (fun vs H Q E h => ?_) (fun f cdv A outer s H vs Q E hr h => ?_)
  · obtain ⟨F, g, c, v, sf, rfl, _⟩ := h
    rfl
  obtain ⟨F, g, c, v, sf, rfl, e, fg, hg, hc, hv, l3, q⟩ := h
  refine ⟨_, (pss_cons (ps_par (i := 2) (j := 3) (by rfl) sc__law_recipe_drawn.nd rfl rfl (by decide) rfl rfl (pa_cons (pe_lst pa_nil) (pa_cons (pe_lst pa_nil) pa_nil)) (by rfl))
      (pss_cons (ps_for PassesOwn.never rfl (pi_list (pv 1)) (pg_tup (by rfl) (pgs_cons (pg_name (i := 4) sc__law_recipe_drawn.nd rfl (.inl rfl)) (pgs_cons (pg_name (i := 5) sc__law_recipe_drawn.nd rfl (.inl rfl)) pgs_nil))) (pss_cons (ps_par (i := 6) (j := 7) (by rfl) sc__law_recipe_drawn.nd rfl rfl (by decide) rfl rfl (pa_cons (pe_ix ix_list (pe_lst (pa_cons pe_int (pa_cons pe_int (pa_cons pe_int (pa_cons pe_int (pa_cons pe_int pa_nil)))))) (pe_callC C__law_random hr (pa_cons (pv 0) (pa_cons pe_int pa_nil))) (fun _ _ => rfl)) (pa_cons (pe_ix ix_list (pe_lst (pa_cons pe_int (pa_cons pe_int (pa_cons pe_int (pa_cons pe_int (pa_cons pe_int pa_nil)))))) (pe_callC C__law_random hr (pa_cons (pv 0) (pa_cons pe_int pa_nil))) (fun _ _ => rfl)) pa_nil)) (by rfl))
      (pss_cons (ps_if (pt_cmpR op_gt (pv 6) pe_int (nomark _)) (pss_one (ps_expr (pe_bm PySem.F.plainAttrs_list PySem.F.slot_list_append PySem.F.type_list_append mt_append (pv 2) (pa_cons (pe_tup (pa_cons (pv 4) (pa_cons (pv 6) pa_nil))) pa_nil)))) pss_nil)
      (pss_one (ps_if (pt_cmpR op_gt (pv 7) pe_int (nomark _)) (pss_one (ps_expr (pe_bm PySem.F.plainAttrs_list PySem.F.slot_list_append PySem.F.type_list_append mt_append (pv 3) (pa_cons (pe_tup (pa_cons (pv 4) (pa_cons (pv 7) pa_nil))) pa_nil)))) pss_nil)))))
      (pss_one (ps_ret (pe_tup (pa_cons pe_str (pa_cons (pv 2) (pa_cons (pv 3) pa_nil)))))))), ?_⟩
  have st : start ["generator", "stuffs", "takes", "gives", "name", "room", "less", "more"] [V.ref g, v] = [some (.ref g), some v, none, none, none, none, none, none] := rfl
  rw [st]
  refine seq_of (s_parLL (K := K) (Dv.el_lst Dv.ea_nil (by simp)) (Dv.el_lst Dv.ea_nil (by simp)) e fun p r us ws F1 H1 g1 np fp hp dp1 npr nr fr hr2 dr2 => ?_)
  cases dp1
  cases dr2
  have pg : p ≠ g := hg.ne np
  have rg : r ≠ g := hg.ne nr
  obtain ⟨k1, hg1⟩ := hg.of g1 fg
  dsimp only
  show tSeq _ _ _ [some (.ref g), some v, some (.ref p), some (.ref r), none, none, none, none] H1
  refine seq_of (Dv.s_for (K := K) (it_list (σ := [some (.ref g), some v, some (.ref p), some (.ref r), none, none, none, none]) (Dv.ev_var (i := 1) rfl (dp_ex k1.fx hv))) k1.fh
    (fun n σ' F' H' => (∃ y1 y2 y3 y4, σ' = [some (.ref g), some v, some (.ref p), some (.ref r), y1, y2, y3, y4]) ∧ GrG g F H F' H' ∧ GenAt H' g (c + 2 * n) ∧ F' p = none ∧ F' r = none ∧ ∃ us ws ts gs, H' p = some (.lst us) ∧ DpAll K F' us ((partsOf (sf.take n) ts).map encPart) ∧ H' r = some (.lst ws) ∧ DpAll K F' ws ((partsOf (sf.take n) gs).map encPart) ∧ ts.length = n ∧ gs.length = n ∧ (∀ m ∈ ts, NumIn m) ∧ ∀ m ∈ gs, NumIn m)
    (fun F' H' g2 => ?_) ?_ (fun σ' F' H' e1 e2 pv => ?_))
  · obtain ⟨k2, hg2⟩ := hg1.of g2 k1.fg
    have kp := g2.keep hp fp
    have kr := g2.keep hr2 fr
    exact ⟨⟨none, none, none, none, rfl⟩, k1.trans k2, hg2, kp.2, kr.2, [], [], [], [], kp.1, .nil, kr.1, .nil, rfl, rfl, (fun h hh => nomatch hh), fun h hh => nomatch hh⟩
  · rintro Fb eb n σ' F2 H2 u du F3 H3 hdu e1 e2 ⟨⟨y1, y2, y3, y4, rfl⟩, kk, hg2, fp2, fr2, us, ws, ts, gs, hp2, hus, hr3, hws, lts, lgs, nts, ngs⟩ g3 hu3
    obtain ⟨hn, hdn⟩ := List.getElem?_eq_some_iff.mp hdu
    rw [List.length_map] at hn
    rw [List.getElem_map] at hdn
    subst hdn
    have htk : sf.take (n + 1) = sf.take n ++ [sf[n]] := List.take_succ_eq_append_getElem hn
    have ltk : (sf.take n).length = n := by rw [List.length_take]; omega
    have pl1 := Nat.le_trans (parts_len (stuffs := sf.take n) (ns := ts)) (show (sf.take n).length ≤ 3 by omega)
    have pl2 := Nat.le_trans (parts_len (stuffs := sf.take n) (ns := gs)) (show (sf.take n).length ≤ 3 by omega)
    rw [htk]
    generalize sf[n] = z at *
    obtain ⟨nm, room⟩ := z
    obtain ⟨k3, hg3⟩ := hg2.of g3 kk.fg
    have kp3 := g3.keep hp2 fp2
    have kr3 := g3.keep hr3 fr2
    obtain ⟨z1, z2, hz1, hz2, ht⟩ := tup2 hu3
    refine ht 4 5 _ H3 g3.fh _ ?_
    dsimp only
    show tSeq _ _ _ [some (.ref g), some v, some (.ref p), some (.ref r), some z1, some z2, y3, y4] H3
    have dd : DrD K g 1 (tOp (rIxL K) (tLst (tCons (tC (.int 0)) (tCons (tC (.int 0)) (tCons (tC (.int 1)) (tCons (tC (.int 2)) (tCons (tC (.int 3)) tNil)))))) (tCall spRandom [] E0 (tCons (tVar 0) (tCons (tC (.int 5)) tNil)))) [some (.ref g), some v, some (.ref p), some (.ref r), some z1, some z2, y3, y4] F3 (fun d => ∃ m : Int, d = .int m ∧ NumIn m) :=
      (dr_ixL (ds := [.int 0, .int 0, .int 1, .int 2, .int 3]) (EvL.ev (Dv.el_lst (Dv.ea_cons (Dv.ev_int 0) (Dv.ea_cons (Dv.ev_int 0) (Dv.ea_cons (Dv.ev_int 1) (Dv.ea_cons (Dv.ev_int 2) (Dv.ea_cons (Dv.ev_int 3) Dv.ea_nil))))) (by simp))) (fun F3 _ => dr_random (i := 0) rfl (by decide) (by decide) (by decide +kernel))).imp fun d hm => by
        simp only [List.mem_cons, List.not_mem_nil, or_false] at hm
        rcases hm with rfl | rfl | rfl | rfl | rfl <;> exact ⟨_, rfl, by unfold NumIn; decide⟩
    refine seq_of ((da_cons dd (da_cons dd da_nil)) H3 (c + 2 * n) k3.fh k3.fg hg3 (by omega) _ fun vs F4 H4 ds k4 hg4 hds hvs => ?_)
    obtain ⟨d1, r1, rfl, ⟨a, rfl, ha⟩, d2, r2, rfl, ⟨b, rfl, hb⟩, rfl⟩ := hds
    obtain ⟨v1, v2, rfl, hv1, hv2⟩ := Dv.two hvs
    cases hv1
    cases hv2
    refine ⟨_, _, rfl, ?_⟩
    have kp4 := k4.keep kp3.1 kp3.2 pg
    have kr4 := k4.keep kr3.1 kr3.2 rg
    dsimp only
    show tSeq _ _ _ [some (.ref g), some v, some (.ref p), some (.ref r), some z1, some z2, some (.int a), some (.int b)] H4
    have kt4 := (kk.trans k3).trans k4
    have x24 := k3.fx.trans k4.fx
    have hz14 := dp_ex k4.fx hz1
    have ul : us.length ≤ 3 := by rw [dps_len hus, List.length_map]; exact pl1
    have wl : ws.length ≤ 3 := by rw [dps_len hws, List.length_map]; exact pl2
    have gt : ∀ (m : Int) (i : Nat) (F' : Hp), [some (V.ref g), some v, some (.ref p), some (.ref r), some z1, some z2, some (.int a), some (.int b)][i]? = some (some (.int m)) → EtD (tTest (tOp (rI0 fun i j => V.bl (decide (j < i))) (tVar i) (tC (.int 0)))) [some (.ref g), some v, some (.ref p), some (.ref r), some z1, some z2, some (.int a), some (.int b)] F' (decide (0 < m)) := fun m i F' hi => et_v (K := K) (d := .bool (decide (0 < m))) (Dv.ev_I0 (g := fun i j => V.bl (decide (j < i))) (i := m) (j := 0) (fun _ => .bl _) (Dv.ev_var (i := i) hi (.int _)) (Dv.ev_int 0)) rfl
    -- both lists, the second
    have fin2 : ∀ (F5 H5 : Hp) (us' : List V), GrG g F H F5 H5 → Ex F4 F5 → GenAt H5 g (c + 2 * n + 2) → H5 p = some (.lst us') → F5 p = none → DpAll K F5 us' ((partsOf (sf.take n ++ [(nm, room)]) (ts ++ [a])).map encPart) → H5 r = some (.lst ws) → F5 r = none →
        tIfS (tTest (tOp (rI0 fun i j => V.bl (decide (j < i))) (tVar 7) (tC (.int 0)))) (tDrop (tBM K "list" rAppend (tVar 3) (tCons (tTup (tCons (tVar 4) (tCons (tVar 7) tNil))) tNil))) tNext { nx := NxP Fb fun σ' F' H' => (∃ y1 y2 y3 y4, σ' = [some (.ref g), some v, some (.ref p), some (.ref r), y1, y2, y3, y4]) ∧ GrG g F H F' H' ∧ GenAt H' g (c + 2 * (n + 1)) ∧ F' p = none ∧ F' r = none ∧ ∃ us ws ts gs, H' p = some (.lst us) ∧ DpAll K F' us ((partsOf (sf.take n ++ [(nm, room)]) ts).map encPart) ∧ H' r = some (.lst ws) ∧ DpAll K F' ws ((partsOf (sf.take n ++ [(nm, room)]) gs).map encPart) ∧ ts.length = n + 1 ∧ gs.length = n + 1 ∧ (∀ m ∈ ts, NumIn m) ∧ ∀ m ∈ gs, NumIn m, rt := Q } [some (.ref g), some v, some (.ref p), some (.ref r), some z1, some z2, some (.int a), some (.int b)] H5 := fun F5 H5 us' kt5 x45 hg5 hp5 fp5 hus5 hr5 fr5 => by
      have nts' : ∀ m ∈ ts ++ [a], NumIn m := fun m hm => by
        rcases List.mem_append.mp hm with h1 | h1
        · exact nts m h1
        · rw [List.mem_singleton.mp h1]; exact ha
      have ngs' : ∀ m ∈ gs ++ [b], NumIn m := fun m hm => by
        rcases List.mem_append.mp hm with h1 | h1
        · exact ngs m h1
        · rw [List.mem_singleton.mp h1]; exact hb
      have x25 := x24.trans x45
      by_cases hb0 : 0 < b
      · refine s_ifT (et_is (gt b 7 F5 rfl) (decide_eq_true hb0)) kt5.fh fun F6 H6 g6 => ?_
        obtain ⟨k6, hg6⟩ := hg5.of g6 kt5.fg
        have kp6 := g6.keep hp5 fp5
        have kr6 := g6.keep hr5 fr5
        refine Dv.s_app (K := K) (F := F6) (d := encPart (nm, b)) (l := r) (xs := ws) (i := 3) kr6.1 kr6.2 rfl (Dv.ev_tup (Dv.ea_cons (Dv.ev_var (i := 4) rfl (dp_ex (x45.trans k6.fx) hz14)) (Dv.ea_cons (Dv.ev_var (i := 7) rfl (.int _)) Dv.ea_nil)) (by simp)) k6.fh (by omega) fun v2 F7 H7 g7 hv7 f7 h7 => ?_
        obtain ⟨k7, hg7⟩ := hg6.of g7 k6.fg
        have kp7 := g7.keep kp6.1 kp6.2
        refine ⟨F7, e1.trans (x25.trans (k6.fx.trans k7.fx)), Ex.mut k7.fh f7, ⟨_, _, _, _, rfl⟩, ((kt5.trans k6).trans k7).mut nr f7 rg, (hg7.upd rg).mono (by omega), kp7.2, f7, us', ws ++ [v2], ts ++ [a], gs ++ [b], by rw [upd_ne npr]; exact kp7.1, dps_ex (k6.fx.trans k7.fx) hus5, upd_same, ?_, by rw [List.length_append, lts]; rfl, by rw [List.length_append, lgs]; rfl, nts', ngs'⟩
        rw [parts_snoc (by omega), if_pos hb0, List.map_append]
        exact dps_app (dps_ex (x25.trans (k6.fx.trans k7.fx)) hws) (.cons hv7 .nil)
      · refine s_ifF (et_is (gt b 7 F5 rfl) (decide_eq_false hb0)) kt5.fh fun F6 H6 g6 => ?_
        obtain ⟨k6, hg6⟩ := hg5.of g6 kt5.fg
        have kp6 := g6.keep hp5 fp5
        have kr6 := g6.keep hr5 fr5
        refine ⟨F6, e1.trans (x25.trans k6.fx), k6.fh, ⟨_, _, _, _, rfl⟩, kt5.trans k6, hg6.mono (by omega), kp6.2, kr6.2, us', ws, ts ++ [a], gs ++ [b], kp6.1, dps_ex k6.fx hus5, kr6.1, ?_, by rw [List.length_append, lts]; rfl, by rw [List.length_append, lgs]; rfl, nts', ngs'⟩
        rw [parts_snoc (by omega), if_neg hb0, List.append_nil]
        exact dps_ex (x25.trans k6.fx) hws
    by_cases ha0 : 0 < a
    · refine seq_of (s_ifT (et_is (gt a 6 F4 rfl) (decide_eq_true ha0)) k4.fh fun F5 H5 g5 => ?_)
      obtain ⟨k5, hg5⟩ := hg4.of g5 k4.fg
      have kp5 := g5.keep kp4.1 kp4.2
      have kr5 := g5.keep kr4.1 kr4.2
      refine Dv.s_app (K := K) (F := F5) (d := encPart (nm, a)) (l := p) (xs := us) (i := 2) kp5.1 kp5.2 rfl (Dv.ev_tup (Dv.ea_cons (Dv.ev_var (i := 4) rfl (dp_ex k5.fx hz14)) (Dv.ea_cons (Dv.ev_var (i := 6) rfl (.int _)) Dv.ea_nil)) (by simp)) k5.fh (by omega) fun v2 F6 H6 g6 hv6 f6 h6 => ?_
      obtain ⟨k6, hg6⟩ := hg5.of g6 k5.fg
      have kr6 := g6.keep kr5.1 kr5.2
      refine fin2 F6 _ (us ++ [v2]) (((kt4.trans k5).trans k6).mut np f6 pg) (k5.fx.trans k6.fx) ((hg6.upd pg).mono (by omega)) upd_same f6 ?_ (by rw [upd_ne (Ne.symm npr)]; exact kr6.1) kr6.2
      rw [parts_snoc (by omega), if_pos ha0, List.map_append]
      exact dps_app (dps_ex (x24.trans (k5.fx.trans k6.fx)) hus) (.cons hv6 .nil)
    · refine seq_of (s_ifF (et_is (gt a 6 F4 rfl) (decide_eq_false ha0)) k4.fh fun F5 H5 g5 => ?_)
      obtain ⟨k5, hg5⟩ := hg4.of g5 k4.fg
      have kp5 := g5.keep kp4.1 kp4.2
      have kr5 := g5.keep kr4.1 kr4.2
      refine fin2 F5 H5 us (kt4.trans k5) k5.fx (hg5.mono (by omega)) kp5.1 kp5.2 ?_ kr5.1 kr5.2
      rw [parts_snoc (by omega), if_neg ha0, List.append_nil]
      exact dps_ex (x24.trans k5.fx) hus
  · obtain ⟨⟨y1, y2, y3, y4, rfl⟩, kk, hg2, fp2, fr2, us, ws, ts, gs, hp2, hus, hr3, hws, lts, lgs, nts, ngs⟩ := pv
    rw [List.length_map] at hg2 lts lgs hus hws
    rw [List.take_length] at hus hws
    dsimp only
    have t1 := kk.take np fp2 pg hp2
    have fr3 : upd F' p (.lst us) r = none := by rw [upd_ne (Ne.symm npr)]; exact fr2
    have t2 := t1.take nr fr3 rg hr3
    have x2 : Ex F' (upd (upd F' p (.lst us)) r (.lst ws)) := (Ex.new fp2).trans (Ex.new fr3)
    refine Dv.s_ret (K := K) (F := upd (upd F' p (.lst us)) r (.lst ws)) (d := encRecipe ("r", partsOf sf ts, partsOf sf gs)) (Dv.ev_tup (Dv.ea_cons (Dv.ev_str _) (Dv.ea_cons (Dv.ev_var (i := 2) rfl (.lst (SqL.of (by rw [upd_ne npr]; exact upd_same)) (dps_ex x2 hus))) (Dv.ea_cons (Dv.ev_var (i := 3) rfl (.lst (SqL.of upd_same) (dps_ex x2 hws))) Dv.ea_nil))) (by simp)) t2.fh fun x F3 H3 g3 hx => ?_
    obtain ⟨k3, hg3⟩ := hg2.of g3 t2.fg
    exact q x F3 H3 ts gs (t2.trans k3) (hg3.mono (by omega)) lts lgs nts ngs hx
end
end R3

set_option Elab.async false
set_option linter.all false
set_option maxRecDepth 100000
set_option maxHeartbeats 4000000
namespace R3
open PySem PySem.Spec PyProof.Rows L2 Evl Dv StX
open Qa (toF Sx)
structure BxOk (room : Option Int) (z : Rat × Rat) : Prop where
  n : 0 ≤ z.1
  l : z.1 ≤ z.2
  u : ∀ k, room = some k → z.2 ≤ (k : Rat)
  s1 : Sx 180 z.1
  s2 : Sx 180 z.2
section
variable {P : Program} {w : World} {K : PySem.W.Frag} {mg : Str → Option Value} {base : Heap}
theorem dr_bet {g : Addr} {σ : L2.St} {F : Hp} {i j : Nat} {hv : V} {k : Int} (hi : σ[i]? = some (some (.ref g))) (hj : σ[j]? = some (some hv)) (dh : Dp K F hv (encR (k : Rat))) (k0 : 0 ≤ k) (k3 : k ≤ 3) :
    DrD K g 1 (tCall (spBetween K) [] E0 (tCons (tVar i) (tCons (tTup (tCons (tC (.int 0)) (tCons (tC (.int 1)) tNil))) (tCons (tVar j) tNil)))) σ F (fun d => ∃ q : Rat, d = encR q ∧ 0 ≤ q ∧ q ≤ (k : Rat) ∧ Sx 180 q) := by
  intro H c e f hg hc Q q
  refine ⟨_, hi, Dv.ev_tup (K := K) (F := F) (σ := σ) (Dv.ea_cons (Dv.ev_int 0) (Dv.ea_cons (Dv.ev_int 1) Dv.ea_nil)) (by simp) H e _ fun lv F1 H1 g1 hlv => ?_⟩
  obtain ⟨k1, hg1⟩ := hg.of g1 f
  exact ⟨_, hj, F1, g, c, lv, hv, k, rfl, k1.fh, k1.fg, hg1, hc, k0, k3, hlv, dp_ex k1.fx dh, fun x F' H' qq kk hg' h1 h2 h3 h4 => q x F' H' _ (k1.trans kk) hg' ⟨qq, rfl, h1, h2, h3⟩ h4⟩
def spBoxDrawn (K : PySem.W.Frag) : Sp := fun vs H Q _ => ∃ (F : Hp) (g : Addr) (c : Nat) (v : V) (sf : List (Str × Option Int)), vs = [.ref g, v, .int 3] ∧ Ex F H ∧ F g = none ∧ GenAt H g c ∧ c < 990000 ∧ Dp K F v (.list (sf.map encStuff)) ∧ sf.length ≤ 3 ∧ (∀ s ∈ sf, RoomIn s.2) ∧
  ∀ x F' H' bx, GrG g F H F' H' → GenAt H' g (c + 9) → bx.length = sf.length → (∀ z ∈ sf.zip bx, BxOk z.1.2 z.2) → Dp K F' x (.list (bx.map encBd)) → Q x H'
theorem sc__law_box_drawn : FnScope (["generator", "stuffs", "most", "box_here", "name", "room", "high", "one", "other", "item"] : List Str) (["generator", "stuffs", "most"] : List Str) (defScope sLawBoxDrawn) := ⟨rfl, rfl, rfl, by decide +kernel, rfl, by decide +kernel, by decide +kernel⟩
theorem ok_law_box_drawn (D : Def K mg "_law_box_drawn" sLawBoxDrawn ["generator", "stuffs", "most"]) (B : Bl mg) (C__law_random : Cal P w K mg base "_law_random" ["generator", "bound"] 2 spRandom) (C__law_fraction : Cal P w K mg base "_law_fraction" ["top", "under"] 1 (spD K fFrac)) (C__law_between : Cal P w K mg base "_law_between" ["generator", "low", "high"] 3 (spBetween K)) (C__law_fewer : Cal P w K mg base "_law_fewer" ["one", "other"] 2 (spD K fLesser)) (C__law_more : Cal P w K mg base "_law_more" ["one", "other"] 2 (spD K fMore)) :
    Cal P w K mg base "_law_box_drawn" ["generator", "stuffs", "most"] 4 (spBoxDrawn K) := by
  refine cal_mk D sc__law_box_drawn (fun vs H Q E h => ?_) (fun f cdv A outer s H vs Q E hr h => ?_)
  · obtain ⟨F, g, c, v, sf, rfl, _⟩ := h
    rfl
  obtain ⟨F, g, c, v, sf, rfl, e, fg, hg, hc, hv, l3, hri, q⟩ := h
  refine ⟨_, (pss_cons (ps_set (i := 3) sc__law_box_drawn.nd rfl (.inl rfl) (pe_lst pa_nil))
      (pss_cons (ps_for PassesOwn.never rfl (pi_list (pv 1)) (pg_tup (by rfl) (pgs_cons (pg_name (i := 4) sc__law_box_drawn.nd rfl (.inl rfl)) (pgs_cons (pg_name (i := 5) sc__law_box_drawn.nd rfl (.inl rfl)) pgs_nil))) (pss_cons (ps_set (i := 6) sc__law_box_drawn.nd rfl (.inl rfl) (pe_callC C__law_fraction hr (pa_cons (pe_ix ix_list (pe_lst (pa_cons (pv 5) (pa_cons pe_int pa_nil))) (pe_callTy call_int1 (by rfl) B.int (by decide +kernel) (pa_cons (pe_cmpR op_isN (pv 5) pe_non (nomark _)) pa_nil)) (fun _ _ => rfl)) (pa_cons pe_int pa_nil))))
      (pss_cons (ps_par (i := 7) (j := 8) (by rfl) sc__law_box_drawn.nd rfl rfl (by decide) rfl rfl (pa_cons (pe_callC C__law_between hr (pa_cons (pv 0) (pa_cons (pe_tup (pa_cons pe_int (pa_cons pe_int pa_nil))) (pa_cons (pv 6) pa_nil)))) (pa_cons (pe_callC C__law_between hr (pa_cons (pv 0) (pa_cons (pe_tup (pa_cons pe_int (pa_cons pe_int pa_nil))) (pa_cons (pv 6) pa_nil)))) pa_nil)) (by rfl))
      (pss_cons (ps_if (PW.pt (pw_or (pt_cmpR op_eq (pe_callB call_len (by rfl) B.len (by decide +kernel) (pa_cons (pe_lc (own := [("item", 9)]) (g := gName 9) rfl sc__law_box_drawn.nd (pi_list (pv 3)) (blkOk_by (own := [("item", 9)]) (N := ["generator", "stuffs", "most", "box_here", "name", "room", "high", "one", "other", "item"]) (sc := defScope sLawBoxDrawn) (by decide +kernel)) (fun _ _ _ _ _ => (pg_name (i := 9) sc__law_box_drawn.nd rfl (.inl rfl)))  (fun _ _ _ _ _ => (pts_one (pt_cmpR (r := rNeD K) (op_neD (by exact hr.1.units)) (pe_ix (r := rIxT K) ix_tup (pv 9) pe_int (fun _ _ => rfl)) (pe_ix (r := rIxT K) ix_tup (pv 9) pe_int (fun _ _ => rfl)) (nomark _)))) (fun _ _ _ _ _ => (pv 9))) pa_nil)) (pv 2) (nomark _)) (pw_or1 (pt_cmpR op_eq (pe_callC C__law_random hr (pa_cons (pv 0) (pa_cons pe_int pa_nil))) pe_int (nomark _))))) (pss_one (ps_set (i := 8) sc__law_box_drawn.nd rfl (.inl rfl) (pv 7))) pss_nil)
      (pss_one (ps_expr (pe_bm PySem.F.plainAttrs_list PySem.F.slot_list_append PySem.F.type_list_append mt_append (pv 3) (pa_cons (pe_tup (pa_cons (pe_callC C__law_fewer hr (pa_cons (pv 7) (pa_cons (pv 8) pa_nil))) (pa_cons (pe_callC C__law_more hr (pa_cons (pv 7) (pa_cons (pv 8) pa_nil))) pa_nil))) pa_nil))))))))
      (pss_one (ps_ret (pv 3))))), ?_⟩
  have st : start ["generator", "stuffs", "most", "box_here", "name", "room", "high", "one", "other", "item"] [V.ref g, v, .int 3] = [some (.ref g), some v, some (.int 3), none, none, none, none, none, none, none] := rfl
  rw [st]
  refine seq_of (Dv.s_asgL (K := K) (Dv.el_lst Dv.ea_nil (by simp)) e fun p vs0 F1 H1 g1 p1 p2 p3 p4 => ?_)
  cases p4
  have pg : p ≠ g := hg.ne p1
  obtain ⟨k1, hg1⟩ := hg.of g1 fg
  dsimp only
  show tSeq _ _ _ [some (.ref g), some v, some (.int 3), some (.ref p), none, none, none, none, none, none] H1
  refine seq_of (Dv.s_for (K := K) (it_list (σ := [some (.ref g), some v, some (.int 3), some (.ref p), none, none, none, none, none, none]) (Dv.ev_var (i := 1) rfl (dp_ex k1.fx hv))) k1.fh
    (fun n σ' F' H' => (∃ y1 y2 y3 y4 y5, σ' = [some (.ref g), some v, some (.int 3), some (.ref p), y1, y2, y3, y4, y5, none]) ∧ GrG g F H F' H' ∧ GenAt H' g (c + 3 * n) ∧ F' p = none ∧ ∃ vs bx, H' p = some (.lst vs) ∧ DpAll K F' vs (bx.map encBd) ∧ bx.length = n ∧ ∀ z ∈ (sf.take n).zip bx, BxOk z.1.2 z.2)
    (fun F' H' g2 => ?_) ?_ (fun σ' F' H' e1 e2 pv => ?_))
  · obtain ⟨k2, hg2⟩ := hg1.of g2 k1.fg
    have k3 := g2.keep p3 p2
    exact ⟨⟨none, none, none, none, none, rfl⟩, k1.trans k2, hg2, k3.2, [], [], k3.1, .nil, rfl, fun z hz => by simp at hz⟩
  · rintro Fb eb n σ' F2 H2 u du F3 H3 hdu e1 e2 ⟨⟨y1, y2, y3, y4, y5, rfl⟩, kk, hg2, fp, vs, bx, hp, hds, hl, hro⟩ g3 hu3
    obtain ⟨hn, hdn⟩ := List.getElem?_eq_some_iff.mp hdu
    rw [List.length_map] at hn
    rw [List.getElem_map] at hdn
    subst hdn
    have hzm : sf[n] ∈ sf := List.getElem_mem _
    have htk : sf.take (n + 1) = sf.take n ++ [sf[n]] := List.take_succ_eq_append_getElem hn
    generalize sf[n] = z at *
    obtain ⟨nm, room⟩ := z
    obtain ⟨k3, hg3⟩ := hg2.of g3 kk.fg
    have kp3 := g3.keep hp fp
    obtain ⟨z1, z2, hz1, hz2, ht⟩ := tup2 hu3
    refine ht 4 5 _ H3 g3.fh _ ?_
    dsimp only
    show tSeq _ _ _ [some (.ref g), some v, some (.int 3), some (.ref p), some z1, some z2, y3, y4, y5, none] H3
    have hri1 : RoomIn room := hri _ hzm
    have hk : 0 ≤ room.getD 3 ∧ room.getD 3 ≤ 3 := by
      unfold RoomIn at hri1
      simp only [List.mem_cons, List.not_mem_nil, or_false] at hri1
      rcases hri1 with rfl | rfl | rfl | rfl | rfl <;> decide
    have top : EvD K (tOp (rIxL K) (tLst (tCons (tVar 5) (tCons (tC (.int 3)) tNil))) (tCB (fun xs H Q => (∃ i, xs = [V.int i] ∧ Q (.int i) H) ∨ ∃ k, xs = [V.bl k] ∧ Q (.int (if k then 1 else 0)) H) (tCons (tOp rIsN (tVar 5) (tC .non)) tNil))) [some (.ref g), some v, some (.int 3), some (.ref p), some z1, some z2, y3, y4, y5, none] F3 (.int (room.getD 3)) := by
      have isn := ev_isNR (Dv.ev_var (K := K) (σ := [some (.ref g), some v, some (.int 3), some (.ref p), some z1, some z2, y3, y4, y5, none]) (i := 5) rfl hz2)
      refine Dv.ev_ixL (EvL.ev (Dv.el_lst (Dv.ea_cons (Dv.ev_var (i := 5) rfl hz2) (Dv.ea_cons (Dv.ev_int 3) Dv.ea_nil)) (by simp))) (ev_intB isn) ?_
      cases room <;> rfl
    refine seq_of (Dv.s_asg (K := K) (F := F3) (d := encR ((room.getD 3 : Int) : Rat)) (Dv.ev_is (ev_frac top (Dv.ev_int 1) (by decide) (by decide)) (by
      congr 1
      exact Rat.mkRat_one ..)) k3.fh fun hv' F4 H4 g4 hhv => ?_)
    obtain ⟨k4, hg4⟩ := hg3.of g4 k3.fg
    have kp4 := g4.keep kp3.1 kp3.2
    dsimp only
    show tSeq _ _ _ [some (.ref g), some v, some (.int 3), some (.ref p), some z1, some z2, some hv', y4, y5, none] H4
    generalize hkk : room.getD 3 = k at *
    have bt : DrD K g 1 (tCall (spBetween K) [] E0 (tCons (tVar 0) (tCons (tTup (tCons (tC (.int 0)) (tCons (tC (.int 1)) tNil))) (tCons (tVar 6) tNil)))) [some (.ref g), some v, some (.int 3), some (.ref p), some z1, some z2, some hv', y4, y5, none] F4 (fun d => ∃ q : Rat, d = encR q ∧ 0 ≤ q ∧ q ≤ (k : Rat) ∧ Sx 180 q) := dr_bet (i := 0) (j := 6) rfl rfl hhv hk.1 hk.2
    refine seq_of ((da_cons bt (da_cons bt da_nil)) H4 (c + 3 * n) k4.fh k4.fg hg4 (by omega) _ fun vs2 F5 H5 ds k5 hg5 hds2 hvs2 => ?_)
    obtain ⟨d1, r1, rfl, ⟨q1, rfl, q10, q1k, q1s⟩, d2, r2, rfl, ⟨q2, rfl, q20, q2k, q2s⟩, rfl⟩ := hds2
    obtain ⟨v1, v2, rfl, hv1, hv2⟩ := Dv.two hvs2
    refine ⟨_, _, rfl, ?_⟩
    have kp5 := k5.keep kp4.1 kp4.2 pg
    dsimp only
    show tSeq _ _ _ [some (.ref g), some v, some (.int 3), some (.ref p), some z1, some z2, some hv', some v1, some v2, none] H5
    have kt5 := ((kk.trans k3).trans k4).trans k5
    have x25 := k3.fx.trans (k4.fx.trans k5.fx)
    have dp5 : Dp K (upd F5 p (.lst vs)) (.ref p) (.list (bx.map encBd)) := .lst (SqL.of upd_same) (dps_ex (x25.trans (Ex.new kp5.2)) hds)
    have lc := lc_rule (K := K) (F := upd F5 p (.lst vs)) (te := tVar 9) (vs := [9]) (tt := tTest (tOp (rNeD K) (tOp (rIxT K) (tVar 9) (tC (.int 0))) (tOp (rIxT K) (tVar 9) (tC (.int 1))))) (g := gName 9) (σ := [some (.ref g), some v, some (.int 3), some (.ref p), some z1, some z2, some hv', some v1, some v2, none]) bx encBd encBd (fun z => !decide (z.1 = z.2)) (it_list (Dv.ev_var (i := 3) rfl dp5)) (by omega)
      (fun z _ w F8 e8 hw => ⟨[some (.ref g), some v, some (.int 3), some (.ref p), some z1, some z2, some hv', some v1, some v2, some w], fun H e Q q => q, rfl, et_test (Dv.ev_is (ev_neD (Dv.ev_ixT (d := encR z.1) (Dv.ev_var (i := 9) rfl hw) (Dv.ev_int 0) rfl) (Dv.ev_ixT (d := encR z.2) (Dv.ev_var (i := 9) rfl hw) (Dv.ev_int 1) rfl) (shaped_R _) (shaped_R _)) (by rw [eqv_R])), fun _ => Dv.ev_var (i := 9) rfl hw⟩)
    have ln := ev_len (EvL.ev lc) rfl (by
      rw [List.length_map]
      have := List.length_filter_le (fun z : Rat × Rat => !decide (z.1 = z.2)) bx
      omega)
    have tst := et_v (Dv.ev_eqI ln (Dv.ev_var (i := 2) rfl (.int 3))) rfl
    have fin : ∀ (F6 H6 : Hp) (bv : V) (q3 : Rat), GrG g F5 H5 F6 H6 → GenAt H6 g (c + 3 * n + 3) → H6 p = some (.lst vs) → F6 p = none → Dp K F6 bv (encR q3) → 0 ≤ q3 → q3 ≤ (k : Rat) → Sx 180 q3 →
        tDrop (tBM K "list" rAppend (tVar 3) (tCons (tTup (tCons (tCall (spD K fLesser) [] E0 (tCons (tVar 7) (tCons (tVar 8) tNil))) (tCons (tCall (spD K fMore) [] E0 (tCons (tVar 7) (tCons (tVar 8) tNil))) tNil))) tNil)) { nx := NxP Fb fun σ' F' H' => (∃ y1 y2 y3 y4 y5, σ' = [some (.ref g), some v, some (.int 3), some (.ref p), y1, y2, y3, y4, y5, none]) ∧ GrG g F H F' H' ∧ GenAt H' g (c + 3 * (n + 1)) ∧ F' p = none ∧ ∃ vs bx, H' p = some (.lst vs) ∧ DpAll K F' vs (bx.map encBd) ∧ bx.length = n + 1 ∧ ∀ z ∈ (sf.take (n + 1)).zip bx, BxOk z.1.2 z.2, rt := Q } [some (.ref g), some v, some (.int 3), some (.ref p), some z1, some z2, some hv', some v1, some bv, none] H6 := fun F6 H6 bv q3 k6 hg6 hp6 fp6 hbv b0 b1 b2 => by
      have vl : vs.length = n := by rw [dps_len hds, List.length_map, hl]
      have kt := kt5.trans k6
      have xx : Ex F2 F6 := x25.trans k6.fx
      have hv16 := dp_ex k6.fx hv1
      refine Dv.s_app (K := K) (F := F6) (d := encBd (if q3 < q1 then q3 else q1, if q1 < q3 then q3 else q1)) (l := p) (xs := vs) (i := 3) hp6 fp6 rfl (Dv.ev_tup (Dv.ea_cons (ev_lesser (B := 180) (C := 180) (Dv.ev_var (i := 7) rfl hv16) (Dv.ev_var (i := 8) rfl hbv) q1s b2) (Dv.ea_cons (ev_more (B := 180) (C := 180) (Dv.ev_var (i := 7) rfl hv16) (Dv.ev_var (i := 8) rfl hbv) q1s b2) Dv.ea_nil)) (by simp)) k6.fh (by omega) fun v2 F7 H7 g7 hv7 f7 h7 => ?_
      obtain ⟨k7, hg7⟩ := hg6.of g7 k6.fg
      refine ⟨F7, e1.trans (xx.trans k7.fx), Ex.mut k7.fh f7, ⟨_, _, _, _, _, rfl⟩, (kt.trans k7).mut p1 f7 pg, (hg7.upd pg).mono (by omega), f7, vs ++ [v2], bx ++ [(if q3 < q1 then q3 else q1, if q1 < q3 then q3 else q1)], upd_same, ?_, by rw [List.length_append, hl]; rfl, fun y hy => ?_⟩
      · rw [List.map_append]
        exact dps_app (dps_ex (xx.trans k7.fx) hds) (.cons hv7 .nil)
      · rw [htk, List.zip_append (by rw [List.length_take, hl]; omega)] at hy
        rcases List.mem_append.mp hy with h1 | h1
        · exact hro y h1
        · rw [show [(nm, room)].zip [((if q3 < q1 then q3 else q1, if q1 < q3 then q3 else q1) : Rat × Rat)] = [((nm, room), (if q3 < q1 then q3 else q1, if q1 < q3 then q3 else q1))] from rfl, List.mem_singleton] at h1
          rw [h1]
          have hkr : ∀ kr, room = some kr → (kr : Rat) = (k : Rat) := fun kr h => by rw [h] at hkk; rw [← hkk]; rfl
          constructor
          · dsimp only
            split <;> assumption
          · dsimp only
            split
            · rename_i h
              rw [if_neg (Rat.not_lt.mpr (Rat.le_of_lt h))]
              exact Rat.le_of_lt h
            · rename_i h
              split
              · rename_i h'
                exact Rat.le_of_lt h'
              · exact Rat.le_refl
          · intro kr hkr'
            dsimp only at hkr' ⊢
            rw [hkr kr hkr']
            split <;> assumption
          · dsimp only
            split <;> assumption
          · dsimp only
            split <;> assumption
    refine seq_of (et_trk tst k5.fh kp5.2 kp5.1 fun F6 H6 g6 fp6 hp6 => ?_)
    obtain ⟨k6, hg6⟩ := hg5.of g6 k5.fg
    refine ite2 (fun _ => ?_) (fun _ => ?_)
    · refine Dv.s_asg (K := K) (F := F6) (Dv.ev_var (i := 7) rfl (dp_ex (k6).fx hv1)) (k6).fh fun nv F8 H8 g8 hnv => ?_
      obtain ⟨k8, hg8⟩ := (hg6.mono (show c + 3 * n + 2 ≤ c + 3 * n + 3 by omega)).of g8 (k6).fg
      have kp8 := g8.keep hp6 fp6
      exact fin F8 H8 nv q1 ((k6).trans k8) hg8 kp8.1 kp8.2 hnv q10 q1k q1s
    · refine (dr_random (K := K) (g := g) (i := 0) (b := 4) rfl (by decide) (by decide) (by decide +kernel)) H6 (c + 3 * n + 2) k6.fh k6.fg (hg6.mono (by omega)) (by omega) _ fun rv F7 H7 d k7 hg7 hd hrv => ?_
      obtain ⟨r, rfl, _⟩ := hd
      cases hrv
      have kp7 := k7.keep hp6 fp6 pg
      refine ⟨rfl, _, rfl, ?_⟩
      refine ite2 (fun _ => ?_) (fun _ => ?_)
      · refine Dv.s_asg (K := K) (F := F7) (Dv.ev_var (i := 7) rfl (dp_ex (k6.trans k7).fx hv1)) (k6.trans k7).fh fun nv F8 H8 g8 hnv => ?_
        obtain ⟨k8, hg8⟩ := (hg7).of g8 (k6.trans k7).fg
        have kp8 := g8.keep kp7.1 kp7.2
        exact fin F8 H8 nv q1 ((k6.trans k7).trans k8) hg8 kp8.1 kp8.2 hnv q10 q1k q1s
      · exact fin F7 H7 v2 q2 (k6.trans k7) (hg7.mono (by omega)) kp7.1 kp7.2 (dp_ex (k6.fx.trans k7.fx) hv2) q20 q2k q2s
  · obtain ⟨⟨y1, y2, y3, y4, y5, rfl⟩, kk, hg2, fp, vs, bx, hp, hds, hl, hro⟩ := pv
    rw [List.length_map] at hg2 hl hro
    rw [List.take_length] at hro
    dsimp only
    exact ⟨_, rfl, q _ _ _ bx (kk.take p1 fp pg hp) (hg2.mono (by omega)) hl hro (.lst (SqL.of upd_same) (dps_ex (Ex.new fp) hds))⟩
end
end R3

set_option Elab.async false
set_option linter.all false
set_option maxRecDepth 100000
set_option maxHeartbeats 4000000
/-! GENERAL: a def that may raise, called where it does not; xs.append(None) of any list of H alone -/
namespace Dv
open PySem PySem.Spec PyProof.Rows L2 Evl
section
variable {P : Program} {w : World} {K : PySem.W.Frag} {mg : Str → Option Value} {base : Heap} {nm : Str} {ps : List Str} {k : Nat} {sp sp' : Sp}
theorem fnOkG_down {f : Addr} {fd : FuncData} (A : FnOkG P w K mg base (L2.CX P w) k f fd ps sp) (h : ∀ vs H Q E, sp' vs H Q E → sp vs H Q fun _ _ _ => False) : FnOkG P w K mg base CX0 k f fd ps sp' :=
  ⟨fun vs H Q E q => A.len _ _ _ _ (h _ _ _ _ q), fun A' outer s H args us vs Q E hr e0 hb r q => codeAny_mono (A.run A' outer s H args us vs Q _ hr e0 hb r (h _ _ _ _ q)) fun x s' hx => by
    cases x with
    | ok fl => cases fl <;> exact hx
    | error e =>
      obtain ⟨_, _, _, _, _, _, _, _, _, _, _, _, hE⟩ := hx
      exact hE.elim⟩
theorem CalX.down (A : CalX P w K mg base nm ps k sp) (h : ∀ vs H Q E, sp' vs H Q E → sp vs H Q fun _ _ _ => False) : Cal P w K mg base nm ps k sp' := by
  obtain ⟨f, fd, g, kp, b, G, l⟩ := A.ex
  exact ⟨f, fd, g, kp, b, fnOkG_down G h, l⟩
end
section
variable {K : PySem.W.Frag} {σ : L2.St} {F H : Hp} {D : Ends}
theorem s_app0 {l : Addr} {xs : List V} {to : TE} (ho : ∀ Q : VK, Q (.ref l) H → to σ H Q) (hl : H l = some (.lst xs)) (hz : xs.length < 100000) (k : D.nx σ (upd H l (.lst (xs ++ [.non])))) : tDrop (tBM K "list" rAppend to (tCons (tC .non) tNil)) D σ H :=
  ho _ ⟨Or.inl ⟨rfl, xs, sq_of hl⟩, ⟨l, xs, .non, rfl, rfl, hl, sz_lt hz, k⟩⟩
/-- an item of a list that is the very object -/
theorem ix_ref {i : Nat} {n : Int} {p a : Addr} {xs : List V} (hi : σ[i]? = some (some (.ref p))) (hp : H p = some (.lst xs)) (e : atI xs n = some (.ref a)) (Q : VK) (q : Q (.ref a) H) : tOp (rIxL K) (tVar i) (tC (.int n)) σ H Q :=
  ⟨_, hi, _, _, n, _, rfl, rfl, SqL.of hp, e, q⟩
end
end Dv

set_option Elab.async false
set_option linter.all false
set_option maxRecDepth 100000
set_option maxHeartbeats 4000000
/-! GENERAL: f(b = .., a = ..), two keywords alone, the other way about than the parameters -/
namespace Dv
open PySem PySem.Spec PyProof.Rows L2 Evl
/-- a def of two parameters can be called by name -/
structure Kw2 (K : PySem.W.Frag) (mg : Str → Option Value) (nm p1 p2 : Str) : Prop where
  ex : ∃ f fd oc od osl, mg nm = some (.ref f) ∧ K.lookup f = some ⟨oc, od, .func fd, osl⟩ ∧ ∀ (s : Shared) (a b : Value), BindsTo s fd ⟨[], [(p2, a), (p1, b)]⟩ [(p1, b), (p2, a)]
theorem kw2_of {K : PySem.W.Frag} {mg : Str → Option Value} {nm p1 p2 : Str} {st : Stmt} (D : Def K mg nm st [p1, p2])
    (h : ∀ (kV doc pm : Value) (an : Option Addr) (cdv ct a b : Value), bindArgs (PySem.W.fnOf nm nm (defArgs st) (defBody st) (defScope st) .none kV doc pm an cdv ct) ⟨[], [(p2, a), (p1, b)]⟩ = pure [(p1, b), (p2, a)]) : Kw2 K mg nm p1 p2 := by
  obtain ⟨f, fd, g, F, b⟩ := D.ex
  obtain ⟨oc, od, kV, doc, pm, an, cdv, ct, osl, e, lk, hcd⟩ := F.ex
  exact ⟨f, fd, oc, od, osl, g, lk, fun s a b => by rw [e]; exact .of_eq (h kV doc pm an cdv ct a b)⟩
def tKw2 (sp : Sp) (t : TA) : TE := fun σ H Q => t σ H fun zs H2 => ∃ a b, zs = [a, b] ∧ sp [b, a] H2 Q E0
section
variable {X : Cx} {k j : Nat} {sp : Sp} {x p1 p2 : Str} {p pos k1 k2 : Pos} {ea eb : Expr} {ta tb : TE}
theorem pe_kw2 (C : Cal X.prog X.w X.K X.mg X.base x [p1, p2] k sp) (W : Kw2 X.K X.mg x p1 p2) (hr : RoomG j X.A) (ha : PE X ea ta) (hb : PE X eb tb) (hg : Gl X x := by rfl) (hj : k ≤ j := by decide) (hdb : (x == ("__debug__" : Str)) = false := by decide)
    (hpl : ((backTo pos (starEach [] X.env)).any (·.1) || (backToKw pos (keywordEach [⟨some p2, ea, k1⟩, ⟨some p1, eb, k2⟩] X.env)).any (·.1.isNone)) = false := by rfl)
    (hall : (backToKw pos (keywordEach [⟨some p2, ea, k1⟩, ⟨some p1, eb, k2⟩] X.env)).all (·.1.isSome) = true := by rfl)
    (hks : (backToKw pos (keywordEach [⟨some p2, ea, k1⟩, ⟨some p1, eb, k2⟩] X.env)).filterMap (·.1) = [p2, p1] := by rfl) :
    PE X (.Call (.Name x p) [] [⟨some p2, ea, k1⟩, ⟨some p1, eb, k2⟩] pos) (tKw2 sp (tCons ta (tCons tb tNil))) := by
  obtain ⟨f, fd, g, kp, _, F, oc, od, osl, lk⟩ := C.ex
  obtain ⟨f', fd', oc', od', osl', g', lk', bd⟩ := W.ex
  rw [g] at g'
  cases g'
  rw [lk] at lk'
  cases lk'
  have hkw : PK X [⟨some p2, ea, k1⟩, ⟨some p1, eb, k2⟩] (tCons ta (tCons tb tNil)) := pk_cons ha (pk_cons hb pk_nil)
  refine ⟨fun pins s σ H Q I h => ?_⟩
  refine wpAny_Call_Name_kw (ld_glob I hg g ?_ hdb)
  refine PySem.W.callWith_KW0 (h₀ := X.base) I.ok.mod.kin kp hall (thn (hkw.run pos pins s σ H _ I h) fun ws s2 ⟨zs, H2, I2, rz, a, b, ez, q2⟩ => ⟨I2.kIn, ?_⟩) hpl
  rw [hks]
  subst ez
  obtain ⟨ua, ub, rfl, r1, r2⟩ : ∃ ua ub, ws = [ua, ub] ∧ RelV a ua ∧ RelV b ub := by
    cases rz with
    | cons r1 rz =>
      cases rz with
      | cons r2 rz =>
        cases rz
        exact ⟨_, _, rfl, r1, r2⟩
  refine wpAny_call (codeAny_mono (F.run X.A X.stack s2 H2 ⟨[], [(p2, ua), (p1, ub)]⟩ [ub, ua] [b, a] Q E0 (hr.mono hj) I2.env0 (bd s2 ua ub) (.cons r2 (.cons r1 .nil)) q2) fun r s' hq => ?_)
  cases r with
  | error e => exact hq.elim
  | ok fl =>
    cases fl with
    | ret u => exact I2.after hq
    | next => exact False.elim hq
    | brk => exact False.elim hq
    | cont => exact False.elim hq
end
end Dv

set_option Elab.async false
set_option linter.all false
set_option maxRecDepth 100000
set_option maxHeartbeats 4000000
/-! GENERAL: told lists are changed: for and append told by the values alone. -/
namespace Dv
open PySem PySem.Spec PyProof.Rows L2 Evl
section
variable {K : PySem.W.Frag} {σ : L2.St} {H : Hp} {te tl : TE} {ts : TS} {g : TG} {D : Ends} {xs : List V} {p l : Addr} {v : V}
theorem s_appV (h : ∀ Q : VK, Q (.ref l) H → tl σ H Q) (hl : H l = some (.lst xs)) (hz : xs.length < 100000) (k : D.nx σ (upd H l (.lst (xs ++ [v])))) : tDrop (tBM K "list" rAppend tl (tCons (tC v) tNil)) D σ H :=
  h _ ⟨Or.inl ⟨rfl, xs, sq_of hl⟩, ⟨l, xs, v, rfl, rfl, hl, sz_lt hz, k⟩⟩
theorem s_forV (h : ∀ Q : VK, Q (.ref p) H → te σ H Q) (hp : H p = some (.lst xs)) (Pv : Nat → L2.St → Hp → Prop) (h0 : Pv 0 σ H) (keep : ∀ n σ H, Pv n σ H → H p = some (.lst xs))
    (step : ∀ n v σ' H', xs[n]? = some v → Pv n σ' H' → g v σ' H' fun σ2 H2 => ts { D with nx := Pv (n + 1), ct := Pv (n + 1), bk := D.nx } σ2 H2)
    (hd : ∀ σ' H', Pv xs.length σ' H' → D.nx σ' H') : tFor (iList K te) g ts D σ H :=
  h _ ⟨p, rfl, ⟨xs, SqL.of hp⟩, for_it (walk_list (xs := xs)) Pv h0 (fun n σ' H' _ q => SqL.of (keep n σ' H' q)) (fun n v σ' H' H2 hn q y => by
    obtain ⟨rfl, hx⟩ := y
    exact step n v σ' _ hx q) hd⟩
end
end Dv

set_option Elab.async false
set_option linter.all false
set_option maxRecDepth 100000
set_option maxHeartbeats 4000000
namespace R3
open PySem PySem.Spec PyProof.Rows L2 Evl Dv StX
open Qa (toF Sx)
/-! ### data that can be told, copied, compared -/
theorem gds_nil : gds [] = true := by rw [gds]
theorem gds_cons (x : PyData) (xs : List PyData) : gds (x :: xs) = (gd x && gds xs) := by rw [gds]
theorem gd_int (k : Int) : gd (.int k) = true := by simp [gd]
theorem gd_tuple (xs : List PyData) : gd (.tuple xs) = (decide (xs.length ≤ 30000) && gds xs) := by rw [gd]
theorem gd_lst (xs : List PyData) : gd (.list xs) = (decide (xs.length ≤ 30000) && gds xs) := by rw [gd]
def Gk (k : Nat) (d : PyData) : Prop := gd d = true ∧ d.canLay0 = true ∧ d.depth ≤ k
theorem Gk.mono {k j : Nat} {d : PyData} (h : Gk k d) (l : k ≤ j) : Gk j d := ⟨h.1, h.2.1, Nat.le_trans h.2.2 l⟩
theorem gk_all {k : Nat} : ∀ {xs : List PyData}, (∀ x ∈ xs, Gk k x) → gds xs = true ∧ PyData.canLayAll0 xs = true ∧ PyData.depthAll xs ≤ k
  | [], _ => ⟨gds_nil, by rw [PyData.canLayAll0], by rw [PyData.depthAll]; exact Nat.zero_le _⟩
  | x :: r, h => by
    have h1 := h x (List.mem_cons_self ..)
    have h2 := gk_all fun y hy => h y (List.mem_cons_of_mem _ hy)
    refine ⟨by rw [gds_cons, h1.1, h2.1]; rfl, by rw [PyData.canLayAll0, h1.2.1, h2.2.1]; rfl, ?_⟩
    rw [PyData.depthAll]
    have := h1.2.2
    have := h2.2.2
    omega
theorem gk_list {k : Nat} {xs : List PyData} (hl : xs.length ≤ 30000) (h : ∀ x ∈ xs, Gk k x) : Gk (k + 1) (.list xs) := by
  have g := gk_all h
  refine ⟨by rw [gd_lst, g.1, decide_eq_true hl]; rfl, by rw [PyData.canLay0]; exact g.2.1, ?_⟩
  rw [PyData.depth]
  have := g.2.2
  omega
theorem gk_tup {k : Nat} {xs : List PyData} (hl : xs.length ≤ 30000) (h : ∀ x ∈ xs, Gk k x) : Gk (k + 1) (.tuple xs) := by
  have g := gk_all h
  refine ⟨by rw [gd_tuple, g.1, decide_eq_true hl]; rfl, by rw [PyData.canLay0]; exact g.2.1, ?_⟩
  rw [PyData.depth]
  have := g.2.2
  omega
theorem gk_str {x : Str} (h : gd (.str x) = true) : Gk 0 (.str x) := ⟨h, by rw [PyData.canLay0]; exact (gd_str h).2, by rw [PyData.depth] <;> first | exact Nat.le_refl _ | (intros; intro z; cases z)⟩
theorem gk_frac (x : Int × Int) : Gk 1 (encF x) := gk_tup (by simp) fun y hy => by
  simp only [List.mem_cons, List.not_mem_nil, or_false] at hy
  rcases hy with rfl | rfl <;> exact ⟨gd_int _, by simp [PyData.canLay0], by simp [PyData.depth]⟩
theorem Gk.eqv {k : Nat} {d : PyData} (h : Gk k d) : PyData.eqv d d = true := by
  exact PySem.SeqAt.eqv_refl_plain d (PySem.PyData.plain_of_canLay0 d h.2.1)
theorem Gk.shaped {k : Nat} {d : PyData} (h : Gk k d) (hk : k ≤ 60) : SeqAt.shaped d = true := by
  show (d.canLay0 && decide (d.depth ≤ 64)) = true
  rw [h.2.1, decide_eq_true (Nat.le_trans h.2.2 (by omega))]
  rfl
theorem log_le {a : Nat} (h : a < 1099511627776) : a.log2 ≤ 39 := by
  by_cases h0 : a = 0
  · subst h0
    decide
  · have := (Nat.log2_lt h0 (k := 40)).mpr (by simpa using h)
    omega
theorem rp_all {P : PyData → Prop} {c k : Nat} (hp : ∀ d, P d → d.hasDict = false ∧ d.showable = true ∧ shB d ≤ c ∧ d.depth ≤ k) : ∀ {ds : List PyData}, (∀ d ∈ ds, P d) → PyData.hasDictAll ds = false ∧ PyData.showableAll ds = true ∧ shBs ds ≤ ds.length * (c + 2) ∧ PyData.depthAll ds ≤ k
  | [], _ => ⟨by rw [PyData.hasDictAll], by rw [PyData.showableAll], by rw [shBs]; exact Nat.zero_le _, by rw [PyData.depthAll]; exact Nat.zero_le _⟩
  | d :: r, h => by
    obtain ⟨a1, a2, a3, a4⟩ := hp d (h d List.mem_cons_self)
    obtain ⟨b1, b2, b3, b4⟩ := rp_all hp fun y hy => h y (List.mem_cons_of_mem _ hy)
    refine ⟨by rw [PyData.hasDictAll, a1, b1] <;> rfl, by rw [PyData.showableAll, a2, b2] <;> rfl, ?_, ?_⟩
    · rw [shBs, List.length_cons, Nat.add_mul, Nat.one_mul]
      omega
    · rw [PyData.depthAll]
      omega

def encEs (es : List (List Rat)) : PyData := .list (es.map fun e => .list (e.map encR))
theorem gk_R (q : Rat) : Gk 1 (encR q) := gk_frac _
theorem gk_Rs {qs : List Rat} (h : qs.length ≤ 100) : Gk 2 (.list (qs.map encR)) := gk_list (by rw [List.length_map]; omega) fun y hy => by
  obtain ⟨q, _, rfl⟩ := List.mem_map.mp hy
  exact gk_R q
theorem gk_Es {es : List (List Rat)} (h : es.length ≤ 100) (h2 : ∀ e ∈ es, e.length ≤ 100) : Gk 3 (encEs es) := gk_list (by rw [List.length_map]; omega) fun y hy => by
  obtain ⟨e, he, rfl⟩ := List.mem_map.mp hy
  exact gk_Rs (h2 e he)
theorem gk_Bd (z : Rat × Rat) : Gk 2 (encBd z) := gk_tup (by simp) fun y hy => by
  simp only [List.mem_cons, List.not_mem_nil, or_false] at hy
  rcases hy with rfl | rfl <;> exact gk_R _
theorem gk_Bx {bx : List (Rat × Rat)} (h : bx.length ≤ 100) : Gk 3 (.list (bx.map encBd)) := gk_list (by rw [List.length_map]; omega) fun y hy => by
  obtain ⟨z, _, rfl⟩ := List.mem_map.mp hy
  exact gk_Bd z
theorem rp_R {q : Rat} (hs : Sx 1000000 q) : PyData.hasDict (encR q) = false ∧ PyData.showable (encR q) = true ∧ shB (encR q) ≤ 200 ∧ (encR q).depth ≤ 1 := by
  obtain ⟨b1, b2, b3⟩ := hs.bd
  have l1 : q.num.natAbs < 1099511627776 := by omega
  have l2 : ((q.den : Int)).natAbs < 1099511627776 := by rw [Int.natAbs_natCast]; omega
  have k1 := log_le l1
  have k2 := log_le l2
  rw [Int.natAbs_natCast] at k2
  refine ⟨?_, ?_, ?_, ?_⟩
  · simp [encR, encF, toF, PyData.hasDict, PyData.hasDictAll]
  · simp [encR, encF, toF, PyData.showable, PyData.showableAll]
    omega
  · simp only [encR, encF, toF, shB, shBs, Int.natAbs_natCast]
    omega
  · simp [encR, encF, PyData.depth, PyData.depthAll]
theorem rp_Rs {qs : List Rat} (h : qs.length ≤ 3) (hs : ∀ q ∈ qs, Sx 1000000 q) : PyData.hasDict (.list (qs.map encR)) = false ∧ PyData.showable (.list (qs.map encR)) = true ∧ shB (.list (qs.map encR)) ≤ 700 ∧ (PyData.list (qs.map encR)).depth ≤ 2 := by
  obtain ⟨c1, c2, c3, c4⟩ := rp_all (P := fun d => ∃ q ∈ qs, encR q = d) (c := 200) (k := 1) (fun d hd => by
    obtain ⟨q, hq, rfl⟩ := hd
    exact rp_R (hs q hq)) (ds := qs.map encR) fun d hd => by
      obtain ⟨q, hq, e⟩ := List.mem_map.mp hd
      exact ⟨q, hq, e⟩
  rw [List.length_map] at c3
  have : qs.length * 202 ≤ 3 * 202 := Nat.mul_le_mul_right _ h
  refine ⟨?_, ?_, ?_, ?_⟩
  · rw [PyData.hasDict]; exact c1
  · rw [PyData.showable]; exact c2
  · rw [shB]; omega
  · rw [PyData.depth]; omega
theorem rp_Es {es : List (List Rat)} (h : es.length ≤ 8) (h2 : ∀ e ∈ es, e.length ≤ 3 ∧ ∀ q ∈ e, Sx 1000000 q) : PyData.hasDict (encEs es) = false ∧ PyData.showable (encEs es) = true ∧ shB (encEs es) ≤ 7000 ∧ (encEs es).depth ≤ 3 := by
  obtain ⟨c1, c2, c3, c4⟩ := rp_all (P := fun d => ∃ e ∈ es, PyData.list (e.map encR) = d) (c := 700) (k := 2) (fun d hd => by
    obtain ⟨q, hq, rfl⟩ := hd
    exact rp_Rs (h2 q hq).1 (h2 q hq).2) (ds := es.map fun e => .list (e.map encR)) fun d hd => by
      obtain ⟨q, hq, e⟩ := List.mem_map.mp hd
      exact ⟨q, hq, e⟩
  rw [List.length_map] at c3
  have : es.length * 702 ≤ 8 * 702 := Nat.mul_le_mul_right _ h
  unfold encEs
  refine ⟨?_, ?_, ?_, ?_⟩
  · rw [PyData.hasDict]; exact c1
  · rw [PyData.showable]; exact c2
  · rw [shB]; omega
  · rw [PyData.depth]; omega
/-- what is in the edges is in the sides -/
theorem edges_in {ss : List (List Rat)} {B : Nat} (h : ∀ s ∈ ss, ∀ q ∈ s, Sx B q) : ∀ {n : Nat}, n ≤ ss.length → ∀ e ∈ edgesL (ss.take n), ∀ q ∈ e, Sx B q
  | 0, _, e, he, q, hq => by
    rw [List.mem_singleton.mp he] at hq
    cases hq
  | n + 1, hn, e, he, q, hq => by
    rw [edges_take (by omega)] at he
    obtain ⟨e', he', h2⟩ := List.mem_flatMap.mp he
    obtain ⟨x, hx, rfl⟩ := List.mem_map.mp h2
    rcases List.mem_append.mp hq with h3 | h3
    · exact edges_in h (by omega) e' he' q h3
    · rw [List.mem_singleton.mp h3]
      exact h _ (List.getElem_mem _) x hx
theorem edges_pos : ∀ {ss : List (List Rat)} {n : Nat}, n ≤ ss.length → (∀ s ∈ ss, 1 ≤ s.length) → 1 ≤ (edgesL (ss.take n)).length
  | ss, 0, _, _ => Nat.le_refl _
  | ss, n + 1, hn, h => by
    rw [edges_take (by omega)]
    have h1 := edges_pos (ss := ss) (n := n) (by omega) h
    have h2 := h _ (List.getElem_mem (show n < ss.length by omega))
    obtain ⟨e, he⟩ := List.exists_mem_of_length_pos (show 0 < (edgesL (ss.take n)).length by omega)
    obtain ⟨x, hx⟩ := List.exists_mem_of_length_pos (show 0 < (ss[n]).length by omega)
    exact List.length_pos_of_mem (List.mem_flatMap.mpr ⟨e, he, List.mem_map.mpr ⟨x, hx, rfl⟩⟩)
/-- what is told of edges -/
structure EsOk (es : List (List Rat)) : Prop where
  l1 : 1 ≤ es.length
  l8 : es.length ≤ 8
  e3 : ∀ e ∈ es, e.length ≤ 3 ∧ ∀ q ∈ e, Sx 1000000 q
theorem es_ok {ss : List (List Rat)} (h3 : ss.length ≤ 3) (h1 : ∀ s ∈ ss, 1 ≤ s.length ∧ s.length ≤ 2) (h : ∀ s ∈ ss, ∀ q ∈ s, Sx 1000000 q) : EsOk (edgesL ss) := by
  have e0 : edgesL ss = edgesL (ss.take ss.length) := by rw [List.take_length]
  have p1 := edges_pos (ss := ss) (n := ss.length) (Nat.le_refl _) fun s hs => (h1 s hs).1
  have p2 := edges_len (ss := ss) (n := ss.length) (fun s hs => (h1 s hs).2) (Nat.le_refl _)
  have p3 := edges_each (ss := ss) (n := ss.length) (Nat.le_refl _)
  have p4 := edges_in (ss := ss) (n := ss.length) h (Nat.le_refl _)
  rw [← e0] at p1 p2 p3 p4
  have : (2 : Nat) ^ ss.length ≤ 2 ^ 3 := Nat.pow_le_pow_right (by decide) h3
  exact ⟨p1, by omega, fun e he => ⟨by rw [p3 e he]; exact h3, p4 e he⟩⟩
theorem EsOk.gk {es : List (List Rat)} (h : EsOk es) : Gk 3 (encEs es) := gk_Es (by have := h.l8; omega) fun e he => by have := (h.e3 e he).1; omega
structure BoxGood (m : MillD) (bx : List (Rat × Rat)) : Prop where
  m3 : m.stuffs.length ≤ 3
  rs : RoomSm m
  b3 : bx.length ≤ 3
  gd : gd (.list (bx.map encBd)) = true
  sm : smBox (.list (bx.map encBd)) = true
  cl : isClosed m (.list (bx.map encBd)) = true
  sx : ∀ z ∈ bx, Sx 180 z.1 ∧ Sx 180 z.2
theorem BoxGood.es {m : MillD} {bx : List (Rat × Rat)} (h : BoxGood m bx) : EsOk (edgesL (sidesL bx)) := by
  refine es_ok (by rw [sides_len]; exact h.b3) (fun s hs => ⟨?_, sides_two bx s hs⟩) fun s hs q hq => ?_
  · obtain ⟨z, _, rfl⟩ := List.mem_map.mp hs
    split <;> simp
  · obtain ⟨z, hz, rfl⟩ := List.mem_map.mp hs
    have := h.sx z hz
    have k1 := this.1.mono (show 180 ≤ 1000000 by decide)
    have k2 := this.2.mono (show 180 ≤ 1000000 by decide)
    split at hq <;> simp at hq
    · rw [hq]; exact k1
    · rcases hq with rfl | rfl
      · exact k1
      · exact k2
section
variable {P : Program} {w : World} {K : PySem.W.Frag} {mg : Str → Option Value} {base : Heap}
def spEdgesG (K : PySem.W.Frag) (C : Addr) : Sp := fun vs H Q _ => ∃ (F : Hp) (ml : Addr) (bv : V) (m : MillD) (bx : List (Rat × Rat)), vs = [.ref ml, bv] ∧ Ex F H ∧ MillAt K F C ml m ∧ BoxGood m bx ∧ Dp K F bv (.list (bx.map encBd)) ∧
  ∀ p ws F' H', Gr F H F' H' → F p = none → F' p = some (.lst ws) → AllP (NewE K (· ≠ p) F) F' ws (edgesL (sidesL bx)) → Q (.ref p) H'
theorem edgesG_of {C CM CX : Addr} (A : CalX P w K mg base "edges" ["mill", "box"] 8 (spEdges K C CM CX)) : Cal P w K mg base "edges" ["mill", "box"] 8 (spEdgesG K C) :=
  A.down fun vs H Q E ⟨F, ml, bv, m, bx, e1, e, hm, bg, hv, q⟩ => ⟨F, _, _, e1, e, .inr (.inr ⟨ml, m, bx, rfl, hm, bg.m3, bg.rs, hv, bg.b3, bg.gd, bg.sm, bg.cl, q⟩)⟩
theorem gr_frN {F H F' H' : Hp} {p : Addr} {o : HO} (g : Gr F H F' H') (fp : F p = none) (h : F' p = some o) : H p = none := g.fr p fp (by rw [h]; exact fun z => by cases z)
/-- a told list of lists is changed, the first of it first: nothing that was known is -/
theorem gr_told {F H F5 H5 H6 : Hp} {p q : Addr} {o1 o2 u1 u2 : HO} (g : Gr F H F5 H5) (h56 : Ex H5 H6) (fp : F p = none) (hp : F5 p = some o1) (fq : F q = none) (hq : F5 q = some o2) : Gr F H F (upd (upd H6 q u2) p u1) := by
  have np := gr_frN g fp hp
  have nq := gr_frN g fq hq
  have x : ∀ a, a ≠ p → a ≠ q → (upd (upd H6 q u2) p u1) a = H6 a := fun a h1 h2 => by rw [upd_ne h1, upd_ne h2]
  refine ⟨Ex.refl F, fun a o h => ?_, fun a o h => ?_, fun a h1 h2 => absurd h1 h2⟩
  · rw [x a (fun z => by rw [z, fp] at h; cases h) (fun z => by rw [z, fq] at h; cases h)]
    exact h56 _ _ (g.fh _ _ (g.fx _ _ h))
  · rw [x a (fun z => by rw [z, np] at h; cases h) (fun z => by rw [z, nq] at h; cases h)]
    exact h56 _ _ (g.hx _ _ h)
def spEdgesGood (K : PySem.W.Frag) (C : Addr) : Sp := fun vs H Q _ => ∃ (F : Hp) (ml : Addr) (bv : V) (m : MillD) (bx : List (Rat × Rat)), vs = [.ref ml, bv] ∧ Ex F H ∧ MillAt K F C ml m ∧ BoxGood m bx ∧ Dp K F bv (.list (bx.map encBd)) ∧ ∀ F' H', Gr F H F' H' → Q (.bl true) H'
theorem sc__law_edges_good : FnScope (["mill_here", "box_here", "due", "given", "turn", "told"] : List Str) (["mill_here", "box_here"] : List Str) (defScope sLawEdgesGood) := ⟨rfl, rfl, rfl, by decide +kernel, rfl, by decide +kernel, by decide +kernel⟩
theorem ok_law_edges_good (D : Def K mg "_law_edges_good" sLawEdgesGood ["mill_here", "box_here"]) (B : Bl mg) {C : Addr} (C__law_edges : Cal P w K mg base "_law_edges" ["box_here"] 1 (spD K fLEdges)) (C_edges : Cal P w K mg base "edges" ["mill", "box"] 8 (spEdgesG K C)) (W_edges : Kw2 K mg "edges" "mill" "box") :
    Cal P w K mg base "_law_edges_good" ["mill_here", "box_here"] 9 (spEdgesGood K C) := by
  refine cal_mk D sc__law_edges_good (fun vs H Q E h => ?_) (fun f cdv A outer s H vs Q E hr h => ?_)
  · obtain ⟨F, ml, bv, m, bx, rfl, _⟩ := h
    rfl
  obtain ⟨F, ml, bv, m, bx, rfl, e, hm, bg, hv, q⟩ := h
  refine ⟨_, (pss_cons (ps_par (i := 2) (j := 3) (by rfl) sc__law_edges_good.nd rfl rfl (by decide) rfl rfl (pa_cons (pe_callC C__law_edges hr (pa_cons (pv 1) pa_nil)) (pa_cons (pe_callTy call_list_of (by rfl) B.list (by decide +kernel) (pa_cons (pv 1) pa_nil)) pa_nil)) (by rfl))
      (pss_cons (ps_for PassesOwn.never rfl (pi_range1 rfl B.range (pa_cons pe_int pa_nil)) (pg_name (i := 4) sc__law_edges_good.nd rfl (.inl rfl)) (pss_cons (ps_set (i := 5) sc__law_edges_good.nd rfl (.inl rfl) (pe_callC C_edges hr (pa_cons (pv 0) (pa_cons (pv 3) pa_nil))))
      (pss_cons (ps_if (PW.pt (pw_or (pt_cmpR op_ne (pe_callB (id := "repr") (r := rReprD K) (call_reprD (by exact hr.2) (by exact hr.1.units)) (by rfl) B.repr (by decide +kernel) (pa_cons (pv 5) pa_nil)) (pe_callB (id := "repr") (r := rReprD K) (call_reprD (by exact hr.2) (by exact hr.1.units)) (by rfl) B.repr (by decide +kernel) (pa_cons (pv 2) pa_nil)) (nomark _)) (pw_or1 (pt_cmpR (op_neD (by exact hr.1.units)) (pe_kw2 C_edges W_edges hr (pv 3) (pv 0)) (pv 2) (nomark _))))) (pss_one (ps_ret pe_bl)) pss_nil)
      (pss_cons (ps_expr (pe_bm PySem.F.plainAttrs_list PySem.F.slot_list_append PySem.F.type_list_append mt_append (pe_ix ix_list (pv 5) pe_int (fun _ _ => rfl)) (pa_cons pe_non pa_nil)))
      (pss_one (ps_expr (pe_bm PySem.F.plainAttrs_list PySem.F.slot_list_append PySem.F.type_list_append mt_append (pv 5) (pa_cons pe_non pa_nil))))))))
      (pss_one (ps_ret (pe_cmpR (op_eqD (by exact hr.1.units)) (pv 3) (pv 1) (nomark _)))))), ?_⟩
  have st : start ["mill_here", "box_here", "due", "given", "turn", "told"] [V.ref ml, bv] = [some (.ref ml), some bv, none, none, none, none] := rfl
  rw [st]
  have eo := bg.es
  have ev1 := eo.gk
  have gb := gk_Bx (bx := bx) (by have := bg.b3; omega)
  have rp : Rp (encEs (edgesL (sidesL bx))) := by
    obtain ⟨a1, a2, a3, a4⟩ := rp_Es eo.l8 eo.e3
    exact ⟨a1, a2, by omega, by omega⟩
  have l1 := eo.l1
  have l8 := eo.l8
  generalize hes : edgesL (sidesL bx) = es at *
  refine seq_of (Dv.s_par (K := K) (F := F) (a := encEs es) (b := .list (bx.map encBd)) (Dv.ea_cons (ev_callD (f := fLEdges) (Dv.ea_cons (Dv.ev_var (i := 1) rfl hv) Dv.ea_nil) ⟨bx, rfl, bg.b3, by rw [hes]; rfl⟩) (Dv.ea_cons (EvL.ev (el_list (Dv.ev_var (i := 1) rfl hv) (.inl rfl))) Dv.ea_nil)) e fun dv gv F1 H1 g1 hdv hgv => ?_)
  dsimp only
  show tSeq _ _ _ [some (.ref ml), some bv, some dv, some gv, none, none] H1
  refine seq_of (Dv.s_for (K := K) (it_rng1 (σ := [some (.ref ml), some bv, some dv, some gv, none, none]) (n := 2) (Dv.ea_cons (Dv.ev_int 2) Dv.ea_nil) (by decide) (by decide)) g1.fh
    (fun n σ' F' H' => ∃ s4 s5, σ' = [some (.ref ml), some bv, some dv, some gv, s4, s5] ∧ Gr F H F' H' ∧ Ex F1 F') (fun F' H' g => ⟨_, _, rfl, g1.trans g, g.fx⟩) ?_ (fun σ' F' H' e1 e2 pv => ?_))
  · rintro Fb eb n σ' F3 H3 u du F4 H4 hdu e3 e4 ⟨s4, s5, rfl, gg, x13⟩ g4 hu4
    have x14 := x13.trans g4.fx
    have gg4 := gg.trans g4
    dsimp only
    show tSeq _ _ _ [some (.ref ml), some bv, some dv, some gv, some u, s5] H4
    refine seq_of (asg_of ⟨_, rfl, _, rfl, F4, ml, gv, m, bx, rfl, g4.fh, hm.mono gg4.fx, bg, dp_ex x14 hgv, fun p ws F5 H5 g5 fp hp hall => ?_⟩)
    rw [hes] at hall
    dsimp only
    show tSeq _ _ _ [some (.ref ml), some bv, some dv, some gv, some u, some (.ref p)] H5
    have htold : Dp K F5 (.ref p) (encEs es) := .lst (SqL.of hp) (hall.dps fun v x h => NewE.dp v x h)
    have x15 := x14.trans g5.fx
    have t1 : EtD (tTest (tOp rNe (tCB (rReprD K) (tCons (tVar 5) tNil)) (tCB (rReprD K) (tCons (tVar 2) tNil)))) [some (.ref ml), some bv, some dv, some gv, some u, some (.ref p)] F5 false := et_test (K := K) (Dv.ev_is (ev_neS (ev_repr (Dv.ev_var (i := 5) rfl htold) rp) (ev_repr (Dv.ev_var (i := 2) rfl (dp_ex x15 hdv)) rp)) (by rw [decide_eq_true rfl]; rfl))
    have ek : EvD K (tKw2 (spEdgesG K C) (tCons (tVar 3) (tCons (tVar 0) tNil))) [some (.ref ml), some bv, some dv, some gv, some u, some (.ref p)] F5 (encEs es) := fun H e Q q => ⟨_, rfl, _, rfl, _, _, rfl, F5, ml, gv, m, bx, rfl, e, hm.mono (gg4.fx.trans g5.fx), bg, dp_ex x15 hgv, fun p' ws' F' H' g' fp' hp' hall' => q _ F' H' g' (by
      rw [hes] at hall'
      exact .lst (SqL.of hp') (hall'.dps fun v x h => NewE.dp v x h))⟩
    have t2 : EtD (tTest (tOp (rNeD K) (tKw2 (spEdgesG K C) (tCons (tVar 3) (tCons (tVar 0) tNil))) (tVar 2))) [some (.ref ml), some bv, some dv, some gv, some u, some (.ref p)] F5 false := et_v (ev_neD ek (Dv.ev_var (i := 2) rfl (dp_ex x15 hdv)) (ev1.shaped (by decide)) (ev1.shaped (by decide))) (by rw [ev1.eqv] <;> rfl)
    refine seq_of (s_ifF (et_orF t1 t2) g5.fh fun F6 H6 g6 => ?_)
    try unfold tNext
    dsimp only
    have h56 : Ex H5 H6 := g6.hx
    have hp6 : H6 p = some (.lst ws) := h56 _ _ (g5.fh _ _ hp)
    obtain ⟨w0, wr, rfl⟩ : ∃ w0 wr, ws = w0 :: wr := by
      cases ws with
      | nil =>
        have := hall.len
        rw [List.length_nil] at this
        omega
      | cons a r => exact ⟨a, r, rfl⟩
    obtain ⟨e0, he0, h0⟩ := hall.at (i := 0) rfl
    obtain ⟨qa, us, rfl, fq, hq, hus, hqp⟩ := h0
    have hq6 : H6 qa = some (.lst us) := h56 _ _ (g5.fh _ _ hq)
    have ul : us.length ≤ 3 := by
      rw [dps_len hus, List.length_map]
      exact (eo.e3 e0 (List.mem_of_getElem? he0)).1
    have wl : (V.ref qa :: wr).length ≤ 8 := by
      rw [hall.len]
      exact l8
    refine seq_of (s_appV (l := qa) (xs := us) (v := .non) (fun Q h => ⟨_, rfl, p, _, _, _, rfl, rfl, SqL.of hp6, atI_nat (j := 0) rfl, h⟩) hq6 (by omega) ?_)
    dsimp only
    refine s_appV (l := p) (xs := .ref qa :: wr) (v := .non) (fun Q h => ⟨_, rfl, h⟩) (by rw [upd_ne (Ne.symm hqp)]; exact hp6) (by omega) ?_
    have gt := gr_told (u1 := .lst ((V.ref qa :: wr) ++ [.non])) (u2 := .lst (us ++ [.non])) g5 h56 fp hp fq hq
    exact ⟨F4, e3.trans g4.fx, gt.fh, _, _, rfl, gg4.trans gt, x14⟩
  · obtain ⟨s4, s5, rfl, gg, x13⟩ := pv
    dsimp only
    refine Dv.s_ret (K := K) (F := F') (d := .bool true) (Dv.ev_is (ev_eqD (Dv.ev_var (i := 3) rfl (dp_ex x13 hgv)) (Dv.ev_var (i := 1) rfl (dp_ex gg.fx hv)) (gb.shaped (by decide)) (gb.shaped (by decide))) (by rw [gb.eqv])) gg.fh fun v F2 H2 g2 hv => ?_
    cases hv
    exact q F2 H2 (gg.trans g2)
end
end R3

set_option Elab.async false
set_option linter.all false
set_option maxRecDepth 100000
set_option maxHeartbeats 4000000
namespace R3
open PySem PySem.Spec PyProof.Rows L2 Evl Dv StX
open Qa (toF Sx)
def encBr (q : Rat) (es : List (List Rat)) : PyData := .tuple [encR q, encEs es]
theorem gk_Br {q : Rat} {es : List (List Rat)} (h : EsOk es) : Gk 4 (encBr q es) := gk_tup (by simp) fun y hy => by
  simp only [List.mem_cons, List.not_mem_nil, or_false] at hy
  rcases hy with rfl | rfl
  · exact (gk_R q).mono (by decide)
  · exact h.gk
theorem rp_Br {q : Rat} {es : List (List Rat)} (hs : Sx 1000000 q) (h : EsOk es) : Rp (encBr q es) := by
  obtain ⟨a1, a2, a3, a4⟩ := rp_Es h.l8 h.e3
  obtain ⟨b1, b2, b3, b4⟩ := rp_R hs
  refine ⟨?_, ?_, ?_, ?_⟩
  · simp [encBr, PyData.hasDict, PyData.hasDictAll, a1, b1]
  · simp [encBr, PyData.showable, PyData.showableAll, a2, b2]
  · simp only [encBr, shB, shBs]
    omega
  · simp only [encBr, PyData.depth, PyData.depthAll]
    omega
structure RcpGood (m : MillD) (r : Rcp) : Prop where
  m3 : m.stuffs.length ≤ 3
  tri : TriOf m r (triL m.stuffs r)
  gd : gd (encRecipe r) = true
  is : isRecipe m.names (encRecipe r) = true
  gk : Gk 5 (encRecipe r)
  sx : ∀ s ∈ sidesQ (triL m.stuffs r), ∀ q ∈ s, Sx 1000000 q
  st : ∀ hs ∈ edgesL (sidesQ (triL m.stuffs r)), 0 < mostQ (triL m.stuffs r) → StepOk m.stuffs r hs (mostQ (triL m.stuffs r)) 10000
theorem RcpGood.es {m : MillD} {r : Rcp} (h : RcpGood m r) : EsOk (edgesL (sidesQ (triL m.stuffs r))) := by
  refine es_ok ?_ (fun s hs => ?_) h.sx
  · unfold sidesQ
    rw [List.length_map, tri_len]
    exact h.m3
  · unfold sidesQ at hs
    obtain ⟨z, _, rfl⟩ := List.mem_map.mp hs
    split <;> simp
section
variable {P : Program} {w : World} {K : PySem.W.Frag} {mg : Str → Option Value} {base : Heap}
def spBrinksG (K : PySem.W.Frag) (C : Addr) : Sp := fun vs H Q _ => ∃ (F : Hp) (ml : Addr) (rv : V) (m : MillD) (r : Rcp), vs = [.ref ml, rv] ∧ Ex F H ∧ MillAt K F C ml m ∧ RcpGood m r ∧ Dp K F rv (encRecipe r) ∧
  ∀ F' H' t am p ws, Gr F H F' H' → F' t = some (.tup [am, .ref p]) → Dp K F' am (encR (mostQ (triL m.stuffs r))) → F p = none → F' p = some (.lst ws) → AllP (NewE K (· ≠ p) F) F' ws (edgesL (sidesQ (triL m.stuffs r))) → Q (.ref t) H'
theorem brinksG_of {C CM CI G : Addr} (A : CalX P w K mg base "brinks" ["mill", "recipe"] 8 (spBrinks K C CM CI G)) : Cal P w K mg base "brinks" ["mill", "recipe"] 8 (spBrinksG K C) :=
  A.down fun vs H Q E ⟨F, ml, rv, m, r, e1, e, hm, rg, hv, q⟩ => ⟨F, _, _, e1, e, .inr (.inr ⟨ml, m, r, triL m.stuffs r, rfl, hm, rg.m3, hv, rg.gd, rg.is, rg.tri, q⟩)⟩
def spBrinksGood (K : PySem.W.Frag) (C : Addr) : Sp := fun vs H Q _ => ∃ (F : Hp) (ml : Addr) (pv rv : V) (m : MillD) (rest : PyData) (r : Rcp), vs = [pv, .ref ml, rv] ∧ Ex F H ∧ MillAt K F C ml m ∧ RcpGood m r ∧ Dp K F pv (.list [.list (m.stuffs.map encStuff), rest]) ∧ Dp K F rv (encRecipe r) ∧ ∀ F' H', Gr F H F' H' → Q (.bl true) H'
theorem sc__law_brinks_good : FnScope (["parts", "mill_here", "recipe_here", "due", "given", "turn", "told", "most", "ends", "held"] : List Str) (["parts", "mill_here", "recipe_here"] : List Str) (defScope sLawBrinksGood) := ⟨rfl, rfl, rfl, by decide +kernel, rfl, by decide +kernel, by decide +kernel⟩
theorem ok_law_brinks_good (D : Def K mg "_law_brinks_good" sLawBrinksGood ["parts", "mill_here", "recipe_here"]) (B : Bl mg) {C : Addr} (C__law_brinks : Cal P w K mg base "_law_brinks" ["parts", "recipe_here"] 5 (spD K fLBrinks)) (C_brinks : Cal P w K mg base "brinks" ["mill", "recipe"] 8 (spBrinksG K C)) (W_brinks : Kw2 K mg "brinks" "mill" "recipe") (C__law_stepped : Cal P w K mg base "_law_stepped" ["parts", "recipe_here", "held", "amount"] 5 (spD K fLStep)) :
    Cal P w K mg base "_law_brinks_good" ["parts", "mill_here", "recipe_here"] 9 (spBrinksGood K C) := by
  refine cal_mk D sc__law_brinks_good (fun vs H Q E h => ?_) (fun f cdv A outer s H vs Q E hr h => ?_)
  · obtain ⟨F, ml, pv, rv, m, rest, r, rfl, _⟩ := h
    rfl
  obtain ⟨F, ml, pv0, rv, m, rest, r, rfl, e, hm, rg, hpv, hrv, q⟩ := h
  refine ⟨_, (pss_cons (ps_par (i := 3) (j := 4) (by rfl) sc__law_brinks_good.nd rfl rfl (by decide) rfl rfl (pa_cons (pe_callC C__law_brinks hr (pa_cons (pv 0) (pa_cons (pv 2) pa_nil))) (pa_cons (pe_tup (pa_cons (pe_ix ix_tup (pv 2) pe_int (fun _ _ => rfl)) (pa_cons (pe_callTy call_list_of (by rfl) B.list (by decide +kernel) (pa_cons (pe_ix ix_tup (pv 2) pe_int (fun _ _ => rfl)) pa_nil)) (pa_cons (pe_callTy call_list_of (by rfl) B.list (by decide +kernel) (pa_cons (pe_ix ix_tup (pv 2) pe_int (fun _ _ => rfl)) pa_nil)) pa_nil)))) pa_nil)) (by rfl))
      (pss_cons (ps_for PassesOwn.never rfl (pi_range1 rfl B.range (pa_cons pe_int pa_nil)) (pg_name (i := 5) sc__law_brinks_good.nd rfl (.inl rfl)) (pss_cons (ps_set (i := 6) sc__law_brinks_good.nd rfl (.inl rfl) (pe_callC C_brinks hr (pa_cons (pv 1) (pa_cons (pv 4) pa_nil))))
      (pss_cons (ps_if (PW.pt (pw_or (pt_cmpR op_ne (pe_callB (id := "repr") (r := rReprD K) (call_reprD (by exact hr.2) (by exact hr.1.units)) (by rfl) B.repr (by decide +kernel) (pa_cons (pv 6) pa_nil)) (pe_callB (id := "repr") (r := rReprD K) (call_reprD (by exact hr.2) (by exact hr.1.units)) (by rfl) B.repr (by decide +kernel) (pa_cons (pv 3) pa_nil)) (nomark _)) (pw_or1 (pt_cmpR (op_neD (by exact hr.1.units)) (pe_kw2 C_brinks W_brinks hr (pv 4) (pv 1)) (pv 3) (nomark _))))) (pss_one (ps_ret pe_bl)) pss_nil)
      (pss_cons (ps_expr (pe_bm PySem.F.plainAttrs_list PySem.F.slot_list_append PySem.F.type_list_append mt_append (pe_ix ix_list (pe_ix ix_tup (pv 6) pe_int (fun _ _ => rfl)) pe_int (fun _ _ => rfl)) (pa_cons pe_non pa_nil)))
      (pss_one (ps_expr (pe_bm PySem.F.plainAttrs_list PySem.F.slot_list_append PySem.F.type_list_append mt_append (pe_ix ix_tup (pv 6) pe_int (fun _ _ => rfl)) (pa_cons pe_non pa_nil))))))))
      (pss_cons (ps_asg (pv 3) (pg_tup (by rfl) (pgs_cons (pg_name (i := 7) sc__law_brinks_good.nd rfl (.inl rfl)) (pgs_cons (pg_name (i := 8) sc__law_brinks_good.nd rfl (.inl rfl)) pgs_nil))))
      (pss_cons (ps_for PassesOwn.never rfl (pi_list (pv 8)) (pg_name (i := 9) sc__law_brinks_good.nd rfl (.inl rfl)) (pss_one (ps_if (PW.pt (pw_and (pt_cmpR op_gt (pe_ix ix_tup (pv 7) pe_int (fun _ _ => rfl)) pe_int (nomark _)) (pw_and1 (pt_cmpR op_isN (pe_callC C__law_stepped hr (pa_cons (pv 0) (pa_cons (pv 2) (pa_cons (pv 9) (pa_cons (pv 7) pa_nil))))) pe_non (nomark _))))) (pss_one (ps_ret pe_bl)) pss_nil)))
      (pss_one (ps_ret (pe_cmpR (op_eqD (by exact hr.1.units)) (pv 4) (pv 2) (nomark _)))))))), ?_⟩
  have st : start ["parts", "mill_here", "recipe_here", "due", "given", "turn", "told", "most", "ends", "held"] [pv0, V.ref ml, rv] = [some pv0, some (.ref ml), some rv, none, none, none, none, none, none, none] := rfl
  rw [st]
  have eo := rg.es
  have ev1 := gk_Br (q := mostQ (triL m.stuffs r)) eo
  have mk := mostQ_ok rg.tri.ok
  have rp := rp_Br (mk.1.mono (show 180 ≤ 1000000 by decide)) eo
  have hst := rg.st
  have l1 := eo.l1
  have l8 := eo.l8
  generalize hes : edgesL (sidesQ (triL m.stuffs r)) = es at *
  generalize hmo : mostQ (triL m.stuffs r) = mo at *
  have part : ∀ i : Nat, ∀ ps : List (Str × Int), (i = 1 ∧ ps = r.2.1 ∨ i = 2 ∧ ps = r.2.2) → EvL K (tCB (fun xs H Q => ∃ p ys, xs = [.ref p] ∧ (SqL K H p ys ∨ SqT K H p ys) ∧ ∀ l, H l = none → Q (.ref l) (upd H l (.lst ys))) (tCons (tOp (rIxT K) (tVar 2) (tC (.int (i : Int)))) tNil)) [some pv0, some (.ref ml), some rv, none, none, none, none, none, none, none] F (ps.map encPart) := fun i ps h => by
    rcases h with ⟨rfl, rfl⟩ | ⟨rfl, rfl⟩
    · exact el_list (d := .list (r.2.1.map encPart)) (Dv.ev_ixT (Dv.ev_var (i := 2) rfl hrv) (Dv.ev_int 1) rfl) (.inl rfl)
    · exact el_list (d := .list (r.2.2.map encPart)) (Dv.ev_ixT (Dv.ev_var (i := 2) rfl hrv) (Dv.ev_int 2) rfl) (.inl rfl)
  refine seq_of (Dv.s_par (K := K) (F := F) (a := encBr mo es) (b := encRecipe r) (Dv.ea_cons (ev_callD (f := fLBrinks) (Dv.ea_cons (Dv.ev_var (i := 0) rfl hpv) (Dv.ea_cons (Dv.ev_var (i := 2) rfl hrv) Dv.ea_nil)) ⟨m.stuffs, rest, r, rfl, rg.m3, rg.tri.ok, by rw [hmo, hes]; rfl⟩) (Dv.ea_cons (Dv.ev_tup (Dv.ea_cons (Dv.ev_ixT (d := .str r.1) (Dv.ev_var (i := 2) rfl hrv) (Dv.ev_int 0) rfl) (Dv.ea_cons (EvL.ev (part 1 _ (.inl ⟨rfl, rfl⟩))) (Dv.ea_cons (EvL.ev (part 2 _ (.inr ⟨rfl, rfl⟩))) Dv.ea_nil))) (by simp)) Dv.ea_nil)) e fun dv gv F1 H1 g1 hdv hgv => ?_)
  dsimp only
  show tSeq _ _ _ [some pv0, some (.ref ml), some rv, some dv, some gv, none, none, none, none, none] H1
  refine seq_of (Dv.s_for (K := K) (it_rng1 (σ := [some pv0, some (.ref ml), some rv, some dv, some gv, none, none, none, none, none]) (n := 2) (Dv.ea_cons (Dv.ev_int 2) Dv.ea_nil) (by decide) (by decide)) g1.fh
    (fun n σ' F' H' => ∃ s5 s6, σ' = [some pv0, some (.ref ml), some rv, some dv, some gv, s5, s6, none, none, none] ∧ Gr F H F' H' ∧ Ex F1 F') (fun F' H' g => ⟨_, _, rfl, g1.trans g, g.fx⟩) ?_ (fun σ' F' H' e1 e2 pv => ?_))
  · rintro Fb eb n σ' F3 H3 u du F4 H4 hdu e3 e4 ⟨s5, s6, rfl, gg, x13⟩ g4 hu4
    have x14 := x13.trans g4.fx
    have gg4 := gg.trans g4
    dsimp only
    show tSeq _ _ _ [some pv0, some (.ref ml), some rv, some dv, some gv, some u, s6, none, none, none] H4
    refine seq_of (asg_of ⟨_, rfl, _, rfl, F4, ml, gv, m, r, rfl, g4.fh, hm.mono gg4.fx, rg, dp_ex x14 hgv, fun F5 H5 t am p ws g5 ht ham fp hp hall => ?_⟩)
    rw [hes] at hall
    rw [hmo] at ham
    dsimp only
    show tSeq _ _ _ [some pv0, some (.ref ml), some rv, some dv, some gv, some u, some (.ref t), none, none, none] H5
    have hlist : Dp K F5 (.ref p) (encEs es) := .lst (SqL.of hp) (hall.dps fun v x h => NewE.dp v x h)
    have htold : Dp K F5 (.ref t) (encBr mo es) := .tup (SqT.of ht) (.cons ham (.cons hlist .nil))
    have x15 := x14.trans g5.fx
    have t1 : EtD (tTest (tOp rNe (tCB (rReprD K) (tCons (tVar 6) tNil)) (tCB (rReprD K) (tCons (tVar 3) tNil)))) [some pv0, some (.ref ml), some rv, some dv, some gv, some u, some (.ref t), none, none, none] F5 false := et_test (K := K) (Dv.ev_is (ev_neS (ev_repr (Dv.ev_var (i := 6) rfl htold) rp) (ev_repr (Dv.ev_var (i := 3) rfl (dp_ex x15 hdv)) rp)) (by rw [decide_eq_true rfl]; rfl))
    have ek : EvD K (tKw2 (spBrinksG K C) (tCons (tVar 4) (tCons (tVar 1) tNil))) [some pv0, some (.ref ml), some rv, some dv, some gv, some u, some (.ref t), none, none, none] F5 (encBr mo es) := fun H e Q q => ⟨_, rfl, _, rfl, _, _, rfl, F5, ml, gv, m, r, rfl, e, hm.mono (gg4.fx.trans g5.fx), rg, dp_ex x15 hgv, fun F' H' t' am' p' ws' g' ht' ham' fp' hp' hall' => q _ F' H' g' (by
      rw [hes] at hall'
      rw [hmo] at ham'
      exact .tup (SqT.of ht') (.cons ham' (.cons (.lst (SqL.of hp') (hall'.dps fun v x h => NewE.dp v x h)) .nil)))⟩
    have t2 : EtD (tTest (tOp (rNeD K) (tKw2 (spBrinksG K C) (tCons (tVar 4) (tCons (tVar 1) tNil))) (tVar 3))) [some pv0, some (.ref ml), some rv, some dv, some gv, some u, some (.ref t), none, none, none] F5 false := et_v (ev_neD ek (Dv.ev_var (i := 3) rfl (dp_ex x15 hdv)) (ev1.shaped (by decide)) (ev1.shaped (by decide))) (by rw [ev1.eqv] <;> rfl)
    refine seq_of (s_ifF (et_orF t1 t2) g5.fh fun F6 H6 g6 => ?_)
    try unfold tNext
    dsimp only
    have h56 : Ex H5 H6 := g6.hx
    have hp6 : H6 p = some (.lst ws) := h56 _ _ (g5.fh _ _ hp)
    have ht6 : H6 t = some (.tup [am, .ref p]) := h56 _ _ (g5.fh _ _ ht)
    obtain ⟨w0, wr, rfl⟩ : ∃ w0 wr, ws = w0 :: wr := by
      cases ws with
      | nil =>
        have := hall.len
        rw [List.length_nil] at this
        omega
      | cons a r => exact ⟨a, r, rfl⟩
    obtain ⟨e0, he0, h0⟩ := hall.at (i := 0) rfl
    obtain ⟨qa, us, rfl, fq, hq, hus, hqp⟩ := h0
    have hq6 : H6 qa = some (.lst us) := h56 _ _ (g5.fh _ _ hq)
    have hqt : t ≠ qa := fun z => by rw [z, hq6] at ht6; cases ht6
    have ul : us.length ≤ 3 := by
      rw [dps_len hus, List.length_map]
      exact (eo.e3 e0 (List.mem_of_getElem? he0)).1
    have wl : (V.ref qa :: wr).length ≤ 8 := by
      rw [hall.len]
      exact l8
    refine seq_of (s_appV (l := qa) (xs := us) (v := .non) (fun Q h => ⟨_, rfl, t, _, _, _, rfl, rfl, SqT.of ht6, atI_nat (j := 1) rfl, p, _, _, _, rfl, rfl, SqL.of hp6, atI_nat (j := 0) rfl, h⟩) hq6 (by omega) ?_)
    dsimp only
    refine s_appV (l := p) (xs := .ref qa :: wr) (v := .non) (fun Q h => ⟨_, rfl, t, _, _, _, rfl, rfl, SqT.of (by rw [upd_ne hqt]; exact ht6), atI_nat (j := 1) rfl, h⟩) (by rw [upd_ne (Ne.symm hqp)]; exact hp6) (by omega) ?_
    have gt := gr_told (u1 := .lst ((V.ref qa :: wr) ++ [.non])) (u2 := .lst (us ++ [.non])) g5 h56 fp hp fq hq
    exact ⟨F4, e3.trans g4.fx, gt.fh, _, _, rfl, gg4.trans gt, x14⟩
  · obtain ⟨s5, s6, rfl, gg, x13⟩ := pv
    dsimp only
    obtain ⟨z1, z2, hz1, hz2, hzt⟩ := tup2 (dp_ex x13 hdv)
    refine seq_of ⟨_, rfl, ?_⟩
    refine hzt 7 8 _ H' gg.fh _ ?_
    dsimp only
    show tSeq _ _ _ [some pv0, some (.ref ml), some rv, some dv, some gv, s5, s6, some z1, some z2, none] H'
    refine seq_of (Dv.s_for (K := K) (it_list (σ := [some pv0, some (.ref ml), some rv, some dv, some gv, s5, s6, some z1, some z2, none]) (Dv.ev_var (i := 8) rfl hz2)) gg.fh
      (fun n σ' F2 H2 => ∃ s9, σ' = [some pv0, some (.ref ml), some rv, some dv, some gv, s5, s6, some z1, some z2, s9] ∧ Gr F' H' F2 H2) (fun F2 H2 g => ⟨_, rfl, g⟩) ?_ (fun σ' F2 H2 e1 e2 pv => ?_))
    · rintro Fb eb n σ' F3 H3 u du F4 H4 hdu e3 e4 ⟨s9, rfl, g3⟩ g4 hu4
      obtain ⟨hn, hdn⟩ := List.getElem?_eq_some_iff.mp hdu
      rw [List.length_map] at hn
      rw [List.getElem_map] at hdn
      subst hdn
      have hmem : es[n] ∈ es := List.getElem_mem _
      generalize es[n] = hs at *
      have g34 := g3.trans g4
      have x4 := gg.fx.trans g34.fx
      dsimp only
      show tIfS _ _ _ _ [some pv0, some (.ref ml), some rv, some dv, some gv, s5, s6, some z1, some z2, some u] H4
      have gt0 : EtD (tTest (tOp (rI0 fun i j => V.bl (decide (j < i))) (tOp (rIxT K) (tVar 7) (tC (.int 0))) (tC (.int 0)))) [some pv0, some (.ref ml), some rv, some dv, some gv, s5, s6, some z1, some z2, some u] F4 (decide (0 < (toF mo).1)) := et_v (K := K) (d := .bool (decide (0 < (toF mo).1))) (Dv.ev_I0 (g := fun i j => V.bl (decide (j < i))) (i := (toF mo).1) (j := 0) (fun _ => .bl _) (Dv.ev_ixT (Dv.ev_var (i := 7) rfl (dp_ex g34.fx hz1)) (Dv.ev_int 0) rfl) (Dv.ev_int 0)) rfl
      have fin : ∀ F5 H5, Gr F4 H4 F5 H5 → NxP Fb (fun σ' F2 H2 => ∃ s9, σ' = [some pv0, some (.ref ml), some rv, some dv, some gv, s5, s6, some z1, some z2, s9] ∧ Gr F' H' F2 H2) [some pv0, some (.ref ml), some rv, some dv, some gv, s5, s6, some z1, some z2, some u] H5 := fun F5 H5 g5 => ⟨F5, e3.trans (g4.fx.trans g5.fx), g5.fh, _, rfl, g34.trans g5⟩
      by_cases h0 : 0 < (toF mo).1
      · rw [decide_eq_true h0] at gt0
        have hmo0 : 0 < mo := Rat.not_le.mp fun h => by
          have e0 : mo = 0 := Rat.le_antisymm h mk.2
          rw [e0] at h0
          exact absurd h0 (by decide)
        have so := hst hs hmem hmo0
        have stp := ev_callD (K := K) (F := F4) (E := E0) (f := fLStep) (σ := [some pv0, some (.ref ml), some rv, some dv, some gv, s5, s6, some z1, some z2, some u]) (Dv.ea_cons (Dv.ev_var (i := 0) rfl (dp_ex x4 hpv)) (Dv.ea_cons (Dv.ev_var (i := 2) rfl (dp_ex x4 hrv)) (Dv.ea_cons (Dv.ev_var (i := 9) rfl hu4) (Dv.ea_cons (Dv.ev_var (i := 7) rfl (dp_ex g34.fx hz1)) Dv.ea_nil)))) ⟨m.stuffs, rest, r, hs, mo, 10000, rfl, so, rfl⟩
        exact s_ifF (et_andT gt0 (et_v (ev_isNR stp) rfl)) g34.fh fin
      · rw [decide_eq_false h0] at gt0
        exact s_ifF (et_andF gt0) g34.fh fin
    · obtain ⟨s9, rfl, g2⟩ := pv
      dsimp only
      refine Dv.s_ret (K := K) (F := F2) (d := .bool true) (Dv.ev_is (ev_eqD (Dv.ev_var (i := 4) rfl (dp_ex (x13.trans g2.fx) hgv)) (Dv.ev_var (i := 2) rfl (dp_ex (gg.fx.trans g2.fx) hrv)) (rg.gk.shaped (by decide)) (rg.gk.shaped (by decide))) (by rw [rg.gk.eqv])) g2.fh fun v F3 H3 g3 hv => ?_
      cases hv
      exact q F3 H3 ((gg.trans g2).trans g3)
end
end R3

set_option Elab.async false
set_option linter.all false
set_option maxRecDepth 100000
set_option maxHeartbeats 4000000
namespace R3
open PySem PySem.Spec PyProof.Rows L2 Evl Dv StX
open Qa (toF Sx)
theorem callR_or {X : Cx} {f : Value} {r1 r2 : List V → Hp → VK → Prop} (A : CallR X f r1) (B : CallR X f r2) : CallR X f (fun xs H Q => r1 xs H Q ∨ r2 xs H Q) := fun pins s σ H xs us Q I rr q => q.elim (A pins s σ H xs us Q I rr) (B pins s σ H xs us Q I rr)
/-- an error class among the three, as the law looks at it -/
structure ErrK (K : PySem.W.Frag) (mg : Str → Option Value) (CE CM CX CI C0 : Addr) (b1 b2 b3 : Bool) : Prop where
  x : PySem.W.exmOne K (.ref C0) (.ref CE) = some true
  e : ExC K C0
  f : XfC K C0
  n : PySem.W.findIn K (.ref C0) "value" = some none
  k1 : PySem.W.kitOne K (.ref C0) (.ref CM) = some b1
  k2 : PySem.W.kitOne K (.ref C0) (.ref CX) = some b2
  k3 : PySem.W.kitOne K (.ref C0) (.ref CI) = some b3
/-- what is asked of the three errors and their base -/
structure ErrsB (K : PySem.W.Frag) (mg : Str → Option Value) (CE CM CX CI : Addr) : Prop where
  gE : mg "MillError" = some (.ref CE)
  gM : mg "InvalidMill" = some (.ref CM)
  gX : mg "InvalidBox" = some (.ref CX)
  gI : mg "InvalidItem" = some (.ref CI)
  m : ErrK K mg CE CM CX CI CM true false false
  x : ErrK K mg CE CM CX CI CX false true false
  i : ErrK K mg CE CM CX CI CI false false true
  n1 : PySem.W.kitOne K (.type "NoneType") (.ref CM) = some false
  n2 : PySem.W.kitOne K (.type "NoneType") (.ref CX) = some false
  n3 : PySem.W.kitOne K (.type "NoneType") (.ref CI) = some false
/-- what repr tells -/
def Rq (K : PySem.W.Frag) (F : Hp) (v : V) (d : PyData) : Prop := (Dp K F v d ∧ Rp d) ∨ ∃ p, v = .ref p ∧ F p = some (.dK []) ∧ d = .dict []
theorem rq_read {K : PySem.W.Frag} {F H : Hp} {v : V} {d : PyData} {Q : VK} (h : Rq K F v d) (e : Ex F H) (q : Q (.str d.shown) H) : rReprD K [v] H Q := by
  rcases h with ⟨h, r⟩ | ⟨p, rfl, h, rfl⟩
  · exact ⟨v, d, rfl, .inl ⟨dp_ex e h, r.nd⟩, r.sh, Nat.le_trans (shB_le d) (sz_of r.len), r.dep, q⟩
  · exact ⟨.ref p, .dict [], rfl, .inr ⟨p, [], [], rfl, e _ _ h, .nil, rfl⟩, by decide +kernel, Nat.le_trans (show (PyData.dict []).shown.length ≤ 100 by decide +kernel) (sz_of (by decide)), by decide +kernel, q⟩
section
variable {P : Program} {w : World} {K : PySem.W.Frag} {mg : Str → Option Value} {base : Heap}
theorem t_callSD2 {sp : Sp} {E : L2.St → XK} {σ : L2.St} {H : Hp} {D : Ends} {i j : Nat} {x y : V} (hi : σ[i]? = some (some x)) (hj : σ[j]? = some (some y)) (h : sp [x, y] H (fun _ H' => D.nx σ H') (E σ)) : tDrop (tCallSD sp [] E (tCons (tVar i) (tCons (tVar j) tNil))) D σ H := ⟨x, hi, y, hj, h⟩
def Thr (sp : Sp) (F H : Hp) (mv tv : V) (C0 : Addr) (u : V) : Prop := ∀ E Q', Bad C0 F H u E → sp [mv, tv] H Q' E
def Thn (sp : Sp) (F H : Hp) (mv tv : V) : Prop := ∀ E (Q' : VK), (∀ v F' H', Gr F H F' H' → Q' v H') → sp [mv, tv] H Q' E
def spCaught (K : PySem.W.Frag) (mg : Str → Option Value) (C CE CM CX CI G : Addr) : Sp := fun vs H Q _ => ∃ (which : Int) (mv tv : V) (F : Hp), vs = [.int which, mv, tv] ∧ Ex F H ∧
  ((∃ (C0 : Addr) (u : V) (d : PyData) (b1 b2 b3 : Bool), ((which = 0 ∧ Thr (spEdges K C CM CX) F H mv tv C0 u) ∨ (which = 1 ∧ Thr (spBrinks K C CM CI G) F H mv tv C0 u)) ∧ ErrK K mg CE CM CX CI C0 b1 b2 b3 ∧ Rq K F u d ∧
      ∀ p F' H', Gr F H F' H' → Dp K F' (.ref p) (.list [.bool b1, .bool b2, .bool b3, .str d.shown]) → Q (.ref p) H')
  ∨ (((which = 0 ∧ Thn (spEdges K C CM CX) F H mv tv) ∨ (which = 1 ∧ Thn (spBrinks K C CM CI G) F H mv tv)) ∧
      ∀ p F' H', Gr F H F' H' → Dp K F' (.ref p) (.list [.bool false, .bool false, .bool false, .none]) → Q (.ref p) H'))
theorem sc__law_caught : FnScope (["which", "mill_here", "thing", "error", "e", "kinds"] : List Str) (["which", "mill_here", "thing"] : List Str) (defScope sLawCaught) := ⟨rfl, rfl, rfl, by decide +kernel, rfl, by decide +kernel, by decide +kernel⟩
theorem ok_law_caught (D : Def K mg "_law_caught" sLawCaught ["which", "mill_here", "thing"]) (B : Bl mg) {C CE CM CX CI G : Addr} (ER : ErrsB K mg CE CM CX CI) (C_edges : CalX P w K mg base "edges" ["mill", "box"] 8 (spEdges K C CM CX)) (C_brinks : CalX P w K mg base "brinks" ["mill", "recipe"] 8 (spBrinks K C CM CI G)) :
    Cal P w K mg base "_law_caught" ["which", "mill_here", "thing"] 9 (spCaught K mg C CE CM CX CI G) := by
  refine cal_mk D sc__law_caught (fun vs H Q E h => ?_) (fun f cdv A outer s H vs Q E hr h => ?_)
  · obtain ⟨which, mv, tv, F, rfl, _⟩ := h
    rfl
  obtain ⟨which, mv, tv, F, rfl, e, h⟩ := h
  have gM := ER.gM
  have gX := ER.gX
  have gI := ER.gI
  refine ⟨_, (pss_cons (ps_set (i := 3) sc__law_caught.nd rfl (.inl rfl) pe_non)
      (pss_cons (ps_try_keep (i := 4) rfl rfl rfl sc__law_caught.nd rfl rfl ⟨rfl, by decide, .inl ER.gE⟩ takes0 (fun W pn xe tk _ => (pss_one (ps_if (pt_cmpR op_eq (pv 0) pe_int (nomark _)) (pss_one (ps_expr (pe_callXC C_edges hr tk (pa_cons (pv 1) (pa_cons (pv 2) pa_nil))))) (pss_one (ps_expr (pe_callXC C_brinks hr tk (pa_cons (pv 1) (pa_cons (pv 2) pa_nil)))))))) (fun a oe cls d pn hz hf => pss_one (ps_set (i := 3) sc__law_caught.nd rfl (.inl rfl) (pv 4))))
      (pss_cons (ps_set (i := 5) sc__law_caught.nd rfl (.inl rfl) (pe_lst (pa_cons (pe_callB (callR_or (r1 := rIsJ K) (r2 := rIsi K) call_isJ call_isi) (by rfl) B.isi (by decide +kernel) (pa_cons (pv 3) (pa_cons (pe_glob (v := .ref CM) rfl gM rfl) pa_nil))) (pa_cons (pe_callB (callR_or (r1 := rIsJ K) (r2 := rIsi K) call_isJ call_isi) (by rfl) B.isi (by decide +kernel) (pa_cons (pv 3) (pa_cons (pe_glob (v := .ref CX) rfl gX rfl) pa_nil))) (pa_cons (pe_callB (callR_or (r1 := rIsJ K) (r2 := rIsi K) call_isJ call_isi) (by rfl) B.isi (by decide +kernel) (pa_cons (pv 3) (pa_cons (pe_glob (v := .ref CI) rfl gI rfl) pa_nil))) pa_nil)))))
      (pss_one (ps_ret (pe_op op_catS (pv 5) (pe_lst (pa_cons (pe_ifExp (pt_cmpR op_isN (pv 3) pe_non (nomark _)) pe_non (pe_callB (id := "repr") (r := rReprD K) (call_reprD (by exact hr.2) (by exact hr.1.units)) (by rfl) B.repr (by decide +kernel) (pa_cons (pe_xjF (pv 3)) pa_nil))) pa_nil)))))))), ?_⟩
  have st : start ["which", "mill_here", "thing", "error", "e", "kinds"] [.int which, mv, tv] = [some (.int which), some mv, some tv, none, none, none] := rfl
  rw [st]
  have fin : ∀ (F1 Ha : Hp) (ev : V) (b1 b2 b3 : Bool) (last : PyData), Gr F H F1 Ha → (∀ H' (Q' : VK), Ex Ha H' → Q' (.bl b1) H' → ((rIsJ K [ev, .ref CM] H' Q') ∨ rIsi K [ev, .ref CM] H' Q')) → (∀ H' (Q' : VK), Ex Ha H' → Q' (.bl b2) H' → ((rIsJ K [ev, .ref CX] H' Q') ∨ rIsi K [ev, .ref CX] H' Q')) → (∀ H' (Q' : VK), Ex Ha H' → Q' (.bl b3) H' → ((rIsJ K [ev, .ref CI] H' Q') ∨ rIsi K [ev, .ref CI] H' Q')) →
      (∀ H' kv (Q' : VK), Ex Ha H' → (∀ lv, Dp K F1 lv last → Q' lv H') → (tIf (tTest (tOp rIsN (tVar 3) (tC .non))) (tC .non) (tCB (rReprD K) (tCons (tXjF K "value" (tVar 3)) tNil))) [some (.int which), some mv, some tv, some ev, none, some kv] H' Q') →
      (∀ p F' H', Gr F H F' H' → Dp K F' (.ref p) (.list [.bool b1, .bool b2, .bool b3, last]) → Q (.ref p) H') →
      tSeq (tAsg (tLst (tCons (tCB (fun xs H Q => rIsJ K xs H Q ∨ rIsi K xs H Q) (tCons (tVar 3) (tCons (tC (.ref CM)) tNil))) (tCons (tCB (fun xs H Q => rIsJ K xs H Q ∨ rIsi K xs H Q) (tCons (tVar 3) (tCons (tC (.ref CX)) tNil))) (tCons (tCB (fun xs H Q => rIsJ K xs H Q ∨ rIsi K xs H Q) (tCons (tVar 3) (tCons (tC (.ref CI)) tNil))) tNil)))) (gName 5))
        (tRet (tOp (rCatS K) (tVar 5) (tLst (tCons (tIf (tTest (tOp rIsN (tVar 3) (tC .non))) (tC .non) (tCB (rReprD K) (tCons (tXjF K "value" (tVar 3)) tNil))) tNil))))
        { nx := fun _ H' => Q .non H', rt := Q } [some (.int which), some mv, some tv, some ev, none, none] Ha := fun F1 Ha ev b1 b2 b3 last g1 i1 i2 i3 hl q => by
    refine ⟨_, rfl, i1 Ha _ (Ex.refl _) ?_⟩
    refine ⟨_, rfl, i2 Ha _ (Ex.refl _) ?_⟩
    refine ⟨_, rfl, i3 Ha _ (Ex.refl _) ?_⟩
    refine ⟨sz_of (by simp), fun p hp => ?_⟩
    have g2 := g1.trans (Gr.new (o := .lst [.bl b1, .bl b2, .bl b3]) g1.fh hp)
    have n1 : F1 p = none := ex_none g1.fh hp
    have hpp : upd Ha p (.lst [.bl b1, .bl b2, .bl b3]) p = some (.lst [.bl b1, .bl b2, .bl b3]) := upd_same
    have ea : Ex Ha (upd Ha p (.lst [.bl b1, .bl b2, .bl b3])) := Ex.new hp
    refine ⟨_, rfl, ?_⟩
    refine hl (upd Ha p (.lst [.bl b1, .bl b2, .bl b3])) (.ref p) _ ea fun lv hlv => ?_
    refine ⟨sz_of (by simp), fun p2 hp2 => ?_⟩
    have e2 : Ex (upd Ha p (.lst [.bl b1, .bl b2, .bl b3])) (upd (upd Ha p (.lst [.bl b1, .bl b2, .bl b3])) p2 (.lst [lv])) := Ex.new hp2
    refine ⟨p, p2, _, _, rfl, rfl, SqL.of (e2 _ _ hpp), SqL.of upd_same, sz_of (by simp), fun p3 hp3 => ?_⟩
    have g3 := Gr.back (F2 := F) g2 e2
    have g4 := g3.trans (Gr.new (o := .lst ([.bl b1, .bl b2, .bl b3] ++ [lv])) g3.fh hp3)
    refine q p3 _ _ g4 (.lst (SqL.of upd_same) (.cons (.bl _) (.cons (.bl _) (.cons (.bl _) (.cons (dp_ex ((Ex.new n1).trans (Ex.new (ex_none g3.fh hp3))) hlv) .nil)))))
  rcases h with ⟨C0, u, d, b1, b2, b3, hwh, ek, hu, q⟩ | ⟨hwh, q⟩
  · have suite : ∀ (F' H' : Hp) (dd a : Addr), Gr F H F' H' → H' dd = none → (upd H' dd (.xd [("value", u)])) a = none →
        tSeq (tAsg (tLst (tCons (tCB (fun xs H Q => rIsJ K xs H Q ∨ rIsi K xs H Q) (tCons (tVar 3) (tCons (tC (.ref CM)) tNil))) (tCons (tCB (fun xs H Q => rIsJ K xs H Q ∨ rIsi K xs H Q) (tCons (tVar 3) (tCons (tC (.ref CX)) tNil))) (tCons (tCB (fun xs H Q => rIsJ K xs H Q ∨ rIsi K xs H Q) (tCons (tVar 3) (tCons (tC (.ref CI)) tNil))) tNil)))) (gName 5))
          (tRet (tOp (rCatS K) (tVar 5) (tLst (tCons (tIf (tTest (tOp rIsN (tVar 3) (tC .non))) (tC .non) (tCB (rReprD K) (tCons (tXjF K "value" (tVar 3)) tNil))) tNil))))
          { nx := fun _ H' => Q .non H', rt := Q } [some (.int which), some mv, some tv, some (.ref a), none, none] (upd (upd H' dd (.xd [("value", u)])) a (ExJ C0 dd a)) := fun F' H' dd a g hdd ha => by
      have g1 := g.trans (Gr.only g.fh hdd (o := .xd [("value", u)]))
      have g2 := g1.trans (Gr.only g1.fh ha (o := ExJ C0 dd a))
      have h1 : (upd (upd H' dd (.xd [("value", u)])) a (ExJ C0 dd a)) a = some (ExJ C0 dd a) := upd_same
      have h2 : (upd (upd H' dd (.xd [("value", u)])) a (ExJ C0 dd a)) dd = some (.xd [("value", u)]) := by
        rw [upd_ne (fun z => by rw [← z, upd_same] at ha; exact nomatch ha), upd_same]
      refine fin F' _ (.ref a) b1 b2 b3 (.str d.shown) g2 (fun H3 Q' e3 q' => .inl ⟨a, C0, dd, _, _, b1, rfl, e3 _ _ h1, ⟨_, e3 _ _ h2⟩, .own CM, ek.e, ek.k1, q'⟩) (fun H3 Q' e3 q' => .inl ⟨a, C0, dd, _, _, b2, rfl, e3 _ _ h1, ⟨_, e3 _ _ h2⟩, .own CX, ek.e, ek.k2, q'⟩) (fun H3 Q' e3 q' => .inl ⟨a, C0, dd, _, _, b3, rfl, e3 _ _ h1, ⟨_, e3 _ _ h2⟩, .own CI, ek.e, ek.k3, q'⟩) (fun H3 kv Q' e3 q' => ?_) q
      refine ⟨_, rfl, rfl, _, rfl, iteF ?_⟩
      refine ⟨_, rfl, a, C0, dd, _, u, rfl, e3 _ _ h1, e3 _ _ h2, by simp [List.lookup], ek.f, ek.n, ?_⟩
      exact rq_read hu (((e.trans g2.hx).trans e3)) (q' _ (.str _))
    rcases hwh with ⟨rfl, hc⟩ | ⟨rfl, hc⟩
    · refine ⟨_, rfl, rfl, _, rfl, iteT ?_⟩
      refine t_callSD2 (i := 1) (j := 2) rfl rfl (hc _ _ fun F' H' dd g hdd => ?_)
      refine ⟨true, ek.x, fun _ a ha => ⟨_, rfl, C0, dd, rfl, rfl, fun na => ?_⟩, fun z => nomatch z⟩
      exact suite F' H' dd a g hdd ha
    · refine ⟨_, rfl, rfl, _, rfl, iteF ?_⟩
      refine t_callSD2 (i := 1) (j := 2) rfl rfl (hc _ _ fun F' H' dd g hdd => ?_)
      refine ⟨true, ek.x, fun _ a ha => ⟨_, rfl, C0, dd, rfl, rfl, fun na => ?_⟩, fun z => nomatch z⟩
      exact suite F' H' dd a g hdd ha
  · have tail : ∀ (F' H' : Hp), Gr F H F' H' →
        tSeq (tAsg (tLst (tCons (tCB (fun xs H Q => rIsJ K xs H Q ∨ rIsi K xs H Q) (tCons (tVar 3) (tCons (tC (.ref CM)) tNil))) (tCons (tCB (fun xs H Q => rIsJ K xs H Q ∨ rIsi K xs H Q) (tCons (tVar 3) (tCons (tC (.ref CX)) tNil))) (tCons (tCB (fun xs H Q => rIsJ K xs H Q ∨ rIsi K xs H Q) (tCons (tVar 3) (tCons (tC (.ref CI)) tNil))) tNil)))) (gName 5))
          (tRet (tOp (rCatS K) (tVar 5) (tLst (tCons (tIf (tTest (tOp rIsN (tVar 3) (tC .non))) (tC .non) (tCB (rReprD K) (tCons (tXjF K "value" (tVar 3)) tNil))) tNil))))
          { nx := fun _ H' => Q .non H', rt := Q } [some (.int which), some mv, some tv, some .non, none, none] H' := fun F' H' g => by
      have ty : ∀ H3 : Hp, TyX K H3 .non (.type "NoneType") := fun H3 => tyq_of (d := .none) (.dat .non)
      refine fin F' H' .non false false false .none g (fun H3 Q' e3 q' => .inr ⟨_, _, _, _, false, rfl, .own CM, ty H3, ER.n1, q'⟩) (fun H3 Q' e3 q' => .inr ⟨_, _, _, _, false, rfl, .own CX, ty H3, ER.n2, q'⟩) (fun H3 Q' e3 q' => .inr ⟨_, _, _, _, false, rfl, .own CI, ty H3, ER.n3, q'⟩) (fun H3 kv Q' e3 q' => ?_) q
      refine ⟨_, rfl, rfl, _, rfl, iteT ?_⟩
      exact q' _ .non
    rcases hwh with ⟨rfl, hc⟩ | ⟨rfl, hc⟩
    · refine ⟨_, rfl, rfl, _, rfl, iteT ?_⟩
      refine t_callSD2 (i := 1) (j := 2) rfl rfl (hc _ _ fun v F' H' g => ?_)
      exact tail F' H' g
    · refine ⟨_, rfl, rfl, _, rfl, iteF ?_⟩
      refine t_callSD2 (i := 1) (j := 2) rfl rfl (hc _ _ fun v F' H' g => ?_)
      exact tail F' H' g
end
end R3

set_option Elab.async false
set_option linter.all false
set_option maxRecDepth 100000
set_option maxHeartbeats 4000000
namespace Dv
open PySem PySem.Spec PyProof.Rows L2 Evl
section
variable {K : PySem.W.Frag} {σ : L2.St} {F : Hp} {te : TE} {tt : TT}
/-- a comprehension over data or empty dicts whose test always fails -/
theorem lc_noneQ {wi : TI} {g : TG} {vs : List Nat} {ds : List PyData} (hi : ItQ K wi σ F ds)
    (hb : ∀ d, d ∈ ds → ∀ v F1, Ex F F1 → Dq K F1 v d → ∃ σ2, (∀ H, Ex F1 H → ∀ Q : L2.St → Hp → Prop, Q σ2 H → g v (wipe σ vs) H Q) ∧ wipe σ2 vs = wipe σ vs ∧ EtD tt σ2 F1 false) :
    EvL K (tLc wi g tt te vs) σ F [] := fun H eH Q q => hi H eH _ fun J F1 H1 g1 wd => by
  obtain ⟨G, Y, W, hG, hY⟩ := wd
  intro D hD
  have fD : F1 D = none := ex_none g1.fh hD
  refine lc_it W (Pv := fun i H' => ∃ F', Gr F1 H1 F' H' ∧ F' D = none ∧ H' D = some (.lst [])) ⟨F1, (Gr.refl g1.fh).mut hD fD, fD, upd_same⟩
    (fun i H' _ p => ?_) (fun i v H2 H3 hin p y => ?_) (fun H' p => ?_)
  · obtain ⟨F', g2, _⟩ := p
    exact hG _ (g2.fx.trans g2.fh)
  · obtain ⟨F2, g2, f2, h2⟩ := p
    obtain ⟨F3, d, hd, g3, hv⟩ := hY F2 i H2 v H3 hin g2.fx g2.fh y
    obtain ⟨σ2, hgt, hwp, ht⟩ := hb d (List.mem_of_getElem? hd) v F3 (g1.fx.trans (g2.fx.trans g3.fx)) hv
    have k3 := g3.keep h2 f2
    refine hgt H3 g3.fh _ ⟨hwp, ht H3 g3.fh _ fun F4 H4 g4 => ?_⟩
    have k4 := g4.keep k3.1 k3.2
    exact ⟨F4, (g2.trans g3).trans g4, k4.2, k4.1⟩
  · obtain ⟨F', g2, fd, hd⟩ := p
    exact q D [] F' H' (g1.trans g2) (ex_none g1.hx hD) fd hd .nil
/-- a list of F walked, its items data or empty dicts -/
theorem itq_trk {i : Nat} {p : Addr} {vs : List V} {ds : List PyData} (hi : σ[i]? = some (some (.ref p))) (hp : F p = some (.lst vs)) (hd : DqAll K F vs ds) : ItQ K (iList K (tVar i)) σ F ds := fun H eH R q => by
  refine ⟨_, hi, p, rfl, ⟨vs, sq_of (eH _ _ hp)⟩, q _ F H (Gr.refl eH) ⟨_, _, by rw [← dqs_len hd]; exact walk_list (xs := vs), fun H e => sq_of (e _ _ hp), fun F2 i H2 x H3 _ e1 e2 y => ?_⟩⟩
  obtain ⟨rfl, hx⟩ := y
  obtain ⟨d, h1, h2⟩ := dqs_get hd hx
  exact ⟨F2, d, h1, Gr.refl e2, dq_ex e1 h2⟩
end
end Dv

set_option Elab.async false
set_option linter.all false
set_option maxRecDepth 100000
set_option maxHeartbeats 4000000
namespace R3
open PySem PySem.Spec PyProof.Rows L2 Evl Dv StX
open Qa (toF Sx)
/-! ### odd values, plain -/
def twoM : MillD := ⟨[("a", none), ("b", some 2)], []⟩
def isMt : PyData → Bool
  | .dict [] => true
  | _ => false
def rpB (d : PyData) : Bool := !d.hasDict && d.showable && decide (shB d ≤ 100000) && decide (d.depth ≤ 50)
def okB (d : PyData) : Bool := (rpB d || isMt d) && gd (.str d.shown) && gd d
theorem okB.rq {K : PySem.W.Frag} {F : Hp} {v : V} {d : PyData} (h : okB d = true) (hv : Dq K F v d) : Rq K F v d := by
  unfold okB at h
  simp only [Bool.and_eq_true, Bool.or_eq_true] at h
  cases hv with
  | mt hp => exact .inr ⟨_, rfl, hp, rfl⟩
  | dat hv =>
    rcases h.1.1 with h1 | h1
    · unfold rpB at h1
      simp only [Bool.and_eq_true, decide_eq_true_iff, Bool.not_eq_true'] at h1
      exact .inl ⟨hv, ⟨h1.1.1.1, h1.1.1.2, h1.1.2, h1.2⟩⟩
    · exfalso
      unfold isMt at h1
      split at h1
      · cases hv
      · cases h1
theorem okB.gk {d : PyData} (h : okB d = true) (b1 b2 b3 : Bool) : Gk 1 (.list [.bool b1, .bool b2, .bool b3, .str d.shown]) := by
  unfold okB at h
  simp only [Bool.and_eq_true] at h
  refine gk_list (by simp) fun y hy => ?_
  simp only [List.mem_cons, List.not_mem_nil, or_false] at hy
  rcases hy with rfl | rfl | rfl | rfl
  · exact ⟨by simp [gd], by simp [PyData.canLay0], by simp [PyData.depth]⟩
  · exact ⟨by simp [gd], by simp [PyData.canLay0], by simp [PyData.depth]⟩
  · exact ⟨by simp [gd], by simp [PyData.canLay0], by simp [PyData.depth]⟩
  · exact gk_str h.1.2
def iT (a b : Int) : PyData := .tuple [.int a, .int b]
def fullD : PyData := .tuple [iT 0 1, iT 1 1]
def oddM : List PyData := [.none, .int 0, .bool true, .str "mill", .list [], .tuple [], .dict [], .list [.tuple [.str "a", .int 1]]]
def odd1 : List PyData := [.none, .int 0, .tuple [], .str "box", .dict [], .list [], .list [fullD], .list [fullD, fullD, fullD], .tuple [fullD, fullD], .list [.tuple [iT 0 1, .none], fullD]]
def odd2 : List PyData := [.none, iT 0 1, .tuple [iT 0 1, .none], .tuple [iT 1 1, iT 0 1], .tuple [iT 0 1, iT 3 1], .tuple [iT 0 1, iT 2 2], .tuple [iT (-1) 1, iT 1 1]]
def odd3 : List PyData := [.tuple [iT 0 1, .tuple [.bool true, .int 1]], .list [iT 0 1, iT 1 1], .tuple [iT 0 1, iT 1 1, .none], .tuple [iT 0 1, .list [.int 1, .int 1]], .tuple [iT 0 1, iT 1 0]]
def rT (n : PyData) (a b : PyData) : PyData := .tuple [n, a, b]
def L0 : PyData := .list []
def nT (n : PyData) (k : PyData) : PyData := .tuple [n, k]
def odd4 : List PyData := [.none, .int 0, .str "r", .tuple [], .dict [], .tuple [.str "r", L0], .tuple [.str "r", L0, L0, L0], .list [.str "r", L0, L0], rT (.str "R") L0 L0, rT (.str "") L0 L0]
def odd5 : List PyData := [rT .none L0 L0, rT (.str "r") (.tuple []) L0, rT (.str "r") L0 .none, rT (.str "r") (.list [nT (.str "a") (.int 1), nT (.str "a") (.int 1)]) L0]
def odd6 : List PyData := [nT (.str "z") (.int 1), nT (.str "a") (.int 0), nT (.str "a") (.bool true), nT (.str "a") (.str "1"), .list [.str "a", .int 1], .tuple [.str "a"], nT (.str "a") (.int 1000001), nT (.list [.str "a"]) (.int 1), .none]
def odd7 (d : PyData) : List PyData := [rT (.str "r") (.list [d]) L0, rT (.str "r") (.list [nT (.str "b") (.int 1)]) (.list [nT (.str "b") (.int 1), d])]
def badX (d : PyData) : Bool := !isClosed twoM d && smBox d && okB d
def badR (d : PyData) : Bool := !isRecipe twoM.names d && okB d
theorem oddM_ok : (oddM.all okB) = true := by decide +kernel
theorem odd1_ok : (odd1.all badX) = true := by decide +kernel
theorem odd2_ok : (odd2.all fun d => badX (.list [fullD, d])) = true := by decide +kernel
theorem odd3_ok : (odd3.all fun d => badX (.list [fullD, d])) = true := by decide +kernel
theorem odd4_ok : (odd4.all badR) = true := by decide +kernel
theorem odd5_ok : (odd5.all badR) = true := by decide +kernel
theorem odd7_ok : (odd6.all fun d => (odd7 d).all badR) = true := by decide +kernel
section
variable {P : Program} {w : World} {K : PySem.W.Frag} {mg : Str → Option Value} {base : Heap}
theorem dps_rep {F : Hp} {v : V} {d : PyData} (h : Dp K F v d) : ∀ n : Nat, DpAll K F (List.replicate n v) (List.replicate n d)
  | 0 => .nil
  | n + 1 => .cons h (dps_rep h n)
/-- [x] * n -/
theorem el_rep {σ : L2.St} {F : Hp} {te tn : TE} {d : PyData} {n : Nat} (h : EvD K te σ F d) (hn : EvD K tn σ F (.int n)) (hz : n ≤ 100000) : EvL K (tOp rRep (tLst (tCons te tNil)) tn) σ F (List.replicate n d) := fun H e Q q =>
  Dv.el_lst (K := K) (Dv.ea_cons h Dv.ea_nil) (by simp) H e _ fun l ws F1 H1 g1 hl1 hf1 hl2 hw => by
    obtain ⟨y, rfl, hy⟩ := Dv.one hw
    refine (hn.mono g1.fx) H1 g1.fh _ fun v F2 H2 g2 hv => ?_
    cases hv
    have k2 := g2.keep hl2 hf1
    refine ⟨l, n, [y], rfl, rfl, k2.1, by omega, by omega, Evl.sz_of (by simp; omega), fun p hp => ?_⟩
    have e1 : (List.replicate ((n : Int)).toNat [y]).flatten = List.replicate n y := by
      rw [Int.toNat_natCast]
      exact List.flatten_replicate_singleton
    rw [e1]
    refine q p _ F2 _ ((g1.trans g2).trans (Gr.only g2.fh hp)) (ex_none (g1.trans g2).hx hp) (ex_none g2.fh hp) upd_same ?_
    exact dps_rep (dp_ex g2.fx hy) n
theorem ev_chainD {σ : L2.St} {F : Hp} {ta tb tc : TE} {a b c : PyData} (ha : EvD K ta σ F a) (hb : EvD K tb σ F b) (hc : EvD K tc σ F c) (sa : SeqAt.shaped a = true) (sb : SeqAt.shaped b = true) (sc : SeqAt.shaped c = true) (h : PyData.eqv a b = true) : EvD K (tChain (rEqD K) (rEqD K) ta tb tc) σ F (.bool (PyData.eqv b c)) := fun H e Q q =>
  ha H e _ fun x F1 H1 g1 hx => (hb.mono g1.fx) H1 g1.fh _ fun y F2 H2 g2 hy => ⟨a, b, dp_ex (g2.fx.trans g2.fh) hx, dp_ex g2.fh hy, sa, sb, true, by rw [h], iteT ((hc.mono (g1.fx.trans g2.fx)) H2 g2.fh _ fun w F3 H3 g3 hw => ⟨b, c, dp_ex (g3.fx.trans g3.fh) hy, dp_ex g3.fh hw, sb, sc, q _ F3 H3 ((g1.trans g2).trans g3) (.bl _)⟩)⟩
def noD : PyData := .list [.bool false, .bool false, .bool false]
theorem noD_sh : SeqAt.shaped noD = true := by decide +kernel
theorem noD_eq : PyData.eqv noD noD = true := by decide +kernel
def bxF : List (Rat × Rat) := [(0, 1), (0, 1)]
theorem bxF_eq : bxF.map encBd = [fullD, fullD] := by rfl
theorem bxF_cl : isClosed twoM (.list (bxF.map encBd)) = true := by
  rw [bxF_eq]
  decide +kernel
theorem bxF_gd : gd (.list (bxF.map encBd)) = true := by
  rw [bxF_eq]
  decide +kernel
theorem bxF_sm : smBox (.list (bxF.map encBd)) = true := by
  rw [bxF_eq]
  decide +kernel
def rZ : Rcp := ("z", [], [])
def zsZ : List Tri := [(none, 0, 0), (some 2, 0, 0)]
theorem triZ : TriOf twoM rZ zsZ := by
  refine ⟨rfl, by decide +kernel, by decide +kernel, fun z hz => ?_, (fun p hp => nomatch hp), (fun p hp => nomatch hp)⟩
  simp only [zsZ, List.mem_cons, List.not_mem_nil, or_false] at hz
  rcases hz with rfl | rfl
  · exact ⟨(fun k hk => nomatch hk), by decide, by decide⟩
  · exact ⟨fun k hk => by cases hk; decide, by decide, by decide⟩
theorem rZ_is : isRecipe twoM.names (encRecipe rZ) = true := by decide +kernel
theorem rZ_gd : gd (encRecipe rZ) = true := by decide +kernel
theorem ev_rq {σ : L2.St} {F : Hp} {i : Nat} {v : V} {d : PyData} (hi : σ[i]? = some (some v)) (h : Rq K F v d) : EvD K (tCB (rReprD K) (tCons (tVar i) tNil)) σ F (.str d.shown) := fun H e Q q => ⟨v, hi, rq_read h e (q _ F H (Gr.refl e) (.str _))⟩
/-- a test that two equal lists are unequal -/
theorem et_same {σ : L2.St} {F : Hp} {ta tb : TE} {d : PyData} (ha : EvD K ta σ F d) (hb : EvD K tb σ F d) (g : Gk 1 d) : EtD (tTest (tOp (rNeD K) ta tb)) σ F false := et_v (ev_neD ha hb (g.shaped (by decide)) (g.shaped (by decide))) (by rw [g.eqv] <;> rfl)
def spRefused (K : PySem.W.Frag) (C : Addr) : Sp := fun vs H Q _ => ∃ (F : Hp) (ml : Addr), vs = [.ref ml] ∧ Ex F H ∧ MillAt K F C ml twoM ∧ ∀ F' H', Gr F H F' H' → Q (.bl true) H'
theorem sc__law_refused : FnScope (["mill_here", "bad", "which", "full", "odds", "item"] : List Str) (["mill_here"] : List Str) (defScope sLawRefused) := ⟨rfl, rfl, rfl, by decide +kernel, rfl, by decide +kernel, by decide +kernel⟩
theorem ok_law_refused (D : Def K mg "_law_refused" sLawRefused ["mill_here"]) (B : Bl mg) {C CE CM CX CI G : Addr} (ER : ErrsB K mg CE CM CX CI) (C__law_caught : Cal P w K mg base "_law_caught" ["which", "mill_here", "thing"] 9 (spCaught K mg C CE CM CX CI G)) :
    Cal P w K mg base "_law_refused" ["mill_here"] 10 (spRefused K C) := by
  refine cal_mk D sc__law_refused (fun vs H Q E h => ?_) (fun f cdv A outer s H vs Q E hr h => ?_)
  · obtain ⟨F, ml, rfl, _⟩ := h
    rfl
  obtain ⟨F, ml, rfl, e, hm, q⟩ := h
  refine ⟨_, (pss_cons (ps_for PassesOwn.never rfl (pi_list (pe_lst (pa_cons pe_non (pa_cons pe_int (pa_cons pe_bl (pa_cons pe_str (pa_cons (pe_lst pa_nil) (pa_cons (pe_tup pa_nil) (pa_cons pe_dnewK (pa_cons (pe_lst (pa_cons (pe_tup (pa_cons pe_str (pa_cons pe_int pa_nil))) pa_nil)) pa_nil)))))))))) (pg_name (i := 1) sc__law_refused.nd rfl (.inl rfl)) (pss_one (ps_for PassesOwn.never rfl (pi_range1 rfl B.range (pa_cons pe_int pa_nil)) (pg_name (i := 2) sc__law_refused.nd rfl (.inl rfl)) (pss_one (ps_if (pt_cmpR (op_neD hr.1.units) (pe_callC C__law_caught hr (pa_cons (pv 2) (pa_cons (pv 1) (pa_cons pe_non pa_nil)))) (pe_lst (pa_cons pe_bl (pa_cons pe_bl (pa_cons pe_bl (pa_cons (pe_callB (id := "repr") (r := rReprD K) (call_reprD (by exact hr.2) (by exact hr.1.units)) (by rfl) B.repr (by decide +kernel) (pa_cons (pv 1) pa_nil)) pa_nil))))) (nomark _)) (pss_one (ps_ret pe_bl)) pss_nil)))))
      (pss_cons (ps_set (i := 3) sc__law_refused.nd rfl (.inl rfl) (pe_tup (pa_cons (pe_tup (pa_cons pe_int (pa_cons pe_int pa_nil))) (pa_cons (pe_tup (pa_cons pe_int (pa_cons pe_int pa_nil))) pa_nil))))
      (pss_cons (ps_set (i := 4) sc__law_refused.nd rfl (.inl rfl) (pe_lst (pa_cons pe_non (pa_cons pe_int (pa_cons (pe_tup pa_nil) (pa_cons pe_str (pa_cons pe_dnewK (pa_cons (pe_lst pa_nil) (pa_cons (pe_lst (pa_cons (pv 3) pa_nil)) (pa_cons (pe_op op_rep (pe_lst (pa_cons (pv 3) pa_nil)) pe_int) (pa_cons (pe_tup (pa_cons (pv 3) (pa_cons (pv 3) pa_nil))) (pa_cons (pe_lst (pa_cons (pe_tup (pa_cons (pe_tup (pa_cons pe_int (pa_cons pe_int pa_nil))) (pa_cons pe_non pa_nil))) (pa_cons (pv 3) pa_nil))) pa_nil))))))))))))
      (pss_cons (ps_for PassesOwn.never rfl (pi_list (pe_lst (pa_cons pe_non (pa_cons (pe_tup (pa_cons pe_int (pa_cons pe_int pa_nil))) (pa_cons (pe_tup (pa_cons (pe_tup (pa_cons pe_int (pa_cons pe_int pa_nil))) (pa_cons pe_non pa_nil))) (pa_cons (pe_tup (pa_cons (pe_tup (pa_cons pe_int (pa_cons pe_int pa_nil))) (pa_cons (pe_tup (pa_cons pe_int (pa_cons pe_int pa_nil))) pa_nil))) (pa_cons (pe_tup (pa_cons (pe_tup (pa_cons pe_int (pa_cons pe_int pa_nil))) (pa_cons (pe_tup (pa_cons pe_int (pa_cons pe_int pa_nil))) pa_nil))) (pa_cons (pe_tup (pa_cons (pe_tup (pa_cons pe_int (pa_cons pe_int pa_nil))) (pa_cons (pe_tup (pa_cons pe_int (pa_cons pe_int pa_nil))) pa_nil))) (pa_cons (pe_tup (pa_cons (pe_tup (pa_cons (pe_un un_neg pe_int) (pa_cons pe_int pa_nil))) (pa_cons (pe_tup (pa_cons pe_int (pa_cons pe_int pa_nil))) pa_nil))) pa_nil))))))))) (pg_name (i := 5) sc__law_refused.nd rfl (.inl rfl)) (pss_one (ps_expr (pe_bm PySem.F.plainAttrs_list PySem.F.slot_list_append PySem.F.type_list_append mt_append (pv 4) (pa_cons (pe_lst (pa_cons (pv 3) (pa_cons (pv 5) pa_nil))) pa_nil)))))
      (pss_cons (ps_for PassesOwn.never rfl (pi_list (pe_lst (pa_cons (pe_tup (pa_cons (pe_tup (pa_cons pe_int (pa_cons pe_int pa_nil))) (pa_cons (pe_tup (pa_cons pe_bl (pa_cons pe_int pa_nil))) pa_nil))) (pa_cons (pe_lst (pa_cons (pe_tup (pa_cons pe_int (pa_cons pe_int pa_nil))) (pa_cons (pe_tup (pa_cons pe_int (pa_cons pe_int pa_nil))) pa_nil))) (pa_cons (pe_tup (pa_cons (pe_tup (pa_cons pe_int (pa_cons pe_int pa_nil))) (pa_cons (pe_tup (pa_cons pe_int (pa_cons pe_int pa_nil))) (pa_cons pe_non pa_nil)))) (pa_cons (pe_tup (pa_cons (pe_tup (pa_cons pe_int (pa_cons pe_int pa_nil))) (pa_cons (pe_lst (pa_cons pe_int (pa_cons pe_int pa_nil))) pa_nil))) (pa_cons (pe_tup (pa_cons (pe_tup (pa_cons pe_int (pa_cons pe_int pa_nil))) (pa_cons (pe_tup (pa_cons pe_int (pa_cons pe_int pa_nil))) pa_nil))) pa_nil))))))) (pg_name (i := 5) sc__law_refused.nd rfl (.inl rfl)) (pss_one (ps_expr (pe_bm PySem.F.plainAttrs_list PySem.F.slot_list_append PySem.F.type_list_append mt_append (pv 4) (pa_cons (pe_lst (pa_cons (pv 3) (pa_cons (pv 5) pa_nil))) pa_nil)))))
      (pss_cons (ps_for PassesOwn.never rfl (pi_list (pv 4)) (pg_name (i := 1) sc__law_refused.nd rfl (.inl rfl)) (pss_one (ps_if (pt_cmpR (op_neD hr.1.units) (pe_callC C__law_caught hr (pa_cons pe_int (pa_cons (pv 0) (pa_cons (pv 1) pa_nil)))) (pe_lst (pa_cons pe_bl (pa_cons pe_bl (pa_cons pe_bl (pa_cons (pe_callB (id := "repr") (r := rReprD K) (call_reprD (by exact hr.2) (by exact hr.1.units)) (by rfl) B.repr (by decide +kernel) (pa_cons (pv 1) pa_nil)) pa_nil))))) (nomark _)) (pss_one (ps_ret pe_bl)) pss_nil)))
      (pss_cons (ps_set (i := 4) sc__law_refused.nd rfl (.inl rfl) (pe_lst (pa_cons pe_non (pa_cons pe_int (pa_cons pe_str (pa_cons (pe_tup pa_nil) (pa_cons pe_dnewK (pa_cons (pe_tup (pa_cons pe_str (pa_cons (pe_lst pa_nil) pa_nil))) (pa_cons (pe_tup (pa_cons pe_str (pa_cons (pe_lst pa_nil) (pa_cons (pe_lst pa_nil) (pa_cons (pe_lst pa_nil) pa_nil))))) (pa_cons (pe_lst (pa_cons pe_str (pa_cons (pe_lst pa_nil) (pa_cons (pe_lst pa_nil) pa_nil)))) (pa_cons (pe_tup (pa_cons pe_str (pa_cons (pe_lst pa_nil) (pa_cons (pe_lst pa_nil) pa_nil)))) (pa_cons (pe_tup (pa_cons pe_str (pa_cons (pe_lst pa_nil) (pa_cons (pe_lst pa_nil) pa_nil)))) pa_nil))))))))))))
      (pss_cons (ps_set (i := 4) sc__law_refused.nd rfl (.inl rfl) (pe_op op_cat (pv 4) (pe_lst (pa_cons (pe_tup (pa_cons pe_non (pa_cons (pe_lst pa_nil) (pa_cons (pe_lst pa_nil) pa_nil)))) (pa_cons (pe_tup (pa_cons pe_str (pa_cons (pe_tup pa_nil) (pa_cons (pe_lst pa_nil) pa_nil)))) (pa_cons (pe_tup (pa_cons pe_str (pa_cons (pe_lst pa_nil) (pa_cons pe_non pa_nil)))) (pa_cons (pe_tup (pa_cons pe_str (pa_cons (pe_lst (pa_cons (pe_tup (pa_cons pe_str (pa_cons pe_int pa_nil))) (pa_cons (pe_tup (pa_cons pe_str (pa_cons pe_int pa_nil))) pa_nil))) (pa_cons (pe_lst pa_nil) pa_nil)))) pa_nil)))))))
      (pss_cons (ps_for PassesOwn.never rfl (pi_list (pe_lst (pa_cons (pe_tup (pa_cons pe_str (pa_cons pe_int pa_nil))) (pa_cons (pe_tup (pa_cons pe_str (pa_cons pe_int pa_nil))) (pa_cons (pe_tup (pa_cons pe_str (pa_cons pe_bl pa_nil))) (pa_cons (pe_tup (pa_cons pe_str (pa_cons pe_str pa_nil))) (pa_cons (pe_lst (pa_cons pe_str (pa_cons pe_int pa_nil))) (pa_cons (pe_tup (pa_cons pe_str pa_nil)) (pa_cons (pe_tup (pa_cons pe_str (pa_cons (pe_op op_add (pe_op op_pow pe_int pe_int) pe_int) pa_nil))) (pa_cons (pe_tup (pa_cons (pe_lst (pa_cons pe_str pa_nil)) (pa_cons pe_int pa_nil))) (pa_cons pe_non pa_nil))))))))))) (pg_name (i := 5) sc__law_refused.nd rfl (.inl rfl)) (pss_one (ps_set (i := 4) sc__law_refused.nd rfl (.inl rfl) (pe_op op_cat (pv 4) (pe_lst (pa_cons (pe_tup (pa_cons pe_str (pa_cons (pe_lst (pa_cons (pv 5) pa_nil)) (pa_cons (pe_lst pa_nil) pa_nil)))) (pa_cons (pe_tup (pa_cons pe_str (pa_cons (pe_lst (pa_cons (pe_tup (pa_cons pe_str (pa_cons pe_int pa_nil))) pa_nil)) (pa_cons (pe_lst (pa_cons (pe_tup (pa_cons pe_str (pa_cons pe_int pa_nil))) (pa_cons (pv 5) pa_nil))) pa_nil)))) pa_nil)))))))
      (pss_cons (ps_for PassesOwn.never rfl (pi_list (pv 4)) (pg_name (i := 1) sc__law_refused.nd rfl (.inl rfl)) (pss_one (ps_if (pt_cmpR (op_neD hr.1.units) (pe_callC C__law_caught hr (pa_cons pe_int (pa_cons (pv 0) (pa_cons (pv 1) pa_nil)))) (pe_lst (pa_cons pe_bl (pa_cons pe_bl (pa_cons pe_bl (pa_cons (pe_callB (id := "repr") (r := rReprD K) (call_reprD (by exact hr.2) (by exact hr.1.units)) (by rfl) B.repr (by decide +kernel) (pa_cons (pv 1) pa_nil)) pa_nil))))) (nomark _)) (pss_one (ps_ret pe_bl)) pss_nil)))
      (pss_one (ps_ret (pe_chain (r := rEqD K) (r' := rEqD K) (op_eqD (by exact hr.1.units)) (op_eqD (by exact hr.1.units)) (pe_slice sl_list (pe_callC C__law_caught hr (pa_cons pe_int (pa_cons (pv 0) (pa_cons (pe_lst (pa_cons (pv 3) (pa_cons (pv 3) pa_nil))) pa_nil)))) po_none (po_some pe_int)) (pe_slice sl_list (pe_callC C__law_caught hr (pa_cons pe_int (pa_cons (pv 0) (pa_cons (pe_tup (pa_cons pe_str (pa_cons (pe_lst pa_nil) (pa_cons (pe_lst pa_nil) pa_nil)))) pa_nil)))) po_none (po_some pe_int)) (pe_op op_rep (pe_lst (pa_cons pe_bl pa_nil)) pe_int)))))))))))))), ?_⟩
  have st : start ["mill_here", "bad", "which", "full", "odds", "item"] [V.ref ml] = [some (.ref ml), none, none, none, none, none] := rfl
  rw [st]
  -- what is told of a refusal
  have told : ∀ (wh : Int) (i j k : Nat) (mv tv : V) (C0 : Addr) (u : V) (d : PyData) (b1 b2 b3 : Bool) (σ : L2.St) (F' : Hp), (∀ H', Ex F' H' → (wh = 0 ∧ Thr (spEdges K C CM CX) F' H' mv tv C0 u) ∨ (wh = 1 ∧ Thr (spBrinks K C CM CI G) F' H' mv tv C0 u)) → ErrK K mg CE CM CX CI C0 b1 b2 b3 → Rq K F' u d →
      ∀ H', Ex F' H' → ∀ Q' : VK, (∀ p F2 H2, Gr F' H' F2 H2 → Dp K F2 (.ref p) (.list [.bool b1, .bool b2, .bool b3, .str d.shown]) → Q' (.ref p) H2) → spCaught K mg C CE CM CX CI G [.int wh, mv, tv] H' Q' E0 := fun wh i j k mv tv C0 u d b1 b2 b3 σ F' hh ek rq H' e' Q' q' =>
    ⟨wh, mv, tv, F', rfl, e', .inl ⟨C0, u, d, b1, b2, b3, hh H' e', ek, rq, q'⟩⟩
  -- no mills
  refine seq_of (s_forQ (K := K) (F := F) (ds := oddM) (itq_list (elq_lst (eaq_cons (EvD.q (by (repeat (first | exact Dv.ev_int _ | exact Dv.ev_non | exact Dv.ev_bl _ | exact Dv.ev_str _ | exact Dv.ea_nil  | exact Dv.ev_U (i := 1) (k := .int (-1)) (fun _ => .int _) (Dv.ev_int 1) | exact Dv.ev_I0 (i := 1000000) (j := 1) (fun _ => .int _) (Dv.ev_I (i := 10) (j := 6) ⟨by decide, by decide, by decide⟩ (fun _ => .int _) (Dv.ev_int 10) (Dv.ev_int 6)) (Dv.ev_int 1) | refine Dv.ev_tup ?_ (by simp) | refine EvL.ev (Dv.el_lst ?_ (by simp)) | refine Dv.ea_cons ?_ ?_)))) (eaq_cons (EvD.q (by (repeat (first | exact Dv.ev_int _ | exact Dv.ev_non | exact Dv.ev_bl _ | exact Dv.ev_str _ | exact Dv.ea_nil  | exact Dv.ev_U (i := 1) (k := .int (-1)) (fun _ => .int _) (Dv.ev_int 1) | exact Dv.ev_I0 (i := 1000000) (j := 1) (fun _ => .int _) (Dv.ev_I (i := 10) (j := 6) ⟨by decide, by decide, by decide⟩ (fun _ => .int _) (Dv.ev_int 10) (Dv.ev_int 6)) (Dv.ev_int 1) | refine Dv.ev_tup ?_ (by simp) | refine EvL.ev (Dv.el_lst ?_ (by simp)) | refine Dv.ea_cons ?_ ?_)))) (eaq_cons (EvD.q (by (repeat (first | exact Dv.ev_int _ | exact Dv.ev_non | exact Dv.ev_bl _ | exact Dv.ev_str _ | exact Dv.ea_nil  | exact Dv.ev_U (i := 1) (k := .int (-1)) (fun _ => .int _) (Dv.ev_int 1) | exact Dv.ev_I0 (i := 1000000) (j := 1) (fun _ => .int _) (Dv.ev_I (i := 10) (j := 6) ⟨by decide, by decide, by decide⟩ (fun _ => .int _) (Dv.ev_int 10) (Dv.ev_int 6)) (Dv.ev_int 1) | refine Dv.ev_tup ?_ (by simp) | refine EvL.ev (Dv.el_lst ?_ (by simp)) | refine Dv.ea_cons ?_ ?_)))) (eaq_cons (EvD.q (by (repeat (first | exact Dv.ev_int _ | exact Dv.ev_non | exact Dv.ev_bl _ | exact Dv.ev_str _ | exact Dv.ea_nil  | exact Dv.ev_U (i := 1) (k := .int (-1)) (fun _ => .int _) (Dv.ev_int 1) | exact Dv.ev_I0 (i := 1000000) (j := 1) (fun _ => .int _) (Dv.ev_I (i := 10) (j := 6) ⟨by decide, by decide, by decide⟩ (fun _ => .int _) (Dv.ev_int 10) (Dv.ev_int 6)) (Dv.ev_int 1) | refine Dv.ev_tup ?_ (by simp) | refine EvL.ev (Dv.el_lst ?_ (by simp)) | refine Dv.ea_cons ?_ ?_)))) (eaq_cons (EvD.q (by (repeat (first | exact Dv.ev_int _ | exact Dv.ev_non | exact Dv.ev_bl _ | exact Dv.ev_str _ | exact Dv.ea_nil  | exact Dv.ev_U (i := 1) (k := .int (-1)) (fun _ => .int _) (Dv.ev_int 1) | exact Dv.ev_I0 (i := 1000000) (j := 1) (fun _ => .int _) (Dv.ev_I (i := 10) (j := 6) ⟨by decide, by decide, by decide⟩ (fun _ => .int _) (Dv.ev_int 10) (Dv.ev_int 6)) (Dv.ev_int 1) | refine Dv.ev_tup ?_ (by simp) | refine EvL.ev (Dv.el_lst ?_ (by simp)) | refine Dv.ea_cons ?_ ?_)))) (eaq_cons (EvD.q (by (repeat (first | exact Dv.ev_int _ | exact Dv.ev_non | exact Dv.ev_bl _ | exact Dv.ev_str _ | exact Dv.ea_nil  | exact Dv.ev_U (i := 1) (k := .int (-1)) (fun _ => .int _) (Dv.ev_int 1) | exact Dv.ev_I0 (i := 1000000) (j := 1) (fun _ => .int _) (Dv.ev_I (i := 10) (j := 6) ⟨by decide, by decide, by decide⟩ (fun _ => .int _) (Dv.ev_int 10) (Dv.ev_int 6)) (Dv.ev_int 1) | refine Dv.ev_tup ?_ (by simp) | refine EvL.ev (Dv.el_lst ?_ (by simp)) | refine Dv.ea_cons ?_ ?_)))) (eaq_cons eq_mt (eaq_cons (EvD.q (by (repeat (first | exact Dv.ev_int _ | exact Dv.ev_non | exact Dv.ev_bl _ | exact Dv.ev_str _ | exact Dv.ea_nil  | exact Dv.ev_U (i := 1) (k := .int (-1)) (fun _ => .int _) (Dv.ev_int 1) | exact Dv.ev_I0 (i := 1000000) (j := 1) (fun _ => .int _) (Dv.ev_I (i := 10) (j := 6) ⟨by decide, by decide, by decide⟩ (fun _ => .int _) (Dv.ev_int 10) (Dv.ev_int 6)) (Dv.ev_int 1) | refine Dv.ev_tup ?_ (by simp) | refine EvL.ev (Dv.el_lst ?_ (by simp)) | refine Dv.ea_cons ?_ ?_)))) eaq_nil)))))))) (by decide))) e
    (fun n σ' F' H' => ∃ s1 s2, σ' = [some (.ref ml), s1, s2, none, none, none] ∧ Gr F H F' H') (fun F' H' g => ⟨_, _, rfl, g⟩) ?_ (fun σ' F1 H1 e1 e1' pv => ?_))
  · rintro Fb eb n σ' F3 H3 u d F4 H4 hd e3 e4 ⟨s1, s2, rfl, gg⟩ g4 hu
    have ok := List.all_eq_true.mp oddM_ok d (List.mem_of_getElem? hd)
    have gg4 := gg.trans g4
    dsimp only
    show tFor _ _ _ _ [some (.ref ml), some u, s2, none, none, none] H4
    refine Dv.s_for (K := K) (it_rng1 (σ := [some (.ref ml), some u, s2, none, none, none]) (n := 2) (Dv.ea_cons (Dv.ev_int 2) Dv.ea_nil) (by decide) (by decide)) gg4.fh
      (fun n σ' F' H' => ∃ s2, σ' = [some (.ref ml), some u, s2, none, none, none] ∧ Gr F4 H4 F' H') (fun F' H' g => ⟨_, rfl, g⟩) ?_ (fun σ' F' H' e1 e2 pv => ?_)
    · rintro Fc ec i σ' F5 H5 wv wd F6 H6 hwd e5 e6 ⟨s2, rfl, g5⟩ g6 hwv
      obtain ⟨wi, hwi, rfl⟩ : ∃ wi : Nat, wi < 2 ∧ wd = .int (wi : Int) := by
        rw [List.getElem?_map] at hwd
        obtain ⟨j, hj, rfl⟩ := Option.map_eq_some_iff.mp hwd
        exact ⟨j, List.mem_range.mp (List.mem_of_getElem? hj), rfl⟩
      cases hwv
      have g56 := g5.trans g6
      have hu6 := dq_ex g56.fx hu
      dsimp only
      show tIfS _ _ _ _ [some (.ref ml), some u, some (.int (wi : Int)), none, none, none] H6
      have rq := okB.rq ok hu6
      have cg : EvD K (tCall (spCaught K mg C CE CM CX CI G) [] E0 (tCons (tVar 2) (tCons (tVar 1) (tCons (tC .non) tNil)))) [some (.ref ml), some u, some (.int (wi : Int)), none, none, none] F6 (.list [.bool true, .bool false, .bool false, .str d.shown]) := fun H' e' Q' q' =>
        ⟨_, rfl, _, rfl, told wi 0 0 0 u .non CM u d true false false [] F6 (fun H' e' => by
          rcases (show wi = 0 ∨ wi = 1 by omega) with rfl | rfl
          · exact .inl ⟨rfl, fun E Q' bad => ⟨F6, u, .non, rfl, e', .inl ⟨d, hu6, bad⟩⟩⟩
          · exact .inr ⟨rfl, fun E Q' bad => ⟨F6, u, .non, rfl, e', .inl ⟨d, hu6, bad⟩⟩⟩) ER.m rq H' e' Q' fun p F2 H2 g h => q' _ F2 H2 g h⟩
      refine s_ifF (et_same cg (EvL.ev (Dv.el_lst (Dv.ea_cons (Dv.ev_bl _) (Dv.ea_cons (Dv.ev_bl _) (Dv.ea_cons (Dv.ev_bl _) (Dv.ea_cons (ev_rq (i := 1) rfl rq) Dv.ea_nil)))) (by simp))) (okB.gk ok _ _ _)) g6.fh fun F7 H7 g7 => ⟨F7, e5.trans (g6.fx.trans g7.fx), g7.fh, _, rfl, g56.trans g7⟩
    · obtain ⟨s2, rfl, g5⟩ := pv
      exact ⟨F', e3.trans (g4.fx.trans g5.fx), g5.fh, _, _, rfl, gg4.trans g5⟩
  obtain ⟨s1, s2, rfl, gg1⟩ := pv
  dsimp only
  show tSeq _ _ _ [some (.ref ml), s1, s2, none, none, none] H1
  refine seq_of (Dv.s_asg (K := K) (F := F1) (d := fullD) (by (repeat (first | exact Dv.ev_int _ | exact Dv.ev_non | exact Dv.ev_bl _ | exact Dv.ev_str _ | exact Dv.ea_nil  | exact Dv.ev_U (i := 1) (k := .int (-1)) (fun _ => .int _) (Dv.ev_int 1) | exact Dv.ev_I0 (i := 1000000) (j := 1) (fun _ => .int _) (Dv.ev_I (i := 10) (j := 6) ⟨by decide, by decide, by decide⟩ (fun _ => .int _) (Dv.ev_int 10) (Dv.ev_int 6)) (Dv.ev_int 1) | refine Dv.ev_tup ?_ (by simp) | refine EvL.ev (Dv.el_lst ?_ (by simp)) | refine Dv.ea_cons ?_ ?_))) gg1.fh fun fv F2 H2 g2 hfv => ?_)
  have gg2 := gg1.trans g2
  dsimp only
  show tSeq _ _ _ [some (.ref ml), s1, s2, some fv, none, none] H2
  have er : EvD K (tOp rRep (tLst (tCons (tVar 3) tNil)) (tC (.int 3))) [some (.ref ml), s1, s2, some fv, none, none] F2 (.list [fullD, fullD, fullD]) := EvL.ev (el_rep (n := 3) (Dv.ev_var (i := 3) rfl hfv) (Dv.ev_int 3) (by decide))
  refine seq_of (s_asgLQ (K := K) (F := F2) (ds := odd1) (elq_lst (eaq_cons (EvD.q (by (repeat (first | exact Dv.ev_int _ | exact Dv.ev_non | exact Dv.ev_bl _ | exact Dv.ev_str _ | exact Dv.ea_nil | exact Dv.ev_var (i := 3) rfl hfv | exact er | exact Dv.ev_U (i := 1) (k := .int (-1)) (fun _ => .int _) (Dv.ev_int 1) | exact Dv.ev_I0 (i := 1000000) (j := 1) (fun _ => .int _) (Dv.ev_I (i := 10) (j := 6) ⟨by decide, by decide, by decide⟩ (fun _ => .int _) (Dv.ev_int 10) (Dv.ev_int 6)) (Dv.ev_int 1) | refine Dv.ev_tup ?_ (by simp) | refine EvL.ev (Dv.el_lst ?_ (by simp)) | refine Dv.ea_cons ?_ ?_)))) (eaq_cons (EvD.q (by (repeat (first | exact Dv.ev_int _ | exact Dv.ev_non | exact Dv.ev_bl _ | exact Dv.ev_str _ | exact Dv.ea_nil | exact Dv.ev_var (i := 3) rfl hfv | exact er | exact Dv.ev_U (i := 1) (k := .int (-1)) (fun _ => .int _) (Dv.ev_int 1) | exact Dv.ev_I0 (i := 1000000) (j := 1) (fun _ => .int _) (Dv.ev_I (i := 10) (j := 6) ⟨by decide, by decide, by decide⟩ (fun _ => .int _) (Dv.ev_int 10) (Dv.ev_int 6)) (Dv.ev_int 1) | refine Dv.ev_tup ?_ (by simp) | refine EvL.ev (Dv.el_lst ?_ (by simp)) | refine Dv.ea_cons ?_ ?_)))) (eaq_cons (EvD.q (by (repeat (first | exact Dv.ev_int _ | exact Dv.ev_non | exact Dv.ev_bl _ | exact Dv.ev_str _ | exact Dv.ea_nil | exact Dv.ev_var (i := 3) rfl hfv | exact er | exact Dv.ev_U (i := 1) (k := .int (-1)) (fun _ => .int _) (Dv.ev_int 1) | exact Dv.ev_I0 (i := 1000000) (j := 1) (fun _ => .int _) (Dv.ev_I (i := 10) (j := 6) ⟨by decide, by decide, by decide⟩ (fun _ => .int _) (Dv.ev_int 10) (Dv.ev_int 6)) (Dv.ev_int 1) | refine Dv.ev_tup ?_ (by simp) | refine EvL.ev (Dv.el_lst ?_ (by simp)) | refine Dv.ea_cons ?_ ?_)))) (eaq_cons (EvD.q (by (repeat (first | exact Dv.ev_int _ | exact Dv.ev_non | exact Dv.ev_bl _ | exact Dv.ev_str _ | exact Dv.ea_nil | exact Dv.ev_var (i := 3) rfl hfv | exact er | exact Dv.ev_U (i := 1) (k := .int (-1)) (fun _ => .int _) (Dv.ev_int 1) | exact Dv.ev_I0 (i := 1000000) (j := 1) (fun _ => .int _) (Dv.ev_I (i := 10) (j := 6) ⟨by decide, by decide, by decide⟩ (fun _ => .int _) (Dv.ev_int 10) (Dv.ev_int 6)) (Dv.ev_int 1) | refine Dv.ev_tup ?_ (by simp) | refine EvL.ev (Dv.el_lst ?_ (by simp)) | refine Dv.ea_cons ?_ ?_)))) (eaq_cons eq_mt (eaq_cons (EvD.q (by (repeat (first | exact Dv.ev_int _ | exact Dv.ev_non | exact Dv.ev_bl _ | exact Dv.ev_str _ | exact Dv.ea_nil | exact Dv.ev_var (i := 3) rfl hfv | exact er | exact Dv.ev_U (i := 1) (k := .int (-1)) (fun _ => .int _) (Dv.ev_int 1) | exact Dv.ev_I0 (i := 1000000) (j := 1) (fun _ => .int _) (Dv.ev_I (i := 10) (j := 6) ⟨by decide, by decide, by decide⟩ (fun _ => .int _) (Dv.ev_int 10) (Dv.ev_int 6)) (Dv.ev_int 1) | refine Dv.ev_tup ?_ (by simp) | refine EvL.ev (Dv.el_lst ?_ (by simp)) | refine Dv.ea_cons ?_ ?_)))) (eaq_cons (EvD.q (by (repeat (first | exact Dv.ev_int _ | exact Dv.ev_non | exact Dv.ev_bl _ | exact Dv.ev_str _ | exact Dv.ea_nil | exact Dv.ev_var (i := 3) rfl hfv | exact er | exact Dv.ev_U (i := 1) (k := .int (-1)) (fun _ => .int _) (Dv.ev_int 1) | exact Dv.ev_I0 (i := 1000000) (j := 1) (fun _ => .int _) (Dv.ev_I (i := 10) (j := 6) ⟨by decide, by decide, by decide⟩ (fun _ => .int _) (Dv.ev_int 10) (Dv.ev_int 6)) (Dv.ev_int 1) | refine Dv.ev_tup ?_ (by simp) | refine EvL.ev (Dv.el_lst ?_ (by simp)) | refine Dv.ea_cons ?_ ?_)))) (eaq_cons (EvD.q (by (repeat (first | exact Dv.ev_int _ | exact Dv.ev_non | exact Dv.ev_bl _ | exact Dv.ev_str _ | exact Dv.ea_nil | exact Dv.ev_var (i := 3) rfl hfv | exact er | exact Dv.ev_U (i := 1) (k := .int (-1)) (fun _ => .int _) (Dv.ev_int 1) | exact Dv.ev_I0 (i := 1000000) (j := 1) (fun _ => .int _) (Dv.ev_I (i := 10) (j := 6) ⟨by decide, by decide, by decide⟩ (fun _ => .int _) (Dv.ev_int 10) (Dv.ev_int 6)) (Dv.ev_int 1) | refine Dv.ev_tup ?_ (by simp) | refine EvL.ev (Dv.el_lst ?_ (by simp)) | refine Dv.ea_cons ?_ ?_)))) (eaq_cons (EvD.q (by (repeat (first | exact Dv.ev_int _ | exact Dv.ev_non | exact Dv.ev_bl _ | exact Dv.ev_str _ | exact Dv.ea_nil | exact Dv.ev_var (i := 3) rfl hfv | exact er | exact Dv.ev_U (i := 1) (k := .int (-1)) (fun _ => .int _) (Dv.ev_int 1) | exact Dv.ev_I0 (i := 1000000) (j := 1) (fun _ => .int _) (Dv.ev_I (i := 10) (j := 6) ⟨by decide, by decide, by decide⟩ (fun _ => .int _) (Dv.ev_int 10) (Dv.ev_int 6)) (Dv.ev_int 1) | refine Dv.ev_tup ?_ (by simp) | refine EvL.ev (Dv.el_lst ?_ (by simp)) | refine Dv.ea_cons ?_ ?_)))) (eaq_cons (EvD.q (by (repeat (first | exact Dv.ev_int _ | exact Dv.ev_non | exact Dv.ev_bl _ | exact Dv.ev_str _ | exact Dv.ea_nil | exact Dv.ev_var (i := 3) rfl hfv | exact er | exact Dv.ev_U (i := 1) (k := .int (-1)) (fun _ => .int _) (Dv.ev_int 1) | exact Dv.ev_I0 (i := 1000000) (j := 1) (fun _ => .int _) (Dv.ev_I (i := 10) (j := 6) ⟨by decide, by decide, by decide⟩ (fun _ => .int _) (Dv.ev_int 10) (Dv.ev_int 6)) (Dv.ev_int 1) | refine Dv.ev_tup ?_ (by simp) | refine EvL.ev (Dv.el_lst ?_ (by simp)) | refine Dv.ea_cons ?_ ?_)))) eaq_nil)))))))))) (by decide)) gg2.fh fun p ws F3 H3 g3 np fp hp hds => ?_)
  have gg3 := gg2.trans g3
  have npH : H p = none := ex_none gg2.hx np
  dsimp only
  show tSeq _ _ _ [some (.ref ml), s1, s2, some fv, some (.ref p), none] H3
  have bad1 : ∀ d ∈ odd1, badX d = true := List.all_eq_true.mp odd1_ok
  -- the odd boxes grow
  have grow : ∀ (items : List PyData) (tl : TE) (D : Ends) (ds0 : List PyData) (F3 H3 : Hp) (ws : List V) (s5 : Option V), (∀ σ' F', EvD K tl σ' F' (.list items)) → (∀ d ∈ items, badX (.list [fullD, d]) = true) → items.length ≤ 20 → ds0.length ≤ 20 → Gr F H F3 H3 → Ex F2 F3 → F3 p = none → H3 p = some (.lst ws) → DqAll K F3 ws ds0 → (∀ d ∈ ds0, badX d = true) →
      (∀ F4 H4 ws ds s5, Gr F H F4 H4 → Ex F2 F4 → F4 p = none → H4 p = some (.lst ws) → DqAll K F4 ws ds → (∀ d ∈ ds, badX d = true) → ds.length = ds0.length + items.length → D.nx [some (.ref ml), s1, s2, some fv, some (.ref p), s5] H4) →
      tFor (iList K tl) (gName 5) (tDrop (tBM K "list" rAppend (tVar 4) (tCons (tLst (tCons (tVar 3) (tCons (tVar 5) tNil))) tNil))) D [some (.ref ml), s1, s2, some fv, some (.ref p), s5] H3 := fun items tl D ds0 F3 H3 ws s5 hi hb hl hl0 gg3 x23 fp hp hds hb0 k => by
    refine Dv.s_for (K := K) (it_list (σ := [some (.ref ml), s1, s2, some fv, some (.ref p), s5]) (hi _ F3)) gg3.fh
      (fun n σ' F' H' => ∃ s5 ws ds, σ' = [some (.ref ml), s1, s2, some fv, some (.ref p), s5] ∧ Gr F H F' H' ∧ Ex F2 F' ∧ F' p = none ∧ H' p = some (.lst ws) ∧ DqAll K F' ws ds ∧ (∀ d ∈ ds, badX d = true) ∧ ds.length = ds0.length + n) (fun F' H' g => ?_) ?_ (fun σ' F' H' e1 e2 pv => ?_)
    · have kk := g.keep hp fp
      exact ⟨_, ws, ds0, rfl, gg3.trans g, x23.trans g.fx, kk.2, kk.1, dqs_ex g.fx hds, hb0, rfl⟩
    · rintro Fb eb n σ' F4 H4 u d F5 H5 hd e3 e4 ⟨s5, ws, ds, rfl, gg4, x24, fp4, hp4, hds4, hb4, hl4⟩ g5 hu
      have hdm := List.mem_of_getElem? hd
      have hn : n < items.length := (List.getElem?_eq_some_iff.mp hd).1
      have k5 := g5.keep hp4 fp4
      have wl : ws.length ≤ 40 := by rw [dqs_len hds4]; omega
      try dsimp only
      refine Dv.s_app (K := K) (F := F5) (d := .list [fullD, d]) (σ := [some (.ref ml), s1, s2, some fv, some (.ref p), some u]) k5.1 k5.2 rfl (EvL.ev (Dv.el_lst (Dv.ea_cons (Dv.ev_var (i := 3) rfl (dp_ex (x24.trans g5.fx) hfv)) (Dv.ea_cons (Dv.ev_var (i := 5) rfl hu) Dv.ea_nil)) (by simp))) g5.fh (by omega) fun v F6 H6 g6 hv f6 h6 => ?_
      refine ⟨F6, e3.trans (g5.fx.trans g6.fx), Ex.mut g6.fh f6, _, ws ++ [v], ds ++ [.list [fullD, d]], rfl, ((gg4.trans g5).trans g6).mut npH f6, x24.trans (g5.fx.trans g6.fx), f6, upd_same, dqs_app (dqs_ex (g5.fx.trans g6.fx) hds4) (.cons (.dat hv) .nil), fun y hy => ?_, by rw [List.length_append, hl4]; rfl⟩
      rcases List.mem_append.mp hy with h1 | h1
      · exact hb4 y h1
      · rw [List.mem_singleton.mp h1]
        exact hb d hdm
    · obtain ⟨s5, ws, ds, rfl, gg4, x24, fp4, hp4, hds4, hb4, hl4⟩ := pv
      exact k F' H' ws ds s5 gg4 x24 fp4 hp4 hds4 hb4 hl4
  refine seq_of (grow odd2 _ _ odd1 F3 H3 ws none (fun σ' F' => EvL.ev (Dv.el_lst (by (repeat (first | exact Dv.ev_int _ | exact Dv.ev_non | exact Dv.ev_bl _ | exact Dv.ev_str _ | exact Dv.ea_nil  | exact Dv.ev_U (i := 1) (k := .int (-1)) (fun _ => .int _) (Dv.ev_int 1) | exact Dv.ev_I0 (i := 1000000) (j := 1) (fun _ => .int _) (Dv.ev_I (i := 10) (j := 6) ⟨by decide, by decide, by decide⟩ (fun _ => .int _) (Dv.ev_int 10) (Dv.ev_int 6)) (Dv.ev_int 1) | refine Dv.ev_tup ?_ (by simp) | refine EvL.ev (Dv.el_lst ?_ (by simp)) | refine Dv.ea_cons ?_ ?_))) (by decide))) (List.all_eq_true.mp odd2_ok) (by decide) (by decide) gg3 g3.fx fp hp hds bad1 fun F4 H4 ws4 ds4 s5 gg4 x24 fp4 hp4 hds4 bad4 hl4 => ?_)
  dsimp only
  refine seq_of (grow odd3 _ _ ds4 F4 H4 ws4 s5 (fun σ' F' => EvL.ev (Dv.el_lst (by (repeat (first | exact Dv.ev_int _ | exact Dv.ev_non | exact Dv.ev_bl _ | exact Dv.ev_str _ | exact Dv.ea_nil  | exact Dv.ev_U (i := 1) (k := .int (-1)) (fun _ => .int _) (Dv.ev_int 1) | exact Dv.ev_I0 (i := 1000000) (j := 1) (fun _ => .int _) (Dv.ev_I (i := 10) (j := 6) ⟨by decide, by decide, by decide⟩ (fun _ => .int _) (Dv.ev_int 10) (Dv.ev_int 6)) (Dv.ev_int 1) | refine Dv.ev_tup ?_ (by simp) | refine EvL.ev (Dv.el_lst ?_ (by simp)) | refine Dv.ea_cons ?_ ?_))) (by decide))) (List.all_eq_true.mp odd3_ok) (by decide) (by rw [hl4]; decide) gg4 x24 fp4 hp4 hds4 bad4 fun F5 H5 ws5 ds5 s5' gg5 x25 fp5 hp5 hds5 bad5 hl5 => ?_)
  dsimp only
  clear grow
  -- what was grown stands
  have gt := gg5.take npH fp5 hp5
  have x56 : Ex F5 (upd F5 p (.lst ws5)) := Ex.new fp5
  have hp6 : upd F5 p (.lst ws5) p = some (.lst ws5) := upd_same
  have hds6 := dqs_ex x56 hds5
  have hfv6 := dp_ex (x25.trans x56) hfv
  generalize upd F5 p (.lst ws5) = F6 at *
  show tSeq _ _ _ [some (.ref ml), s1, s2, some fv, some (.ref p), s5'] H5
  have one : ∀ (wh : Int) (C0 : Addr) (b1 b2 b3 : Bool) (ok : PyData → Bool) (ds : List PyData) (p : Addr) (ws : List V) (F6 H5 : Hp) (s1 s5' : Option V) (D : Ends), ErrK K mg CE CM CX CI C0 b1 b2 b3 → (∀ d, ok d = true → okB d = true) → (∀ d F' H' u, ok d = true → Ex F F' → Ex F' H' → Dq K F' u d → (wh = 0 ∧ Thr (spEdges K C CM CX) F' H' (.ref ml) u C0 u) ∨ (wh = 1 ∧ Thr (spBrinks K C CM CI G) F' H' (.ref ml) u C0 u)) → (∀ d ∈ ds, ok d = true) → F6 p = some (.lst ws) → DqAll K F6 ws ds → Gr F H F6 H5 →
      (∀ s1 F7 H7, Gr F6 H5 F7 H7 → D.nx [some (.ref ml), s1, s2, some fv, some (.ref p), s5'] H7) →
      tFor (iList K (tVar 4)) (gName 1) (tIfS (tTest (tOp (rNeD K) (tCall (spCaught K mg C CE CM CX CI G) [] E0 (tCons (tC (.int wh)) (tCons (tVar 0) (tCons (tVar 1) tNil)))) (tLst (tCons (tC (.bl b1)) (tCons (tC (.bl b2)) (tCons (tC (.bl b3)) (tCons (tCB (rReprD K) (tCons (tVar 1) tNil)) tNil))))))) (tRet (tC (.bl false))) tNext) D [some (.ref ml), s1, s2, some fv, some (.ref p), s5'] H5 := fun wh C0 b1 b2 b3 ok ds p ws F6 H5 s1 s5' D ek hok hthr hds hp hdq g0 k => by
    refine s_forQ (K := K) (F := F6) (ds := ds) (itq_trk (i := 4) rfl hp hdq) g0.fh (fun n σ' F' H' => ∃ s1, σ' = [some (.ref ml), s1, s2, some fv, some (.ref p), s5'] ∧ Gr F6 H5 F' H') (fun F' H' g => ⟨_, rfl, g⟩) ?_ (fun σ' F' H' e1 e2 pv => ?_)
    · rintro Fb eb n σ' F7 H7 u d F8 H8 hd e3 e4 ⟨s1, rfl, g7⟩ g8 hu
      have okd := hds d (List.mem_of_getElem? hd)
      have g78 := g7.trans g8
      have rq := okB.rq (hok d okd) hu
      try dsimp only
      show tIfS _ _ _ _ [some (.ref ml), some u, s2, some fv, some (.ref p), s5'] H8
      have cg : EvD K (tCall (spCaught K mg C CE CM CX CI G) [] E0 (tCons (tC (.int wh)) (tCons (tVar 0) (tCons (tVar 1) tNil)))) [some (.ref ml), some u, s2, some fv, some (.ref p), s5'] F8 (.list [.bool b1, .bool b2, .bool b3, .str d.shown]) := fun H' e' Q' q' =>
        ⟨_, rfl, _, rfl, told wh 0 0 0 (.ref ml) u C0 u d b1 b2 b3 [] F8 (fun H' e' => hthr d F8 H' u okd (g0.fx.trans g78.fx) e' hu) ek rq H' e' Q' fun p F2 H2 g h => q' _ F2 H2 g h⟩
      exact s_ifF (et_same cg (EvL.ev (Dv.el_lst (Dv.ea_cons (Dv.ev_bl _) (Dv.ea_cons (Dv.ev_bl _) (Dv.ea_cons (Dv.ev_bl _) (Dv.ea_cons (ev_rq (i := 1) rfl rq) Dv.ea_nil)))) (by simp))) (okB.gk (hok d okd) _ _ _)) g8.fh fun F9 H9 g9 => ⟨F9, e3.trans (g8.fx.trans g9.fx), g9.fh, _, rfl, g78.trans g9⟩
    · obtain ⟨s1, rfl, g7⟩ := pv
      exact k s1 F' H' g7
  have bX : ∀ d, badX d = true → isClosed twoM d = false ∧ smBox d = true ∧ okB d = true := fun d h => by
    unfold badX at h
    simp only [Bool.and_eq_true, Bool.not_eq_true'] at h
    exact ⟨h.1.1, h.1.2, h.2⟩
  have bR : ∀ d, badR d = true → isRecipe twoM.names d = false ∧ okB d = true := fun d h => by
    unfold badR at h
    simp only [Bool.and_eq_true, Bool.not_eq_true'] at h
    exact h
  have okgd : ∀ d, okB d = true → gd d = true := fun d h => by
    unfold okB at h
    simp only [Bool.and_eq_true] at h
    exact h.2
  have rsm : RoomSm twoM := fun z hz k hk => by
    simp only [twoM, List.mem_cons, List.not_mem_nil, or_false] at hz
    rcases hz with rfl | rfl
    · cases hk
    · cases hk; decide
  refine seq_of (one 0 CX false true false badX ds5 p ws5 F6 H5 s1 s5' _ ER.x (fun d h => (bX d h).2.2) (fun d F' H' u h eF e' hu => .inl ⟨rfl, fun E Q' bad => ⟨F', .ref ml, u, rfl, e', .inr (.inl ⟨ml, twoM, d, rfl, hm.mono eF, by decide, rsm, hu, okgd d (bX d h).2.2, (bX d h).2.1, (bX d h).1, bad⟩)⟩⟩) bad5 hp6 hds6 gt fun s1' F7 H7 g7 => ?_)
  have gg7 := gt.trans g7
  dsimp only
  show tSeq _ _ _ [some (.ref ml), s1', s2, some fv, some (.ref p), s5'] H7
  refine seq_of (s_asgLQ (K := K) (F := F7) (ds := odd4) (elq_lst (eaq_cons (EvD.q (by (repeat (first | exact Dv.ev_int _ | exact Dv.ev_non | exact Dv.ev_bl _ | exact Dv.ev_str _ | exact Dv.ea_nil  | exact Dv.ev_U (i := 1) (k := .int (-1)) (fun _ => .int _) (Dv.ev_int 1) | exact Dv.ev_I0 (i := 1000000) (j := 1) (fun _ => .int _) (Dv.ev_I (i := 10) (j := 6) ⟨by decide, by decide, by decide⟩ (fun _ => .int _) (Dv.ev_int 10) (Dv.ev_int 6)) (Dv.ev_int 1) | refine Dv.ev_tup ?_ (by simp) | refine EvL.ev (Dv.el_lst ?_ (by simp)) | refine Dv.ea_cons ?_ ?_)))) (eaq_cons (EvD.q (by (repeat (first | exact Dv.ev_int _ | exact Dv.ev_non | exact Dv.ev_bl _ | exact Dv.ev_str _ | exact Dv.ea_nil  | exact Dv.ev_U (i := 1) (k := .int (-1)) (fun _ => .int _) (Dv.ev_int 1) | exact Dv.ev_I0 (i := 1000000) (j := 1) (fun _ => .int _) (Dv.ev_I (i := 10) (j := 6) ⟨by decide, by decide, by decide⟩ (fun _ => .int _) (Dv.ev_int 10) (Dv.ev_int 6)) (Dv.ev_int 1) | refine Dv.ev_tup ?_ (by simp) | refine EvL.ev (Dv.el_lst ?_ (by simp)) | refine Dv.ea_cons ?_ ?_)))) (eaq_cons (EvD.q (by (repeat (first | exact Dv.ev_int _ | exact Dv.ev_non | exact Dv.ev_bl _ | exact Dv.ev_str _ | exact Dv.ea_nil  | exact Dv.ev_U (i := 1) (k := .int (-1)) (fun _ => .int _) (Dv.ev_int 1) | exact Dv.ev_I0 (i := 1000000) (j := 1) (fun _ => .int _) (Dv.ev_I (i := 10) (j := 6) ⟨by decide, by decide, by decide⟩ (fun _ => .int _) (Dv.ev_int 10) (Dv.ev_int 6)) (Dv.ev_int 1) | refine Dv.ev_tup ?_ (by simp) | refine EvL.ev (Dv.el_lst ?_ (by simp)) | refine Dv.ea_cons ?_ ?_)))) (eaq_cons (EvD.q (by (repeat (first | exact Dv.ev_int _ | exact Dv.ev_non | exact Dv.ev_bl _ | exact Dv.ev_str _ | exact Dv.ea_nil  | exact Dv.ev_U (i := 1) (k := .int (-1)) (fun _ => .int _) (Dv.ev_int 1) | exact Dv.ev_I0 (i := 1000000) (j := 1) (fun _ => .int _) (Dv.ev_I (i := 10) (j := 6) ⟨by decide, by decide, by decide⟩ (fun _ => .int _) (Dv.ev_int 10) (Dv.ev_int 6)) (Dv.ev_int 1) | refine Dv.ev_tup ?_ (by simp) | refine EvL.ev (Dv.el_lst ?_ (by simp)) | refine Dv.ea_cons ?_ ?_)))) (eaq_cons eq_mt (eaq_cons (EvD.q (by (repeat (first | exact Dv.ev_int _ | exact Dv.ev_non | exact Dv.ev_bl _ | exact Dv.ev_str _ | exact Dv.ea_nil  | exact Dv.ev_U (i := 1) (k := .int (-1)) (fun _ => .int _) (Dv.ev_int 1) | exact Dv.ev_I0 (i := 1000000) (j := 1) (fun _ => .int _) (Dv.ev_I (i := 10) (j := 6) ⟨by decide, by decide, by decide⟩ (fun _ => .int _) (Dv.ev_int 10) (Dv.ev_int 6)) (Dv.ev_int 1) | refine Dv.ev_tup ?_ (by simp) | refine EvL.ev (Dv.el_lst ?_ (by simp)) | refine Dv.ea_cons ?_ ?_)))) (eaq_cons (EvD.q (by (repeat (first | exact Dv.ev_int _ | exact Dv.ev_non | exact Dv.ev_bl _ | exact Dv.ev_str _ | exact Dv.ea_nil  | exact Dv.ev_U (i := 1) (k := .int (-1)) (fun _ => .int _) (Dv.ev_int 1) | exact Dv.ev_I0 (i := 1000000) (j := 1) (fun _ => .int _) (Dv.ev_I (i := 10) (j := 6) ⟨by decide, by decide, by decide⟩ (fun _ => .int _) (Dv.ev_int 10) (Dv.ev_int 6)) (Dv.ev_int 1) | refine Dv.ev_tup ?_ (by simp) | refine EvL.ev (Dv.el_lst ?_ (by simp)) | refine Dv.ea_cons ?_ ?_)))) (eaq_cons (EvD.q (by (repeat (first | exact Dv.ev_int _ | exact Dv.ev_non | exact Dv.ev_bl _ | exact Dv.ev_str _ | exact Dv.ea_nil  | exact Dv.ev_U (i := 1) (k := .int (-1)) (fun _ => .int _) (Dv.ev_int 1) | exact Dv.ev_I0 (i := 1000000) (j := 1) (fun _ => .int _) (Dv.ev_I (i := 10) (j := 6) ⟨by decide, by decide, by decide⟩ (fun _ => .int _) (Dv.ev_int 10) (Dv.ev_int 6)) (Dv.ev_int 1) | refine Dv.ev_tup ?_ (by simp) | refine EvL.ev (Dv.el_lst ?_ (by simp)) | refine Dv.ea_cons ?_ ?_)))) (eaq_cons (EvD.q (by (repeat (first | exact Dv.ev_int _ | exact Dv.ev_non | exact Dv.ev_bl _ | exact Dv.ev_str _ | exact Dv.ea_nil  | exact Dv.ev_U (i := 1) (k := .int (-1)) (fun _ => .int _) (Dv.ev_int 1) | exact Dv.ev_I0 (i := 1000000) (j := 1) (fun _ => .int _) (Dv.ev_I (i := 10) (j := 6) ⟨by decide, by decide, by decide⟩ (fun _ => .int _) (Dv.ev_int 10) (Dv.ev_int 6)) (Dv.ev_int 1) | refine Dv.ev_tup ?_ (by simp) | refine EvL.ev (Dv.el_lst ?_ (by simp)) | refine Dv.ea_cons ?_ ?_)))) (eaq_cons (EvD.q (by (repeat (first | exact Dv.ev_int _ | exact Dv.ev_non | exact Dv.ev_bl _ | exact Dv.ev_str _ | exact Dv.ea_nil  | exact Dv.ev_U (i := 1) (k := .int (-1)) (fun _ => .int _) (Dv.ev_int 1) | exact Dv.ev_I0 (i := 1000000) (j := 1) (fun _ => .int _) (Dv.ev_I (i := 10) (j := 6) ⟨by decide, by decide, by decide⟩ (fun _ => .int _) (Dv.ev_int 10) (Dv.ev_int 6)) (Dv.ev_int 1) | refine Dv.ev_tup ?_ (by simp) | refine EvL.ev (Dv.el_lst ?_ (by simp)) | refine Dv.ea_cons ?_ ?_)))) eaq_nil)))))))))) (by decide)) gg7.fh fun p8 ws8 F8 H8 g8 np8 fp8 hp8 hds8 => ?_)
  have gg8 := gg7.trans g8
  dsimp only
  show tSeq _ _ _ [some (.ref ml), s1', s2, some fv, some (.ref p8), s5'] H8
  refine seq_of (s_catQ (K := K) (F := F8) (i := 4) (es := odd5) hp8 fp8 hds8 rfl (Dv.el_lst (by (repeat (first | exact Dv.ev_int _ | exact Dv.ev_non | exact Dv.ev_bl _ | exact Dv.ev_str _ | exact Dv.ea_nil  | exact Dv.ev_U (i := 1) (k := .int (-1)) (fun _ => .int _) (Dv.ev_int 1) | exact Dv.ev_I0 (i := 1000000) (j := 1) (fun _ => .int _) (Dv.ev_I (i := 10) (j := 6) ⟨by decide, by decide, by decide⟩ (fun _ => .int _) (Dv.ev_int 10) (Dv.ev_int 6)) (Dv.ev_int 1) | refine Dv.ev_tup ?_ (by simp) | refine EvL.ev (Dv.el_lst ?_ (by simp)) | refine Dv.ea_cons ?_ ?_))) (by decide)) g8.fh (by decide) fun p9 ws9 F9 H9 g9 np9 fp9 hp9 hds9 => ?_)
  have gg9 := gg8.trans g9
  dsimp only
  show tSeq _ _ _ [some (.ref ml), s1', s2, some fv, some (.ref p9), s5'] H9
  have bad9 : ∀ d ∈ odd4 ++ odd5, badR d = true := fun d hd => by
    rcases List.mem_append.mp hd with h | h
    · exact List.all_eq_true.mp odd4_ok d h
    · exact List.all_eq_true.mp odd5_ok d h
  refine seq_of (Dv.s_for (K := K) (F := F9) (it_list (ds := odd6) (σ := [some (.ref ml), s1', s2, some fv, some (.ref p9), s5']) (EvL.ev (Dv.el_lst (by (repeat (first | exact Dv.ev_int _ | exact Dv.ev_non | exact Dv.ev_bl _ | exact Dv.ev_str _ | exact Dv.ea_nil  | exact Dv.ev_U (i := 1) (k := .int (-1)) (fun _ => .int _) (Dv.ev_int 1) | exact Dv.ev_I0 (i := 1000000) (j := 1) (fun _ => .int _) (Dv.ev_I (i := 10) (j := 6) ⟨by decide, by decide, by decide⟩ (fun _ => .int _) (Dv.ev_int 10) (Dv.ev_int 6)) (Dv.ev_int 1) | refine Dv.ev_tup ?_ (by simp) | refine EvL.ev (Dv.el_lst ?_ (by simp)) | refine Dv.ea_cons ?_ ?_))) (by decide)))) g9.fh
    (fun n σ' F' H' => ∃ s5 p ws ds, σ' = [some (.ref ml), s1', s2, some fv, some (.ref p), s5] ∧ Gr F H F' H' ∧ H p = none ∧ F' p = none ∧ H' p = some (.lst ws) ∧ DqAll K F' ws ds ∧ (∀ d ∈ ds, badR d = true) ∧ ds.length = 14 + 2 * n) (fun F' H' g => ?_) ?_ (fun σ' F' H' e1 e2 pv => ?_))
  · have kk := g.keep hp9 fp9
    exact ⟨_, p9, ws9, odd4 ++ odd5, rfl, gg9.trans g, ex_none gg8.hx np9, kk.2, kk.1, dqs_ex g.fx hds9, bad9, rfl⟩
  · rintro Fb eb n σ' F4 H4 u d F5 H5 hd e3 e4 ⟨s5, pp, ws, ds, rfl, gg4, np4, fp4, hp4, hds4, hb4, hl4⟩ g5 hu
    have hdm := List.mem_of_getElem? hd
    have hn : n < 9 := (List.getElem?_eq_some_iff.mp hd).1
    have k5 := g5.keep hp4 fp4
    try dsimp only
    show tAsg _ _ _ [some (.ref ml), s1', s2, some fv, some (.ref pp), some u] H5
    refine s_catQ (K := K) (F := F5) (i := 4) (es := odd7 d) k5.1 k5.2 (dqs_ex g5.fx hds4) rfl (Dv.el_lst (by (repeat (first | exact Dv.ev_int _ | exact Dv.ev_non | exact Dv.ev_bl _ | exact Dv.ev_str _ | exact Dv.ea_nil | exact Dv.ev_var (i := 5) rfl hu | exact Dv.ev_U (i := 1) (k := .int (-1)) (fun _ => .int _) (Dv.ev_int 1) | exact Dv.ev_I0 (i := 1000000) (j := 1) (fun _ => .int _) (Dv.ev_I (i := 10) (j := 6) ⟨by decide, by decide, by decide⟩ (fun _ => .int _) (Dv.ev_int 10) (Dv.ev_int 6)) (Dv.ev_int 1) | refine Dv.ev_tup ?_ (by simp) | refine EvL.ev (Dv.el_lst ?_ (by simp)) | refine Dv.ea_cons ?_ ?_))) (show 2 ≤ 100000 by decide)) g5.fh (by rw [hl4]; show _ + 2 ≤ _; omega) fun p6 ws6 F6 H6 g6 np6 fp6 hp6 hds6 => ?_
    refine ⟨F6, e3.trans (g5.fx.trans g6.fx), g6.fh, _, p6, ws6, ds ++ odd7 d, rfl, (gg4.trans g5).trans g6, ex_none (gg4.trans g5).hx np6, fp6, hp6, hds6, fun y hy => ?_, by rw [List.length_append, hl4]; show _ + 2 = _; omega⟩
    rcases List.mem_append.mp hy with h1 | h1
    · exact hb4 y h1
    · exact List.all_eq_true.mp (List.all_eq_true.mp odd7_ok d hdm) y h1
  obtain ⟨s5, pp, ws, ds, rfl, gg4, np4, fp4, hp4, hds4, hb4, hl4⟩ := pv
  have gt2 := gg4.take np4 fp4 hp4
  have x2' : Ex F' (upd F' pp (.lst ws)) := Ex.new fp4
  have hp10 : upd F' pp (.lst ws) pp = some (.lst ws) := upd_same
  have hds10 := dqs_ex x2' hds4
  generalize upd F' pp (.lst ws) = F10 at *
  dsimp only
  show tSeq _ _ _ [some (.ref ml), s1', s2, some fv, some (.ref pp), s5] H'
  refine seq_of (one 1 CI false false true badR ds pp ws F10 H' s1' s5 _ ER.i (fun d h => (bR d h).2) (fun d F' H' u h eF e' hu => .inr ⟨rfl, fun E Q' bad => ⟨F', .ref ml, u, rfl, e', .inr (.inl ⟨ml, twoM, d, rfl, hm.mono eF, hu, okgd d (bR d h).2, (bR d h).1, bad⟩)⟩⟩) hb4 hp10 hds10 gt2 fun s1'' F11 H11 g11 => ?_)
  have gg11 := gt2.trans g11
  dsimp only
  show tRet _ _ [some (.ref ml), s1'', s2, some fv, some (.ref pp), s5] H11
  have hfv11 : Dp K F11 fv fullD := dp_ex (((((g7.fx.trans g8.fx).trans g9.fx).trans e1).trans x2').trans g11.fx) hfv6
  have cut3 : ∀ (te : TE), EvD K te [some (.ref ml), s1'', s2, some fv, some (.ref pp), s5] F11 (.list [.bool false, .bool false, .bool false, .none]) → EvD K (tSl (rSlL K) te tNoPart (tPart (tC (.int 3)))) [some (.ref ml), s1'', s2, some fv, some (.ref pp), s5] F11 noD := fun te h => EvL.ev (el_sl h eo_none (eo_some (K := K) (Dv.ev_int 3)))
  have ca : EvD K (tCall (spCaught K mg C CE CM CX CI G) [] E0 (tCons (tC (.int 0)) (tCons (tVar 0) (tCons (tLst (tCons (tVar 3) (tCons (tVar 3) tNil))) tNil)))) [some (.ref ml), s1'', s2, some fv, some (.ref pp), s5] F11 (.list [.bool false, .bool false, .bool false, .none]) := fun H' e' Q' q' =>
    ⟨_, rfl, (EvL.ev (Dv.el_lst (K := K) (F := F11) (ds := [fullD, fullD]) (Dv.ea_cons (Dv.ev_var (i := 3) rfl hfv11) (Dv.ea_cons (Dv.ev_var (i := 3) rfl hfv11) Dv.ea_nil)) (by simp))) H' e' _ fun v F12 H12 g12 hv => ⟨0, .ref ml, v, F12, rfl, g12.fh, .inr ⟨.inl ⟨rfl, fun E Q2 q2 => ⟨F12, .ref ml, v, rfl, g12.fh, .inr (.inr ⟨ml, twoM, bxF, rfl, hm.mono (gg11.fx.trans g12.fx), by decide, rsm, by rw [bxF_eq]; exact hv, by decide, bxF_gd, bxF_sm, bxF_cl, fun p ws F' H' g _ _ _ => q2 _ F' H' g⟩)⟩⟩, fun p F' H' g h => q' _ F' H' (g12.trans g) h⟩⟩⟩
  have cb : EvD K (tCall (spCaught K mg C CE CM CX CI G) [] E0 (tCons (tC (.int 1)) (tCons (tVar 0) (tCons (tTup (tCons (tC (.str "z")) (tCons (tLst tNil) (tCons (tLst tNil) tNil)))) tNil)))) [some (.ref ml), s1'', s2, some fv, some (.ref pp), s5] F11 (.list [.bool false, .bool false, .bool false, .none]) := fun H' e' Q' q' =>
    ⟨_, rfl, (Dv.ev_tup (K := K) (F := F11) (ds := [.str "z", .list [], .list []]) (Dv.ea_cons (Dv.ev_str _) (Dv.ea_cons (EvL.ev (Dv.el_lst Dv.ea_nil (by simp))) (Dv.ea_cons (EvL.ev (Dv.el_lst Dv.ea_nil (by simp))) Dv.ea_nil))) (by simp)) H' e' _ fun v F12 H12 g12 hv => ⟨1, .ref ml, v, F12, rfl, g12.fh, .inr ⟨.inr ⟨rfl, fun E Q2 q2 => ⟨F12, .ref ml, v, rfl, g12.fh, .inr (.inr ⟨ml, twoM, rZ, zsZ, rfl, hm.mono (gg11.fx.trans g12.fx), by decide, hv, rZ_gd, rZ_is, triZ, fun F' H' t am p ws g _ _ _ _ _ => q2 _ F' H' g⟩)⟩⟩, fun p F' H' g h => q' _ F' H' (g12.trans g) h⟩⟩⟩
  refine Dv.s_ret (K := K) (d := .bool true) (Dv.ev_is (ev_chainD (cut3 _ ca) (cut3 _ cb) (EvL.ev (el_rep (n := 3) (Dv.ev_bl false) (Dv.ev_int 3) (by decide))) noD_sh noD_sh noD_sh noD_eq) (by show PyData.bool (PyData.eqv noD noD) = _; rw [noD_eq])) g11.fh fun v F12 H12 g12 hv => ?_
  cases hv
  exact q F12 H12 (gg11.trans g12)
end
end R3

set_option Elab.async false
set_option linter.all false
set_option maxRecDepth 100000
set_option maxHeartbeats 4000000
namespace R3
open PySem PySem.Spec PyProof.Rows L2 Evl Dv StX
open Qa (toF Sx)
/-! ### plain: the drawn mills, boxes, recipes -/
structure Dr (rs : List (Option Int)) : Prop where
  l1 : 1 ≤ rs.length
  l3 : rs.length ≤ 3
  r : ∀ r ∈ rs, RoomIn r
def mOf (rs : List (Option Int)) : MillD := ⟨stuffsOf rs, []⟩
theorem stuff_ok {r : Option Int} (h : RoomIn r) : ∀ i < 3, gd (encStuff (chr "abc" i, r)) = true ∧ isStuff (encStuff (chr "abc" i, r)) = true := by
  unfold RoomIn at h
  simp only [List.mem_cons, List.not_mem_nil, or_false] at h
  rcases h with rfl | rfl | rfl | rfl | rfl <;> decide +kernel
theorem stuffs_mem {rs : List (Option Int)} (d : Dr rs) : ∀ z ∈ stuffsOf rs, ∃ i < 3, z.1 = chr "abc" i ∧ RoomIn z.2 := fun z hz => by
  unfold stuffsOf stuffsFrom at hz
  obtain ⟨y, hy, rfl⟩ := List.mem_map.mp hz
  obtain ⟨r, i⟩ := y
  have h1 := List.mem_zipIdx hy
  have := d.l3
  refine ⟨i, by omega, rfl, d.r r ?_⟩
  rw [h1.2.2]
  exact List.getElem_mem _
theorem names_of : ∀ {rs : List (Option Int)}, Dr rs → (mOf rs).names = [chr "abc" 0, chr "abc" 1, chr "abc" 2].take rs.length
  | [], d => absurd d.l1 (by decide)
  | [_], _ => rfl
  | [_, _], _ => rfl
  | [_, _, _], _ => rfl
  | _ :: _ :: _ :: _ :: _, d => absurd d.l3 (by simp)
theorem room_bd {r : Option Int} (h : RoomIn r) : ∀ k, r = some k → 0 ≤ k ∧ k ≤ 3 := fun k hk => by
  unfold RoomIn at h
  simp only [List.mem_cons, List.not_mem_nil, or_false] at h
  rcases h with rfl | rfl | rfl | rfl | rfl <;> first | cases hk; done | (cases hk; decide)
theorem mill_ok {rs : List (Option Int)} (d : Dr rs) : (mOf rs).Ok := by
  have ln : (mOf rs).stuffs.length = rs.length := stuffs_len rs
  have l1 := d.l1
  have l3 := d.l3
  refine ⟨by omega, by omega, ?_, fun z hz => ?_, Nat.zero_le _, List.nodup_nil, fun z hz => nomatch hz⟩
  · rw [names_of d]
    exact List.Nodup.sublist (List.take_sublist _ _) (by decide +kernel)
  · obtain ⟨i, hi, h1, h2⟩ := stuffs_mem d z hz
    obtain ⟨n, r⟩ := z
    cases h1
    exact stuff_ok h2 i hi
theorem mill_rs {rs : List (Option Int)} (d : Dr rs) : ∀ z ∈ (mOf rs).stuffs, ∀ k, z.2 = some k → 0 ≤ k ∧ k ≤ 3 := fun z hz k hk => by
  obtain ⟨i, _, _, h⟩ := stuffs_mem d z hz
  exact room_bd h k hk
/-! boxes -/
theorem less_R (a b : Rat) : lessF (toF a) (toF b) = decide (a < b) := by
  exact Qa.below_rat a b
theorem toF_int (k : Int) : toF (k : Rat) = (k, 1) := by
  simp [toF]
theorem bounds_R {room : Option Int} {z : Rat × Rat} (h : BxOk room z) : isBounds room (encBd z) = true := by
  show (isAmt (encR z.1) && (nonB (encR z.2) || (isAmt (encR z.2) && !lessF (toF z.2) (toF z.1))) && roomB room (toF z.2)) = true
  rw [isAmt_R h.n, isAmt_R (Rat.le_trans h.n h.l), less_R, decide_eq_false (Rat.not_lt.mpr h.l)]
  have : roomB room (toF z.2) = true := by
    cases room with
    | none => rfl
    | some k =>
      show (!lessF (k, 1) (toF z.2)) = true
      rw [← toF_int, less_R, decide_eq_false (Rat.not_lt.mpr (h.u k rfl))]
      rfl
  rw [this]
  simp
theorem smA_R {q : Rat} (h : Sx 180 q) : smA (encR q) = true := by
  obtain ⟨h1, h2, h3⟩ := h.bd
  show (decide (q.num.natAbs < 30000) && decide (((q.den : Int)).natAbs < 30000)) = true
  rw [Int.natAbs_natCast, decide_eq_true (by omega), decide_eq_true (by omega)]
  rfl
theorem box_good {rs : List (Option Int)} (d : Dr rs) {bx : List (Rat × Rat)} (hl : bx.length = (stuffsOf rs).length) (h : ∀ z ∈ (stuffsOf rs).zip bx, BxOk z.1.2 z.2) : BoxGood (mOf rs) bx := by
  have l3 := d.l3
  have ln : (stuffsOf rs).length = rs.length := stuffs_len rs
  have each : ∀ z ∈ bx, ∃ room, BxOk room z := fun z hz => by
    obtain ⟨i, hi, rfl⟩ := List.getElem_of_mem hz
    have hm : ((stuffsOf rs)[i]'(by omega), bx[i]) ∈ (stuffsOf rs).zip bx := by
      rw [← List.getElem_zip (h := by rw [List.length_zip]; omega)]
      exact List.getElem_mem _
    exact ⟨_, h _ hm⟩
  refine ⟨by show (stuffsOf rs).length ≤ 3; omega, fun z hz k hk => ?_, by omega, (gk_Bx (by omega)).1, ?_, ?_, fun z hz => ?_⟩
  · have := mill_rs d z hz k hk
    omega
  · show (bx.map encBd).all smB = true
    rw [List.all_map]
    refine List.all_eq_true.mpr fun z hz => ?_
    obtain ⟨room, b⟩ := each z hz
    show (smA (encR z.1) && smA (encR z.2)) = true
    rw [smA_R b.s1, smA_R b.s2]
    rfl
  · show ((decide ((bx.map encBd).length = (stuffsOf rs).length) && ((stuffsOf rs).zip (bx.map encBd)).all fun z => isBounds z.1.2 z.2) && (bx.map encBd).all (fun x => match x with | .tuple [_, b] => !nonB b | _ => false)) = true
    rw [List.length_map, decide_eq_true hl, Bool.true_and, Bool.and_eq_true]
    refine ⟨List.all_eq_true.mpr fun y hy => ?_, ?_⟩
    · rw [List.zip_map_right] at hy
      obtain ⟨z, hz, rfl⟩ := List.mem_map.mp hy
      exact bounds_R (h z hz)
    · rw [List.all_map]
      exact List.all_eq_true.mpr fun z hz => rfl
  · obtain ⟨room, b⟩ := each z hz
    exact ⟨b.s1, b.s2⟩
/-! recipes -/
def encPs (ps : List (Str × Int)) : PyData := .list (ps.map encPart)
def partsN (names : List Str) (ns : List Int) : List (Str × Int) := (names.zip ns).filterMap fun z => if 0 < z.2 then some (z.1, z.2) else none
def tabOk (names : List Str) (ns : List Int) : Bool := areParts names (encPs (partsN names ns)) && gd (encPs (partsN names ns)) && (encPs (partsN names ns)).canLay0 && decide ((encPs (partsN names ns)).depth ≤ 3) && decide (numbersOf names (partsN names ns) = ns) && decide (names.map (lastOf (partsN names ns)) = ns) && (partsN names ns).all fun p => decide (p.1 ∈ names)
theorem num_of {n : Int} (h : NumIn n) : n = 0 ∨ n = 1 ∨ n = 2 ∨ n = 3 := by
  unfold NumIn at h
  omega
theorem tab_ok : ∀ {rs : List (Option Int)} {ns : List Int}, Dr rs → ns.length = rs.length → (∀ n ∈ ns, NumIn n) → tabOk (mOf rs).names ns = true := fun {rs ns} d hl hn => by
  rw [names_of d]
  have l1 := d.l1
  have l3 := d.l3
  match rs, ns, hl, l1, l3 with
  | [_], [a], _, _, _ =>
    show tabOk [chr "abc" 0] [a] = true
    rcases num_of (hn a (by simp)) with rfl | rfl | rfl | rfl <;> decide +kernel
  | [_, _], [a, b], _, _, _ =>
    show tabOk [chr "abc" 0, chr "abc" 1] [a, b] = true
    rcases num_of (hn a (by simp)) with rfl | rfl | rfl | rfl <;> rcases num_of (hn b (by simp)) with rfl | rfl | rfl | rfl <;> decide +kernel
  | [_, _, _], [a, b, c], _, _, _ =>
    show tabOk [chr "abc" 0, chr "abc" 1, chr "abc" 2] [a, b, c] = true
    rcases num_of (hn a (by simp)) with rfl | rfl | rfl | rfl <;> rcases num_of (hn b (by simp)) with rfl | rfl | rfl | rfl <;> rcases num_of (hn c (by simp)) with rfl | rfl | rfl | rfl <;> decide +kernel
theorem partsN_of {sf : List (Str × Option Int)} {ns : List Int} : partsOf sf ns = partsN (sf.map (·.1)) ns := by
  unfold partsOf partsN
  rw [List.zip_map_left, List.filterMap_map]
  rfl
structure TabOk (names : List Str) (ps : List (Str × Int)) (ns : List Int) : Prop where
  ar : areParts names (encPs ps) = true
  gk : Gk 3 (encPs ps)
  nb : numbersOf names ps = ns
  la : names.map (lastOf ps) = ns
  mm : ∀ p ∈ ps, p.1 ∈ names
theorem parts_ok {rs : List (Option Int)} {ns : List Int} (d : Dr rs) (hl : ns.length = rs.length) (hn : ∀ n ∈ ns, NumIn n) : TabOk (mOf rs).names (partsOf (stuffsOf rs) ns) ns := by
  have := tab_ok d hl hn
  rw [partsN_of]
  unfold tabOk at this
  simp only [Bool.and_eq_true, decide_eq_true_iff] at this
  obtain ⟨⟨⟨⟨⟨⟨h1, h2⟩, h3⟩, h4⟩, h5⟩, h6⟩, h7⟩ := this
  exact ⟨h1, ⟨h2, h3, h4⟩, h5, h6, fun p hp => of_decide_eq_true (List.all_eq_true.mp h7 p hp)⟩
end R3

set_option Elab.async false
set_option linter.all false
set_option maxRecDepth 100000
set_option maxHeartbeats 4000000
namespace R3
open PySem PySem.Spec PyProof.Rows L2 Evl Dv StX
open Qa (toF Sx)
/-! ### plain: the most of a recipe, and its brinks -/
theorem less_le (x y : Rat) : lessQ x y ≤ x ∧ lessQ x y ≤ y := by
  unfold lessQ
  split
  · rename_i h
    exact ⟨Rat.le_of_lt h, Rat.le_refl⟩
  · rename_i h
    exact ⟨Rat.le_refl, Rat.not_lt.mp h⟩
theorem most_f : ∀ (zs : List Tri) (p : Rat), ∃ q, zs.foldl stepMost (some p) = some q ∧ q ≤ p
  | [], p => ⟨p, rfl, Rat.le_refl⟩
  | z :: r, p => by
    have h : ∃ p', stepMost (some p) z = some p' ∧ p' ≤ p := by
      obtain ⟨room, t, g⟩ := z
      cases room with
      | none => exact ⟨p, rfl, Rat.le_refl⟩
      | some k =>
        by_cases hn : 0 < need (some k, t, g)
        · exact ⟨_, if_pos hn, (less_le _ _).1⟩
        · exact ⟨p, if_neg hn, Rat.le_refl⟩
    obtain ⟨p', e, l⟩ := h
    obtain ⟨q, e2, l2⟩ := most_f r p'
    exact ⟨q, by rw [List.foldl_cons, e]; exact e2, Rat.le_trans l2 l⟩
theorem most_z : ∀ (zs : List Tri) (f : Option Rat) (z : Tri) (k : Int), z ∈ zs → z.1 = some k → 0 < need z → ∃ q, zs.foldl stepMost f = some q ∧ q ≤ mkRat k (need z).toNat
  | [], _, _, _, h, _, _ => nomatch h
  | y :: r, f, z, k, h, hk, hn => by
    rw [List.foldl_cons]
    rcases List.mem_cons.mp h with rfl | h
    · obtain ⟨room, t, g⟩ := z
      cases hk
      have e : stepMost f (some k, t, g) = some (lessO f (mkRat k (need (some k, t, g)).toNat)) := by
        cases f <;> exact if_pos hn
      rw [e]
      obtain ⟨q, e2, l2⟩ := most_f r (lessO f (mkRat k (need (some k, t, g)).toNat))
      refine ⟨q, e2, Rat.le_trans l2 ?_⟩
      cases f with
      | none => exact Rat.le_refl
      | some p => exact (less_le _ _).2
    · exact most_z r _ z k h hk hn
theorem share_mul {k n : Int} (h : 0 ≤ k ∧ k ≤ 3) (hn : 1 ≤ n ∧ n ≤ 3) : mkRat k n.toNat * (n : Rat) = (k : Rat) := by
  have hk : k = 0 ∨ k = 1 ∨ k = 2 ∨ k = 3 := by omega
  have hm : n = 1 ∨ n = 2 ∨ n = 3 := by omega
  rcases hk with rfl | rfl | rfl | rfl <;> rcases hm with rfl | rfl | rfl <;> decide +kernel
/-- the most fits each room -/
theorem most_need {zs : List Tri} (hz : ∀ z ∈ zs, TriOk z) {z : Tri} {k : Int} (h : z ∈ zs) (hk : z.1 = some k) : mostQ zs * (need z : Rat) ≤ (k : Rat) := by
  have ok := hz z h
  have nb := need_bd ok
  have kb := ok.r k hk
  by_cases hn : 0 < need z
  · obtain ⟨q, e, l⟩ := most_z zs none z k h hk hn
    have em : mostQ zs = q := by
      unfold mostQ mostO
      rw [e]
      rfl
    rw [em, ← share_mul kb (show 1 ≤ need z ∧ need z ≤ 3 by omega)]
    exact Rat.mul_le_mul_of_nonneg_right l (by exact_mod_cast nb.1)
  · have : need z = 0 := by omega
    rw [this]
    have e : mostQ zs * ((0 : Int) : Rat) = 0 := by grind
    rw [e]
    exact_mod_cast kb.1
theorem need_l (z : Tri) : (z.2.1 : Rat) ≤ (need z : Rat) ∧ (z.2.2 : Rat) ≤ (need z : Rat) := by
  have : z.2.1 ≤ need z ∧ z.2.2 ≤ need z := by
    unfold need
    split <;> omega
  exact ⟨by exact_mod_cast this.1, by exact_mod_cast this.2⟩
/-- one stuff: from an end of the brinks the step can be done -/
structure OneOk (k : Option Int) (m1 m2 : Rat) : Prop where
  a : 0 ≤ m1
  b : ∀ j, k = some j → m1 ≤ (j : Rat)
  c : 0 ≤ m2
  d : ∀ j, k = some j → m2 ≤ (j : Rat)
theorem one_ok {mst : Rat} {z : Tri} {h : Rat} (hm : 0 ≤ mst) (ok : TriOk z) (hn : ∀ k, z.1 = some k → mst * (need z : Rat) ≤ (k : Rat)) (hh : h = (pairQ mst z).1 ∨ h = (pairQ mst z).2) : OneOk z.1 (h + mst * ((-1 * z.2.1 : Int) : Rat)) (h + mst * ((-1 * z.2.1 : Int) : Rat) + mst * ((1 * z.2.2 : Int) : Rat)) := by
  obtain ⟨room, t, g⟩ := z
  have ht := ok.t.1
  have hg := ok.g.1
  dsimp only at ht hg hn hh ⊢
  have htr : (0 : Rat) ≤ (t : Rat) := by exact_mod_cast ht
  have hgr : (0 : Rat) ≤ (g : Rat) := by exact_mod_cast hg
  have p1 : 0 ≤ mst * (t : Rat) := Rat.mul_nonneg hm htr
  have p2 : 0 ≤ mst * (g : Rat) := Rat.mul_nonneg hm hgr
  have e1 : ((-1 * t : Int) : Rat) = -(t : Rat) := by
    rw [Rat.intCast_mul]
    grind
  have e2 : ((1 * g : Int) : Rat) = (g : Rat) := by rw [Int.one_mul]
  rw [e1, e2]
  have nl := need_l ((room, t, g) : Tri)
  dsimp only at nl
  have n1 : mst * (t : Rat) ≤ mst * (need (room, t, g) : Rat) := Rat.mul_le_mul_of_nonneg_left nl.1 hm
  have n2 : mst * (g : Rat) ≤ mst * (need (room, t, g) : Rat) := Rat.mul_le_mul_of_nonneg_left nl.2 hm
  cases room with
  | none =>
    have hv : h = mst * (t : Rat) := by rcases hh with h1 | h1 <;> exact h1
    exact ⟨by grind, (fun j hj => nomatch hj), by grind, (fun j hj => nomatch hj)⟩
  | some k =>
    have hk := hn k rfl
    rcases hh with h1 | h1
    · have hv : h = mst * (t : Rat) := h1
      exact ⟨by grind, (fun j hj => by cases hj; grind), by grind, (fun j hj => by cases hj; grind)⟩
    · have hv : h = (k : Rat) - mst * ((if 0 < g - t then g - t else 0 : Int) : Rat) := h1
      by_cases hgt : 0 < g - t
      · rw [if_pos hgt, Rat.intCast_sub] at hv
        have p3 : mst * (t : Rat) ≤ mst * (g : Rat) := Rat.mul_le_mul_of_nonneg_left (by exact_mod_cast (show t ≤ g by omega)) hm
        exact ⟨by grind, (fun j hj => by cases hj; grind), by grind, (fun j hj => by cases hj; grind)⟩
      · rw [if_neg hgt] at hv
        have p3 : mst * (g : Rat) ≤ mst * (t : Rat) := Rat.mul_le_mul_of_nonneg_left (by exact_mod_cast (show g ≤ t by omega)) hm
        have e0 : mst * ((0 : Int) : Rat) = 0 := by grind
        rw [e0] at hv
        exact ⟨by grind, (fun j hj => by cases hj; grind), by grind, (fun j hj => by cases hj; grind)⟩
theorem edges_at {ss : List (List Rat)} : ∀ {n : Nat}, n ≤ ss.length → ∀ e ∈ edgesL (ss.take n), ∀ i (h : i < e.length) (h' : i < ss.length), e[i] ∈ ss[i]
  | 0, _, e, he, i, h, _ => by
    rw [List.mem_singleton.mp he] at h
    cases h
  | n + 1, hn, e, he, i, h, h' => by
    have hl := edges_each (ss := ss) hn e he
    rw [edges_take (by omega)] at he
    obtain ⟨e', he', h2⟩ := List.mem_flatMap.mp he
    obtain ⟨x, hx, rfl⟩ := List.mem_map.mp h2
    have hl' := edges_each (ss := ss) (n := n) (by omega) e' he'
    by_cases hi : i < n
    · rw [List.getElem_append_left (by omega)]
      exact edges_at (by omega) e' he' i (by omega) h'
    · have : i = n := by omega
      subst this
      rw [List.getElem_append_right (by omega)]
      have : [x][i - e'.length]'(by rw [hl']; simp) = x := by simp [hl']
      rw [this]
      exact hx
end R3

set_option Elab.async false
set_option linter.all false
set_option maxRecDepth 100000
set_option maxHeartbeats 4000000
namespace R3
open PySem PySem.Spec PyProof.Rows L2 Evl Dv StX
open Qa (toF Sx)
theorem moved_at {hs : List Rat} {a : Rat} {row : List Int} {sg : Int} {i : Nat} (h : i < (movedQ hs a row sg).length) (h1 : i < hs.length) (h2 : i < row.length) : (movedQ hs a row sg)[i] = hs[i] + a * ((sg * row[i] : Int) : Rat) := by
  have : (movedQ hs a row sg)[i]? = some (hs[i] + a * ((sg * row[i] : Int) : Rat)) := by
    unfold movedQ
    rw [List.getElem?_map, (List.getElem?_zip_eq_some (z := (hs[i], row[i]))).mpr ⟨List.getElem?_eq_getElem h1, List.getElem?_eq_getElem h2⟩] <;> rfl
  rw [List.getElem?_eq_getElem h] at this
  exact Option.some.inj this
theorem lastsT_tri {sf : List (Str × Option Int)} {r : Rcp} : lastsT sf r = (triL sf r).map (·.2.1) := by
  unfold lastsT triL
  rw [List.map_map]
  rfl
theorem lastsG_tri {sf : List (Str × Option Int)} {r : Rcp} : lastsG sf r = (triL sf r).map (·.2.2) := by
  unfold lastsG triL
  rw [List.map_map]
  rfl
theorem side_sx {zs : List Tri} (hz : ∀ z ∈ zs, TriOk z) : ∀ s ∈ sidesQ zs, ∀ q ∈ s, Sx 720 q := fun s hs q hq => by
  unfold sidesQ at hs
  obtain ⟨z, hzm, rfl⟩ := List.mem_map.mp hs
  have ok := hz z hzm
  have mk := mostQ_ok hz
  have s1 : Sx 720 (pairQ (mostQ zs) z).1 := (mk.1.mul z.2.1).mono (by
    have : 180 * z.2.1.natAbs ≤ 180 * 3 := Nat.mul_le_mul_left _ (by have := ok.t; omega)
    omega)
  have s2 : Sx 720 (pairQ (mostQ zs) z).2 := by
    obtain ⟨room, t, g⟩ := z
    cases room with
    | none => exact s1
    | some k =>
      have hk := ok.r k rfl
      have ht := ok.t
      have hg := ok.g
      dsimp only at ht hg
      refine (((Sx.int k).mono (show 60 * k.natAbs ≤ 180 from by
        have : 60 * k.natAbs ≤ 60 * 3 := Nat.mul_le_mul_left _ (by omega)
        omega)).sub ((mk.1.mul _).mono (show 180 * (if 0 < g - t then g - t else 0 : Int).natAbs ≤ 540 from by
        have : 180 * (if 0 < g - t then g - t else 0 : Int).natAbs ≤ 180 * 3 := Nat.mul_le_mul_left _ (by split <;> omega)
        omega))).mono (by decide)
  split at hq <;> simp at hq
  · rw [hq]; exact s1
  · rcases hq with rfl | rfl
    · exact s1
    · exact s2
theorem step_brink {sf : List (Str × Option Int)} {r : Rcp} (h3 : sf.length ≤ 3) (hz : ∀ z ∈ triL sf r, TriOk z) (hrm : ∀ z ∈ sf, ∀ k, z.2 = some k → 0 ≤ k ∧ k ≤ 3) : ∀ hs ∈ edgesL (sidesQ (triL sf r)), StepOk sf r hs (mostQ (triL sf r)) 10000 := fun hs hh => by
  have mk := mostQ_ok hz
  have zl : (triL sf r).length = sf.length := tri_len
  have sl : (sidesQ (triL sf r)).length = sf.length := by
    unfold sidesQ
    rw [List.length_map, zl]
  have e0 : edgesL (sidesQ (triL sf r)) = edgesL ((sidesQ (triL sf r)).take sf.length) := by rw [← sl, List.take_length]
  rw [e0] at hh
  have hl := edges_each (ss := sidesQ (triL sf r)) (n := sf.length) (by omega) hs hh
  have hin := edges_in (B := 720) (side_sx hz) (n := sf.length) (by omega) hs hh
  have hat := edges_at (ss := sidesQ (triL sf r)) (n := sf.length) (by omega) hs hh
  have lT : (lastsT sf r).length = sf.length := by unfold lastsT; rw [List.length_map]
  have lG : (lastsG sf r).length = sf.length := by unfold lastsG; rw [List.length_map]
  have m1 : (midQ sf r hs (mostQ (triL sf r))).length = sf.length := by
    unfold midQ
    rw [moved_len, lT, hl]
    omega
  have m2 : (endQ sf r hs (mostQ (triL sf r))).length = sf.length := by
    unfold endQ
    rw [moved_len, lG, m1]
    omega
  have one : ∀ i (h : i < sf.length), OneOk (sf[i]).2 ((midQ sf r hs (mostQ (triL sf r)))[i]'(by omega)) ((endQ sf r hs (mostQ (triL sf r)))[i]'(by omega)) := fun i h => by
    have hzi : i < (triL sf r).length := by omega
    have ez := tri_at (r := r) h hzi
    have hside := hat i (by omega) (by omega)
    have es : (sidesQ (triL sf r))[i]'(by omega) = if (pairQ (mostQ (triL sf r)) (triL sf r)[i]).1 = (pairQ (mostQ (triL sf r)) (triL sf r)[i]).2 then [(pairQ (mostQ (triL sf r)) (triL sf r)[i]).1] else [(pairQ (mostQ (triL sf r)) (triL sf r)[i]).1, (pairQ (mostQ (triL sf r)) (triL sf r)[i]).2] := by
      have : (sidesQ (triL sf r))[i]? = some (if (pairQ (mostQ (triL sf r)) (triL sf r)[i]).1 = (pairQ (mostQ (triL sf r)) (triL sf r)[i]).2 then [(pairQ (mostQ (triL sf r)) (triL sf r)[i]).1] else [(pairQ (mostQ (triL sf r)) (triL sf r)[i]).1, (pairQ (mostQ (triL sf r)) (triL sf r)[i]).2]) := by
        unfold sidesQ
        rw [List.getElem?_map, List.getElem?_eq_getElem hzi] <;> rfl
      rw [List.getElem?_eq_getElem (by omega)] at this
      exact Option.some.inj this
    rw [es] at hside
    have hh2 : hs[i] = (pairQ (mostQ (triL sf r)) (triL sf r)[i]).1 ∨ hs[i] = (pairQ (mostQ (triL sf r)) (triL sf r)[i]).2 := by
      split at hside <;> simp at hside
      · exact .inl hside
      · exact hside
    have zm : (triL sf r)[i] ∈ triL sf r := List.getElem_mem _
    have oo := one_ok mk.2 (hz _ zm) (fun k hk => most_need hz zm hk) hh2
    have lt : (lastsT sf r)[i]'(by omega) = (triL sf r)[i].2.1 := by
      have : (lastsT sf r)[i]? = some (triL sf r)[i].2.1 := by
        rw [lastsT_tri, List.getElem?_map, List.getElem?_eq_getElem hzi] <;> rfl
      rw [List.getElem?_eq_getElem (by omega)] at this
      exact Option.some.inj this
    have lg : (lastsG sf r)[i]'(by omega) = (triL sf r)[i].2.2 := by
      have : (lastsG sf r)[i]? = some (triL sf r)[i].2.2 := by
        rw [lastsG_tri, List.getElem?_map, List.getElem?_eq_getElem hzi] <;> rfl
      rw [List.getElem?_eq_getElem (by omega)] at this
      exact Option.some.inj this
    have a1 : (midQ sf r hs (mostQ (triL sf r)))[i]'(by omega) = hs[i]'(by omega) + mostQ (triL sf r) * ((-1 * (triL sf r)[i].2.1 : Int) : Rat) := by
      rw [← lt]
      exact moved_at (by unfold midQ at m1; omega) (by omega) (by omega)
    have a2 : (endQ sf r hs (mostQ (triL sf r)))[i]'(by omega) = (midQ sf r hs (mostQ (triL sf r)))[i]'(by omega) + mostQ (triL sf r) * ((1 * (triL sf r)[i].2.2 : Int) : Rat) := by
      rw [← lg]
      exact moved_at (by unfold endQ at m2; omega) (by omega) (by omega)
    rw [a2, a1]
    rw [ez] at oo ⊢
    exact oo
  refine ⟨by omega, hl, mk.1, by decide, fun q hq => (hin q hq).mono (by decide), hrm, fun n hn => ?_, fun n hn => ?_, fun i h h' => ?_, fun i h h' => ?_⟩
  · rw [lastsT_tri] at hn
    obtain ⟨z, hz1, rfl⟩ := List.mem_map.mp hn
    exact (hz z hz1).t
  · rw [lastsG_tri] at hn
    obtain ⟨z, hz1, rfl⟩ := List.mem_map.mp hn
    exact (hz z hz1).g
  · exact ⟨(one i h').a, (one i h').b⟩
  · exact ⟨(one i h').c, (one i h').d⟩
def rOf (rs : List (Option Int)) (ts gs : List Int) : Rcp := ("r", partsOf (stuffsOf rs) ts, partsOf (stuffsOf rs) gs)
theorem nameS_r : nameS "r" = true := by decide +kernel
theorem gd_r : gd (.str "r") = true := by decide +kernel
theorem rcp_good {rs : List (Option Int)} (d : Dr rs) {ts gs : List Int} (lt : ts.length = (stuffsOf rs).length) (lg : gs.length = (stuffsOf rs).length) (nt : ∀ n ∈ ts, NumIn n) (ng : ∀ n ∈ gs, NumIn n) : RcpGood (mOf rs) (rOf rs ts gs) := by
  have l3 := d.l3
  have ln : (stuffsOf rs).length = rs.length := stuffs_len rs
  have pt := parts_ok d (ns := ts) (by omega) nt
  have pg := parts_ok d (ns := gs) (by omega) ng
  have eT : lastsT (stuffsOf rs) (rOf rs ts gs) = ts := by
    have := pt.la
    unfold MillD.names at this
    rw [List.map_map] at this
    exact this
  have eG : lastsG (stuffsOf rs) (rOf rs ts gs) = gs := by
    have := pg.la
    unfold MillD.names at this
    rw [List.map_map] at this
    exact this
  have tOk : ∀ z ∈ triL (mOf rs).stuffs (rOf rs ts gs), TriOk z := fun z hz => by
    have h1 : z.2.1 ∈ lastsT (stuffsOf rs) (rOf rs ts gs) := by
      rw [lastsT_tri]
      exact List.mem_map.mpr ⟨z, hz, rfl⟩
    have h2 : z.2.2 ∈ lastsG (stuffsOf rs) (rOf rs ts gs) := by
      rw [lastsG_tri]
      exact List.mem_map.mpr ⟨z, hz, rfl⟩
    rw [eT] at h1
    rw [eG] at h2
    refine ⟨?_, nt _ h1, ng _ h2⟩
    unfold triL at hz
    obtain ⟨s, hs, rfl⟩ := List.mem_map.mp hz
    exact mill_rs d s hs
  refine ⟨by show (stuffsOf rs).length ≤ 3; omega, ⟨?_, ?_, ?_, tOk, pt.mm, pg.mm⟩, ?_, ?_, ?_, fun s hs q hq => (side_sx tOk s hs q hq).mono (by decide), fun hs hh _ => step_brink (by show (stuffsOf rs).length ≤ 3; omega) tOk (mill_rs d) hs hh⟩
  · unfold triL
    rw [List.map_map]
    rfl
  · rw [← lastsT_tri]
    exact eT.trans pt.nb.symm
  · rw [← lastsG_tri]
    exact eG.trans pg.nb.symm
  · have g : Gk 4 (encRecipe (rOf rs ts gs)) := gk_tup (by simp) fun y hy => by
      simp only [List.mem_cons, List.not_mem_nil, or_false] at hy
      rcases hy with rfl | rfl | rfl
      · exact (gk_str gd_r).mono (by decide)
      · exact pt.gk
      · exact pg.gk
    exact g.1
  · show (nameS "r" && areParts (mOf rs).names (encPs (partsOf (stuffsOf rs) ts)) && areParts (mOf rs).names (encPs (partsOf (stuffsOf rs) gs))) = true
    rw [nameS_r, pt.ar, pg.ar]
    rfl
  · exact (gk_tup (k := 4) (by simp) fun y hy => by
      simp only [List.mem_cons, List.not_mem_nil, or_false] at hy
      rcases hy with rfl | rfl | rfl
      · exact (gk_str gd_r).mono (by decide)
      · exact pt.gk.mono (by decide)
      · exact pg.gk.mono (by decide))
end R3

set_option Elab.async false
set_option linter.all false
set_option maxRecDepth 100000
set_option maxHeartbeats 4000000
namespace R3
open PySem PySem.Spec PyProof.Rows L2 Evl Dv StX
open Qa (toF Sx)
/-! ### the known mills -/
def mA : MillD := ⟨[("a", some 3), ("b", some 2)], []⟩
def mC : MillD := ⟨[("c", some 2), ("m", some 1)], []⟩
def rA : Rcp := ("r", [("a", 1)], [("b", 1)])
def rC : Rcp := ("r", [("c", 3)], [("c", 3)])
theorem two_ok : twoM.Ok := by
  refine ⟨by decide, by decide, by decide +kernel, fun z hz => ?_, Nat.zero_le _, List.nodup_nil, fun z hz => nomatch hz⟩
  simp only [twoM, List.mem_cons, List.not_mem_nil, or_false] at hz
  rcases hz with rfl | rfl <;> decide +kernel
theorem mA_ok : mA.Ok := by
  refine ⟨by decide, by decide, by decide +kernel, fun z hz => ?_, Nat.zero_le _, List.nodup_nil, fun z hz => nomatch hz⟩
  simp only [mA, List.mem_cons, List.not_mem_nil, or_false] at hz
  rcases hz with rfl | rfl <;> decide +kernel
theorem mC_ok : mC.Ok := by
  refine ⟨by decide, by decide, by decide +kernel, fun z hz => ?_, Nat.zero_le _, List.nodup_nil, fun z hz => nomatch hz⟩
  simp only [mC, List.mem_cons, List.not_mem_nil, or_false] at hz
  rcases hz with rfl | rfl <;> decide +kernel
theorem rcp_conc {m : MillD} {r : Rcp} (h3 : m.stuffs.length ≤ 3) (tri : TriOf m r (triL m.stuffs r)) (hrm : ∀ z ∈ m.stuffs, ∀ k, z.2 = some k → 0 ≤ k ∧ k ≤ 3) (is : isRecipe m.names (encRecipe r) = true) (gk : Gk 5 (encRecipe r)) : RcpGood m r :=
  ⟨h3, tri, gk.1, is, gk, fun s hs q hq => (side_sx tri.ok s hs q hq).mono (by decide), fun hs hh _ => step_brink h3 tri.ok hrm hs hh⟩
theorem rA_good : RcpGood mA rA := by
  have e : triL mA.stuffs rA = [(some 3, 1, 0), (some 2, 0, 1)] := by decide +kernel
  refine rcp_conc (by decide) ⟨rfl, by decide +kernel, by decide +kernel, ?_, by decide +kernel, by decide +kernel⟩ (fun z hz k hk => ?_) (by decide +kernel) ⟨by decide +kernel, by decide +kernel, by decide +kernel⟩
  · rw [e]
    intro z hz
    simp only [List.mem_cons, List.not_mem_nil, or_false] at hz
    rcases hz with rfl | rfl
    · exact ⟨(fun k hk => by cases hk; decide), by decide, by decide⟩
    · exact ⟨(fun k hk => by cases hk; decide), by decide, by decide⟩
  · simp only [mA, List.mem_cons, List.not_mem_nil, or_false] at hz
    rcases hz with rfl | rfl <;> (cases hk; decide)
theorem rC_good : RcpGood mC rC := by
  have e : triL mC.stuffs rC = [(some 2, 3, 3), (some 1, 0, 0)] := by decide +kernel
  refine rcp_conc (by decide) ⟨rfl, by decide +kernel, by decide +kernel, ?_, by decide +kernel, by decide +kernel⟩ (fun z hz k hk => ?_) (by decide +kernel) ⟨by decide +kernel, by decide +kernel, by decide +kernel⟩
  · rw [e]
    intro z hz
    simp only [List.mem_cons, List.not_mem_nil, or_false] at hz
    rcases hz with rfl | rfl
    · exact ⟨(fun k hk => by cases hk; decide), by decide, by decide⟩
    · exact ⟨(fun k hk => by cases hk; decide), by decide, by decide⟩
  · simp only [mC, List.mem_cons, List.not_mem_nil, or_false] at hz
    rcases hz with rfl | rfl <;> (cases hk; decide)
def dueA : PyData := .tuple [iT 2 1, .list [.list [iT 2 1, iT 0 1], .list [iT 3 1, iT 0 1]]]
def dueC : PyData := .tuple [iT 2 3, .list [.list [iT 2 1, iT 0 1], .list [iT 2 1, iT 1 1]]]
theorem enc_q {q : Rat} {a b : Int} (h : q.num = a ∧ (q.den : Int) = b) : encR q = iT a b := by
  obtain ⟨rfl, rfl⟩ := h
  rfl
theorem dueA_eq : encBr (mostQ (triL mA.stuffs rA)) (edgesL (sidesQ (triL mA.stuffs rA))) = dueA := by
  have e1 : mostQ (triL mA.stuffs rA) = 2 := by decide +kernel
  have e2 : edgesL (sidesQ (triL mA.stuffs rA)) = [[2, 0], [3, 0]] := by decide +kernel
  rw [e1, e2]
  show PyData.tuple [encR 2, .list [.list [encR 2, encR 0], .list [encR 3, encR 0]]] = dueA
  rw [enc_q (q := 2) (a := 2) (b := 1) (by decide +kernel), enc_q (q := 0) (a := 0) (b := 1) (by decide +kernel), enc_q (q := 3) (a := 3) (b := 1) (by decide +kernel)]
  rfl
theorem dueC_eq : encBr (mostQ (triL mC.stuffs rC)) (edgesL (sidesQ (triL mC.stuffs rC))) = dueC := by
  have e1 : mostQ (triL mC.stuffs rC) = mkRat 2 3 := by decide +kernel
  have e2 : edgesL (sidesQ (triL mC.stuffs rC)) = [[2, 0], [2, 1]] := by decide +kernel
  rw [e1, e2]
  show PyData.tuple [encR (mkRat 2 3), .list [.list [encR 2, encR 0], .list [encR 2, encR 1]]] = dueC
  rw [enc_q (q := 2) (a := 2) (b := 1) (by decide +kernel), enc_q (q := 0) (a := 0) (b := 1) (by decide +kernel), enc_q (q := 1) (a := 1) (b := 1) (by decide +kernel), enc_q (q := mkRat 2 3) (a := 2) (b := 3) (by decide +kernel)]
  rfl
theorem due_sh : SeqAt.shaped dueA = true ∧ SeqAt.shaped dueC = true ∧ PyData.eqv dueA dueA = true ∧ PyData.eqv dueC dueC = true := by decide +kernel
section
variable {P : Program} {w : World} {K : PySem.W.Frag} {mg : Str → Option Value} {base : Heap} {C : Addr}
theorem ifn3 {sp : Sp} {E : XK} {ta tb tc : TE} {t u : TS} {D : Ends} {σ : L2.St} {H : Hp} (h : ta σ H fun x H1 => tb σ H1 fun y H2 => tc σ H2 fun z H3 => sp [x, y, z] H3 (fun v H4 => ∃ c, v = .bl c ∧ (if (!c) = true then t D σ H4 else u D σ H4)) E) : tIfS (tNot (tB (tCall sp [] E (tCons ta (tCons tb (tCons tc tNil)))))) t u D σ H := h
def spLaw (K : PySem.W.Frag) : Sp := fun vs H Q _ => ∃ (a : Addr) (ns : List Int), vs = [.ref a] ∧ SqL K H a (ns.map V.int) ∧ ns.length ≤ 63 ∧ ∀ H', Q (.bl true) H'
theorem sc_law : FnScope (["script", "index", "generator", "stuffs", "mill_here", "turn", "two", "due", "crew"] : List Str) (["script"] : List Str) (defScope sLaw) := ⟨rfl, rfl, rfl, by decide +kernel, rfl, by decide +kernel, by decide +kernel⟩
theorem ok_law (D : Def K mg "law" sLaw ["script"]) (B : Bl mg) (C__law_generator : Cal P w K mg base "_law_generator" ["script", "index"] 1 (spGen K)) (C__law_random : Cal P w K mg base "_law_random" ["generator", "bound"] 2 spRandom) (C__law_stuffs_drawn : Cal P w K mg base "_law_stuffs_drawn" ["generator", "wide", "most"] 3 (spStuffsDrawn K))
    (M_Mill : Mak P w K mg base "Mill" C ["stuffs", "recipes"] 5 (spMillInit K C)) (C__law_box_drawn : Cal P w K mg base "_law_box_drawn" ["generator", "stuffs", "most"] 4 (spBoxDrawn K)) (C__law_edges_good : Cal P w K mg base "_law_edges_good" ["mill_here", "box_here"] 9 (spEdgesGood K C))
    (C__law_recipe_drawn : Cal P w K mg base "_law_recipe_drawn" ["generator", "stuffs"] 3 (spRecipeDrawn K)) (C__law_brinks_good : Cal P w K mg base "_law_brinks_good" ["parts", "mill_here", "recipe_here"] 9 (spBrinksGood K C)) (C_brinks : Cal P w K mg base "brinks" ["mill", "recipe"] 8 (spBrinksG K C)) (C__law_refused : Cal P w K mg base "_law_refused" ["mill_here"] 10 (spRefused K C)) : Cal P w K mg base "law" ["script"] 11 (spLaw K) := by
  refine cal_mk D sc_law (fun vs H Q E h => ?_) (fun f cdv A outer s H vs Q E hr h => ?_)
  · obtain ⟨a, ns, rfl, _⟩ := h
    rfl
  obtain ⟨a, ns, rfl, hS, hl, q⟩ := h
  refine ⟨_, (pss_cons (ps_for PassesOwn.never rfl (pi_range1 rfl B.range (pa_cons pe_int pa_nil)) (pg_name (i := 1) sc_law.nd rfl (.inl rfl)) (pss_cons (ps_set (i := 2) sc_law.nd rfl (.inl rfl) (pe_callC C__law_generator hr (pa_cons (pv 0) (pa_cons (pv 1) pa_nil))))
      (pss_cons (ps_set (i := 3) sc_law.nd rfl (.inl rfl) (pe_callC C__law_stuffs_drawn hr (pa_cons (pv 2) (pa_cons (pe_op op_add pe_int (pe_callC C__law_random hr (pa_cons (pv 2) (pa_cons pe_int pa_nil)))) (pa_cons pe_int pa_nil)))))
      (pss_cons (ps_set (i := 4) sc_law.nd rfl (.inl rfl) (pe_makC M_Mill hr (pa_cons (pv 3) (pa_cons (pe_lst pa_nil) pa_nil))))
      (pss_cons (ps_for PassesOwn.never rfl (pi_range1 rfl B.range (pa_cons pe_int pa_nil)) (pg_name (i := 5) sc_law.nd rfl (.inl rfl)) (pss_one (ps_if (pt_not (pt_val (pe_callC C__law_edges_good hr (pa_cons (pv 4) (pa_cons (pe_callC C__law_box_drawn hr (pa_cons (pv 2) (pa_cons (pv 3) (pa_cons pe_int pa_nil)))) pa_nil))))) (pss_one (ps_ret pe_bl)) pss_nil)))
      (pss_cons (ps_set (i := 3) sc_law.nd rfl (.inl rfl) (pe_callC C__law_stuffs_drawn hr (pa_cons (pv 2) (pa_cons (pe_op op_add pe_int (pe_callC C__law_random hr (pa_cons (pv 2) (pa_cons pe_int pa_nil)))) (pa_cons pe_int pa_nil)))))
      (pss_one (ps_for PassesOwn.never rfl (pi_range1 rfl B.range (pa_cons pe_int pa_nil)) (pg_name (i := 5) sc_law.nd rfl (.inl rfl)) (pss_one (ps_if (pt_not (pt_val (pe_callC C__law_brinks_good hr (pa_cons (pe_lst (pa_cons (pv 3) (pa_cons (pe_lst pa_nil) pa_nil))) (pa_cons (pe_makC M_Mill hr (pa_cons (pv 3) (pa_cons (pe_lst pa_nil) pa_nil))) (pa_cons (pe_callC C__law_recipe_drawn hr (pa_cons (pv 2) (pa_cons (pv 3) pa_nil))) pa_nil)))))) (pss_one (ps_ret pe_bl)) pss_nil))))))))))
      (pss_cons (ps_set (i := 6) sc_law.nd rfl (.inl rfl) (pe_makC M_Mill hr (pa_cons (pe_lst (pa_cons (pe_tup (pa_cons pe_str (pa_cons pe_non pa_nil))) (pa_cons (pe_tup (pa_cons pe_str (pa_cons pe_int pa_nil))) pa_nil))) (pa_cons (pe_lst pa_nil) pa_nil))))
      (pss_cons (ps_set (i := 7) sc_law.nd rfl (.inl rfl) (pe_tup (pa_cons (pe_tup (pa_cons pe_int (pa_cons pe_int pa_nil))) (pa_cons (pe_lst (pa_cons (pe_lst (pa_cons (pe_tup (pa_cons pe_int (pa_cons pe_int pa_nil))) (pa_cons (pe_tup (pa_cons pe_int (pa_cons pe_int pa_nil))) pa_nil))) (pa_cons (pe_lst (pa_cons (pe_tup (pa_cons pe_int (pa_cons pe_int pa_nil))) (pa_cons (pe_tup (pa_cons pe_int (pa_cons pe_int pa_nil))) pa_nil))) pa_nil))) pa_nil))))
      (pss_cons (ps_if (pt_cmpR (op_neD (by exact hr.1.units)) (pe_callC C_brinks hr (pa_cons (pe_makC M_Mill hr (pa_cons (pe_lst (pa_cons (pe_tup (pa_cons pe_str (pa_cons pe_int pa_nil))) (pa_cons (pe_tup (pa_cons pe_str (pa_cons pe_int pa_nil))) pa_nil))) (pa_cons (pe_lst pa_nil) pa_nil))) (pa_cons (pe_tup (pa_cons pe_str (pa_cons (pe_lst (pa_cons (pe_tup (pa_cons pe_str (pa_cons pe_int pa_nil))) pa_nil)) (pa_cons (pe_lst (pa_cons (pe_tup (pa_cons pe_str (pa_cons pe_int pa_nil))) pa_nil)) pa_nil)))) pa_nil))) (pv 7) (nomark _)) (pss_one (ps_ret pe_bl)) pss_nil)
      (pss_cons (ps_set (i := 8) sc_law.nd rfl (.inl rfl) (pe_makC M_Mill hr (pa_cons (pe_lst (pa_cons (pe_tup (pa_cons pe_str (pa_cons pe_int pa_nil))) (pa_cons (pe_tup (pa_cons pe_str (pa_cons pe_int pa_nil))) pa_nil))) (pa_cons (pe_lst pa_nil) pa_nil))))
      (pss_cons (ps_set (i := 7) sc_law.nd rfl (.inl rfl) (pe_tup (pa_cons (pe_tup (pa_cons pe_int (pa_cons pe_int pa_nil))) (pa_cons (pe_lst (pa_cons (pe_lst (pa_cons (pe_tup (pa_cons pe_int (pa_cons pe_int pa_nil))) (pa_cons (pe_tup (pa_cons pe_int (pa_cons pe_int pa_nil))) pa_nil))) (pa_cons (pe_lst (pa_cons (pe_tup (pa_cons pe_int (pa_cons pe_int pa_nil))) (pa_cons (pe_tup (pa_cons pe_int (pa_cons pe_int pa_nil))) pa_nil))) pa_nil))) pa_nil))))
      (pss_one (ps_ret (pe_and (pe_cmpR (op_eqD (by exact hr.1.units)) (pe_callC C_brinks hr (pa_cons (pv 8) (pa_cons (pe_tup (pa_cons pe_str (pa_cons (pe_lst (pa_cons (pe_tup (pa_cons pe_str (pa_cons pe_int pa_nil))) pa_nil)) (pa_cons (pe_lst (pa_cons (pe_tup (pa_cons pe_str (pa_cons pe_int pa_nil))) pa_nil)) pa_nil)))) pa_nil))) (pv 7) (nomark _)) (pe_one (pe_callC C__law_refused hr (pa_cons (pv 6) pa_nil)))))))))))), ?_⟩
  have st : start ["script", "index", "generator", "stuffs", "mill_here", "turn", "two", "due", "crew"] [.ref a] = [some (.ref a), none, none, none, none, none, none, none, none] := rfl
  rw [st]
  have emp : ∀ (σ : L2.St) (F' : Hp), EvD K (tLst tNil) σ F' (.list []) := fun σ F' => EvL.ev (Dv.el_lst Dv.ea_nil (by simp))
  refine seq_of (Dv.s_for (K := K) (F := H) (it_rng1 (n := 3) (Dv.ea_cons (Dv.ev_int 3) Dv.ea_nil) (by decide) (by decide)) (Ex.refl H)
    (fun n σ' F' H' => ∃ s1 s2 s3 s4 s5, σ' = [some (.ref a), s1, s2, s3, s4, s5, none, none, none] ∧ Ex H F')
    (fun F' H' g1 => ⟨none, none, none, none, none, rfl, g1.fx⟩) ?_ (fun σ' F1 H1 e1 e1' pv => ?_))
  · rintro Fb eb n σ' F' H' u dd F1 H1 hdd e1 e2 ⟨s1, s2, s3, s4, s5, rfl, e0⟩ g1 hu
    obtain ⟨hn, hdn⟩ := List.getElem?_eq_some_iff.mp hdd
    rw [List.length_map, List.length_range] at hn
    have hn3 : n < 3 := hn
    have hdn' : dd = .int (n : Int) := by rw [← hdn, List.getElem_map, List.getElem_range]
    subst hdn'
    cases hu
    have x1 : Ex H F1 := e0.trans g1.fx
    show tSeq (tAsg _ _) _ _ [some (.ref a), some (.int (n : Int)), s2, s3, s4, s5, none, none, none] H1
    refine seq_of (asg_of ⟨_, rfl, _, rfl, a, ns, n, rfl, by omega, ex_l (x1.trans g1.fh) hS, hl, fun g gx gs H2 sm hg2 x0 s0 s1' => ?_⟩)
    have eF2 : Ex F1 (upd H2 g (.lst [.int gx, .int gs, .int (1000 * (n : Int))])) := fun b o hb => by
      have hb2 := sm b o (g1.fh b o hb)
      rw [upd_ne (ne_of_none hb2 hg2)]
      exact hb2
    have fg : F1 g = none := by
      cases z : F1 g with
      | none => rfl
      | some o =>
        have := sm g o (g1.fh g o z)
        rw [hg2] at this
        cases this
    have hgen : GenAt (upd H2 g (.lst [.int gx, .int gs, .int (1000 * (n : Int))])) g (1000 * n) := ⟨gx, gs, _, upd_same, x0, s0, s1', by omega, by omega⟩
    generalize upd H2 g (.lst [.int gx, .int gs, .int (1000 * (n : Int))]) = H2' at *
    dsimp only
    show tSeq _ _ _ [some (.ref a), some (.int (n : Int)), some (.ref g), s3, s4, s5, none, none, none] H2'
    -- stuffs
    have wd : ∀ (mst : Int) (σ : L2.St) (F' : Hp), σ[2]? = some (some (.ref g)) → DaD K g (0 + 1 + (0 + 0)) _ σ F' _ := fun mst σ F' hσ => da_cons (K := K) (g := g) (σ := σ) (F := F') (dr_add (m := 1) (n := 2) (m' := 0) (n' := 3) (dr_of (Dv.ev_int 1) ⟨1, rfl, by decide, by decide⟩) (dr_random (i := 2) hσ (by decide) (by decide) (by decide +kernel))) (da_cons (dr_of (Dv.ev_int mst) (Pd := (· = .int mst)) rfl) da_nil)
    refine seq_of (asg_of ⟨_, rfl, wd 3 _ F1 rfl _ (1000 * n) eF2 fg hgen (by omega) _ fun vs F3 H3 ds k3 hg3 pds hvs => ?_⟩)
    obtain ⟨d1, r1, rfl, ⟨i1, rfl, i10, i11⟩, d2, r2, rfl, rfl, rfl⟩ := pds
    obtain ⟨v1, v2, rfl, hv1, hv2⟩ := Dv.two hvs
    cases hv1
    cases hv2
    obtain ⟨wide, rfl⟩ := Int.eq_ofNat_of_zero_le (show 0 ≤ i1 by omega)
    refine ⟨F3, g, _, wide, 3, rfl, by omega, by omega, k3.fh, k3.fg, hg3, by omega, fun sv F4 H4 rs k4 hg4 hlr hrr hsv => ?_⟩
    have dr : Dr rs := ⟨by omega, by omega, hrr⟩
    dsimp only
    show tSeq _ _ _ [some (.ref a), some (.int (n : Int)), some (.ref g), some sv, s4, s5, none, none, none] H4
    -- the mill
    refine seq_of (asg_of (ev_mill (K := K) (C := C) (E := E0) (m := mOf rs) (Dv.ea_cons (Dv.ev_var (i := 3) rfl hsv) (Dv.ea_cons (emp _ F4) Dv.ea_nil)) (mill_ok dr) H4 k4.fh _ fun ml F5 H5 g5 hm => ?_))
    obtain ⟨k5, hg5⟩ := hg4.of g5 k4.fg
    dsimp only
    show tSeq _ _ _ [some (.ref a), some (.int (n : Int)), some (.ref g), some sv, some (.ref ml), s5, none, none, none] H5
    have hsv5 := dp_ex g5.fx hsv
    refine seq_of (Dv.s_for (K := K) (F := F5) (it_rng1 (n := 2) (Dv.ea_cons (Dv.ev_int 2) Dv.ea_nil) (by decide) (by decide)) g5.fh
      (fun j σ' F' H' => ∃ s5, σ' = [some (.ref a), some (.int (n : Int)), some (.ref g), some sv, some (.ref ml), s5, none, none, none] ∧ Ex F5 F' ∧ F' g = none ∧ GenAt H' g (1000 * n + 10 + 9 * j))
      (fun F' H' g6 => ?_) ?_ (fun σ' F6 H6 e6 e6' pv6 => ?_))
    · obtain ⟨k6, hg6⟩ := hg5.of g6 k5.fg
      exact ⟨s5, rfl, g6.fx, k6.fg, hg6.mono (by omega)⟩
    · rintro Fc ec j σ' F' H' tv td F6 H6 htd e6 e6' ⟨s5', rfl, e56, fg6, hg6⟩ g6 htv
      have hj : j < 2 := by
        have := (List.getElem?_eq_some_iff.mp htd).1
        rwa [List.length_map, List.length_range] at this
      obtain ⟨k6, hg6'⟩ := hg6.of g6 fg6
      have x56 : Ex F5 F6 := e56.trans g6.fx
      show tIfS _ _ _ _ [some (.ref a), some (.int (n : Int)), some (.ref g), some sv, some (.ref ml), some tv, none, none, none] H6
      refine ⟨_, rfl, _, rfl, _, rfl, F6, g, _, sv, stuffsOf rs, rfl, k6.fh, k6.fg, hg6', by omega, dp_ex x56 hsv5, by rw [stuffs_len]; exact dr.l3, fun z hz => ?_, fun bv F7 H7 bx k7 hg7 hlb hbx hbv => ?_⟩
      · obtain ⟨_, _, _, h⟩ := stuffs_mem dr z hz
        exact h
      refine ⟨F7, ml, bv, mOf rs, bx, rfl, k7.fh, hm.mono (x56.trans k7.fx), box_good dr hlb hbx, hbv, fun F8 H8 g8 => ⟨true, rfl, iteF ?_⟩⟩
      obtain ⟨k8, hg8⟩ := hg7.of g8 k7.fg
      have xa : Ex F' F8 := g6.fx.trans (k7.fx.trans g8.fx)
      exact ⟨F8, e6.trans xa, g8.fh, _, rfl, e56.trans xa, k8.fg, hg8.mono (by omega)⟩
    obtain ⟨s5', rfl, e56, fg6, hg6⟩ := pv6
    have hg6 : GenAt H6 g (1000 * n + 28) := hg6.mono (by simp)
    dsimp only
    show tSeq _ _ _ [some (.ref a), some (.int (n : Int)), some (.ref g), some sv, some (.ref ml), s5', none, none, none] H6
    -- stuffs once more
    refine seq_of (asg_of ⟨_, rfl, wd 2 _ F6 rfl _ (1000 * n + 28) e6' fg6 hg6 (by omega) _ fun vs F7 H7 ds k7 hg7 pds hvs => ?_⟩)
    obtain ⟨d1, r1, rfl, ⟨i1, rfl, i10', i11'⟩, d2, r2, rfl, rfl, rfl⟩ := pds
    obtain ⟨v1, v2, rfl, hv1, hv2⟩ := Dv.two hvs
    cases hv1
    cases hv2
    obtain ⟨wide2, rfl⟩ := Int.eq_ofNat_of_zero_le (show 0 ≤ i1 by omega)
    refine ⟨F7, g, _, wide2, 2, rfl, by omega, by omega, k7.fh, k7.fg, hg7, by omega, fun sv2 F8 H8 rs2 k8 hg8 hlr2 hrr2 hsv2 => ?_⟩
    have dr2 : Dr rs2 := ⟨by omega, by omega, hrr2⟩
    dsimp only
    show tFor _ _ _ _ [some (.ref a), some (.int (n : Int)), some (.ref g), some sv2, some (.ref ml), s5', none, none, none] H8
    have x48 : Ex F1 F8 := k3.fx.trans (k4.fx.trans (g5.fx.trans (e56.trans (k7.fx.trans k8.fx))))
    refine Dv.s_for (K := K) (F := F8) (it_rng1 (n := 3) (Dv.ea_cons (Dv.ev_int 3) Dv.ea_nil) (by decide) (by decide)) k8.fh
      (fun j σ' F' H' => ∃ s5, σ' = [some (.ref a), some (.int (n : Int)), some (.ref g), some sv2, some (.ref ml), s5, none, none, none] ∧ Ex F8 F' ∧ F' g = none ∧ GenAt H' g (1000 * n + 40 + 6 * j))
      (fun F' H' g9 => ?_) ?_ (fun σ' F9 H9 e9 e9' pv9 => ?_)
    · obtain ⟨k9, hg9⟩ := hg8.of g9 k8.fg
      exact ⟨s5', rfl, g9.fx, k9.fg, hg9.mono (by omega)⟩
    · rintro Fc ec j σ' F' H' tv td F9 H9 htd e9 e9' ⟨s5'', rfl, e89, fg9, hg9⟩ g9 htv
      have hj : j < 3 := by
        have := (List.getElem?_eq_some_iff.mp htd).1
        rwa [List.length_map, List.length_range] at this
      obtain ⟨k9, hg9'⟩ := hg9.of g9 fg9
      have x89 : Ex F8 F9 := e89.trans g9.fx
      show tIfS _ _ _ _ [some (.ref a), some (.int (n : Int)), some (.ref g), some sv2, some (.ref ml), some tv, none, none, none] H9
      refine ifn3 ((EvL.ev (Dv.el_lst (K := K) (F := F9) (σ := [some (.ref a), some (.int (n : Int)), some (.ref g), some sv2, some (.ref ml), some tv, none, none, none]) (ds := [.list ((stuffsOf rs2).map encStuff), .list []]) (Dv.ea_cons (Dv.ev_var (i := 3) rfl (dp_ex x89 hsv2)) (Dv.ea_cons (emp _ F9) Dv.ea_nil)) (by simp))) H9 k9.fh _ fun pv F10 H10 g10 hpv => ?_)
      obtain ⟨k10, hg10⟩ := hg9'.of g10 k9.fg
      refine ev_mill (K := K) (F := F10) (C := C) (E := E0) (m := mOf rs2) (Dv.ea_cons (Dv.ev_var (i := 3) rfl (dp_ex (x89.trans g10.fx) hsv2)) (Dv.ea_cons (emp _ F10) Dv.ea_nil)) (mill_ok dr2) H10 k10.fh _ fun ml2 F11 H11 g11 hm2 => ?_
      obtain ⟨k11, hg11⟩ := hg10.of g11 k10.fg
      refine ⟨_, rfl, _, rfl, F11, g, _, sv2, stuffsOf rs2, rfl, k11.fh, k11.fg, hg11, by omega, dp_ex (x89.trans (g10.fx.trans g11.fx)) hsv2, by rw [stuffs_len]; exact dr2.l3, fun rv F12 H12 ts gss k12 hg12 lt lg nt ng hrv => ?_⟩
      refine ⟨F12, ml2, pv, rv, mOf rs2, .list [], rOf rs2 ts gss, rfl, k12.fh, hm2.mono k12.fx, rcp_good dr2 lt lg nt ng, dp_ex (g11.fx.trans k12.fx) hpv, hrv, fun F13 H13 g13 => ⟨true, rfl, iteF ?_⟩⟩
      obtain ⟨k13, hg13⟩ := hg12.of g13 k12.fg
      have xa : Ex F' F13 := g9.fx.trans (g10.fx.trans (g11.fx.trans (k12.fx.trans g13.fx)))
      exact ⟨F13, e9.trans xa, g13.fh, _, rfl, e89.trans xa, k13.fg, hg13.mono (by omega)⟩
    · obtain ⟨s5'', rfl, e89, fg9, hg9⟩ := pv9
      exact ⟨F9, e1.trans (g1.fx.trans (x48.trans e89)), e9', _, _, _, _, _, rfl, x1.trans (x48.trans e89)⟩
  obtain ⟨s1, s2, s3, s4, s5, rfl, e0⟩ := pv
  dsimp only
  show tSeq _ _ _ [some (.ref a), s1, s2, s3, s4, s5, none, none, none] H1
  -- two
  have sfs : ∀ (σ : L2.St) (F' : Hp) (x y : Str) (r1 : Option Int) (j : Int) (t1 : TE), EvD K t1 σ F' (encRoom r1) → EvD K (tLst (tCons (tTup (tCons (tC (.str x)) (tCons t1 tNil))) (tCons (tTup (tCons (tC (.str y)) (tCons (tC (.int j)) tNil))) tNil))) σ F' (.list [encStuff (x, r1), encStuff (y, some j)]) := fun σ F' x y r1 j t1 h1 =>
    EvL.ev (Dv.el_lst (Dv.ea_cons (Dv.ev_tup (Dv.ea_cons (Dv.ev_str _) (Dv.ea_cons h1 Dv.ea_nil)) (by simp)) (Dv.ea_cons (Dv.ev_tup (Dv.ea_cons (Dv.ev_str _) (Dv.ea_cons (Dv.ev_int _) Dv.ea_nil)) (by simp)) Dv.ea_nil)) (by simp))
  have rcs : ∀ (σ : L2.St) (F' : Hp) (x y : Str) (i j : Int), EvD K (tTup (tCons (tC (.str "r")) (tCons (tLst (tCons (tTup (tCons (tC (.str x)) (tCons (tC (.int i)) tNil))) tNil)) (tCons (tLst (tCons (tTup (tCons (tC (.str y)) (tCons (tC (.int j)) tNil))) tNil)) tNil)))) σ F' (encRecipe ("r", [(x, i)], [(y, j)])) := fun σ F' x y i j =>
    Dv.ev_tup (ds := [.str "r", .list [encPart (x, i)], .list [encPart (y, j)]]) (Dv.ea_cons (Dv.ev_str _) (Dv.ea_cons (EvL.ev (Dv.el_lst (Dv.ea_cons (Dv.ev_tup (Dv.ea_cons (Dv.ev_str _) (Dv.ea_cons (Dv.ev_int _) Dv.ea_nil)) (by simp)) Dv.ea_nil) (by simp))) (Dv.ea_cons (EvL.ev (Dv.el_lst (Dv.ea_cons (Dv.ev_tup (Dv.ea_cons (Dv.ev_str _) (Dv.ea_cons (Dv.ev_int _) Dv.ea_nil)) (by simp)) Dv.ea_nil) (by simp))) Dv.ea_nil))) (by simp)
  refine seq_of (asg_of (ev_mill (K := K) (F := F1) (C := C) (E := E0) (m := twoM) (Dv.ea_cons (sfs _ F1 "a" "b" none 2 _ Dv.ev_non) (Dv.ea_cons (emp _ F1) Dv.ea_nil)) two_ok H1 e1' _ fun mt F2 H2 g2 hmt => ?_))
  dsimp only
  show tSeq _ _ _ [some (.ref a), s1, s2, s3, s4, s5, some (.ref mt), none, none] H2
  have fr : ∀ (σ : L2.St) (F' : Hp) (i j : Int), EvD K (tTup (tCons (tC (.int i)) (tCons (tC (.int j)) tNil))) σ F' (iT i j) := fun σ F' i j => Dv.ev_tup (Dv.ea_cons (Dv.ev_int i) (Dv.ea_cons (Dv.ev_int j) Dv.ea_nil)) (by simp)
  have pr : ∀ (σ : L2.St) (F' : Hp) (ta tb : TE) (da db : PyData), EvD K ta σ F' da → EvD K tb σ F' db → EvD K (tLst (tCons ta (tCons tb tNil))) σ F' (.list [da, db]) := fun σ F' ta tb da db h1 h2 => EvL.ev (Dv.el_lst (Dv.ea_cons h1 (Dv.ea_cons h2 Dv.ea_nil)) (by simp))
  refine seq_of (Dv.s_asg (K := K) (F := F2) (d := dueA) (Dv.ev_tup (Dv.ea_cons (fr _ F2 2 1) (Dv.ea_cons (pr _ F2 _ _ _ _ (pr _ F2 _ _ _ _ (fr _ F2 2 1) (fr _ F2 0 1)) (pr _ F2 _ _ _ _ (fr _ F2 3 1) (fr _ F2 0 1))) Dv.ea_nil)) (by simp)) g2.fh fun dv F3 H3 g3 hdv => ?_)
  dsimp only
  show tSeq _ _ _ [some (.ref a), s1, s2, s3, s4, s5, some (.ref mt), some dv, none] H3
  obtain ⟨sh1, sh2, eq1, eq2⟩ := due_sh
  have brk : ∀ (σ : L2.St) (F' : Hp) (m : MillD) (r : Rcp) (ta tb : TE) (d : PyData), EvO (fun F x => MillAt K F C x m) ta σ F' → EvD K tb σ F' (encRecipe r) → RcpGood m r → encBr (mostQ (triL m.stuffs r)) (edgesL (sidesQ (triL m.stuffs r))) = d → EvD K (tCall (spBrinksG K C) [] E0 (tCons ta (tCons tb tNil))) σ F' d := fun σ F' m r ta tb d h1 h2 rg ed H' e' Q' q' =>
    h1 H' e' _ fun mx F4 H4 g4 hmx => (h2.mono g4.fx) H4 g4.fh _ fun rv F5 H5 g5 hrv => ⟨F5, mx, rv, m, r, rfl, g5.fh, hmx.mono g5.fx, rg, hrv, fun F6 H6 t am p ws g6 ht ham fp hp hall => q' _ F6 H6 ((g4.trans g5).trans g6) (by
      rw [← ed]
      exact .tup (SqT.of ht) (.cons ham (.cons (.lst (SqL.of hp) (hall.dps fun v x h => NewE.dp v x h)) .nil)))⟩
  have b1 := brk [some (.ref a), s1, s2, s3, s4, s5, some (.ref mt), some dv, none] F3 mA rA _ _ dueA (ev_mill (K := K) (F := F3) (C := C) (E := E0) (m := mA) (Dv.ea_cons (sfs _ F3 "a" "b" (some 3) 2 _ (Dv.ev_int 3)) (Dv.ea_cons (emp _ F3) Dv.ea_nil)) mA_ok) (rcs _ F3 "a" "b" 1 1) rA_good dueA_eq
  refine seq_of (s_ifF (et_v (ev_neD b1 (Dv.ev_var (i := 7) rfl hdv) sh1 sh1) (by rw [eq1]; rfl)) g3.fh fun F4 H4 g4 => ?_)
  try unfold tNext
  dsimp only
  refine seq_of (asg_of (ev_mill (K := K) (F := F4) (C := C) (E := E0) (m := mC) (Dv.ea_cons (sfs _ F4 "c" "m" (some 2) 1 _ (Dv.ev_int 2)) (Dv.ea_cons (emp _ F4) Dv.ea_nil)) mC_ok H4 g4.fh _ fun mc F5 H5 g5 hmc => ?_))
  dsimp only
  show tSeq _ _ _ [some (.ref a), s1, s2, s3, s4, s5, some (.ref mt), some dv, some (.ref mc)] H5
  refine seq_of (Dv.s_asg (K := K) (F := F5) (d := dueC) (Dv.ev_tup (Dv.ea_cons (fr _ F5 2 3) (Dv.ea_cons (pr _ F5 _ _ _ _ (pr _ F5 _ _ _ _ (fr _ F5 2 1) (fr _ F5 0 1)) (pr _ F5 _ _ _ _ (fr _ F5 2 1) (fr _ F5 1 1))) Dv.ea_nil)) (by simp)) g5.fh fun dv2 F6 H6 g6 hdv2 => ?_)
  dsimp only
  show tRet _ _ [some (.ref a), s1, s2, s3, s4, s5, some (.ref mt), some dv2, some (.ref mc)] H6
  have vmc : EvO (fun F x => MillAt K F C x mC) (tVar 8) [some (.ref a), s1, s2, s3, s4, s5, some (.ref mt), some dv2, some (.ref mc)] F6 := fun H' e' Q' q' => ⟨_, rfl, q' mc F6 H' (Gr.refl e') (hmc.mono g6.fx)⟩
  have b2 := brk [some (.ref a), s1, s2, s3, s4, s5, some (.ref mt), some dv2, some (.ref mc)] F6 mC rC _ _ dueC vmc (rcs _ F6 "c" "c" 3 3) rC_good dueC_eq
  have rf : EvD K (tCall (spRefused K C) [] E0 (tCons (tVar 6) tNil)) [some (.ref a), s1, s2, s3, s4, s5, some (.ref mt), some dv2, some (.ref mc)] F6 (.bool true) := fun H' e' Q' q' => ⟨_, rfl, F6, mt, rfl, e', hmt.mono (g3.fx.trans (g4.fx.trans (g5.fx.trans g6.fx))), fun F' H' g => q' _ F' H' g (.bl _)⟩
  refine Dv.s_ret (K := K) (F := F6) (d := .bool true) (Dv.ev_is (Dv.ev_andV (ev_eqD b2 (Dv.ev_var (i := 7) rfl hdv2) sh2 sh2) fun _ => rf) (by rw [eq2]; rfl)) g6.fh fun v F7 H7 g7 hv => ?_
  cases hv
  exact q H7
end
end R3

set_option Elab.async false
set_option linter.all false
set_option maxRecDepth 100000
set_option maxHeartbeats 4000000
/-! GENERAL: what an END has to tell of defs, of own errors and of classes. -/
namespace Hd
open PySem PySem.Spec PyProof.Rows PySem.Xn PySem.W
abbrev veT (ME : Addr) : List Value := [.ref ME, .type "ValueError", .type "Exception", .type "BaseException", .type "object"]
section
variable {P : Program} {K : Frag} {h : Heap} {mg : Str → Option Value} {cn fld qual file : Str} {C ME fI cda cc da N : Addr} {nm q0 : Str} {bs : List Value} {sn : List Str} {sub : List Value} {ab : Bool} {col : Option Bool}
  {dd od an cdd cld ddi : Option Addr} {k0 k1 k2 k3 k5 : Option Value} {oc doc pm ct ccl cl dcl : Value} {osl ccs csl dsl : Array (Option Value)} {p1 p2 p3 : Pos} {q : Nat → Pos} {vs : Array Value} {tf : Tok} {dn : Nat} {code : Value}
/-- what is alike for all the classes -/
structure Com (P : Program) (K : Frag) (mg : Str → Option Value) (ME : Addr) : Prop where
  al : alongIn K "__init__" (veT ME) = some (some (.builtin "ValueError.__init__"))
  opq : nsIn K cStatics "thirdparty.any" = some none
  noS : mg "super" = none
  hn : specialIn K (.builtin "object.__class__") "__get__" = some (some (.builtin "getset_descriptor.__get__"))
  ht : takesIn K (.builtin "object.__class__") = some true
/-- what is asked of each class -/
structure One (K : Frag) (mg : Str → Option Value) (cn : Str) (C : Addr) (bm : List Value) : Prop where
  g : mg cn = some (.ref C)
  l : ∃ nm q N bs sn sub ab col dd k0 k1 k2 k3 k5, K.lookup C = some (excClassObj nm q C N bs bm true sn sub ab col dd k0 k1 k2 k3 k5 "ValueError.__new__")
  ga : findIn K (.ref C) "__getattribute__" = some (some (.builtin "BaseException.__getattribute__"))
  gg : findIn K (.ref C) "__getattr__" = some none
  ha : findIn K (.ref C) "__class__" = some (some (.builtin "object.__class__"))
variable {bm : List Value}
theorem One.cd (O : One K mg cn C bm) : ∃ cd : ClassData, clsIn K C = some cd ∧ cd.mro = .ref C :: bm ∧ cd.hasDict = true := by
  obtain ⟨nm, q, N, bs, sn, sub, ab, col, dd, k0, k1, k2, k3, k5, e⟩ := O.l
  exact ⟨_, by unfold clsIn; rw [e] <;> rfl, rfl, rfl⟩
theorem One.mro (O : One K mg cn C bm) (b : Value) : mroIn K C b = some ((.ref C :: bm : List Value).contains b) := by
  obtain ⟨cd, e, m, _⟩ := O.cd
  unfold mroIn
  rw [e]
  show (if cd.mro.isEmpty = true then none else some (cd.mro.contains b)) = _
  rw [m] <;> rfl
theorem One.ty (O : One K mg cn C bm) : typeIn K (.ref C) = some (.type "type") := by
  obtain ⟨nm, q, N, bs, sn, sub, ab, col, dd, k0, k1, k2, k3, k5, e⟩ := O.l
  show (K.lookup C).map (·.cls) = _
  rw [e] <;> rfl
theorem One.exC (O : One K mg cn C bm) (c : Com P K mg ME) (h1 : bm.contains (.type "BaseException") = true) (h2 : bm.contains (.type "object") = true) : L2.ExC K C := by
  obtain ⟨cd, e, m, _⟩ := O.cd
  refine ⟨by rw [e] <;> rfl, O.ga, O.gg, ?_, O.ha, c.hn, c.ht, ?_⟩
  · show mroIn K C (.type "BaseException") = _
    rw [O.mro, List.contains_cons, h1]
    simp
  · rw [O.mro, List.contains_cons, h2]
    simp
theorem contains_ne {x c : Addr} {l : List Value} (h : x ≠ c) : ((.ref c :: l : List Value).contains (.ref x)) = l.contains (.ref x) := by
  rw [List.contains_cons]
  have e : ((Value.ref x) == (.ref c)) = false := by
    apply Bool.eq_false_iff.mpr
    intro z
    have := eq_of_beq z
    cases this
    exact h rfl
  rw [e, Bool.false_or]
theorem kit_own (O : One K mg cn C bm) {cn' : Str} {D : Addr} {bm' : List Value} (O' : One K mg cn' D bm') :
    kitOne K (.ref C) (.ref D) = some (decide (C = D) || bm.contains (.ref D)) := by
  unfold kitOne
  by_cases e : C = D
  · subst e
    rw [if_pos (by simp)]
    simp
  · rw [if_neg (fun z => e (by have := eq_of_beq z; cases this; rfl))]
    unfold kitCls
    have hd : ((clsIn K D).isSome && typeIn K (.ref D) == some (.type "type")) = true := by
      obtain ⟨cd, q, _⟩ := O'.cd
      rw [q, O'.ty]
      rfl
    try dsimp only
    rw [if_pos hd]
    show mroIn K C (.ref D) = _
    rw [O.mro, contains_ne (Ne.symm e)]
    simp [e]
theorem kit_VE (O : One K mg cn C bm) (h : bm.contains (.type "ValueError") = true) : kitOne K (.ref C) (.type "ValueError") = some true := by
  unfold kitOne
  rw [if_neg (fun z => by have := eq_of_beq z; cases this)]
  unfold kitCls
  dsimp only
  rw [if_pos (by decide +kernel)]
  show mroIn K C (.type "ValueError") = _
  rw [O.mro, List.contains_cons, h]
  simp
theorem ext_mk (c : Com P K mg ME) (O : One K mg cn C (veT ME))
    (sa : findIn K (.ref C) "__setattr__" = some (some (.builtin "object.__setattr__"))) (nb : findIn K (.ref C) fld = some none) (iC : findIn K (.ref C) "__init__" = some (some (.ref fI))) (kC : keepIn K (.ref C) = true)
    (l1 : K.lookup fI = some ⟨.type "function", od, .func (ksFn "__init__" qual (iA fld p1 p2 p3) (iB fld q) (iS fld) (.ref da) .none doc pm an (.ref cda) ct cc), osl⟩) (c1 : codeIn K (.ref cda) qual = true)
    (l2 : K.lookup cda = some ⟨ccl, cdd, .fields vs, ccs⟩) (v2 : vs[2]? = some (.str file tf)) (hf : ((P.main.file : Str) == file) = true)
    (l3 : K.lookup cc = some ⟨cl, cld, .cell (some (.ref C)), csl⟩) (l4 : K.lookup da = some ⟨dcl, ddi, .seq #[.none] dn, dsl⟩)
    (tx : TextOk fld q) (bd : BindOk fld (ksFn "__init__" qual (iA fld p1 p2 p3) (iB fld q) (iS fld) (.ref da) .none doc pm an (.ref cda) ct cc) da)
    (nc : (fld == ("__debug__" : Str)) = false ∧ ¬ (fld = ("self" : Str)) ∧ ¬ (fld = ("__class__" : Str)) ∧ ¬ (fld = ("super" : Str))) : ExT P K mg cn fld C fI where
  gC := O.g
  cls := by
    obtain ⟨nm, q, N, bs, sn, sub, ab, col, dd, k0, k1, k2, k3, k5, e⟩ := O.l
    exact ⟨nm, q, N, bs, _, sn, sub, ab, col, dd, k0, k1, k2, k3, k5, e, rfl, c.al⟩
  sa := sa
  ga := O.ga
  gg := O.gg
  noN := nb
  iC := iC
  tC := by
    show (K.lookup fI).map (·.cls) = _
    rw [l1] <;> rfl
  kC := kC
  exC := by
    show mroIn K C (.type "BaseException") = _
    rw [O.mro]
    rfl
  exV := by
    show mroIn K C (.type "ValueError") = _
    rw [O.mro]
    rfl
  exO := by
    rw [O.mro]
    rw [List.contains_cons]
    simp
  tyC := O.ty
  hdC := by
    obtain ⟨cd, e, m, d⟩ := O.cd
    unfold hasDictIn
    rw [e]
    exact d
  opq := c.opq
  noS := c.noS
  fn := ⟨_, od, qual, .ref da, doc, pm, an, cda, cc, ct, osl, p1, p2, p3, q, ccl, cdd, vs, ccs, file, tf, cl, cld, csl, dcl, ddi, dn, dsl, da, l1, c1, l2, v2, hf, l3, tx, bd, rfl, l4⟩
  nclash := nc
abbrev veT0 : List Value := [.type "ValueError", .type "Exception", .type "BaseException", .type "object"]
end
section
variable {P : Program} {K : Frag} {h : Heap} {mg : Str → Option Value} {cn fld qual file : Str} {C ME fI cda cc da N : Addr} {nm q0 : Str} {bs bm : List Value} {sn : List Str} {sub : List Value} {ab : Bool} {col : Option Bool}
  {dd od an cdd cld ddi : Option Addr} {k0 k1 k2 k3 k5 : Option Value} {oc doc pm ct ccl cl dcl : Value} {osl ccs csl dsl : Array (Option Value)} {p1 p2 p3 : Pos} {q : Nat → Pos} {vs : Array Value} {tf : Tok} {dn : Nat} {code : Value}
theorem one_mk (X : K.In h) (G : h.Ns mainGlobals mg) (a : nsIn K mainGlobals cn = some (some (.ref C)))
    (l : K.lookup C = some (excClassObj nm q0 C N bs bm true sn sub ab col dd k0 k1 k2 k3 k5 "ValueError.__new__"))
    (ga : findIn K (.ref C) "__getattribute__" = some (some (.builtin "BaseException.__getattribute__"))) (gg : findIn K (.ref C) "__getattr__" = some none) (ha : findIn K (.ref C) "__class__" = some (some (.builtin "object.__class__"))) : One K mg cn C bm :=
  ⟨mg_of X G a, ⟨_, _, _, _, _, _, _, _, _, _, _, _, _, _, l⟩, ga, gg, ha⟩
theorem ext_one (X : K.In h) (G : h.Ns mainGlobals mg) (c : Com P K mg ME) (a : nsIn K mainGlobals cn = some (some (.ref C)))
    (l : K.lookup C = some (excClassObj nm q0 C N bs (veT ME) true sn sub ab col dd k0 k1 k2 k3 k5 "ValueError.__new__"))
    (ga : findIn K (.ref C) "__getattribute__" = some (some (.builtin "BaseException.__getattribute__"))) (gg : findIn K (.ref C) "__getattr__" = some none) (ha : findIn K (.ref C) "__class__" = some (some (.builtin "object.__class__")))
    (sa : findIn K (.ref C) "__setattr__" = some (some (.builtin "object.__setattr__"))) (nb : findIn K (.ref C) fld = some none) (iC : findIn K (.ref C) "__init__" = some (some (.ref fI))) (kC : keepIn K (.ref C) = true)
    (l1 : K.lookup fI = some ⟨.type "function", od, .func (ksFn "__init__" qual (iA fld p1 p2 p3) (iB fld q) (iS fld) (.ref da) .none doc pm an (.ref cda) ct cc), osl⟩) (c1 : codeIn K (.ref cda) qual = true)
    (l2 : K.lookup cda = some ⟨ccl, cdd, .fields vs, ccs⟩) (v2 : vs[2]? = some (.str file tf)) (hf : ((P.main.file : Str) == file) = true)
    (l3 : K.lookup cc = some ⟨cl, cld, .cell (some (.ref C)), csl⟩) (l4 : K.lookup da = some ⟨dcl, ddi, .seq #[.none] dn, dsl⟩)
    (tx : TextOk fld q) (bd : BindOk fld (ksFn "__init__" qual (iA fld p1 p2 p3) (iB fld q) (iS fld) (.ref da) .none doc pm an (.ref cda) ct cc) da)
    (nc : (fld == ("__debug__" : Str)) = false ∧ ¬ (fld = ("self" : Str)) ∧ ¬ (fld = ("__class__" : Str)) ∧ ¬ (fld = ("super" : Str))) : ExT P K mg cn fld C fI ∧ One K mg cn C (veT ME) :=
  have O := one_mk X G a l ga gg ha
  ⟨ext_mk c O sa nb iC kC l1 c1 l2 v2 hf l3 l4 tx bd nc, O⟩
end
theorem bd_value {qual : Str} {p1 p2 p3 : Pos} {q : Nat → Pos} {doc pm ct : Value} {an : Option Addr} {cda cc da : Addr} : BindOk "value" (ksFn "__init__" qual (iA "value" p1 p2 p3) (iB "value" q) (iS "value") (.ref da) .none doc pm an (.ref cda) ct cc) da := ⟨fun _ _ => ⟨_, rfl, rfl⟩, fun _ _ => ⟨_, rfl, rfl⟩, fun _ => ⟨_, rfl, rfl⟩⟩
end Hd
namespace Hd
open PySem PySem.Spec PyProof.Rows L2
structure DefIn (K : PySem.W.Frag) (nm : Str) (st : Stmt) : Prop where
  ex : ∃ f fd, PySem.W.nsIn K mainGlobals nm = some (some (.ref f)) ∧ Fun K nm nm st f fd
theorem def_in {K : PySem.W.Frag} {nm : Str} {st : Stmt} {f : Addr} {oc : Value} {od an : Option Addr} {osl : Array (Option Value)} {kV doc pm cdv ct : Value} (a : PySem.W.nsIn K mainGlobals nm = some (some (.ref f)))
    (l : K.lookup f = some ⟨oc, od, .func (PySem.W.fnOf nm nm (defArgs st) (defBody st) (defScope st) .none kV doc pm an cdv ct), osl⟩)
    (c : PySem.W.codeIn K cdv nm = true) (k : PySem.W.keepIn K (.ref f) = true) : DefIn K nm st := ⟨_, _, a, fun_mk (st := st) l c k⟩
theorem def_of {K : PySem.W.Frag} {h : Heap} {mg : Str → Option Value} {nm : Str} {st : Stmt} {ps : List Str} (X : K.In h) (G : h.Ns mainGlobals mg) (d : DefIn K nm st) (b : ∀ f fd, Fun K nm nm st f fd → Binds K fd ps []) : Dv.Def K mg nm st ps := by
  obtain ⟨f, fd, a, F⟩ := d.ex
  exact ⟨f, fd, PySem.W.mg_of X G a, F, b f fd F⟩
/-- a class and its __init__ -/
structure ClsIn (K : PySem.W.Frag) (nm qi : Str) (st : Stmt) (C : Addr) : Prop where
  g : PySem.W.nsIn K mainGlobals nm = some (some (.ref C))
  cl : Cls K C
  ini : ∃ f fd, Mk K C f ∧ Fun K "__init__" qi st f fd
theorem cls_in {K : PySem.W.Frag} {nm qi : Str} {st : Stmt} {C f : Addr} {oc : Value} {od an : Option Addr} {osl : Array (Option Value)} {kV doc pm cdv ct : Value} (g : PySem.W.nsIn K mainGlobals nm = some (some (.ref C)))
    (pg : PySem.W.plainGet K C Str.empty = true) (hd : PySem.W.hasDictIn K C = true) (po : PySem.W.plainOver K C = true) (sa : PySem.W.findIn K (.ref C) "__setattr__" = some (some (.builtin "object.__setattr__")))
    (mk : PySem.W.makesIn K C = true) (i : PySem.W.findIn K (.ref C) "__init__" = some (some (.ref f))) (fn : PySem.W.isFn K (.ref f) = true) (kc : PySem.W.keepIn K (.ref C) = true)
    (l : K.lookup f = some ⟨oc, od, .func (PySem.W.fnOf "__init__" qi (defArgs st) (defBody st) (defScope st) .none kV doc pm an cdv ct), osl⟩)
    (c : PySem.W.codeIn K cdv qi = true) (k : PySem.W.keepIn K (.ref f) = true) : ClsIn K nm qi st C := ⟨g, ⟨pg, hd, po, sa⟩, _, _, ⟨mk, i, fn, kc⟩, fun_mk (st := st) l c k⟩
end Hd

set_option Elab.async false
set_option linter.all false
set_option maxRecDepth 100000
set_option maxHeartbeats 4000000
namespace Hd
open PySem PySem.Spec PyProof.Rows L2
/-- a method of a class -/
structure MethIn (K : PySem.W.Frag) (C : Addr) (m qual : Str) (st : Stmt) : Prop where
  ex : ∃ f fd, Meth K C m f ∧ Fun K m qual st f fd
theorem meth_in {K : PySem.W.Frag} {m qual : Str} {st : Stmt} {C f : Addr} {oc : Value} {od an : Option Addr} {osl : Array (Option Value)} {kV doc pm cdv ct : Value} (a : PySem.W.findIn K (.ref C) m = some (some (.ref f))) (fn : PySem.W.isFn K (.ref f) = true)
    (l : K.lookup f = some ⟨oc, od, .func (PySem.W.fnOf m qual (defArgs st) (defBody st) (defScope st) .none kV doc pm an cdv ct), osl⟩)
    (c : PySem.W.codeIn K cdv qual = true) (k : PySem.W.keepIn K (.ref f) = true) : MethIn K C m qual st := ⟨_, _, ⟨a, fn, k⟩, fun_mk (st := st) l c k⟩
theorem meth_of {K : PySem.W.Frag} {C : Addr} {m qual : Str} {st : Stmt} {ps : List Str} (d : MethIn K C m qual st) (b : ∀ f fd, Fun K m qual st f fd → Binds K fd ("self" :: ps) []) : Dv.DefM K C m qual st ps := by
  obtain ⟨f, fd, a, F⟩ := d.ex
  exact ⟨f, fd, a, F, b f fd F⟩
end Hd
namespace R3
open PySem PySem.Spec PyProof.Rows L2 Hd
def p0 : Pos := ⟨0, 0, 0, 0⟩
def qL : List (List Pos) := [[⟨20, 8, 20, 13⟩, ⟨20, 8, 20, 15⟩, ⟨20, 8, 20, 24⟩, ⟨20, 25, 20, 30⟩, ⟨20, 8, 20, 31⟩, ⟨21, 8, 21, 12⟩, ⟨21, 8, 21, 18⟩, ⟨21, 21, 21, 26⟩, ⟨21, 8, 21, 26⟩],
  [⟨25, 8, 25, 13⟩, ⟨25, 8, 25, 15⟩, ⟨25, 8, 25, 24⟩, ⟨25, 25, 25, 30⟩, ⟨25, 8, 25, 31⟩, ⟨26, 8, 26, 12⟩, ⟨26, 8, 26, 18⟩, ⟨26, 21, 26, 26⟩, ⟨26, 8, 26, 26⟩],
  [⟨15, 8, 15, 13⟩, ⟨15, 8, 15, 15⟩, ⟨15, 8, 15, 24⟩, ⟨15, 25, 15, 30⟩, ⟨15, 8, 15, 31⟩, ⟨16, 8, 16, 12⟩, ⟨16, 8, 16, 18⟩, ⟨16, 21, 16, 26⟩, ⟨16, 8, 16, 26⟩]]
def pL : List (List Pos) := [[⟨19, 17, 19, 21⟩, ⟨19, 23, 19, 28⟩, ⟨19, 29, 19, 33⟩],
  [⟨24, 17, 24, 21⟩, ⟨24, 23, 24, 28⟩, ⟨24, 29, 24, 33⟩],
  [⟨14, 17, 14, 21⟩, ⟨14, 23, 14, 28⟩, ⟨14, 29, 14, 33⟩]]
abbrev qq (i : Nat) : Nat → Pos := fun j => (qL.getD i []).getD j p0
abbrev pp (i j : Nat) : Pos := (pL.getD i []).getD j p0
theorem tx0 : PySem.Xn.TextOk "value" (qq 0) := ⟨⟨_, fun _ => rfl⟩, fun _ => rfl, fun _ => rfl, fun _ => rfl, fun _ => rfl⟩
theorem tx1 : PySem.Xn.TextOk "value" (qq 1) := ⟨⟨_, fun _ => rfl⟩, fun _ => rfl, fun _ => rfl, fun _ => rfl, fun _ => rfl⟩
theorem tx2 : PySem.Xn.TextOk "value" (qq 2) := ⟨⟨_, fun _ => rfl⟩, fun _ => rfl, fun _ => rfl, fun _ => rfl, fun _ => rfl⟩
theorem ones_mk {K : PySem.W.Frag} {mg : Str → Option Value} {a : Addr} {dd : Option Addr} {n : Nat} {sl : Array (Option Value)} {t0 t1 : Tok} (g : mg "ONE" = some (.ref a)) (l : K.lookup a = some ⟨.type "tuple", dd, .seq #[.int 1 t0, .int 1 t1] n, sl⟩) : Ones K mg :=
  ⟨a, g, fun F => .tup (xs := [.int 1, .int 1]) (.inr ⟨_, #[.int 1 t0, .int 1 t1], n, l, rfl, rfl, (show 2 ≤ sizeLine by decide +kernel), .cons ⟨_, rfl⟩ (.cons ⟨_, rfl⟩ .nil)⟩) (.cons (.int 1) (.cons (.int 1) .nil))⟩
section
variable {P : Program} {w : World} {K : PySem.W.Frag} {h : Heap} {mg : Str → Option Value} {fa C G CM CX CI CE fM fX fI' : Addr}
/-- what is written of the names that hold things -/
structure Words (K : PySem.W.Frag) : Prop where
  letters : ∃ t, PySem.W.nsIn K mainGlobals "LETTERS" = some (some (.str "abcdefghijklmnopqrstuvwxyz" t))
  figures : ∃ t, PySem.W.nsIn K mainGlobals "FIGURES" = some (some (.str "0123456789" t))
  mostName : ∃ t, PySem.W.nsIn K mainGlobals "MOST_NAME" = some (some (.int 8 t))
  mostStuffs : ∃ t, PySem.W.nsIn K mainGlobals "MOST_STUFFS" = some (some (.int 8 t))
  mostRecipes : ∃ t, PySem.W.nsIn K mainGlobals "MOST_RECIPES" = some (some (.int 8 t))
  mostNumber : ∃ t, PySem.W.nsIn K mainGlobals "MOST_NUMBER" = some (some (.int 1000000 t))
theorem words_mk {K : PySem.W.Frag} {t0 t1 t2 t3 t4 t5 : Tok} (w0 : PySem.W.nsIn K mainGlobals "LETTERS" = some (some (.str "abcdefghijklmnopqrstuvwxyz" t0))) (w1 : PySem.W.nsIn K mainGlobals "FIGURES" = some (some (.str "0123456789" t1))) (w2 : PySem.W.nsIn K mainGlobals "MOST_NAME" = some (some (.int 8 t2)))
    (w3 : PySem.W.nsIn K mainGlobals "MOST_STUFFS" = some (some (.int 8 t3))) (w4 : PySem.W.nsIn K mainGlobals "MOST_RECIPES" = some (some (.int 8 t4))) (w5 : PySem.W.nsIn K mainGlobals "MOST_NUMBER" = some (some (.int 1000000 t5))) : Words K := ⟨⟨_, w0⟩, ⟨_, w1⟩, ⟨_, w2⟩, ⟨_, w3⟩, ⟨_, w4⟩, ⟨_, w5⟩⟩
structure NoWords (K : PySem.W.Frag) : Prop where
  z_int : PySem.W.nsIn K mainGlobals "int" = some none
  z_bool : PySem.W.nsIn K mainGlobals "bool" = some none
  z_str : PySem.W.nsIn K mainGlobals "str" = some none
  z_list : PySem.W.nsIn K mainGlobals "list" = some none
  z_tuple : PySem.W.nsIn K mainGlobals "tuple" = some none
  z_dict : PySem.W.nsIn K mainGlobals "dict" = some none
  z_len : PySem.W.nsIn K mainGlobals "len" = some none
  z_range : PySem.W.nsIn K mainGlobals "range" = some none
  z_sum : PySem.W.nsIn K mainGlobals "sum" = some none
  z_max : PySem.W.nsIn K mainGlobals "max" = some none
  z_abs : PySem.W.nsIn K mainGlobals "abs" = some none
  z_isinstance : PySem.W.nsIn K mainGlobals "isinstance" = some none
  z_repr : PySem.W.nsIn K mainGlobals "repr" = some none
  z_zip : PySem.W.nsIn K mainGlobals "zip" = some none
  z_enumerate : PySem.W.nsIn K mainGlobals "enumerate" = some none
structure DefsIn (K : PySem.W.Frag) : Prop where
  d_is_whole : DefIn K "is_whole" sIsWhole
  d_is_name : DefIn K "is_name" sIsName
  d_common_divisor : DefIn K "common_divisor" sCommonDivisor
  d_fraction : DefIn K "fraction" sFraction
  d_is_fraction : DefIn K "is_fraction" sIsFraction
  d_is_amount : DefIn K "is_amount" sIsAmount
  d_minus : DefIn K "minus" sMinus
  d_scaled : DefIn K "scaled" sScaled
  d_below : DefIn K "below" sBelow
  d_lesser : DefIn K "lesser" sLesser
  d_check_size : DefIn K "check_size" sCheckSize
  d_is_number : DefIn K "is_number" sIsNumber
  d_is_stuff : DefIn K "is_stuff" sIsStuff
  d_are_parts : DefIn K "are_parts" sAreParts
  d_is_recipe : DefIn K "is_recipe" sIsRecipe
  d_check_mill : DefIn K "check_mill" sCheckMill
  d_numbers_of : DefIn K "numbers_of" sNumbersOf
  d_is_bounds : DefIn K "is_bounds" sIsBounds
  d_is_box : DefIn K "is_box" sIsBox
  d_check_box : DefIn K "check_box" sCheckBox
  d_check_closed : DefIn K "check_closed" sCheckClosed
  d_sides_of : DefIn K "sides_of" sSidesOf
  d_edges_of : DefIn K "edges_of" sEdgesOf
  d_edges : DefIn K "edges" sEdges
  d_check_recipe : DefIn K "check_recipe" sCheckRecipe
  d_brinks : DefIn K "brinks" sBrinks
  d__law_hash : DefIn K "_law_hash" sLawHash
  d__law_random : DefIn K "_law_random" sLawRandom
  d__law_edges : DefIn K "_law_edges" sLawEdges
  d__law_fraction : DefIn K "_law_fraction" sLawFraction
  d__law_less : DefIn K "_law_less" sLawLess
  d__law_fewer : DefIn K "_law_fewer" sLawFewer
  d__law_most : DefIn K "_law_most" sLawMost
  d__law_rest : DefIn K "_law_rest" sLawRest
  d__law_brink_sides : DefIn K "_law_brink_sides" sLawBrinkSides
  d__law_brinks : DefIn K "_law_brinks" sLawBrinks
  d__law_recipe : DefIn K "_law_recipe" sLawRecipe
  d__law_sum : DefIn K "_law_sum" sLawSum
  d__law_moved : DefIn K "_law_moved" sLawMoved
  d__law_side : DefIn K "_law_side" sLawSide
  d__law_fits : DefIn K "_law_fits" sLawFits
  d__law_turn : DefIn K "_law_turn" sLawTurn
  d__law_stepped : DefIn K "_law_stepped" sLawStepped
  d__law_generator : DefIn K "_law_generator" sLawGenerator
  d__law_product : DefIn K "_law_product" sLawProduct
  d__law_between : DefIn K "_law_between" sLawBetween
  d__law_more : DefIn K "_law_more" sLawMore
  d__law_box_drawn : DefIn K "_law_box_drawn" sLawBoxDrawn
  d__law_stuffs_drawn : DefIn K "_law_stuffs_drawn" sLawStuffsDrawn
  d__law_recipe_drawn : DefIn K "_law_recipe_drawn" sLawRecipeDrawn
  d__law_edges_good : DefIn K "_law_edges_good" sLawEdgesGood
  d__law_brinks_good : DefIn K "_law_brinks_good" sLawBrinksGood
  d__law_caught : DefIn K "_law_caught" sLawCaught
  d__law_refused : DefIn K "_law_refused" sLawRefused
  d_law : DefIn K "law" sLaw
/-- what is asked of the classes -/
structure ClsOf (K : PySem.W.Frag) (C G CM CX CI : Addr) : Prop where
  mill : ClsIn K "Mill" "Mill.__init__" sMillInit C
  brk : ClsIn K "Brinks" "Brinks.__init__" sBrinksInit G
  m1 : PySem.W.findIn K (.ref C) "rooms" = some none
  m2 : PySem.W.findIn K (.ref C) "spots" = some none
  m3 : PySem.W.findIn K (.ref C) "rules" = some none
  b0 : PySem.W.findIn K (.ref G) "takes" = some none
  b1 : PySem.W.findIn K (.ref G) "gives" = some none
  b2 : PySem.W.findIn K (.ref G) "gains" = some none
  b3 : PySem.W.findIn K (.ref G) "rooms" = some none
  b4 : PySem.W.findIn K (.ref G) "most" = some none
  b5 : PySem.W.findIn K (.ref G) "sides" = some none
  b6 : PySem.W.findIn K (.ref G) "edges" = some none
  k_most_of : MethIn K G "most_of" "Brinks.most_of" sBrinksMostOf
  k_side : MethIn K G "side" "Brinks.side" sBrinksSide
  ha : PySem.W.findIn K (.ref C) "__class__" = some (some (.builtin "object.__class__"))
  hm : PySem.W.mroIn K C (.type "object") = some true
  me : PySem.W.kitOne K (.ref C) (.ref C) = some true
  n1 : PySem.W.kitOne K (.type "NoneType") (.ref C) = some false
  n2 : PySem.W.kitOne K (.type "bool") (.ref C) = some false
  n3 : PySem.W.kitOne K (.type "int") (.ref C) = some false
  n4 : PySem.W.kitOne K (.type "str") (.ref C) = some false
  n5 : PySem.W.kitOne K (.type "list") (.ref C) = some false
  n6 : PySem.W.kitOne K (.type "tuple") (.ref C) = some false
  n7 : PySem.W.kitOne K (.type "dict") (.ref C) = some false
  e1 : PySem.W.kitOne K (.type "NoneType") (.ref CM) = some false
  e2 : PySem.W.kitOne K (.type "NoneType") (.ref CX) = some false
  e3 : PySem.W.kitOne K (.type "NoneType") (.ref CI) = some false
theorem all_mk (X : K.In h) (Gl : h.Ns mainGlobals mg) (hfa : mg "law" = some (.ref fa)) (ht : (P.main.scope.names.lookup ("super" : Str)).isSome = false) (Z : NoWords K) (WO : Words K) (DD : DefsIn K) (CO : ClsOf K C G CM CX CI)
    (c : Com P K mg CE) (eM : PySem.Xn.ExT P K mg "InvalidMill" "value" CM fM ∧ One K mg "InvalidMill" CM (veT CE)) (eX : PySem.Xn.ExT P K mg "InvalidBox" "value" CX fX ∧ One K mg "InvalidBox" CX (veT CE)) (eI : PySem.Xn.ExT P K mg "InvalidItem" "value" CI fI' ∧ One K mg "InvalidItem" CI (veT CE)) (oE : One K mg "MillError" CE veT0)
    (ne1 : CM ≠ CX) (ne2 : CM ≠ CI) (ne3 : CX ≠ CI) (neM : CM ≠ CE) (neX : CX ≠ CE) (neI : CI ≠ CE) (hE : PySem.W.hasDictIn K CE = true) {aO : Addr} {ddO : Option Addr} {nO : Nat} {slO : Array (Option Value)} {u0 u1 : Tok} (gO : PySem.W.nsIn K mainGlobals "ONE" = some (some (.ref aO))) (lO : K.lookup aO = some ⟨.type "tuple", ddO, .seq #[.int 1 u0, .int 1 u1] nO, slO⟩) :
    ∃ fd : FuncData, (∀ (s : Shared) (v : Value), BindsTo s fd ⟨[v], []⟩ [("script", v)]) ∧ ∀ base : Heap, K.In base → base.Ns mainGlobals mg → FnOkG P w K mg base CX0 11 fa fd ["script"] (spLaw K) := by
  have nn : ∀ {n : Str}, PySem.W.nsIn K mainGlobals n = some none → mg n = none := fun e => PySem.W.mg_none_of X Gl e
  have B : Bl mg := ⟨nn Z.z_int, nn Z.z_bool, nn Z.z_str, nn Z.z_list, nn Z.z_tuple, nn Z.z_dict, nn Z.z_len, nn Z.z_range, nn Z.z_sum, nn Z.z_max, nn Z.z_abs, nn Z.z_isinstance, nn Z.z_repr, nn Z.z_zip, nn Z.z_enumerate⟩
  have CC : Cst mg := ⟨WO.letters.imp fun _ e => PySem.W.mg_of X Gl e, WO.figures.imp fun _ e => PySem.W.mg_of X Gl e, WO.mostName.imp fun _ e => PySem.W.mg_of X Gl e, WO.mostStuffs.imp fun _ e => PySem.W.mg_of X Gl e, WO.mostRecipes.imp fun _ e => PySem.W.mg_of X Gl e, WO.mostNumber.imp fun _ e => PySem.W.mg_of X Gl e⟩
  have OO : Ones K mg := ones_mk (PySem.W.mg_of X Gl gO) lO
  have gC := PySem.W.mg_of X Gl CO.mill.g
  have MC : MillC K C := ⟨CO.mill.cl, CO.m1, CO.m2, CO.m3⟩
  have GC : BrinksC K G := ⟨CO.brk.cl, CO.b0, CO.b1, CO.b2, CO.b3, CO.b4, CO.b5, CO.b6⟩
  have IC : C8.InsC K C := ⟨CO.mill.cl, CO.ha, c.hn, c.ht, CO.hm, CO.me⟩
  have NC : MillN K C := ⟨fun t ht => by
    simp only [List.mem_cons, List.not_mem_nil, or_false] at ht
    rcases ht with rfl | rfl | rfl | rfl | rfl | rfl | rfl
    · exact CO.n1
    · exact CO.n2
    · exact CO.n3
    · exact CO.n4
    · exact CO.n5
    · exact CO.n6
    · exact CO.n7⟩
  have EM : ErrC P K mg "InvalidMill" CM := ⟨⟨_, eM.1⟩, ht⟩
  have EX : ErrC P K mg "InvalidBox" CX := ⟨⟨_, eX.1⟩, ht⟩
  have EI : ErrC P K mg "InvalidItem" CI := ⟨⟨_, eI.1⟩, ht⟩
  have xE : ∀ {cn : Str} {D : Addr}, One K mg cn D (veT CE) → PySem.W.exmOne K (.ref D) (.ref CE) = some true := fun {cn D} O => by
    refine PySem.W.exm_ref ?_ hE oE.ty ?_
    · show PySem.W.mroIn K CE (.type "BaseException") = _
      rw [oE.mro]
      rfl
    · show PySem.W.mroIn K D (.ref CE) = _
      rw [O.mro, List.contains_cons, List.contains_cons]
      simp
  have kk : ∀ {cn cn' : Str} {D D' : Addr}, One K mg cn D (veT CE) → One K mg cn' D' (veT CE) → D' ≠ CE → PySem.W.kitOne K (.ref D) (.ref D') = some (decide (D = D')) := fun {cn cn' D D'} O O' hn => by
    rw [kit_own O O', show veT CE = .ref CE :: veT0 from rfl, contains_ne hn]
    have : veT0.contains (.ref D') = false := by simp
    rw [this, Bool.or_false]
  have KM : ErrK K mg CE CM CX CI CM true false false := ⟨xE eM.2, eM.2.exC c rfl rfl, ⟨eM.1.ga, eM.1.gg, eM.1.exC, eM.1.hdC⟩, eM.1.noN, by rw [kk eM.2 eM.2 neM, decide_eq_true rfl], by rw [kk eM.2 eX.2 neX, decide_eq_false ne1], by rw [kk eM.2 eI.2 neI, decide_eq_false ne2]⟩
  have KX : ErrK K mg CE CM CX CI CX false true false := ⟨xE eX.2, eX.2.exC c rfl rfl, ⟨eX.1.ga, eX.1.gg, eX.1.exC, eX.1.hdC⟩, eX.1.noN, by rw [kk eX.2 eM.2 neM, decide_eq_false (Ne.symm ne1)], by rw [kk eX.2 eX.2 neX, decide_eq_true rfl], by rw [kk eX.2 eI.2 neI, decide_eq_false ne3]⟩
  have KI : ErrK K mg CE CM CX CI CI false false true := ⟨xE eI.2, eI.2.exC c rfl rfl, ⟨eI.1.ga, eI.1.gg, eI.1.exC, eI.1.hdC⟩, eI.1.noN, by rw [kk eI.2 eM.2 neM, decide_eq_false (Ne.symm ne2)], by rw [kk eI.2 eX.2 neX, decide_eq_false (Ne.symm ne3)], by rw [kk eI.2 eI.2 neI, decide_eq_true rfl]⟩
  have ER : ErrsB K mg CE CM CX CI := ⟨oE.g, eM.2.g, eX.2.g, eI.2.g, KM, KX, KI, CO.e1, CO.e2, CO.e3⟩
  have D_is_whole := def_of (ps := ["value"]) X Gl DD.d_is_whole fun f fd F => F.binds fun _ _ _ _ _ _ us hl => match us, hl with | [_], _ => rfl
  have D_is_name := def_of (ps := ["value"]) X Gl DD.d_is_name fun f fd F => F.binds fun _ _ _ _ _ _ us hl => match us, hl with | [_], _ => rfl
  have D_common_divisor := def_of (ps := ["one", "other"]) X Gl DD.d_common_divisor fun f fd F => F.binds fun _ _ _ _ _ _ us hl => match us, hl with | [_, _], _ => rfl
  have D_fraction := def_of (ps := ["top", "under"]) X Gl DD.d_fraction fun f fd F => F.binds fun _ _ _ _ _ _ us hl => match us, hl with | [_, _], _ => rfl
  have D_is_fraction := def_of (ps := ["value"]) X Gl DD.d_is_fraction fun f fd F => F.binds fun _ _ _ _ _ _ us hl => match us, hl with | [_], _ => rfl
  have D_is_amount := def_of (ps := ["value"]) X Gl DD.d_is_amount fun f fd F => F.binds fun _ _ _ _ _ _ us hl => match us, hl with | [_], _ => rfl
  have D_minus := def_of (ps := ["one", "other"]) X Gl DD.d_minus fun f fd F => F.binds fun _ _ _ _ _ _ us hl => match us, hl with | [_, _], _ => rfl
  have D_scaled := def_of (ps := ["one", "number"]) X Gl DD.d_scaled fun f fd F => F.binds fun _ _ _ _ _ _ us hl => match us, hl with | [_, _], _ => rfl
  have D_below := def_of (ps := ["one", "other"]) X Gl DD.d_below fun f fd F => F.binds fun _ _ _ _ _ _ us hl => match us, hl with | [_, _], _ => rfl
  have D_lesser := def_of (ps := ["one", "other"]) X Gl DD.d_lesser fun f fd F => F.binds fun _ _ _ _ _ _ us hl => match us, hl with | [_, _], _ => rfl
  have D_check_size := def_of (ps := ["value", "least", "most"]) X Gl DD.d_check_size fun f fd F => F.binds fun _ _ _ _ _ _ us hl => match us, hl with | [_, _, _], _ => rfl
  have D_is_number := def_of (ps := ["value", "least"]) X Gl DD.d_is_number fun f fd F => F.binds fun _ _ _ _ _ _ us hl => match us, hl with | [_, _], _ => rfl
  have D_is_stuff := def_of (ps := ["value"]) X Gl DD.d_is_stuff fun f fd F => F.binds fun _ _ _ _ _ _ us hl => match us, hl with | [_], _ => rfl
  have D_are_parts := def_of (ps := ["value", "spots"]) X Gl DD.d_are_parts fun f fd F => F.binds fun _ _ _ _ _ _ us hl => match us, hl with | [_, _], _ => rfl
  have D_is_recipe := def_of (ps := ["value", "spots"]) X Gl DD.d_is_recipe fun f fd F => F.binds fun _ _ _ _ _ _ us hl => match us, hl with | [_, _], _ => rfl
  have D_check_mill := def_of (ps := ["value"]) X Gl DD.d_check_mill fun f fd F => F.binds fun _ _ _ _ _ _ us hl => match us, hl with | [_], _ => rfl
  have D_numbers_of := def_of (ps := ["mill", "parts"]) X Gl DD.d_numbers_of fun f fd F => F.binds fun _ _ _ _ _ _ us hl => match us, hl with | [_, _], _ => rfl
  have D_is_bounds := def_of (ps := ["value", "room"]) X Gl DD.d_is_bounds fun f fd F => F.binds fun _ _ _ _ _ _ us hl => match us, hl with | [_, _], _ => rfl
  have D_is_box := def_of (ps := ["mill", "value"]) X Gl DD.d_is_box fun f fd F => F.binds fun _ _ _ _ _ _ us hl => match us, hl with | [_, _], _ => rfl
  have D_check_box := def_of (ps := ["mill", "value"]) X Gl DD.d_check_box fun f fd F => F.binds fun _ _ _ _ _ _ us hl => match us, hl with | [_, _], _ => rfl
  have D_check_closed := def_of (ps := ["mill", "box"]) X Gl DD.d_check_closed fun f fd F => F.binds fun _ _ _ _ _ _ us hl => match us, hl with | [_, _], _ => rfl
  have D_sides_of := def_of (ps := ["box"]) X Gl DD.d_sides_of fun f fd F => F.binds fun _ _ _ _ _ _ us hl => match us, hl with | [_], _ => rfl
  have D_edges_of := def_of (ps := ["sides"]) X Gl DD.d_edges_of fun f fd F => F.binds fun _ _ _ _ _ _ us hl => match us, hl with | [_], _ => rfl
  have D_edges := def_of (ps := ["mill", "box"]) X Gl DD.d_edges fun f fd F => F.binds fun _ _ _ _ _ _ us hl => match us, hl with | [_, _], _ => rfl
  have D_check_recipe := def_of (ps := ["mill", "recipe"]) X Gl DD.d_check_recipe fun f fd F => F.binds fun _ _ _ _ _ _ us hl => match us, hl with | [_, _], _ => rfl
  have D_brinks := def_of (ps := ["mill", "recipe"]) X Gl DD.d_brinks fun f fd F => F.binds fun _ _ _ _ _ _ us hl => match us, hl with | [_, _], _ => rfl
  have D__law_hash := def_of (ps := ["seed", "index"]) X Gl DD.d__law_hash fun f fd F => F.binds fun _ _ _ _ _ _ us hl => match us, hl with | [_, _], _ => rfl
  have D__law_random := def_of (ps := ["generator", "bound"]) X Gl DD.d__law_random fun f fd F => F.binds fun _ _ _ _ _ _ us hl => match us, hl with | [_, _], _ => rfl
  have D__law_edges := def_of (ps := ["box_here"]) X Gl DD.d__law_edges fun f fd F => F.binds fun _ _ _ _ _ _ us hl => match us, hl with | [_], _ => rfl
  have D__law_fraction := def_of (ps := ["top", "under"]) X Gl DD.d__law_fraction fun f fd F => F.binds fun _ _ _ _ _ _ us hl => match us, hl with | [_, _], _ => rfl
  have D__law_less := def_of (ps := ["one", "other"]) X Gl DD.d__law_less fun f fd F => F.binds fun _ _ _ _ _ _ us hl => match us, hl with | [_, _], _ => rfl
  have D__law_fewer := def_of (ps := ["one", "other"]) X Gl DD.d__law_fewer fun f fd F => F.binds fun _ _ _ _ _ _ us hl => match us, hl with | [_, _], _ => rfl
  have D__law_most := def_of (ps := ["parts", "recipe_here"]) X Gl DD.d__law_most fun f fd F => F.binds fun _ _ _ _ _ _ us hl => match us, hl with | [_, _], _ => rfl
  have D__law_rest := def_of (ps := ["one", "other"]) X Gl DD.d__law_rest fun f fd F => F.binds fun _ _ _ _ _ _ us hl => match us, hl with | [_, _], _ => rfl
  have D__law_brink_sides := def_of (ps := ["parts", "recipe_here"]) X Gl DD.d__law_brink_sides fun f fd F => F.binds fun _ _ _ _ _ _ us hl => match us, hl with | [_, _], _ => rfl
  have D__law_brinks := def_of (ps := ["parts", "recipe_here"]) X Gl DD.d__law_brinks fun f fd F => F.binds fun _ _ _ _ _ _ us hl => match us, hl with | [_, _], _ => rfl
  have D__law_recipe := def_of (ps := ["parts", "name"]) X Gl DD.d__law_recipe fun f fd F => F.binds fun _ _ _ _ _ _ us hl => match us, hl with | [_, _], _ => rfl
  have D__law_sum := def_of (ps := ["one", "other"]) X Gl DD.d__law_sum fun f fd F => F.binds fun _ _ _ _ _ _ us hl => match us, hl with | [_, _], _ => rfl
  have D__law_moved := def_of (ps := ["held", "amount", "numbers", "sign"]) X Gl DD.d__law_moved fun f fd F => F.binds fun _ _ _ _ _ _ us hl => match us, hl with | [_, _, _, _], _ => rfl
  have D__law_side := def_of (ps := ["parts", "recipe_here", "side"]) X Gl DD.d__law_side fun f fd F => F.binds fun _ _ _ _ _ _ us hl => match us, hl with | [_, _, _], _ => rfl
  have D__law_fits := def_of (ps := ["parts", "held"]) X Gl DD.d__law_fits fun f fd F => F.binds fun _ _ _ _ _ _ us hl => match us, hl with | [_, _], _ => rfl
  have D__law_turn := def_of (ps := ["parts", "held", "steps"]) X Gl DD.d__law_turn fun f fd F => F.binds fun _ _ _ _ _ _ us hl => match us, hl with | [_, _, _], _ => rfl
  have D__law_stepped := def_of (ps := ["parts", "recipe_here", "held", "amount"]) X Gl DD.d__law_stepped fun f fd F => F.binds fun _ _ _ _ _ _ us hl => match us, hl with | [_, _, _, _], _ => rfl
  have D__law_generator := def_of (ps := ["script", "index"]) X Gl DD.d__law_generator fun f fd F => F.binds fun _ _ _ _ _ _ us hl => match us, hl with | [_, _], _ => rfl
  have D__law_product := def_of (ps := ["one", "other"]) X Gl DD.d__law_product fun f fd F => F.binds fun _ _ _ _ _ _ us hl => match us, hl with | [_, _], _ => rfl
  have D__law_between := def_of (ps := ["generator", "low", "high"]) X Gl DD.d__law_between fun f fd F => F.binds fun _ _ _ _ _ _ us hl => match us, hl with | [_, _, _], _ => rfl
  have D__law_more := def_of (ps := ["one", "other"]) X Gl DD.d__law_more fun f fd F => F.binds fun _ _ _ _ _ _ us hl => match us, hl with | [_, _], _ => rfl
  have D__law_box_drawn := def_of (ps := ["generator", "stuffs", "most"]) X Gl DD.d__law_box_drawn fun f fd F => F.binds fun _ _ _ _ _ _ us hl => match us, hl with | [_, _, _], _ => rfl
  have D__law_stuffs_drawn := def_of (ps := ["generator", "wide", "most"]) X Gl DD.d__law_stuffs_drawn fun f fd F => F.binds fun _ _ _ _ _ _ us hl => match us, hl with | [_, _, _], _ => rfl
  have D__law_recipe_drawn := def_of (ps := ["generator", "stuffs"]) X Gl DD.d__law_recipe_drawn fun f fd F => F.binds fun _ _ _ _ _ _ us hl => match us, hl with | [_, _], _ => rfl
  have D__law_edges_good := def_of (ps := ["mill_here", "box_here"]) X Gl DD.d__law_edges_good fun f fd F => F.binds fun _ _ _ _ _ _ us hl => match us, hl with | [_, _], _ => rfl
  have D__law_brinks_good := def_of (ps := ["parts", "mill_here", "recipe_here"]) X Gl DD.d__law_brinks_good fun f fd F => F.binds fun _ _ _ _ _ _ us hl => match us, hl with | [_, _, _], _ => rfl
  have D__law_caught := def_of (ps := ["which", "mill_here", "thing"]) X Gl DD.d__law_caught fun f fd F => F.binds fun _ _ _ _ _ _ us hl => match us, hl with | [_, _, _], _ => rfl
  have D__law_refused := def_of (ps := ["mill_here"]) X Gl DD.d__law_refused fun f fd F => F.binds fun _ _ _ _ _ _ us hl => match us, hl with | [_], _ => rfl
  have D_law := def_of (ps := ["script"]) X Gl DD.d_law fun f fd F => F.binds fun _ _ _ _ _ _ us hl => match us, hl with | [_], _ => rfl
  have DM_most_of := meth_of (ps := []) CO.k_most_of fun f fd F => F.binds fun _ _ _ _ _ _ us hl => match us, hl with | [_], _ => rfl
  have DM_side := meth_of (ps := ["spot"]) CO.k_side fun f fd F => F.binds fun _ _ _ _ _ _ us hl => match us, hl with | [_, _], _ => rfl
  have W_edges : Dv.Kw2 K mg "edges" "mill" "box" := Dv.kw2_of D_edges fun _ _ _ _ _ _ _ _ => rfl
  have W_brinks : Dv.Kw2 K mg "brinks" "mill" "recipe" := Dv.kw2_of D_brinks fun _ _ _ _ _ _ _ _ => rfl
  obtain ⟨f0, fd0, a0, F0, b0⟩ := D_law.ex
  have e0 := hfa.symm.trans a0
  cases e0
  refine ⟨fd0, fun s v => ?_, fun base _ _ => ?_⟩
  · obtain ⟨⟨oc, od, kV, doc, pm, an, cdv, ct, osl, rfl, lk, hcd⟩, _⟩ := F0
    exact .of_eq rfl
  obtain ⟨fI, fdI, MkC, FI⟩ := CO.mill.ini
  obtain ⟨fJ, fdJ, MkG, FJ⟩ := CO.brk.ini
  have gG := PySem.W.mg_of X Gl CO.brk.g
  have C_common_divisor := ok_common_divisor (P := P) (w := w) (base := base) D_common_divisor
  have C_fraction := ok_fraction (P := P) (w := w) (base := base) D_fraction B C_common_divisor
  have C_scaled := ok_scaled (P := P) (w := w) (base := base) D_scaled C_fraction
  have C_is_whole := ok_is_whole (P := P) (w := w) (base := base) D_is_whole B
  have C_is_fraction := ok_is_fraction (P := P) (w := w) (base := base) D_is_fraction B C_common_divisor C_is_whole
  have C_is_amount := ok_is_amount (P := P) (w := w) (base := base) D_is_amount C_is_fraction
  have C_is_name := ok_is_name (P := P) (w := w) (base := base) D_is_name B CC
  have C_is_number := ok_is_number (P := P) (w := w) (base := base) D_is_number CC C_is_whole
  have C_is_stuff := ok_is_stuff (P := P) (w := w) (base := base) D_is_stuff B C_is_name C_is_number
  have C_are_parts := ok_are_parts (P := P) (w := w) (base := base) D_are_parts B C_is_name C_is_number
  have C_is_recipe := ok_is_recipe (P := P) (w := w) (base := base) D_is_recipe B C_is_name C_are_parts
  have C_check_size := ok_check_size (P := P) (w := w) (base := base) D_check_size B
  have M_Mill : Dv.Mak P w K mg base "Mill" C ["stuffs", "recipes"] 5 (spMillInit K C) := ⟨fI, fdI, gC, MkC, FI.binds fun _ _ _ _ _ _ us hl => match us, hl with | [_, _, _], _ => rfl, ok_mill_init FI MC B CC C_check_size C_is_stuff C_is_recipe⟩
  have C_numbers_of := ok_numbers_of (P := P) (w := w) (base := base) D_numbers_of B MC
  have C__law_hash := ok_law_hash (P := P) (w := w) (base := base) D__law_hash B
  have C__law_random := ok_law_random (P := P) (w := w) (base := base) D__law_random B C__law_hash
  have C_minus := ok_minus (P := P) (w := w) (base := base) D_minus C_fraction
  have C_below := ok_below (P := P) (w := w) (base := base) D_below
  have C_lesser := ok_lesser (P := P) (w := w) (base := base) D_lesser C_below
  have X_check_mill := ok_check_millX (P := P) (w := w) (base := base) D_check_mill B gC IC NC EM
  have C_is_bounds := ok_is_bounds (P := P) (w := w) (base := base) D_is_bounds B C_is_amount C_below
  have C_is_box := ok_is_box (P := P) (w := w) (base := base) D_is_box B MC C_is_bounds
  have X_check_box := ok_check_box (P := P) (w := w) (base := base) D_check_box EX C_is_box
  have X_check_closed := ok_check_closed (P := P) (w := w) (base := base) D_check_closed EX X_check_box
  have C_sides_of := ok_sides_of (P := P) (w := w) (base := base) D_sides_of
  have C_edges_of := ok_edges_of (P := P) (w := w) (base := base) D_edges_of
  have X_edges := ok_edges (P := P) (w := w) (base := base) D_edges X_check_mill X_check_closed C_sides_of C_edges_of
  have C_edges := edgesG_of X_edges
  have M_most_of := ok_most_of (P := P) (w := w) (base := base) DM_most_of B OO GC C_fraction C_lesser
  have M_side := ok_side (P := P) (w := w) (base := base) DM_side B GC C_scaled C_minus
  have M_Brinks : Dv.Mak P w K mg base "Brinks" G ["mill", "recipe"] 5 (spBrinksInit K C G) := ⟨fJ, fdJ, gG, MkG, FJ.binds fun _ _ _ _ _ _ us hl => match us, hl with | [_, _, _], _ => rfl, ok_brinks_init FJ MC GC B C_numbers_of M_most_of M_side C_edges_of⟩
  have C_is_recipeQ := ok_is_recipeQ (P := P) (w := w) (base := base) D_is_recipe B C_is_name C_are_parts
  have X_check_recipe := ok_check_recipe (P := P) (w := w) (base := base) D_check_recipe MC EI X_check_mill C_is_recipeQ M_Brinks
  have X_brinks := ok_brinks (P := P) (w := w) (base := base) D_brinks GC X_check_recipe
  have C_brinks := brinksG_of X_brinks
  have C__law_fraction := ok_law_fraction (P := P) (w := w) (base := base) D__law_fraction B
  have C__law_sum := ok_law_sum (P := P) (w := w) (base := base) D__law_sum C__law_fraction
  have C__law_less := ok_law_less (P := P) (w := w) (base := base) D__law_less
  have C__law_rest := ok_law_rest (P := P) (w := w) (base := base) D__law_rest C__law_fraction
  have C__law_product := ok_law_product (P := P) (w := w) (base := base) D__law_product C__law_fraction
  have C__law_fewer := ok_law_fewer (P := P) (w := w) (base := base) D__law_fewer C__law_less
  have C__law_more := ok_law_more (P := P) (w := w) (base := base) D__law_more C__law_less
  have C__law_edges := ok_law_edges (P := P) (w := w) (base := base) D__law_edges B
  have C__law_most := ok_law_most (P := P) (w := w) (base := base) D__law_most B C__law_fraction C__law_fewer
  have C__law_brink_sides := ok_law_brink_sides (P := P) (w := w) (base := base) D__law_brink_sides B C__law_fraction C__law_rest C__law_most
  have C__law_brinks := ok_law_brinks (P := P) (w := w) (base := base) D__law_brinks C__law_edges C__law_most C__law_brink_sides
  have C__law_side := ok_law_side (P := P) (w := w) (base := base) D__law_side B
  have C__law_recipe := ok_law_recipe (P := P) (w := w) (base := base) D__law_recipe
  have C__law_moved := ok_law_moved (P := P) (w := w) (base := base) D__law_moved B C__law_fraction C__law_sum
  have C__law_fits := ok_law_fits (P := P) (w := w) (base := base) D__law_fits B C__law_less
  have C__law_turn := ok_law_turn (P := P) (w := w) (base := base) D__law_turn C__law_recipe C__law_side C__law_moved C__law_fits
  have C__law_stepped := ok_law_stepped (P := P) (w := w) (base := base) D__law_stepped C__law_turn
  have C__law_generator := ok_law_generator (P := P) (w := w) (base := base) D__law_generator B
  have C__law_between := ok_law_between (P := P) (w := w) (base := base) D__law_between C__law_random C__law_fraction C__law_sum C__law_product C__law_rest
  have C__law_stuffs_drawn := ok_law_stuffs_drawn (P := P) (w := w) (base := base) D__law_stuffs_drawn B C__law_random
  have C__law_recipe_drawn := ok_law_recipe_drawn (P := P) (w := w) (base := base) D__law_recipe_drawn C__law_random
  have C__law_box_drawn := ok_law_box_drawn (P := P) (w := w) (base := base) D__law_box_drawn B C__law_random C__law_fraction C__law_between C__law_fewer C__law_more
  have C__law_edges_good := ok_law_edges_good (P := P) (w := w) (base := base) D__law_edges_good B C__law_edges C_edges W_edges
  have C__law_brinks_good := ok_law_brinks_good (P := P) (w := w) (base := base) D__law_brinks_good B C__law_brinks C_brinks W_brinks C__law_stepped
  have C__law_caught := ok_law_caught (P := P) (w := w) (base := base) D__law_caught B ER X_edges X_brinks
  have C__law_refused := ok_law_refused (P := P) (w := w) (base := base) D__law_refused B ER C__law_caught
  have key := ok_law (P := P) (w := w) (base := base) D_law B C__law_generator C__law_random C__law_stuffs_drawn M_Mill C__law_box_drawn C__law_edges_good C__law_recipe_drawn C__law_brinks_good C_brinks C__law_refused
  obtain ⟨f1, fd1, a1, kp1, b1, OK, oc1, od1, osl1, l1⟩ := key.ex
  rw [a0] at a1
  cases a1
  obtain ⟨oc, od, kV, doc, pm, an, cdv, ct, osl, e1, lk, hcd⟩ := F0.ex
  rw [l1] at lk
  cases lk
  exact OK
end
theorem walk {l : PySem.W.OpenLaw} {q : Program} {loose : List Str} {XP : (Str → Option Value) → Heap → Prop} {YP : World → Heap → Prop} {d : DefRec} {K : Params → PySem.W.Frag} (hn : l.most = some 63) (hdf : d.params.defaults = [])
    (hY : ∀ (w : World) (h : Heap), YP w h → (K w.params).In h)
    (F : ∀ (w : World) (mg : Str → Option Value) (fa : Addr) (h : Heap), (K w.params).In h → h.Ns mainGlobals mg → mg d.name = some (.ref fa) →
      ∃ fd : FuncData, (∀ (s : Shared) (u : Value), BindsTo s fd ⟨[u], []⟩ [("script", u)]) ∧ ∀ base : Heap, (K w.params).In base → base.Ns mainGlobals mg → FnOkG l.prog w (K w.params) mg base CX0 11 fa fd ["script"] (spLaw (K w.params))) :
    PySem.W.WalkO q loose XP YP l.row.toRowW d [] (fun f vs => PySem.call f vs) :=
  L2.walk_ofG (n := 63) (k := 11) (x := "script") (CX := fun _ => CX0) (sp := fun w => spLaw (K w.params)) hn (by decide) hdf ⟨rfl, by decide, by decide⟩ hY F (fun _ _ a ns hl _ hS => ⟨a, ns, rfl, hS, hl, fun _ => rfl⟩) fun _ _ _ _ _ z => z
end R3

set_option Elab.async false
set_option linter.all false
open PySem PySem.W PyProof.Rows
set_option maxRecDepth 100000 in
set_option maxHeartbeats 0 in
theorem PySem.Challenge.cw_wholemills_k40_edges_and_brinks_holds : PySem.Challenge.rw_wholemills_k40_edges_and_brinks.Holds := by
  w_on; o_law; k_head; (case hw => w_witness2)
  k_fill
  refine R3.walk (l := PySem.Challenge.rw_wholemills_k40_edges_and_brinks) rfl rfl (fun w h Y => PySem.W.kIn_of Y) ?F
  case F =>
    intro w mg fa h KX G hmg
    refine' R3.all_mk KX G hmg ?ht ?Z ?W ?DD ?CO ?com ?eM ?eX ?eI ?oE ?ne1 ?ne2 ?ne3 ?neM ?neX ?neI ?hE ?gO ?lO
    (case ht => kernel_rfl)
    (case oE => refine' Hd.one_mk (cn := "MillError") KX G ?a ?l ?ga ?gg ?ha; (case a => k_is); (case l => k_is); (case ga => k_is); (case gg => k_is); (case ha => k_is))
    (case com => refine' Hd.Com.mk ?al ?opq (PySem.W.mg_none_of KX G ?noS) ?hn ?ht2; (case al => kernel_rfl); (case opq => k_is); (case noS => k_is); (case hn => k_is); (case ht2 => k_is))
    (case eM =>
      refine' Hd.ext_one (cn := "InvalidMill") (fld := "value") (p1 := R3.pp 0 0) (p2 := R3.pp 0 1) (p3 := R3.pp 0 2) (q := R3.qq 0) KX G ?com ?a ?l ?ga ?gg ?ha ?sa ?nb ?iC ?kC ?l1 ?c1 ?l2 ?v2 ?hf ?l3 ?l4 R3.tx0 Hd.bd_value ⟨by decide, by decide, by decide, by decide⟩
      (case com => refine' Hd.Com.mk ?al ?opq (PySem.W.mg_none_of KX G ?noS) ?hn ?ht2; (case al => kernel_rfl); (case opq => k_is); (case noS => k_is); (case hn => k_is); (case ht2 => k_is))
      (case a => k_is); (case l => k_is); (case ga => k_is); (case gg => k_is); (case ha => k_is); (case sa => k_is); (case nb => k_is); (case iC => k_is); (case kC => k_is)
      (case l1 => k_is); (case c1 => k_is); (case l2 => k_is); (case v2 => rfl); (case hf => kernel_rfl); (case l3 => k_is); (case l4 => k_is))
    (case eX =>
      refine' Hd.ext_one (cn := "InvalidBox") (fld := "value") (p1 := R3.pp 1 0) (p2 := R3.pp 1 1) (p3 := R3.pp 1 2) (q := R3.qq 1) KX G ?com ?a ?l ?ga ?gg ?ha ?sa ?nb ?iC ?kC ?l1 ?c1 ?l2 ?v2 ?hf ?l3 ?l4 R3.tx1 Hd.bd_value ⟨by decide, by decide, by decide, by decide⟩
      (case com => refine' Hd.Com.mk ?al ?opq (PySem.W.mg_none_of KX G ?noS) ?hn ?ht2; (case al => kernel_rfl); (case opq => k_is); (case noS => k_is); (case hn => k_is); (case ht2 => k_is))
      (case a => k_is); (case l => k_is); (case ga => k_is); (case gg => k_is); (case ha => k_is); (case sa => k_is); (case nb => k_is); (case iC => k_is); (case kC => k_is)
      (case l1 => k_is); (case c1 => k_is); (case l2 => k_is); (case v2 => rfl); (case hf => kernel_rfl); (case l3 => k_is); (case l4 => k_is))
    (case eI =>
      refine' Hd.ext_one (cn := "InvalidItem") (fld := "value") (p1 := R3.pp 2 0) (p2 := R3.pp 2 1) (p3 := R3.pp 2 2) (q := R3.qq 2) KX G ?com ?a ?l ?ga ?gg ?ha ?sa ?nb ?iC ?kC ?l1 ?c1 ?l2 ?v2 ?hf ?l3 ?l4 R3.tx2 Hd.bd_value ⟨by decide, by decide, by decide, by decide⟩
      (case com => refine' Hd.Com.mk ?al ?opq (PySem.W.mg_none_of KX G ?noS) ?hn ?ht2; (case al => kernel_rfl); (case opq => k_is); (case noS => k_is); (case hn => k_is); (case ht2 => k_is))
      (case a => k_is); (case l => k_is); (case ga => k_is); (case gg => k_is); (case ha => k_is); (case sa => k_is); (case nb => k_is); (case iC => k_is); (case kC => k_is)
      (case l1 => k_is); (case c1 => k_is); (case l2 => k_is); (case v2 => rfl); (case hf => kernel_rfl); (case l3 => k_is); (case l4 => k_is))
    (case CO =>
      refine' R3.ClsOf.mk ?mill ?brk ?m1 ?m2 ?m3 ?b0 ?b1 ?b2 ?b3 ?b4 ?b5 ?b6 ?k_most_of ?k_side ?ha ?hm ?me ?n1 ?n2 ?n3 ?n4 ?n5 ?n6 ?n7 ?e1 ?e2 ?e3
      (case mill => refine' Hd.cls_in ?g ?pg ?hd ?po ?sa ?mk ?i ?fn ?kc ?l ?c ?k; (case g => k_is); (case pg => k_is); (case hd => k_is); (case po => k_is); (case sa => k_is); (case mk => k_is); (case i => k_is); (case fn => k_is); (case kc => k_is); (case l => k_is); (case c => k_is); (case k => k_is))
      (case brk => refine' Hd.cls_in ?g ?pg ?hd ?po ?sa ?mk ?i ?fn ?kc ?l ?c ?k; (case g => k_is); (case pg => k_is); (case hd => k_is); (case po => k_is); (case sa => k_is); (case mk => k_is); (case i => k_is); (case fn => k_is); (case kc => k_is); (case l => k_is); (case c => k_is); (case k => k_is))
      (case m1 => k_is)
      (case m2 => k_is)
      (case m3 => k_is)
      (case b0 => k_is)
      (case b1 => k_is)
      (case b2 => k_is)
      (case b3 => k_is)
      (case b4 => k_is)
      (case b5 => k_is)
      (case b6 => k_is)
      (case k_most_of => refine' Hd.meth_in ?a ?fn ?l ?c ?k; (case a => k_is); (case fn => k_is); (case l => k_is); (case c => k_is); (case k => k_is))
      (case k_side => refine' Hd.meth_in ?a ?fn ?l ?c ?k; (case a => k_is); (case fn => k_is); (case l => k_is); (case c => k_is); (case k => k_is))
      (case ha => first | k_is | kernel_rfl)
      (case hm => first | k_is | kernel_rfl)
      (case me => first | k_is | kernel_rfl)
      (case n1 => first | k_is | kernel_rfl)
      (case n2 => first | k_is | kernel_rfl)
      (case n3 => first | k_is | kernel_rfl)
      (case n4 => first | k_is | kernel_rfl)
      (case n5 => first | k_is | kernel_rfl)
      (case n6 => first | k_is | kernel_rfl)
      (case n7 => first | k_is | kernel_rfl)
      (case e1 => first | k_is | kernel_rfl)
      (case e2 => first | k_is | kernel_rfl)
      (case e3 => first | k_is | kernel_rfl))
    (case Z => refine' R3.NoWords.mk ?z0 ?z1 ?z2 ?z3 ?z4 ?z5 ?z6 ?z7 ?z8 ?z9 ?z10 ?z11 ?z12 ?z13 ?z14; (case z0 => k_is); (case z1 => k_is); (case z2 => k_is); (case z3 => k_is); (case z4 => k_is); (case z5 => k_is); (case z6 => k_is); (case z7 => k_is); (case z8 => k_is); (case z9 => k_is); (case z10 => k_is); (case z11 => k_is); (case z12 => k_is); (case z13 => k_is); (case z14 => k_is))
    (case W => refine' R3.words_mk ?w0 ?w1 ?w2 ?w3 ?w4 ?w5; (case w0 => k_is); (case w1 => k_is); (case w2 => k_is); (case w3 => k_is); (case w4 => k_is); (case w5 => k_is))
    (case gO => k_is); (case lO => k_is); (case hE => k_is)
    (case ne1 => decide); (case ne2 => decide); (case ne3 => decide); (case neM => decide); (case neX => decide); (case neI => decide)
    (case DD =>
      refine' R3.DefsIn.mk ?d0 ?d1 ?d2 ?d3 ?d4 ?d5 ?d6 ?d7 ?d8 ?d9 ?d10 ?d11 ?d12 ?d13 ?d14 ?d15 ?d16 ?d17 ?d18 ?d19 ?d20 ?d21 ?d22 ?d23 ?d24 ?d25 ?d26 ?d27 ?d28 ?d29 ?d30 ?d31 ?d32 ?d33 ?d34 ?d35 ?d36 ?d37 ?d38 ?d39 ?d40 ?d41 ?d42 ?d43 ?d44 ?d45 ?d46 ?d47 ?d48 ?d49 ?d50 ?d51 ?d52 ?d53 ?d54
      (case d0 => refine' Hd.def_in ?a ?l ?c ?k; (case a => k_is); (case l => k_is); (case c => k_is); (case k => k_is))
      (case d1 => refine' Hd.def_in ?a ?l ?c ?k; (case a => k_is); (case l => k_is); (case c => k_is); (case k => k_is))
      (case d2 => refine' Hd.def_in ?a ?l ?c ?k; (case a => k_is); (case l => k_is); (case c => k_is); (case k => k_is))
      (case d3 => refine' Hd.def_in ?a ?l ?c ?k; (case a => k_is); (case l => k_is); (case c => k_is); (case k => k_is))
      (case d4 => refine' Hd.def_in ?a ?l ?c ?k; (case a => k_is); (case l => k_is); (case c => k_is); (case k => k_is))
      (case d5 => refine' Hd.def_in ?a ?l ?c ?k; (case a => k_is); (case l => k_is); (case c => k_is); (case k => k_is))
      (case d6 => refine' Hd.def_in ?a ?l ?c ?k; (case a => k_is); (case l => k_is); (case c => k_is); (case k => k_is))
      (case d7 => refine' Hd.def_in ?a ?l ?c ?k; (case a => k_is); (case l => k_is); (case c => k_is); (case k => k_is))
      (case d8 => refine' Hd.def_in ?a ?l ?c ?k; (case a => k_is); (case l => k_is); (case c => k_is); (case k => k_is))
      (case d9 => refine' Hd.def_in ?a ?l ?c ?k; (case a => k_is); (case l => k_is); (case c => k_is); (case k => k_is))
      (case d10 => refine' Hd.def_in ?a ?l ?c ?k; (case a => k_is); (case l => k_is); (case c => k_is); (case k => k_is))
      (case d11 => refine' Hd.def_in ?a ?l ?c ?k; (case a => k_is); (case l => k_is); (case c => k_is); (case k => k_is))
      (case d12 => refine' Hd.def_in ?a ?l ?c ?k; (case a => k_is); (case l => k_is); (case c => k_is); (case k => k_is))
      (case d13 => refine' Hd.def_in ?a ?l ?c ?k; (case a => k_is); (case l => k_is); (case c => k_is); (case k => k_is))
      (case d14 => refine' Hd.def_in ?a ?l ?c ?k; (case a => k_is); (case l => k_is); (case c => k_is); (case k => k_is))
      (case d15 => refine' Hd.def_in ?a ?l ?c ?k; (case a => k_is); (case l => k_is); (case c => k_is); (case k => k_is))
      (case d16 => refine' Hd.def_in ?a ?l ?c ?k; (case a => k_is); (case l => k_is); (case c => k_is); (case k => k_is))
      (case d17 => refine' Hd.def_in ?a ?l ?c ?k; (case a => k_is); (case l => k_is); (case c => k_is); (case k => k_is))
      (case d18 => refine' Hd.def_in ?a ?l ?c ?k; (case a => k_is); (case l => k_is); (case c => k_is); (case k => k_is))
      (case d19 => refine' Hd.def_in ?a ?l ?c ?k; (case a => k_is); (case l => k_is); (case c => k_is); (case k => k_is))
      (case d20 => refine' Hd.def_in ?a ?l ?c ?k; (case a => k_is); (case l => k_is); (case c => k_is); (case k => k_is))
      (case d21 => refine' Hd.def_in ?a ?l ?c ?k; (case a => k_is); (case l => k_is); (case c => k_is); (case k => k_is))
      (case d22 => refine' Hd.def_in ?a ?l ?c ?k; (case a => k_is); (case l => k_is); (case c => k_is); (case k => k_is))
      (case d23 => refine' Hd.def_in ?a ?l ?c ?k; (case a => k_is); (case l => k_is); (case c => k_is); (case k => k_is))
      (case d24 => refine' Hd.def_in ?a ?l ?c ?k; (case a => k_is); (case l => k_is); (case c => k_is); (case k => k_is))
      (case d25 => refine' Hd.def_in ?a ?l ?c ?k; (case a => k_is); (case l => k_is); (case c => k_is); (case k => k_is))
      (case d26 => refine' Hd.def_in ?a ?l ?c ?k; (case a => k_is); (case l => k_is); (case c => k_is); (case k => k_is))
      (case d27 => refine' Hd.def_in ?a ?l ?c ?k; (case a => k_is); (case l => k_is); (case c => k_is); (case k => k_is))
      (case d28 => refine' Hd.def_in ?a ?l ?c ?k; (case a => k_is); (case l => k_is); (case c => k_is); (case k => k_is))
      (case d29 => refine' Hd.def_in ?a ?l ?c ?k; (case a => k_is); (case l => k_is); (case c => k_is); (case k => k_is))
      (case d30 => refine' Hd.def_in ?a ?l ?c ?k; (case a => k_is); (case l => k_is); (case c => k_is); (case k => k_is))
      (case d31 => refine' Hd.def_in ?a ?l ?c ?k; (case a => k_is); (case l => k_is); (case c => k_is); (case k => k_is))
      (case d32 => refine' Hd.def_in ?a ?l ?c ?k; (case a => k_is); (case l => k_is); (case c => k_is); (case k => k_is))
      (case d33 => refine' Hd.def_in ?a ?l ?c ?k; (case a => k_is); (case l => k_is); (case c => k_is); (case k => k_is))
      (case d34 => refine' Hd.def_in ?a ?l ?c ?k; (case a => k_is); (case l => k_is); (case c => k_is); (case k => k_is))
      (case d35 => refine' Hd.def_in ?a ?l ?c ?k; (case a => k_is); (case l => k_is); (case c => k_is); (case k => k_is))
      (case d36 => refine' Hd.def_in ?a ?l ?c ?k; (case a => k_is); (case l => k_is); (case c => k_is); (case k => k_is))
      (case d37 => refine' Hd.def_in ?a ?l ?c ?k; (case a => k_is); (case l => k_is); (case c => k_is); (case k => k_is))
      (case d38 => refine' Hd.def_in ?a ?l ?c ?k; (case a => k_is); (case l => k_is); (case c => k_is); (case k => k_is))
      (case d39 => refine' Hd.def_in ?a ?l ?c ?k; (case a => k_is); (case l => k_is); (case c => k_is); (case k => k_is))
      (case d40 => refine' Hd.def_in ?a ?l ?c ?k; (case a => k_is); (case l => k_is); (case c => k_is); (case k => k_is))
      (case d41 => refine' Hd.def_in ?a ?l ?c ?k; (case a => k_is); (case l => k_is); (case c => k_is); (case k => k_is))
      (case d42 => refine' Hd.def_in ?a ?l ?c ?k; (case a => k_is); (case l => k_is); (case c => k_is); (case k => k_is))
      (case d43 => refine' Hd.def_in ?a ?l ?c ?k; (case a => k_is); (case l => k_is); (case c => k_is); (case k => k_is))
      (case d44 => refine' Hd.def_in ?a ?l ?c ?k; (case a => k_is); (case l => k_is); (case c => k_is); (case k => k_is))
      (case d45 => refine' Hd.def_in ?a ?l ?c ?k; (case a => k_is); (case l => k_is); (case c => k_is); (case k => k_is))
      (case d46 => refine' Hd.def_in ?a ?l ?c ?k; (case a => k_is); (case l => k_is); (case c => k_is); (case k => k_is))
      (case d47 => refine' Hd.def_in ?a ?l ?c ?k; (case a => k_is); (case l => k_is); (case c => k_is); (case k => k_is))
      (case d48 => refine' Hd.def_in ?a ?l ?c ?k; (case a => k_is); (case l => k_is); (case c => k_is); (case k => k_is))
      (case d49 => refine' Hd.def_in ?a ?l ?c ?k; (case a => k_is); (case l => k_is); (case c => k_is); (case k => k_is))
      (case d50 => refine' Hd.def_in ?a ?l ?c ?k; (case a => k_is); (case l => k_is); (case c => k_is); (case k => k_is))
      (case d51 => refine' Hd.def_in ?a ?l ?c ?k; (case a => k_is); (case l => k_is); (case c => k_is); (case k => k_is))
      (case d52 => refine' Hd.def_in ?a ?l ?c ?k; (case a => k_is); (case l => k_is); (case c => k_is); (case k => k_is))
      (case d53 => refine' Hd.def_in ?a ?l ?c ?k; (case a => k_is); (case l => k_is); (case c => k_is); (case k => k_is))
      (case d54 => refine' Hd.def_in ?a ?l ?c ?k; (case a => k_is); (case l => k_is); (case c => k_is); (case k => k_is)))

