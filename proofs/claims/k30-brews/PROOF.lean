import PyProof.Rows.All
import Wide.All
import OpenK.AllK
import Wide.FinOn
import PyProof.EqAt
import PyProof.EqKinds
import PyProof.TupleCall
import PyProof.ZipIter
import PyProof.Rows.CallKwBuiltin
import HandS.ForMost
import HandS.Zip
import HandS.Evl
import HandS.Walk
import HandS.WideBits
import HandS.Wide
import HandS.ForExc
import HandS.ExcSuper
import HandS.ExcValue
import HandS.ExcField
import HandS.IsInst
import KE.KExcIs
import HandS.RaiseMore
import KE.KExcSuper
import KE.KSuper
import HandS.Defaults
import PySem.Challenge.RW_wholemills_k30_brews_and_their_gains
import HandS.Steps
import PyProof.Draws
import PyProof.EnumMake
import HandS.DictComp
import HandS.WordsDict
import KE.KDictList
import HandS.Sort
import HandS.Conv
import HandS.Codes
import HandS.ExcOwn
import HandS.WordsExc
import HandS.CallSlots
import HandS.Style
import KE.DataEq
import HandS.ExcIs
set_option Elab.async false
set_option linter.all false
set_option maxRecDepth 100000
set_option maxHeartbeats 4000000
/-! zip(a, b, strict=True) of two lists of one length. -/
namespace PySem
namespace ZS
open Sem (wp)
abbrev kwS : List (Str × Value) := [(Str.ofString "strict", .bool true)]
theorem typeCall_zip (a b : Value) : checkTypeCall "zip" ⟨[a, b], kwS⟩ = pure () := by kernel_rfl
theorem newCall_zip (a b : Value) : checkBuiltinCall "zip.__new__" ⟨[.type "zip", a, b], kwS⟩ = pure () := by kernel_rfl
theorem args_init (a b c : Value) : argsOk "object.__init__" ⟨[a, b, c], kwS⟩ := by
  unfold argsOk; rw [signature?_of (id := "object.__init__") (n := ['_', '_', 't', 'i', 'n', 'i', '_', '_']) (o := ['t', 'c', 'e', 'j', 'b', 'o']) (by kernel_rfl) F.owner_object]; kernel_rfl
abbrev IsZipS (h : Heap) (z TI TO : Addr) (f0 : Value) : Prop :=
  h.get? z = some { cls := .type "zip", dict := none, data := .fields #[f0, .bool false, .bool true, .ref TI, .ref TO], slots := #[] }
section
variable {prog : Program} {w : World} {A : Around} {E : Value → Shared → Prop} {s : Shared}
theorem nextOrEnd_item {it l : Addr} {i : Nat} {items} {x : Value} {Q : Option Value → Shared → Prop} (hit : s.heap.IsListIter it l i)
    (hl : s.heap.IsList l items) (hx : items[i]? = some x)
    (hQ : ∀ h', h'.IsListIter it l (i + 1) → Heap.SameBut it s.heap h' → Q (some x) { s with heap := h' }) :
    wpAny (model prog w) A (Builtin.SmallTypes.nextOrEnd (.ref it)) Q E s := by
  unfold Builtin.SmallTypes.nextOrEnd
  refine wpAny_bind (wpAny_attempt ?_)
  exact wpAny_nextOf_list_item hit hl hx fun h' a b => wpAny_pure (hQ h' a b)
theorem nextOrEnd_end {it l : Addr} {i : Nat} {items} {Q : Option Value → Shared → Prop} (hh : A.handled = none)
    (hit : s.heap.IsListIter it l i) (hl : s.heap.IsList l items) (hx : items[i]? = none)
    (hQ : ∀ h', Heap.ExtBut it s.heap h' → Q none { s with heap := h' }) :
    wpAny (model prog w) A (Builtin.SmallTypes.nextOrEnd (.ref it)) Q E s := by
  unfold Builtin.SmallTypes.nextOrEnd
  refine wpAny_bind (wpAny_attempt ?_)
  refine wpAny_nextOf_list_end hh hit hl hx fun h' e hk he => ?_
  obtain ⟨o, ho, hc⟩ := he
  refine wpAny_bind (wpAny_isInstance (T := "StopIteration") (b := true) ⟨o, ho, hc⟩ isSubtype_stop ?_)
  exact wpAny_pure (hQ _ hk)

theorem if_n {α : Type} {c : Prop} {_ : Decidable c} {t e : Sem α} {Q : α → Shared → Prop} (hc : ¬ c) (h : wpAny (model prog w) A e Q E s) : wpAny (model prog w) A (if c then t else e) Q E s := by
  rw [if_neg hc]
  exact h
theorem stop_it {α : Type} {Q : α → Shared → Prop} (hh : A.handled = none)
    (hE : ∀ h' e, (∀ c o, s.heap.get? c = some o → h'.get? c = some o) → (∃ o, h'.get? e = some o ∧ o.cls = .type "StopIteration") → E (.ref e) { s with heap := h' }) :
    wpAny (model prog w) A (Builtin.SmallTypes.stopIteration : Sem α) Q E s := by
  show wpAny _ _ (newExc (.type "StopIteration") [] >>= _) _ _ _
  refine wpAny_bind ?_
  simp only [newExc, newTuple]
  refine wpAny_bind (wpAny_newObj_type ?_ (by size_fits))
  refine wpAny_bind (m := firstArgMember _ _) (wpAny_of_eq (a := Value.none) (by first | rfl | (simp only [firstArgMember]; rfl)) ?_)
  refine wpAny_newObj_type ?_ (by size_fits)
  simp only [raiseNew]
  refine wpAny_bind (wpAny_handled ?_)
  rw [hh]
  refine wpAny_bind (wpAny_pure (wpAny_throw ?_))
  exact hE _ _ (fun c o x => Heap.get?_push_of_some _ (Heap.get?_push_of_some _ x)) ⟨_, Heap.get?_push_size _ rfl, rfl⟩
theorem next_item {z TI TO i1 i2 l1 l2 : Addr} {k1 k2 : Nat} {xs ys : Array Value} {x y a b : Value} {Q : Value → Shared → Prop} (D : ZipApart z TI TO i1 i2 l1 l2)
    (hz : IsZipS s.heap z TI TO .none) (hTI : IsPair s.heap TI (.ref i1) (.ref i2)) (hTO : IsPair s.heap TO a b)
    (h1 : s.heap.IsListIter i1 l1 k1) (h2 : s.heap.IsListIter i2 l2 k2) (hl1 : s.heap.IsList l1 xs) (hl2 : s.heap.IsList l2 ys) (hx : xs[k1]? = some x) (hy : ys[k2]? = some y)
    (hQ : ∀ h', IsZipS h' z TI TO (rawInt s.heap.objs.size) → IsPair h' TO x y → h'.IsListIter i1 l1 (k1 + 1) → h'.IsListIter i2 l2 (k2 + 1) → IsPair h' s.heap.objs.size x y → h'.objs.size = s.heap.objs.size + 1 →
      (∀ c o, c ≠ z → c ≠ TO → c ≠ i1 → c ≠ i2 → s.heap.get? c = some o → h'.get? c = some o) → Q (.ref s.heap.objs.size) { s with heap := h' }) :
    wpAny (model prog w) A (Builtin.«zip.__next__» ⟨[.ref z], []⟩) (fun fin s' => ∃ v, fin = .done (.ret v) ∧ Q v s') E s := by
  show wpAny _ _ (field (.ref z) 2 >>= _) _ _ _
  refine wpAny_bind (wpAny_field hz rfl (x := .bool true) rfl ?_)
  show wpAny _ _ (field (.ref z) 3 >>= _) _ _ _
  refine wpAny_bind (wpAny_field hz rfl (x := .ref TI) rfl ?_)
  refine wpAny_bind (wpAny_seqItems hTI rfl ?_)
  show wpAny _ _ (Builtin.SmallTypes.ownedTupleIsFree (.ref z) >>= _) _ _ _
  refine wpAny_bind ?_
  unfold Builtin.SmallTypes.ownedTupleIsFree
  refine wpAny_bind (wpAny_field hz rfl (x := .none) rfl (wpAny_pure ?_))
  simp only [if_true]
  refine wpAny_bind (wpAny_rule ?_)
  refine wpAny_bind (wpAny_field hz rfl (x := .ref TO) rfl ?_)
  refine wpAny_bind (wpAny_setField_rec hz (by simp) fun h₁ hz₁ hs₁ => ?_)
  replace hz₁ : IsZipS h₁ z TI TO .ellipsis := hz₁
  refine wpAny_bind ?_
  simp only [List.zipIdx_cons, List.zipIdx_nil, List.forIn_cons, List.forIn_nil]
  refine wpAny_bind (wpAny_bind (wpAny_onRaise ?_))
  show wpAny _ _ (Builtin.SmallTypes.nextOrEnd (.ref i1)) _ _ _
  refine nextOrEnd_item (h1.extBut hs₁.extBut D.i1z) (hl1.extBut hs₁.extBut D.l1z) hx fun h₂ h1₂ hs₂ => ?_
  have hTO₂ : IsPair h₂ TO a b := hs₂.extBut _ _ D.TOi1 (hs₁.extBut _ _ D.TOz hTO)
  refine wpAny_bind (wpAny_seqItems hTO₂ rfl ?_)
  refine wpAny_bind (wpAny_updateSeq_pair hTO₂ fun h₃ hTO₃ hs₃ => ?_)
  replace hTO₃ : IsPair h₃ TO x b := hTO₃
  refine wpAny_bind (wpAny_letGo (wpAny_pure ?_))
  refine wpAny_bind (wpAny_bind (wpAny_onRaise ?_))
  show wpAny _ _ (Builtin.SmallTypes.nextOrEnd (.ref i2)) _ _ _
  refine nextOrEnd_item (((h2.extBut hs₁.extBut D.i2z).extBut hs₂.extBut D.i12.symm).extBut hs₃.extBut D.TOi2.symm)
    (((hl2.extBut hs₁.extBut D.l2z).extBut hs₂.extBut D.l2i1).extBut hs₃.extBut D.l2TO) hy fun h₄ h2₄ hs₄ => ?_
  have hTO₄ : IsPair h₄ TO x b := hs₄.extBut _ _ D.TOi2 hTO₃
  refine wpAny_bind (wpAny_seqItems hTO₄ rfl ?_)
  refine wpAny_bind (wpAny_updateSeq_pair hTO₄ fun h₅ hTO₅ hs₅ => ?_)
  replace hTO₅ : IsPair h₅ TO x y := hTO₅
  refine wpAny_bind (wpAny_letGo (wpAny_pure (wpAny_pure ?_)))
  refine wpAny_bind (wpAny_seqItems hTO₅ rfl ?_)
  refine wpAny_bind (wpAny_newTuple ?_)
  have hsz : h₅.objs.size = s.heap.objs.size := by rw [hs₅.1, hs₄.1, hs₃.1, hs₂.1, hs₁.1]
  have hz₅ : IsZipS h₅ z TI TO .ellipsis := hs₅.extBut _ _ D.TOz.symm (hs₄.extBut _ _ D.i2z.symm (hs₃.extBut _ _ D.TOz.symm (hs₂.extBut _ _ D.i1z.symm hz₁)))
  have hk₅ : ∀ c o, c ≠ z → c ≠ TO → c ≠ i1 → c ≠ i2 → s.heap.get? c = some o → h₅.get? c = some o := fun c o c1 c2 c3 c4 e =>
    hs₅.extBut _ _ c2 (hs₄.extBut _ _ c4 (hs₃.extBut _ _ c2 (hs₂.extBut _ _ c3 (hs₁.extBut _ _ c1 e))))
  have h1₅ : h₅.IsListIter i1 l1 (k1 + 1) := ((h1₂.extBut hs₃.extBut D.TOi1.symm).extBut hs₄.extBut D.i12).extBut hs₅.extBut D.TOi1.symm
  have h2₅ : h₅.IsListIter i2 l2 (k2 + 1) := h2₄.extBut hs₅.extBut D.TOi2.symm
  have hzlt : z < h₅.objs.size := Heap.lt_size hz₅
  have hTOlt : TO < h₅.objs.size := Heap.lt_size hTO₅
  have hi1lt : i1 < h₅.objs.size := by obtain ⟨_, e, _⟩ := h1₅; exact Heap.lt_size e
  have hi2lt : i2 < h₅.objs.size := by obtain ⟨_, e, _⟩ := h2₅; exact Heap.lt_size e
  show wpAny _ _ (Builtin.SmallTypes.ownedTupleHandOut (.ref z) (.ref h₅.objs.size) >>= _) _ _ _
  refine wpAny_bind ?_
  unfold Builtin.SmallTypes.ownedTupleHandOut
  have hz₆ : IsZipS (h₅.push { cls := .type "tuple", data := .seq #[x, y] }) z TI TO .ellipsis := Heap.get?_push_of_some _ hz₅
  refine wpAny_bind (wpAny_setField_rec hz₆ (by simp) fun h₇ hz₇ hs₇ => ?_)
  replace hz₇ : IsZipS h₇ z TI TO (rawInt h₅.objs.size) := hz₇
  refine wpAny_setField_rec hz₇ (by simp) fun h₈ hz₈ hs₈ => ?_
  replace hz₈ : IsZipS h₈ z TI TO (rawInt h₅.objs.size) := hz₈
  have up : ∀ c o, c ≠ z → h₅.get? c = some o → h₈.get? c = some o := fun c o c1 e => hs₈.extBut _ _ c1 (hs₇.extBut _ _ c1 (Heap.get?_push_of_some _ e))
  have hT₈ : IsPair h₈ h₅.objs.size x y := hs₈.extBut _ _ (Nat.ne_of_gt hzlt) (hs₇.extBut _ _ (Nat.ne_of_gt hzlt) (Heap.get?_push_size _ rfl))
  have hz8 : h₈.objs.size = h₅.objs.size + 1 := by rw [hs₈.1, hs₇.1, Heap.size_push]
  rw [hsz] at hz₈ hT₈ hz8
  refine wpAny_pure ⟨_, rfl, ?_⟩
  show Q (.ref h₅.objs.size) _
  rw [hsz]
  exact hQ h₈ hz₈ (up _ _ D.TOz hTO₅) (h1₅.at fun o e => up _ o D.i1z e) (h2₅.at fun o e => up _ o D.i2z e) hT₈ hz8 fun c o c1 c2 c3 c4 e => up c o c1 (hk₅ c o c1 c2 c3 c4 e)

theorem next_end {z TI TO i1 i2 l1 l2 : Addr} {k1 k2 : Nat} {xs ys : Array Value} {a b : Value} {Q : Fin → Shared → Prop} (hh : A.handled = none) (D : ZipApart z TI TO i1 i2 l1 l2)
    (hz : IsZipS s.heap z TI TO .none) (hTI : IsPair s.heap TI (.ref i1) (.ref i2)) (hTO : IsPair s.heap TO a b)
    (h1 : s.heap.IsListIter i1 l1 k1) (h2 : s.heap.IsListIter i2 l2 k2) (hl1 : s.heap.IsList l1 xs) (hl2 : s.heap.IsList l2 ys) (hx : xs[k1]? = none) (hy : ys[k2]? = none)
    (hE : ∀ h' e, (∀ c o, c ≠ z → c ≠ TO → c ≠ i1 → c ≠ i2 → s.heap.get? c = some o → h'.get? c = some o) → (∃ o, h'.get? e = some o ∧ o.cls = .type "StopIteration") → E (.ref e) { s with heap := h' }) :
    wpAny (model prog w) A (Builtin.«zip.__next__» ⟨[.ref z], []⟩) Q E s := by
  show wpAny _ _ (field (.ref z) 2 >>= _) _ _ _
  refine wpAny_bind (wpAny_field hz rfl (x := .bool true) rfl ?_)
  show wpAny _ _ (field (.ref z) 3 >>= _) _ _ _
  refine wpAny_bind (wpAny_field hz rfl (x := .ref TI) rfl ?_)
  refine wpAny_bind (wpAny_seqItems hTI rfl ?_)
  show wpAny _ _ (Builtin.SmallTypes.ownedTupleIsFree (.ref z) >>= _) _ _ _
  refine wpAny_bind ?_
  unfold Builtin.SmallTypes.ownedTupleIsFree
  refine wpAny_bind (wpAny_field hz rfl (x := .none) rfl (wpAny_pure ?_))
  simp only [if_true]
  refine wpAny_bind (wpAny_rule ?_)
  refine wpAny_bind (wpAny_field hz rfl (x := .ref TO) rfl ?_)
  refine wpAny_bind (wpAny_setField_rec hz (by simp) fun h₁ hz₁ hs₁ => ?_)
  replace hz₁ : IsZipS h₁ z TI TO .ellipsis := hz₁
  refine wpAny_bind ?_
  simp only [List.zipIdx_cons, List.zipIdx_nil, List.forIn_cons, List.forIn_nil]
  refine wpAny_bind (wpAny_bind (wpAny_onRaise ?_))
  show wpAny _ _ (Builtin.SmallTypes.nextOrEnd (.ref i1)) _ _ _
  refine nextOrEnd_end hh (h1.extBut hs₁.extBut D.i1z) (hl1.extBut hs₁.extBut D.l1z) hx fun h₂ hs₂ => ?_
  have hz₂ : IsZipS h₂ z TI TO .ellipsis := hs₂ _ _ D.i1z.symm hz₁
  refine wpAny_bind (wpAny_setField_rec hz₂ (by simp) fun h₃ hz₃ hs₃ => ?_)
  have k₃ : ∀ c o, c ≠ z → c ≠ i1 → s.heap.get? c = some o → h₃.get? c = some o := fun c o c1 c3 x => hs₃.extBut _ _ c1 (hs₂ _ _ c3 (hs₁.extBut _ _ c1 x))
  have hi2z : h₃.IsListIter i2 l2 k2 := h2.at fun o q => k₃ _ o D.i2z D.i12.symm q
  have hl2z : h₃.IsList l2 ys := hl2.at fun o q => k₃ _ o D.l2z D.l2i1 q
  refine wpAny_bind ?_
  refine wpAny_bind ?_
  simp only [List.drop_succ_cons, List.drop_zero, List.zipIdx_cons, List.zipIdx_nil]
  simp only [List.forIn_cons, List.forIn_nil]
  refine wpAny_bind (wpAny_bind ?_)
  refine nextOrEnd_end hh hi2z hl2z hy fun h₄ hs₄ => ?_
  refine wpAny_pure ?_
  refine wpAny_pure ?_
  refine wpAny_bind (wpAny_rule ?_)
  refine stop_it hh fun h₅ e k₅ he => ?_
  exact hE h₅ e (fun c o c1 _ c3 c4 x => k₅ _ _ (hs₄ _ _ c4 (k₃ _ _ c1 c3 x))) he
theorem pyNext_item {z TI TO i1 i2 l1 l2 : Addr} {k1 k2 : Nat} {xs ys : Array Value} {x y a b : Value} {Q : Option Value → Shared → Prop} (D : ZipApart z TI TO i1 i2 l1 l2)
    (hz : IsZipS s.heap z TI TO .none) (hTI : IsPair s.heap TI (.ref i1) (.ref i2)) (hTO : IsPair s.heap TO a b)
    (h1 : s.heap.IsListIter i1 l1 k1) (h2 : s.heap.IsListIter i2 l2 k2) (hl1 : s.heap.IsList l1 xs) (hl2 : s.heap.IsList l2 ys) (hx : xs[k1]? = some x) (hy : ys[k2]? = some y)
    (hQ : ∀ h', IsZipS h' z TI TO (rawInt s.heap.objs.size) → IsPair h' TO x y → h'.IsListIter i1 l1 (k1 + 1) → h'.IsListIter i2 l2 (k2 + 1) → IsPair h' s.heap.objs.size x y → h'.objs.size = s.heap.objs.size + 1 →
      (∀ c o, c ≠ z → c ≠ TO → c ≠ i1 → c ≠ i2 → s.heap.get? c = some o → h'.get? c = some o) → Q (some (.ref s.heap.objs.size)) { s with heap := h' }) :
    wpAny (model prog w) A (pyNext (.ref z)) Q E s := by
  have hT : s.TypeIs (.ref z) "zip" := ⟨_, hz, rfl⟩
  unfold pyNext
  exact wpAny_bind (wpAny_attempt (wpAny_callSpecial?_slot (name := Str.ofString "__next__") hT F.slot_zip_next
    (wpAny_call_entry F.slot_zip_next hT F.entry_zip_next
      (next_item D hz hTI hTO h1 h2 hl1 hl2 hx hy fun h' a1 a2 a3 a4 a5 a6 a7 => wpAny_pure (hQ h' a1 a2 a3 a4 a5 a6 a7)) (F.args_zip_next_1 _))))
theorem pyNext_end {z TI TO i1 i2 l1 l2 : Addr} {k1 k2 : Nat} {xs ys : Array Value} {a b : Value} {Q : Option Value → Shared → Prop} (hh : A.handled = none) (D : ZipApart z TI TO i1 i2 l1 l2)
    (hz : IsZipS s.heap z TI TO .none) (hTI : IsPair s.heap TI (.ref i1) (.ref i2)) (hTO : IsPair s.heap TO a b)
    (h1 : s.heap.IsListIter i1 l1 k1) (h2 : s.heap.IsListIter i2 l2 k2) (hl1 : s.heap.IsList l1 xs) (hl2 : s.heap.IsList l2 ys) (hx : xs[k1]? = none) (hy : ys[k2]? = none)
    (hQ : ∀ h', (∀ c o, c ≠ z → c ≠ TO → c ≠ i1 → c ≠ i2 → s.heap.get? c = some o → h'.get? c = some o) → Q none { s with heap := h' }) : wpAny (model prog w) A (pyNext (.ref z)) Q E s := by
  have hT : s.TypeIs (.ref z) "zip" := ⟨_, hz, rfl⟩
  unfold pyNext
  refine wpAny_bind (wpAny_attempt (wpAny_callSpecial?_slot (name := Str.ofString "__next__") hT F.slot_zip_next
    (wpAny_call_entry F.slot_zip_next hT F.entry_zip_next (next_end hh D hz hTI hTO h1 h2 hl1 hl2 hx hy fun h' e hk he => ?_) (F.args_zip_next_1 _))))
  obtain ⟨o, ho, hc⟩ := he
  refine wpAny_bind (wpAny_isInstance (T := "StopIteration") (b := true) ⟨o, ho, hc⟩ isSubtype_stop ?_)
  exact wpAny_pure (hQ _ hk)
theorem letGo_zip {elts : List Expr} {x1} {pos : Pos} {z TI TO T : Addr} {Q : Unit → Shared → Prop} (hz : IsZipS s.heap z TI TO (rawInt T))
    (hQ : ∀ h', IsZipS h' z TI TO .none → Heap.SameBut z s.heap h' → Q () { s with heap := h' }) :
    wpAny (model prog w) A (letOwnedTupleGo (.Tuple elts x1 pos) (.ref z) (.ref T)) Q E s := by
  unfold letOwnedTupleGo
  refine wpAny_bind (wpAny_load hz ?_)
  show wpAny _ _ (if (["enumerate", "zip", "dict_itemiterator", "dict_reverseitemiterator", "odict_iterator", "itertools.zip_longest", "itertools.pairwise"].contains "zip" &&
      (#[rawInt T, .bool false, .bool true, .ref TI, .ref TO] : Array Value)[0]? == some (rawInt T)) = true then _ else _) Q E s
  rw [if_pos (by simp)]
  refine wpAny_bind (wpAny_rule ?_)
  show wpAny _ _ (setField (.ref z) 0 .none) Q E s
  exact wpAny_setField_rec hz (by simp) fun h' hz' hs' => hQ h' hz' hs'
theorem pyIter_zip {z TI TO : Addr} {f0 : Value} {Q : Value → Shared → Prop} (hz : IsZipS s.heap z TI TO f0) (h : Q (.ref z) s) : wpAny (model prog w) A (pyIter (.ref z)) Q E s := by
  have hT : s.TypeIs (.ref z) "zip" := ⟨_, hz, rfl⟩
  refine wpAny_pyIter_slot hT F.slot_zip_iter (wpAny_call_entry F.slot_zip_iter hT F.entry_zip_iter ?_ (F.args_zip_iter_1 _))
  show wpAny _ _ (ret (.ref z)) _ _ s
  exact wpAny_pure ⟨_, rfl, "zip", _, hT, F.slot_zip_next.lookup, h⟩
end
abbrev zH5 (h : Heap) (l1 l2 : Addr) : Heap := (zipH4 h l1 l2).push { cls := .type "zip", data := .fields #[.none, .bool false, .bool true, .ref (zipH2 h l1 l2).objs.size, .ref (zipH3 h l1 l2).objs.size] }
theorem meets_new (l1 l2 : Addr) (xs ys : Array Value) :
    Meets (Builtin.«zip.__new__» ⟨[.type "zip", .ref l1, .ref l2], kwS⟩) (fun _ R s => s.heap.IsList l1 xs ∧ s.heap.IsList l2 ys ∧
      R (.ok (.ret (.ref (zipH4 s.heap l1 l2).objs.size))) { s with heap := zH5 s.heap l1 l2 }) :=
  .of_wp fun prog w A R s h => by
    obtain ⟨hp, g, d, tk, os⟩ := s; obtain ⟨hl1, hl2, h⟩ := h
    have hsub := sub_zip
    have hL1 : Heap.IsList (Shared.heap ⟨hp, g, d, tk, os⟩) l1 xs := hl1
    have hL2 : Heap.IsList (Shared.heap ⟨hp.push { cls := .type "list_iterator", data := .fields #[.ref l1, .int 0 0] }, g, d, tk, os⟩) l2 ys := Heap.IsList.push hl2 _
    wp_walk using wpAny_pyIter_list hL1, wpAny_pyIter_list hL2
    exact ⟨_, rfl, h⟩
theorem object_init_meets {T newId : String} {self : Value} {rest : List Value} {kw : List (Str × Value)} (hl : typeLookup (.type T) "__init__" = pure (some (.builtin "object.__init__")))
    (hm : Bind.madeBy (.type T) = pure (some newId)) (hne : (some newId != some "object.__new__") = true) :
    Meets (Builtin.«object.__init__» ⟨self :: rest, kw⟩) (fun _ R s => s.TypeIs self T ∧ R (.ok (.ret .none)) s) := by
  refine Meets.of_wp fun prog w A R s hs => ?_
  obtain ⟨hT, hq⟩ := hs
  cases rest with
  | nil =>
    cases kw with
    | nil => exact wpAny_pure ⟨_, rfl, hq⟩
    | cons k ks =>
      repeat (any_goals (first | assumption | wp_step))
      exact ⟨_, rfl, hq⟩
  | cons a rest =>
    repeat (any_goals (first | assumption | wp_step))
    exact ⟨_, rfl, hq⟩
section
variable {prog : Program} {w : World} {A : Around} {E : Value → Shared → Prop} {s : Shared}
theorem callType_meets {T newId initId : String} {Bn Bi : Builtin} {args : List Value} {kw : List (Str × Value)} {S : Spec} {Q Q₁ : Value → Shared → Prop} (ft : TypeCalled T newId initId)
    (hct : checkTypeCall T ⟨args, kw⟩ = pure ()) (hcn : checkBuiltinCall newId ⟨.type T :: args, kw⟩ = pure ())
    (entryN : entryFor table newId = some Bn) (entryI : entryFor table initId = some Bi) (g : Meets (Bn ⟨.type T :: args, kw⟩) S)
    (h : S A.in1 (wants Q₁ E) s)
    (hnext : ∀ obj s₁, Q₁ obj s₁ → s₁.TypeIs obj T ∧ argsOk initId ⟨obj :: args, kw⟩ ∧ ∃ Si, Meets (Bi ⟨obj :: args, kw⟩) Si ∧ Si A.in1 (wants (fun r s₂ => r = .none ∧ Q obj s₂) E) s₁) :
    wpAny (model prog w) A (call (.type T) args kw) Q E s := by
  obtain ⟨c, tl, hmro⟩ := ft.mro
  have hmade := ft.made
  have hsub := ft.sub
  refine wpAny_call (codeAny_of_tree ?_)
  show wpAny _ _ (callAny (.type T) _) _ _ _
  refine wpAny_pure ⟨Code.quiet_builtin _ (by decide +kernel), codeAny_builtin F.entry_type_call ?_⟩
  rw [Around.under_plain (weight_type_call_type T args kw) (units_type_call_type T args kw)]
  have h1 := ft.notType
  have h2 := ft.canCreate
  repeat (any_goals (first | assumption | wp_step))
  refine codeAny_mono (codeAny_call_builtin ft.plain entryN (wpAny_of_eq hcn (g prog w A.in1 _ s h))) fun r s₁ hr => ?_
  cases r with
  | error e => exact hr
  | ok fl =>
    cases fl with
    | ret obj =>
      obtain ⟨hT, hok, Si, gi, hsi⟩ := hnext _ _ hr
      have hli := ft.init.lookup
      have hbi := ft.init.bind obj
      repeat (any_goals (first | assumption | wp_step))
      refine codeAny_mono (codeAny_call_builtin ft.init.plain entryI (ft.init.check _ _ _ _ _ _ _ _ hT hok (gi prog w A.in1 _ s₁ hsi))) fun r₂ s₂ hr₂ => ?_
      cases r₂ with
      | error e => exact hr₂
      | ok fl₂ =>
        cases fl₂ with
        | ret r =>
          obtain ⟨rfl, hq⟩ := hr₂
          repeat (any_goals (first | assumption | wp_step))
        | _ => exact hr₂.elim
    | _ => exact hr.elim
theorem call_zipS {l1 l2 : Addr} {xs ys : Array Value} {Q : Value → Shared → Prop} (hl1 : s.heap.IsList l1 xs) (hl2 : s.heap.IsList l2 ys)
    (h : ∀ h', IsZipS h' (s.heap.objs.size + 4) (s.heap.objs.size + 2) (s.heap.objs.size + 3) .none → IsPair h' (s.heap.objs.size + 2) (.ref s.heap.objs.size) (.ref (s.heap.objs.size + 1)) →
      IsPair h' (s.heap.objs.size + 3) .none .none → h'.IsListIter s.heap.objs.size l1 0 → h'.IsListIter (s.heap.objs.size + 1) l2 0 → h'.objs.size = s.heap.objs.size + 5 →
      (∀ c o, s.heap.get? c = some o → h'.get? c = some o) → Q (.ref (s.heap.objs.size + 4)) { s with heap := h' }) :
    wpAny (model prog w) A (call (.type "zip") [.ref l1, .ref l2] kwS) Q E s := by
  refine callType_meets F.called_zip (typeCall_zip _ _) (newCall_zip _ _) F.entry_zip_new F.entry_object_init (meets_new l1 l2 xs ys) (Q₁ := fun obj s₁ => s₁.TypeIs obj "zip" ∧ Q obj s₁) ⟨hl1, hl2, ?_⟩ fun obj _ hq =>
    ⟨hq.1, args_init obj _ _, _, object_init_meets F.called_zip.init.lookup F.called_zip.made (by decide), hq.1, rfl, hq.2⟩
  have z1 : (zipH1 s.heap l1).objs.size = s.heap.objs.size + 1 := Heap.size_push ..
  have z2 : (zipH2 s.heap l1 l2).objs.size = s.heap.objs.size + 2 := by rw [Heap.size_push, z1]
  have z3 : (zipH3 s.heap l1 l2).objs.size = s.heap.objs.size + 3 := by rw [Heap.size_push, z2]
  have z4 : (zipH4 s.heap l1 l2).objs.size = s.heap.objs.size + 4 := by rw [Heap.size_push, z3]
  have z5 : (zH5 s.heap l1 l2).objs.size = s.heap.objs.size + 5 := by rw [Heap.size_push, z4]
  have g5 : (zH5 s.heap l1 l2).get? (zipH4 s.heap l1 l2).objs.size = some _ := Heap.get?_push_size _ rfl
  have g4 : (zH5 s.heap l1 l2).get? (zipH3 s.heap l1 l2).objs.size = some _ := Heap.get?_push_of_some _ (Heap.get?_push_size _ rfl)
  have g3 : (zH5 s.heap l1 l2).get? (zipH2 s.heap l1 l2).objs.size = some _ := Heap.get?_push_of_some _ (Heap.get?_push_of_some _ (Heap.get?_push_size _ rfl))
  have g2 : (zH5 s.heap l1 l2).get? (zipH1 s.heap l1).objs.size = some _ := Heap.get?_push_of_some _ (Heap.get?_push_of_some _ (Heap.get?_push_of_some _ (Heap.get?_push_size _ rfl)))
  have g1 : (zH5 s.heap l1 l2).get? s.heap.objs.size = some _ := Heap.get?_push_of_some _ (Heap.get?_push_of_some _ (Heap.get?_push_of_some _ (Heap.get?_push_of_some _ (Heap.get?_push_size _ rfl))))
  show _ ∧ _
  rw [z2, z3, z4] at g5
  rw [z1, z2] at g3
  rw [z3] at g4
  rw [z1] at g2
  rw [z4]
  exact ⟨⟨_, g5, rfl⟩, h _ g5 g3 g4 ⟨_, g1, rfl, rfl⟩ ⟨_, g2, rfl, rfl⟩ z5 fun c o x =>
    Heap.get?_push_of_some _ (Heap.get?_push_of_some _ (Heap.get?_push_of_some _ (Heap.get?_push_of_some _ (Heap.get?_push_of_some _ x))))⟩
end
end ZS
end PySem

set_option Elab.async false
set_option linter.all false
set_option maxRecDepth 100000
set_option maxHeartbeats 4000000
namespace PySem
namespace ZS
section
variable {M : Model} {A : Around} {E : Value → Shared → Prop} {s : Shared} {env : Env}
theorem callWith_kwT {pos : Pos} {T : String} {e : Expr} {rest : List Expr} {kws : List Keyword} {Q : Value → Shared → Prop}
    (h : wpAny M A (spliced (backTo pos (starEach (e :: rest) env))) (fun vs s₁ => wpAny M A (evalAll ((backToKw pos (keywordEach kws env)).map (·.2)))
      (fun kvs s₂ => wpAny M A (call (.type T) vs (((backToKw pos (keywordEach kws env)).filterMap (·.1)).zip kvs)) Q E s₂) E s₁) E s)
    (he : backTo pos (starEach (e :: rest) env) = (false, eval e env) :: backTo pos (starEach rest env) := by rfl)
    (hplain : (backTo pos (starEach (e :: rest) env)).any (·.1) = false := by rfl)
    (hall : (backToKw pos (keywordEach kws env)).all (·.1.isSome) = true := by rfl)
    (hkw : (backToKw pos (keywordEach kws env)).any (·.1.isNone) = false := by rfl) :
    wpAny M A (callWith pos (.type T) [] (backTo pos (starEach (e :: rest) env)) (backToKw pos (keywordEach kws env))) Q E s := by
  have h2 : wpAny M A (evalArgs (.type T) true (backTo pos (starEach (e :: rest) env)) (backToKw pos (keywordEach kws env))) (fun a s₁ => wpAny M A (call (.type T) ([] ++ a.pos) a.kw) Q E s₁) E s := by
    rw [he] at h ⊢
    exact PyProof.Rows.evalArgs_kwB hall h
  unfold callWith
  refine wpAny_bind (wpAny_holding (wpAny_mono h2 (fun a s₁ h₁ => wpAny_bind (wpAny_standAt ?_)) fun _ _ x => x))
  simp only [hplain, hkw, Bool.or_false]
  refine wpAny_bind (wpAny_pure ?_)
  exact wpAny_bind (wpAny_mono h₁ (fun r s₂ hr => wpAny_bind (wpAny_holding (wpAny_point (wpAny_pure hr)))) fun _ _ x => x)
end
end ZS
end PySem
namespace L2
open PySem PySem.Spec PyProof.Rows
/-- the lists at a and b, of one length, as they stand at each turn -/
def Itzs (K : PySem.W.Frag) (a b : Addr) : It :=
  ⟨fun i H => ∃ (xs ys : List V) (x y : V), SqL K H a xs ∧ SqL K H b ys ∧ xs[i]? = some x ∧ ys[i]? = some y,
    fun i H v H' => ∃ T x y, v = .ref T ∧ H T = none ∧ H' = upd H T (.tup [x, y]) ∧ (∀ xs, SqL K H a xs → xs[i]? = some x) ∧ ∀ ys, SqL K H b ys → ys[i]? = some y,
    fun i H => ∃ xs ys : List V, SqL K H a xs ∧ SqL K H b ys ∧ (xs.length ≤ i ∧ ys.length ≤ i)⟩
theorem turn_zipS {P : Program} {w : World} {K : PySem.W.Frag} {elts : List Expr} {kk : Nat} {tpos : Pos} {a b z TI TO i1 i2 : Addr} (D : ZipApart z TI TO i1 i2 a b) :
    Turn P w K (.Tuple elts kk tpos) (Itzs K a b) [z, TI, TO, i1, i2] z (fun i h => ZS.IsZipS h z TI TO .none ∧ IsPair h TI (.ref i1) (.ref i2) ∧ (∃ x y, IsPair h TO x y) ∧ h.IsListIter i1 a i ∧ h.IsListIter i2 b i) where
  mem := by simp
  obj := fun i h st c hc => by
    obtain ⟨hz, hTI, ⟨x, y, hTO⟩, ⟨o1, e1, _, d1⟩, ⟨o2, e2, _, d2⟩⟩ := st
    have e' : c = z ∨ c = TI ∨ c = TO ∨ c = i1 ∨ c = i2 := by simpa using hc
    rcases e' with q | q | q | q | q
    · rw [q]; exact ⟨_, hz, fun v q => nomatch q⟩
    · rw [q]; exact ⟨_, hTI, fun v q => nomatch q⟩
    · rw [q]; exact ⟨_, hTO, fun v q => nomatch q⟩
    · rw [q]; exact ⟨o1, e1, fun v q => by rw [d1] at q; cases q⟩
    · rw [q]; exact ⟨o2, e2, fun v q => by rw [d2] at q; cases q⟩
  keep := fun i h h' st k => by
    obtain ⟨hz, hTI, ⟨x, y, hTO⟩, h1, h2⟩ := st
    exact ⟨k z (by simp) _ hz, k TI (by simp) _ hTI, ⟨x, y, k TO (by simp) _ hTO⟩, h1.at fun o q => k i1 (by simp) o q, h2.at fun o q => k i2 (by simp) o q⟩
  item := by
    intro X hP hw hK hc i pins s σ H E I hf st hg
    subst hP hw hK
    obtain ⟨hz, hTI, ⟨x0, y0, hTO⟩, h1, h2⟩ := st
    obtain ⟨xs, ys, x, y, hqx, hqy, hx, hy⟩ := hg
    obtain ⟨its, rv, p, _⟩ := I.list hqx
    obtain ⟨its2, rv2, p2, _⟩ := I.list hqy
    obtain ⟨u, hu, ru⟩ := rv.get hx
    obtain ⟨u2, hu2, ru2⟩ := rv2.get hy
    have hzl : z < s.heap.objs.size := Heap.lt_size hz
    refine ZS.pyNext_item D hz hTI hTO h1 h2 p.isList p2.isList (x := u) (y := u2) (by simpa using hu) (by simpa using hu2) fun h' z' TO' h1' h2' hT hsz hk => ?_
    refine ⟨_, rfl, ZS.letGo_zip (s := { s with heap := h' }) z' fun h'' z'' sb => ?_⟩
    have hT2 : h''.get? s.heap.objs.size = some { cls := .type "tuple", data := .seq #[u, u2] } := (sb.2 _ (Nat.ne_of_gt hzl)).trans hT
    have new : ObjOk X.prog X.w (upd H s.heap.objs.size (.tup [x, y])) h'' s.heap.objs.size (.tup [x, y]) :=
      ⟨by show 2 ≤ sizeLine; decide, [u, u2], .cons ru (.cons ru2 .nil), ⟨_, hT2, rfl, _, rfl⟩⟩
    have I1 : Inv X pins σ (upd H s.heap.objs.size (.tup [x, y])) { s with heap := h'' } :=
      I.turnedNew (t' := s.toks) (ch := [z, TI, TO, i1, i2]) (fun c o hb q => (sb.2 c (fun q' => hb (by simp [q']))).trans (hk c o (fun q' => hb (by simp [q'])) (fun q' => hb (by simp [q'])) (fun q' => hb (by simp [q'])) (fun q' => hb (by simp [q'])) q)) hf (Nat.le_refl _) new
    refine ⟨.ref s.heap.objs.size, _, I1, rfl, ⟨_, x, y, rfl, I.hok.fresh (Nat.le_refl _), rfl, fun l hl => by rw [I.list_inj hl hqx]; exact hx, fun l hl => by rw [I.list_inj hl hqy]; exact hy⟩, ⟨z'', ?_, ⟨u, u2, ?_⟩, ?_, ?_⟩, fun c hcm => ?_⟩
    · exact (sb.2 _ D.TIz).trans (hk _ _ D.TIz D.TITO D.TIi1 D.TIi2 hTI)
    · exact (sb.2 _ D.TOz).trans TO'
    · exact h1'.at fun o q => (sb.2 _ D.i1z).trans q
    · exact h2'.at fun o q => (sb.2 _ D.i2z).trans q
    · have hlt : c < s.heap.objs.size := by
        have e' : c = z ∨ c = TI ∨ c = TO ∨ c = i1 ∨ c = i2 := by simpa using hcm
        rcases e' with q | q | q | q | q
        · rw [q]; exact hzl
        · rw [q]; exact Heap.lt_size hTI
        · rw [q]; exact Heap.lt_size hTO
        · rw [q]; obtain ⟨_, e1, _⟩ := h1; exact Heap.lt_size e1
        · rw [q]; obtain ⟨_, e2, _⟩ := h2; exact Heap.lt_size e2
      rw [upd_ne (Nat.ne_of_lt hlt)]
      exact (hf c hcm).1
  done := by
    intro X hP hw hK hc i pins s σ H E I hf st hg
    subst hP hw hK
    obtain ⟨hz, hTI, ⟨x0, y0, hTO⟩, h1, h2⟩ := st
    obtain ⟨xs, ys, hqx, hqy, hend, hend2⟩ := hg
    obtain ⟨its, rv, p, _⟩ := I.list hqx
    obtain ⟨its2, rv2, p2, _⟩ := I.list hqy
    have l1 := rv.length
    have l2 := rv2.length
    have e1 : its.toArray[i]? = none := by simp; omega
    have e2 : its2.toArray[i]? = none := by simp; omega
    exact ZS.pyNext_end (I.ok.hd hc) D hz hTI hTO h1 h2 p.isList p2.isList e1 e2 fun h' hk => ⟨rfl, I.turnedL (t' := s.toks) (ch := [z, TI, TO, i1, i2]) (fun c o hb q =>
      hk c o (fun q' => hb (by simp [q'])) (fun q' => hb (by simp [q'])) (fun q' => hb (by simp [q'])) (fun q' => hb (by simp [q'])) q) hf⟩
  self := fun A i s Q E st h => ZS.pyIter_zip st.1 h
def iZipS (K : PySem.W.Frag) (ta : TA) : TI := fun σ H R => ta σ H fun vs H1 => ∃ a b xs ys, vs = [.ref a, .ref b] ∧ SqL K H1 a xs ∧ SqL K H1 b ys ∧ R (Itzs K a b) H1
theorem pi_zipS {X : Cx} {e e2 : Expr} {ta : TA} {p pos tpos cp kp : Pos} {elts : List Expr} {kk ck : Nat} (hg : Gl X "zip") (hm : X.mg "zip" = none) (ha : PA X [e, e2] ta)
    (hs : backTo pos (starEach [e, e2] X.env) = (false, eval e X.env) :: backTo pos (starEach [e2] X.env) := by rfl) (hpl : (backTo pos (starEach [e, e2] X.env)).any (·.1) = false := by rfl) :
    PI X (.Tuple elts kk tpos) (.Call (.Name "zip" p) [e, e2] [⟨some "strict", .Constant (.bool true) ck cp, kp⟩] pos) (iZipS X.K ta) := by
  refine ⟨fun pins s σ H R I h => ?_⟩
  refine wpAny_Call_Name_kw (ld_blt I hg hm PyProof.Rows.boot_zip (ZS.callWith_kwT (thn (ha.run pos pins s σ H _ I h) fun us s1 ⟨vs, H1, I1, r1, q1⟩ => ?_) hs hpl))
  refine PyProof.Rows.kws_cons ?_
  refine wpAny_pure (PyProof.Rows.kws_nil ?_)
  obtain ⟨a, b, xs, ys, ex, hqx, hqy, q⟩ := q1
  subst ex
  cases r1 with
  | cons r rr =>
    cases rr with
    | cons r' rr =>
      cases rr
      cases r
      cases r'
      obtain ⟨its, rv, p1, _⟩ := I1.list hqx
      obtain ⟨its2, rv2, p2, _⟩ := I1.list hqy
      have la : a < s1.heap.objs.size := p1.lt
      have lb : b < s1.heap.objs.size := p2.lt
      refine ZS.call_zipS p1.isList p2.isList fun h' hz hTI hTO h1 h2 hsz hk => ZS.pyIter_zip hz ?_
      have I2 : Inv X pins σ H1 { s1 with heap := h' } := I1.kept (t' := s1.toks) hk
      refine ⟨s1.heap.objs.size + 4, [s1.heap.objs.size + 4, s1.heap.objs.size + 2, s1.heap.objs.size + 3, s1.heap.objs.size, s1.heap.objs.size + 1], _, _, H1, rfl, I2, turn_zipS (PySem.W.ktu_apart s1.heap.objs.size a b la lb), ⟨hz, hTI, ⟨_, _, hTO⟩, h1, h2⟩, fun c hcm => ?_, q⟩
      have e' : c = s1.heap.objs.size + 4 ∨ c = s1.heap.objs.size + 2 ∨ c = s1.heap.objs.size + 3 ∨ c = s1.heap.objs.size ∨ c = s1.heap.objs.size + 1 := by simpa using hcm
      have hle : s1.heap.objs.size ≤ c := by
        rcases e' with z | z | z | z | z
        · rw [z]; exact Nat.le_add_right _ _
        · rw [z]; exact Nat.le_add_right _ _
        · rw [z]; exact Nat.le_add_right _ _
        · rw [z]; exact Nat.le_refl _
        · rw [z]; exact Nat.le_add_right _ _
      exact I1.fpOk hle (I1.hok.fresh hle)
end L2

set_option Elab.async false
set_option linter.all false
set_option maxRecDepth 100000
set_option maxHeartbeats 4000000
/-! Readings on data: F the part of the heap that stays as it is, H the whole. -/
namespace Dv
open PySem L2 Evl
/-- from F, H to F', H': nothing that was there has changed; what F gained is new in H -/
structure Gr (F H F' H' : Hp) : Prop where
  fx : Ex F F'
  fh : Ex F' H'
  hx : Ex H H'
  fr : ∀ a, F a = none → F' a ≠ none → H a = none
theorem Gr.refl {F H : Hp} (e : Ex F H) : Gr F H F H := ⟨Ex.refl F, e, Ex.refl H, fun a h1 h2 => absurd h1 h2⟩
theorem ex_none {H H' : Hp} {a : Addr} (e : Ex H H') (h : H' a = none) : H a = none := fresh_back e h
theorem Gr.trans {F H F1 H1 F2 H2 : Hp} (a : Gr F H F1 H1) (b : Gr F1 H1 F2 H2) : Gr F H F2 H2 :=
  ⟨a.fx.trans b.fx, b.fh, a.hx.trans b.hx, fun x h1 h2 => by
    cases h : F1 x with
    | none => exact ex_none a.hx (b.fr x h h2)
    | some o => exact a.fr x h1 (by rw [h]; exact fun z => nomatch z)⟩
theorem Gr.new {F H : Hp} {p : Addr} {o : HO} (e : Ex F H) (h : H p = none) : Gr F H (upd F p o) (upd H p o) :=
  ⟨Ex.new (ex_none e h), fun a u ha => by
    by_cases q : a = p
    · subst q
      rw [upd_same] at ha ⊢
      exact ha
    · rw [upd_ne q] at ha ⊢
      exact e a u ha, Ex.new h, fun a h1 h2 => by
    by_cases q : a = p
    · rw [q]; exact h
    · rw [upd_ne q] at h2
      exact absurd h1 h2⟩
/-- an object of H alone -/
theorem Gr.only {F H : Hp} {p : Addr} {o : HO} (e : Ex F H) (h : H p = none) : Gr F H F (upd H p o) :=
  ⟨Ex.refl F, fun a u ha => by rw [upd_ne (ne_of_none (e a u ha) h)]; exact e a u ha, Ex.new h, fun a h1 h2 => absurd h1 h2⟩
/-- an object that is new since H and not of F' may change -/
theorem Gr.mut {F H F' H' : Hp} {p : Addr} {o : HO} (g : Gr F H F' H') (h : H p = none) (hf : F' p = none) : Gr F H F' (upd H' p o) :=
  ⟨g.fx, Ex.mut g.fh hf, Ex.mut g.hx h, g.fr⟩
/-- and may be taken into F' as it stands -/
theorem Gr.take {F H F' H' : Hp} {p : Addr} {o : HO} (g : Gr F H F' H') (h : H p = none) (hf : F' p = none) (hp : H' p = some o) : Gr F H (upd F' p o) H' :=
  ⟨fun a u ha => by rw [upd_ne (ne_of_none (g.fx a u ha) hf)]; exact g.fx a u ha, fun a u ha => by
    by_cases q : a = p
    · rw [q] at ha ⊢
      rw [upd_same] at ha
      cases ha
      exact hp
    · rw [upd_ne q] at ha
      exact g.fh a u ha, g.hx, fun a h1 h2 => by
    by_cases q : a = p
    · rw [q]; exact h
    · rw [upd_ne q] at h2
      exact g.fr a h1 h2⟩
def uni (F1 F' : Hp) : Hp := fun a => match F1 a with | some o => some o | none => F' a
theorem ex_uni1 (F1 F' : Hp) : Ex F1 (uni F1 F') := fun a o h => by unfold uni; rw [h]
theorem ex_uni2 {F1 F' H : Hp} (e1 : Ex F1 H) (e2 : Ex F' H) : Ex F' (uni F1 F') := fun a o h => by
  unfold uni
  cases q : F1 a with
  | none => exact h
  | some u =>
    have := e1 a u q
    rw [e2 a o h] at this
    exact congrArg some (Option.some.inj this).symm
theorem uni_ex {F1 F' H : Hp} (e1 : Ex F1 H) (e2 : Ex F' H) : Ex (uni F1 F') H := fun a o h => by
  unfold uni at h
  cases q : F1 a with
  | none => rw [q] at h; exact e2 a o h
  | some u => rw [q] at h; cases h; exact e1 a _ q
theorem Gr.weak {F F1 H F' H' : Hp} (e : Ex F F1) (e1 : Ex F1 H) (g : Gr F H F' H') : Gr F1 H (uni F1 F') H' :=
  ⟨ex_uni1 _ _, uni_ex (e1.trans g.hx) g.fh, g.hx, fun a h1 h2 => by
    unfold uni at h2
    rw [h1] at h2
    cases q : F a with
    | none => exact g.fr a q h2
    | some o => rw [e a o q] at h1; cases h1⟩
theorem Gr.keep {F H F' H' : Hp} {p : Addr} {o : HO} (g : Gr F H F' H') (h : H p = some o) (hf : F p = none) : H' p = some o ∧ F' p = none :=
  ⟨g.hx p o h, by
    cases q : F' p with
    | none => rfl
    | some u =>
      have := g.fr p hf (by rw [q]; exact fun z => nomatch z)
      rw [h] at this
      cases this⟩
section
variable {K : PySem.W.Frag} {σ : L2.St} {F F1 H H1 : Hp}
mutual
theorem dp_ex (e : Ex F F1) : ∀ {d : PyData} {v : V}, Dp K F v d → Dp K F1 v d
  | .none, _, h => by cases h; exact .non
  | .bool b, _, h => by cases h; exact .bl b
  | .int i, _, h => by cases h; exact .int i
  | .str x, _, h => by cases h; exact .str x
  | .list ds, _, h => by
    cases h with
    | lst hs ha => exact .lst (ex_l e hs) (dps_ex e ha)
  | .tuple ds, _, h => by
    cases h with
    | tup hs ha => exact .tup (ex_t e hs) (dps_ex e ha)
  | .dict _, _, h => by cases h
theorem dps_ex (e : Ex F F1) : ∀ {ds : List PyData} {vs : List V}, DpAll K F vs ds → DpAll K F1 vs ds
  | [], _, h => by cases h; exact .nil
  | d :: ds, _, h => by
    cases h with
    | cons h1 h2 => exact .cons (dp_ex e h1) (dps_ex e h2)
end
theorem dps_len : ∀ {ds : List PyData} {vs : List V}, DpAll K F vs ds → vs.length = ds.length
  | [], _, h => by cases h; rfl
  | d :: ds, _, h => by
    cases h with
    | cons h1 h2 => rw [List.length_cons, List.length_cons, dps_len h2]
theorem dps_at : ∀ {ds : List PyData} {vs : List V} {i : Nat} {d : PyData}, DpAll K F vs ds → ds[i]? = some d → ∃ v, vs[i]? = some v ∧ Dp K F v d
  | [], _, _, _, _, e => by cases e
  | d :: ds, _, i, _, h, e => by
    cases h with
    | cons h1 h2 =>
      cases i with
      | zero => cases e; exact ⟨_, rfl, h1⟩
      | succ i => exact dps_at (i := i) h2 e
theorem dps_app : ∀ {ds es : List PyData} {vs ws : List V}, DpAll K F vs ds → DpAll K F ws es → DpAll K F (vs ++ ws) (ds ++ es)
  | [], _, _, _, h, h' => by cases h; exact h'
  | d :: ds, _, _, _, h, h' => by
    cases h with
    | cons h1 h2 => exact .cons h1 (dps_app h2 h')

/-! ### what evaluates to what -/
variable (K) in
def EvD (te : TE) (σ : L2.St) (F : Hp) (d : PyData) : Prop := ∀ H, Ex F H → ∀ Q : VK, (∀ v F' H', Gr F H F' H' → Dp K F' v d → Q v H') → te σ H Q
variable (K) in
/-- a new list, not yet of F' -/
def EvL (te : TE) (σ : L2.St) (F : Hp) (ds : List PyData) : Prop := ∀ H, Ex F H → ∀ Q : VK, (∀ p vs F' H', Gr F H F' H' → H p = none → F' p = none → H' p = some (.lst vs) → DpAll K F' vs ds → Q (.ref p) H') → te σ H Q
def EtD (tt : TT) (σ : L2.St) (F : Hp) (b : Bool) : Prop := ∀ H, Ex F H → ∀ Q : Bool → Hp → Prop, (∀ F' H', Gr F H F' H' → Q b H') → tt σ H Q
variable (K) in
def EaD (ta : TA) (σ : L2.St) (F : Hp) (ds : List PyData) : Prop := ∀ H, Ex F H → ∀ Q : List V → Hp → Prop, (∀ vs F' H', Gr F H F' H' → DpAll K F' vs ds → Q vs H') → ta σ H Q
def EoD (to : TO) (σ : L2.St) (F : Hp) (o : Option Int) : Prop := ∀ H, Ex F H → ∀ Q : Option Int → Hp → Prop, (∀ F' H', Gr F H F' H' → Q o H') → to σ H Q
variable {te ta tb : TE} {d a b : PyData} {ds : List PyData}
theorem EvD.mono (e : Ex F F1) (h : EvD K te σ F d) : EvD K te σ F1 d := fun H eH Q q => h H (e.trans eH) Q fun v F' H' g hv => q v _ H' (g.weak e eH) (dp_ex (ex_uni2 (eH.trans g.hx) g.fh) hv)
theorem EtD.mono {tt : TT} {b : Bool} (e : Ex F F1) (h : EtD tt σ F b) : EtD tt σ F1 b := fun H eH Q q => h H (e.trans eH) Q fun F' H' g => q _ H' (g.weak e eH)
theorem EoD.mono {tt : TO} {b : Option Int} (e : Ex F F1) (h : EoD tt σ F b) : EoD tt σ F1 b := fun H eH Q q => h H (e.trans eH) Q fun F' H' g => q _ H' (g.weak e eH)
theorem EaD.mono {ta : TA} (e : Ex F F1) (h : EaD K ta σ F ds) : EaD K ta σ F1 ds := fun H eH Q q => h H (e.trans eH) Q fun v F' H' g hv => q v _ H' (g.weak e eH) (dps_ex (ex_uni2 (eH.trans g.hx) g.fh) hv)
theorem EvL.mono (e : Ex F F1) (h : EvL K te σ F ds) : EvL K te σ F1 ds := fun H eH Q q => h H (e.trans eH) Q fun p vs F' H' g h1 h2 h3 h4 => q p vs _ H' (g.weak e eH) h1 (by
  unfold uni
  rw [ex_none eH h1]
  exact h2) h3 (dps_ex (ex_uni2 (eH.trans g.hx) g.fh) h4)
theorem EvL.ev (h : EvL K te σ F ds) : EvD K te σ F (.list ds) := fun H eH Q q => h H eH Q fun p vs F' H' g h1 h2 h3 h4 =>
  q _ _ _ (g.take h1 h2 h3) (.lst (sq_of upd_same) (dps_ex (Ex.new h2) h4))
theorem ev_var {i : Nat} {v : V} (h : σ[i]? = some (some v)) (hv : Dp K F v d) : EvD K (tVar i) σ F d := fun H eH Q q => ⟨v, h, q v F H (Gr.refl eH) hv⟩
theorem ev_c {v : V} (hv : Dp K F v d) : EvD K (tC v) σ F d := fun H eH Q q => q v F H (Gr.refl eH) hv
theorem ev_op {r : R2} (ha : EvD K ta σ F a) (hb : EvD K tb σ F b)
    (hr : ∀ v u F1 H1, Ex F F1 → Ex F1 H1 → Dp K F1 v a → Dp K F1 u b → ∀ Q : VK, (∀ x F' H', Gr F1 H1 F' H' → Dp K F' x d → Q x H') → r v u H1 Q) : EvD K (tOp r ta tb) σ F d := fun H eH Q q =>
  ha H eH _ fun v F1 H1 g1 hv => (hb.mono g1.fx) H1 g1.fh _ fun u F2 H2 g2 hu => hr v u F2 H2 (g1.fx.trans g2.fx) g2.fh (dp_ex g2.fx hv) hu Q fun x F' H' g3 hx => q x F' H' (g1.trans (g2.trans g3)) hx
theorem ev_un {r : V → Hp → VK → Prop} (ha : EvD K ta σ F a)
    (hr : ∀ v F1 H1, Ex F F1 → Ex F1 H1 → Dp K F1 v a → ∀ Q : VK, (∀ x F' H', Gr F1 H1 F' H' → Dp K F' x d → Q x H') → r v H1 Q) : EvD K (tUn r ta) σ F d := fun H eH Q q =>
  ha H eH _ fun v F1 H1 g1 hv => hr v F1 H1 g1.fx g1.fh hv Q fun x F' H' g3 hx => q x F' H' (g1.trans g3) hx
theorem ea_nil : EaD K tNil σ F [] := fun H eH Q q => q [] F H (Gr.refl eH) .nil
theorem ea_cons {tr : TA} (ha : EvD K ta σ F a) (hr : EaD K tr σ F ds) : EaD K (tCons ta tr) σ F (a :: ds) := fun H eH Q q =>
  ha H eH _ fun v F1 H1 g1 hv => (hr.mono g1.fx) H1 g1.fh _ fun vs F2 H2 g2 hvs => q _ F2 H2 (g1.trans g2) (.cons (dp_ex g2.fx hv) hvs)
theorem ev_tup {ta : TA} (h : EaD K ta σ F ds) (hl : ds.length ≤ 100000) : EvD K (tTup ta) σ F (.tuple ds) := fun H eH Q q =>
  h H eH _ fun vs F1 H1 g1 hv => ⟨by rw [dps_len hv]; exact sz_of hl, fun p hp => q _ _ _ (g1.trans (Gr.new g1.fh hp)) (.tup (st_of upd_same) (dps_ex (Ex.new (ex_none g1.fh hp)) hv))⟩
theorem el_lst {ta : TA} (h : EaD K ta σ F ds) (hl : ds.length ≤ 100000) : EvL K (tLst ta) σ F ds := fun H eH Q q =>
  h H eH _ fun vs F1 H1 g1 hv => ⟨by rw [dps_len hv]; exact sz_of hl, fun p hp => q p vs F1 _ (g1.trans (Gr.only g1.fh hp)) (ex_none g1.hx hp) (ex_none g1.fh hp) upd_same hv⟩
theorem eo_none : EoD tNoPart σ F none := fun H eH Q q => q F H (Gr.refl eH)
theorem eo_some {i : Int} (h : EvD K te σ F (.int i)) : EoD (tPart te) σ F (some i) := fun H eH Q q => h H eH _ fun v F1 H1 g1 hv => by
  cases hv
  exact ⟨i, rfl, q F1 H1 g1⟩
end
end Dv

set_option Elab.async false
set_option linter.all false
set_option maxRecDepth 100000
set_option maxHeartbeats 4000000
namespace Dv
open PySem L2 Evl
section
variable {K : PySem.W.Frag} {σ : L2.St} {F F1 H H1 : Hp} {te ta tb : TE} {d a b : PyData} {ds es : List PyData} {i j : Int} {tt tu : TT} {p q : Bool}
/-! ### numbers -/
theorem ev_int (i : Int) : EvD K (tC (.int i)) σ F (.int i) := ev_c (.int i)
theorem ev_str (x : Str) : EvD K (tC (.str x)) σ F (.str x) := ev_c (.str x)
theorem ev_bl (b : Bool) : EvD K (tC (.bl b)) σ F (.bool b) := ev_c (.bl b)
theorem ev_non : EvD K (tC .non) σ F .none := ev_c .non
theorem ev_I0 {g : Int → Int → V} {k : PyData} (hk : ∀ F, Dp K F (g i j) k) (ha : EvD K ta σ F (.int i)) (hb : EvD K tb σ F (.int j)) : EvD K (tOp (rI0 g) ta tb) σ F k :=
  ev_op ha hb fun v u F1 H1 _ e hv hu Q q => by
    cases hv
    cases hu
    exact ⟨i, j, rfl, rfl, q _ F1 H1 (Gr.refl e) (hk F1)⟩
theorem ev_I {C : Int → Int → Prop} {g : Int → Int → V} {k : PyData} (hc : C i j) (hk : ∀ F, Dp K F (g i j) k) (ha : EvD K ta σ F (.int i)) (hb : EvD K tb σ F (.int j)) : EvD K (tOp (rI C g) ta tb) σ F k :=
  ev_op ha hb fun v u F1 H1 _ e hv hu Q q => by
    cases hv
    cases hu
    exact ⟨i, j, rfl, rfl, hc, q _ F1 H1 (Gr.refl e) (hk F1)⟩
theorem ev_U {g : Int → V} {k : PyData} (hk : ∀ F, Dp K F (g i) k) (ha : EvD K ta σ F (.int i)) : EvD K (tUn (rU g) ta) σ F k :=
  ev_un ha fun v F1 H1 _ e hv Q q => by
    cases hv
    exact ⟨i, rfl, q _ F1 H1 (Gr.refl e) (hk F1)⟩
theorem ev_eqI (ha : EvD K ta σ F (.int i)) (hb : EvD K tb σ F (.int j)) : EvD K (tOp rEq ta tb) σ F (.bool (i == j)) :=
  ev_op ha hb fun v u F1 H1 _ e hv hu Q q => by
    cases hv
    cases hu
    refine ⟨rfl, q _ F1 H1 (Gr.refl e) ?_⟩
    rw [dec_int]
    exact .bl _
theorem ev_neI (ha : EvD K ta σ F (.int i)) (hb : EvD K tb σ F (.int j)) : EvD K (tOp rNe ta tb) σ F (.bool (i != j)) :=
  ev_op ha hb fun v u F1 H1 _ e hv hu Q q => by
    cases hv
    cases hu
    refine ⟨rfl, q _ F1 H1 (Gr.refl e) ?_⟩
    rw [dec_int]
    exact .bl _
/-! ### tests -/
theorem et_test (h : EvD K te σ F (.bool p)) : EtD (tTest te) σ F p := fun H e Q q => h H e _ fun v F' H' g hv => by
  cases hv
  exact ⟨p, rfl, q F' H' g⟩
theorem et_B (h : EvD K te σ F (.bool p)) : EtD (tB te) σ F p := fun H e Q q => h H e _ fun v F' H' g hv => by
  cases hv
  exact ⟨p, rfl, q F' H' g⟩
theorem et_and (h1 : EtD tt σ F p) (h2 : p = true → EtD tu σ F q) : EtD (tAnd tt tu) σ F (p && q) := fun H e Q k => h1 H e _ fun F1 H1 g1 => by
  cases p with
  | true =>
    show tu σ H1 Q
    exact ((h2 rfl).mono g1.fx) H1 g1.fh Q fun F2 H2 g2 => k F2 H2 (g1.trans g2)
  | false =>
    show Q false H1
    exact k F1 H1 g1
theorem et_or (h1 : EtD tt σ F p) (h2 : p = false → EtD tu σ F q) : EtD (tOr tt tu) σ F (p || q) := fun H e Q k => h1 H e _ fun F1 H1 g1 => by
  cases p with
  | true =>
    show Q true H1
    exact k F1 H1 g1
  | false =>
    show tu σ H1 Q
    exact ((h2 rfl).mono g1.fx) H1 g1.fh Q fun F2 H2 g2 => k F2 H2 (g1.trans g2)
theorem et_not (h : EtD tt σ F p) : EtD (tNot tt) σ F (!p) := fun H e Q k => h H e _ fun F1 H1 g1 => k F1 H1 g1
theorem et_is (h : EtD tt σ F p) (e : p = q) : EtD tt σ F q := e ▸ h
theorem ev_is (h : EvD K te σ F a) (e : a = b) : EvD K te σ F b := e ▸ h
theorem el_is (h : EvL K te σ F ds) (e : ds = es) : EvL K te σ F es := e ▸ h
theorem ev_andV (h1 : EvD K ta σ F (.bool p)) (h2 : p = true → EvD K tb σ F (.bool q)) : EvD K (tAndV ta tb) σ F (.bool (p && q)) := fun H e Q k => h1 H e _ fun v F1 H1 g1 hv => by
  cases hv
  refine ⟨p, rfl, ?_⟩
  cases p with
  | true =>
    show tb σ H1 Q
    exact ((h2 rfl).mono g1.fx) H1 g1.fh Q fun v F2 H2 g2 hv => k v F2 H2 (g1.trans g2) hv
  | false =>
    show Q (.bl false) H1
    exact k _ F1 H1 g1 (.bl _)
theorem ev_orV (h1 : EvD K ta σ F (.bool p)) (h2 : p = false → EvD K tb σ F (.bool q)) : EvD K (tOrV ta tb) σ F (.bool (p || q)) := fun H e Q k => h1 H e _ fun v F1 H1 g1 hv => by
  cases hv
  refine ⟨p, rfl, ?_⟩
  cases p with
  | true =>
    show Q (.bl true) H1
    exact k _ F1 H1 g1 (.bl _)
  | false =>
    show tb σ H1 Q
    exact ((h2 rfl).mono g1.fx) H1 g1.fh Q fun v F2 H2 g2 hv => k v F2 H2 (g1.trans g2) hv
theorem ev_notV (h1 : EvD K ta σ F (.bool p)) : EvD K (tNotV ta) σ F (.bool (!p)) := fun H e Q k => h1 H e _ fun v F1 H1 g1 hv => by
  cases hv
  exact ⟨p, rfl, k _ F1 H1 g1 (.bl _)⟩
theorem ev_if (h : EtD tt σ F p) (h1 : p = true → EvD K ta σ F d) (h2 : p = false → EvD K tb σ F d) : EvD K (tIf tt ta tb) σ F d := fun H e Q k => h H e _ fun F1 H1 g1 => by
  cases p with
  | true =>
    show ta σ H1 Q
    exact ((h1 rfl).mono g1.fx) H1 g1.fh Q fun v F2 H2 g2 hv => k v F2 H2 (g1.trans g2) hv
  | false =>
    show tb σ H1 Q
    exact ((h2 rfl).mono g1.fx) H1 g1.fh Q fun v F2 H2 g2 hv => k v F2 H2 (g1.trans g2) hv
/-! ### sequences -/
theorem dps_atI {vs : List V} (h : DpAll K F vs ds) (e : atI ds i = some d) : ∃ v, atI vs i = some v ∧ Dp K F v d := by
  unfold atI at e ⊢
  rw [dps_len h]
  cases q : ixN ds.length i with
  | none => rw [q] at e; cases e
  | some j =>
    rw [q] at e
    exact dps_at h e
theorem ev_ixL (ha : EvD K ta σ F (.list ds)) (hb : EvD K tb σ F (.int i)) (e : atI ds i = some d) : EvD K (tOp (rIxL K) ta tb) σ F d :=
  ev_op ha hb fun v u F1 H1 _ eH hv hu Q q => by
    cases hv with
    | lst hs hd =>
      cases hu
      obtain ⟨v, hv, hd⟩ := dps_atI hd e
      exact ⟨_, _, i, v, rfl, rfl, ex_l eH hs, hv, q v F1 H1 (Gr.refl eH) hd⟩
theorem ev_ixT (ha : EvD K ta σ F (.tuple ds)) (hb : EvD K tb σ F (.int i)) (e : atI ds i = some d) : EvD K (tOp (rIxT K) ta tb) σ F d :=
  ev_op ha hb fun v u F1 H1 _ eH hv hu Q q => by
    cases hv with
    | tup hs hd =>
      cases hu
      obtain ⟨v, hv, hd⟩ := dps_atI hd e
      exact ⟨_, _, i, v, rfl, rfl, ex_t eH hs, hv, q v F1 H1 (Gr.refl eH) hd⟩
theorem ev_ix (ha : EvD K ta σ F a) (hb : EvD K tb σ F (.int i)) (h : ∃ ds, (a = .list ds ∨ a = .tuple ds) ∧ atI ds i = some d) : EvD K (tOp (rIx K) ta tb) σ F d :=
  ev_op ha hb fun v u F1 H1 _ eH hv hu Q q => by
    obtain ⟨ds, rfl | rfl, e⟩ := h
    · cases hv with
      | lst hs hd =>
        cases hu
        obtain ⟨v, hv, hd⟩ := dps_atI hd e
        exact .inl ⟨_, _, i, v, rfl, rfl, ex_l eH hs, hv, q v F1 H1 (Gr.refl eH) hd⟩
    · cases hv with
      | tup hs hd =>
        cases hu
        obtain ⟨v, hv, hd⟩ := dps_atI hd e
        exact .inr (.inl ⟨_, _, i, v, rfl, rfl, ex_t eH hs, hv, q v F1 H1 (Gr.refl eH) hd⟩)
theorem ev_ixS {x : Str} {c : Nat} (ha : EvD K ta σ F (.str x)) (hb : EvD K tb σ F (.int i)) (hz : x.length ≤ 100000) (e : atI x.cps.toList i = some c) : EvD K (tOp rIxS ta tb) σ F (.str ⟨#[c]⟩) :=
  ev_op ha hb fun v u F1 H1 _ eH hv hu Q q => by
    cases hv
    cases hu
    exact ⟨x, i, c, rfl, rfl, sz_of hz, e, q _ F1 H1 (Gr.refl eH) (.str _)⟩
/-- == of data -/
theorem ev_eqD (ha : EvD K ta σ F a) (hb : EvD K tb σ F b) (sa : SeqAt.shaped a = true) (sb : SeqAt.shaped b = true) : EvD K (tOp (rEqD K) ta tb) σ F (.bool (PyData.eqv a b)) :=
  ev_op ha hb fun v u F1 H1 _ eH hv hu Q q => ⟨a, b, dp_ex eH hv, dp_ex eH hu, sa, sb, q _ F1 H1 (Gr.refl eH) (.bl _)⟩
theorem ev_neD (ha : EvD K ta σ F a) (hb : EvD K tb σ F b) (sa : SeqAt.shaped a = true) (sb : SeqAt.shaped b = true) : EvD K (tOp (rNeD K) ta tb) σ F (.bool (!PyData.eqv a b)) :=
  ev_op ha hb fun v u F1 H1 _ eH hv hu Q q => ⟨a, b, dp_ex eH hv, dp_ex eH hu, sa, sb, q _ F1 H1 (Gr.refl eH) (.bl _)⟩
theorem ev_isN (ha : EvD K ta σ F a) : EvD K (tIsN ta) σ F (.bool (match a with | .none => true | _ => false)) := fun H e Q k => ha H e _ fun v F1 H1 g1 hv => by
  refine k _ F1 H1 g1 ?_
  cases hv <;> exact .bl _
theorem ev_notN (ha : EvD K ta σ F a) : EvD K (tNotN ta) σ F (.bool (match a with | .none => false | _ => true)) := fun H e Q k => ha H e _ fun v F1 H1 g1 hv => by
  refine k _ F1 H1 g1 ?_
  cases hv <;> exact .bl _
/-! ### built-in calls -/
theorem ev_cb {r : List V → Hp → VK → Prop} {tas : TA} (h : EaD K tas σ F ds)
    (hr : ∀ vs F1 H1, Ex F F1 → Ex F1 H1 → DpAll K F1 vs ds → ∀ Q : VK, (∀ x F' H', Gr F1 H1 F' H' → Dp K F' x d → Q x H') → r vs H1 Q) : EvD K (tCB r tas) σ F d := fun H eH Q q =>
  h H eH _ fun vs F1 H1 g1 hv => hr vs F1 H1 g1.fx g1.fh hv Q fun x F' H' g3 hx => q x F' H' (g1.trans g3) hx
theorem ev_call {sp : Sp} {dvs : List V} {E : XK} {tas : TA} (h : EaD K tas σ F ds)
    (hr : ∀ vs F1 H1, Ex F F1 → Ex F1 H1 → DpAll K F1 vs ds → ∀ Q : VK, (∀ x F' H', Gr F1 H1 F' H' → Dp K F' x d → Q x H') → sp (vs ++ dvs) H1 Q E) : EvD K (tCall sp dvs E tas) σ F d := fun H eH Q q =>
  h H eH _ fun vs F1 H1 g1 hv => hr vs F1 H1 g1.fx g1.fh hv Q fun x F' H' g3 hx => q x F' H' (g1.trans g3) hx
/-- a def that answers data to data: told by f where the arguments are as pre says -/
def spD (K : PySem.W.Frag) (f : List PyData → PyData → Prop) : Sp := fun vs H Q _ => ∃ F ds d, Ex F H ∧ DpAll K F vs ds ∧ f ds d ∧ ∀ v F' H', Gr F H F' H' → Dp K F' v d → Q v H'
theorem ev_callD {f : List PyData → PyData → Prop} {E : XK} {tas : TA} (h : EaD K tas σ F ds) (hf : f ds d) : EvD K (tCall (spD K f) [] E tas) σ F d :=
  ev_call h fun vs F1 H1 _ e hv Q q => ⟨F1, ds, d, e, by rw [List.append_nil]; exact hv, hf, q⟩
/-- one that makes a new list -/
def spN (K : PySem.W.Frag) (f : List PyData → List PyData → Prop) : Sp := fun vs H Q _ => ∃ F ds es, Ex F H ∧ DpAll K F vs ds ∧ f ds es ∧ ∀ p ws F' H', Gr F H F' H' → H p = none → F' p = none → H' p = some (.lst ws) → DpAll K F' ws es → Q (.ref p) H'
theorem el_callN {f : List PyData → List PyData → Prop} {E : XK} {tas : TA} (h : EaD K tas σ F ds) (hf : f ds es) : EvL K (tCall (spN K f) [] E tas) σ F es := fun H eH Q q =>
  h H eH _ fun vs F1 H1 g1 hv => ⟨F1, ds, es, g1.fh, by rw [List.append_nil]; exact hv, hf, fun p ws F' H' g2 h1 h2 h3 h4 => q p ws F' H' (g1.trans g2) (ex_none g1.hx h1) h2 h3 h4⟩
/-! ### walks -/
variable (K) in
def WD (J : It) (F : Hp) (ds : List PyData) : Prop := ∃ G Y, Walk J ds.length G Y ∧ (∀ H, Ex F H → G H) ∧ ∀ F1 i H x H', i < ds.length → Ex F F1 → Ex F1 H → Y i H x H' → ∃ F2 d, ds[i]? = some d ∧ Gr F1 H F2 H' ∧ Dp K F2 x d
variable (K) in
def ItD (wi : TI) (σ : L2.St) (F : Hp) (ds : List PyData) : Prop := ∀ H, Ex F H → ∀ R : It → Hp → Prop, (∀ J F' H', Gr F H F' H' → WD K J F' ds → R J H') → wi σ H R
/-- a target: what it sets of a datum -/
theorem lc_rule {α : Type} {wi : TI} {g : TG} {vs : List Nat} (xs : List α) (enc h : α → PyData) (f : α → Bool) (hi : ItD K wi σ F (xs.map enc)) (hz : xs.length ≤ 40000)
    (hb : ∀ x, x ∈ xs → ∀ v F1, Ex F F1 → Dp K F1 v (enc x) → ∃ σ2, (∀ H, Ex F1 H → ∀ Q : L2.St → Hp → Prop, Q σ2 H → g v (wipe σ vs) H Q) ∧ wipe σ2 vs = wipe σ vs ∧ EtD tt σ2 F1 (f x) ∧ (f x = true → EvD K te σ2 F1 (h x))) :
    EvL K (tLc wi g tt te vs) σ F ((xs.filter f).map h) := fun H eH Q q => hi H eH _ fun J F1 H1 g1 wd => by
  obtain ⟨G, Y, W, hG, hY⟩ := wd
  rw [List.length_map] at W
  intro D hD
  have fD : F1 D = none := ex_none g1.fh hD
  refine lc_it W (Pv := fun i H' => ∃ F' ws, Gr F1 H1 F' H' ∧ F' D = none ∧ H' D = some (.lst ws) ∧ DpAll K F' ws (((xs.take i).filter f).map h)) ⟨F1, [], Gr.only g1.fh hD, fD, upd_same, by rw [List.take_zero]; exact .nil⟩
    (fun i H' _ p => ?_) (fun i v H2 H3 hin p y => ?_) (fun H' p => ?_)
  · obtain ⟨F', ws, g, _⟩ := p
    exact hG _ (g.fx.trans g.fh)
  · obtain ⟨F2, ws, g2, f2, h2, hw⟩ := p
    obtain ⟨F3, d, hd, g3, hv⟩ := hY F2 i H2 v H3 (by rw [List.length_map]; exact hin) g2.fx g2.fh y
    rw [List.getElem?_map, List.getElem?_eq_getElem hin] at hd
    cases hd
    have hx : xs[i] ∈ xs := List.getElem_mem hin
    obtain ⟨σ2, hg, hwp, ht, he⟩ := hb xs[i] hx v F3 (g1.fx.trans (g2.fx.trans g3.fx)) hv
    refine hg H3 g3.fh _ ⟨hwp, ht H3 g3.fh _ fun F4 H4 g4 => ?_⟩
    have k3 := (g3.trans g4).keep h2 f2
    have tk : (xs.take (i + 1)) = xs.take i ++ [xs[i]] := List.take_succ_eq_append_getElem hin
    have wl : ws.length ≤ 40000 := by
      rw [dps_len hw, List.length_map]
      have := List.length_filter_le f (xs.take i)
      rw [List.length_take] at this
      omega
    cases hf : f xs[i] with
    | true =>
      show te σ2 H4 _
      refine ((he hf).mono g4.fx) H4 g4.fh _ fun v' F5 H5 g5 hv' => ?_
      have k5 := g5.keep k3.1 k3.2
      refine ⟨ws, k5.1, sz_lt (by omega), F5, ws ++ [v'], (g2.trans ((g3.trans g4).trans g5)).mut hD k5.2, k5.2, upd_same, ?_⟩
      rw [tk, List.filter_append, List.map_append, List.filter_cons, if_pos hf]
      exact dps_app (dps_ex ((g3.fx.trans g4.fx).trans g5.fx) hw) (.cons hv' .nil)
    | false =>
      show ∃ F' ws, _
      refine ⟨F4, ws, g2.trans (g3.trans g4), k3.2, k3.1, ?_⟩
      rw [tk, List.filter_append, List.map_append, List.filter_cons, if_neg (by rw [hf]; decide)]
      show DpAll K F4 ws (_ ++ [])
      rw [List.append_nil]
      exact dps_ex (g3.fx.trans g4.fx) hw
  · obtain ⟨F', ws, g, fd, hd, hw⟩ := p
    rw [List.take_length] at hw
    exact q D ws F' H' (g1.trans g) (ex_none g1.hx hD) fd hd hw
end
end Dv

set_option Elab.async false
set_option linter.all false
set_option maxRecDepth 100000
set_option maxHeartbeats 4000000
namespace Dv
open PySem L2 Evl
section
variable {K : PySem.W.Frag} {σ : L2.St} {F F1 H H1 : Hp} {te ta tb : TE} {d a b : PyData} {ds es : List PyData} {i j : Int} {tt tu : TT} {p q : Bool}
/-! ### what is walked -/
theorem dps_get {vs : List V} {i : Nat} {v : V} (h : DpAll K F vs ds) (e : vs[i]? = some v) : ∃ d, ds[i]? = some d ∧ Dp K F v d := by
  have hi : i < ds.length := by
    rw [← dps_len h]
    exact (List.getElem?_eq_some_iff.mp e).1
  obtain ⟨v', h1, h2⟩ := dps_at h (List.getElem?_eq_getElem hi)
  rw [e] at h1
  cases h1
  exact ⟨_, List.getElem?_eq_getElem hi, h2⟩
theorem it_list (h : EvD K te σ F (.list ds)) : ItD K (iList K te) σ F ds := fun H eH R q => h H eH _ fun v F1 H1 g1 hv => by
  cases hv with
  | lst hs hd =>
    rename_i p xs
    refine ⟨p, rfl, ⟨xs, ex_l g1.fh hs⟩, q _ F1 H1 g1 ⟨_, _, by rw [← dps_len hd]; exact walk_list (xs := xs), fun H e => ex_l e hs, fun F2 i H2 x H3 _ e1 e2 y => ?_⟩⟩
    obtain ⟨rfl, hx⟩ := y
    obtain ⟨d, h1, h2⟩ := dps_get hd hx
    exact ⟨F2, d, h1, Gr.refl e2, dp_ex e1 h2⟩
theorem it_tup (h : EvD K te σ F (.tuple ds)) : ItD K (iTup K te) σ F ds := fun H eH R q => h H eH _ fun v F1 H1 g1 hv => by
  cases hv with
  | tup hs hd =>
    rename_i p xs
    refine ⟨p, rfl, ⟨xs, ex_t g1.fh hs⟩, q _ F1 H1 g1 ⟨_, _, by rw [← dps_len hd]; exact walk_tup (xs := xs), fun H e => ex_t e hs, fun F2 i H2 x H3 _ e1 e2 y => ?_⟩⟩
    obtain ⟨rfl, hx⟩ := y
    obtain ⟨d, h1, h2⟩ := dps_get hd hx
    exact ⟨F2, d, h1, Gr.refl e2, dp_ex e1 h2⟩
theorem it_rng1 {tas : TA} {n : Int} (h : EaD K tas σ F [.int n]) (h0 : -100000 ≤ n) (h1 : n ≤ 100000) : ItD K (iRng1 tas) σ F ((List.range n.toNat).map fun i : Nat => PyData.int (i : Int)) := fun H eH R q => h H eH _ fun vs F1 H1 g1 hv => by
  cases hv with
  | cons hv hr =>
    cases hr
    cases hv
    refine ⟨n, rfl, by omega, by omega, q _ F1 H1 g1 ⟨_, _, by rw [List.length_map, List.length_range]; exact walk_range, fun _ _ => trivial, fun F2 i H2 x H3 hi _ e2 y => ?_⟩⟩
    obtain ⟨rfl, rfl⟩ := y
    rw [List.length_map, List.length_range] at hi
    refine ⟨F2, .int (i : Int), by rw [List.getElem?_map, List.getElem?_range hi] <;> rfl, Gr.refl e2, ?_⟩
    show Dp K F2 (.int (0 + (i : Int))) _
    rw [Int.zero_add]
    exact .int _
theorem it_rng2 {tas : TA} {m n : Int} (h : EaD K tas σ F [.int m, .int n]) (h0 : -100000 ≤ m ∧ m ≤ 100000) (h1 : -100000 ≤ n ∧ n ≤ 100000) : ItD K (iRng2 tas) σ F ((List.range (n - m).toNat).map fun i : Nat => PyData.int (m + (i : Int))) := fun H eH R q => h H eH _ fun vs F1 H1 g1 hv => by
  cases hv with
  | cons hv hr =>
    cases hr with
    | cons hu hr =>
      cases hr
      cases hv
      cases hu
      refine ⟨m, n, rfl, by omega, q _ F1 H1 g1 ⟨_, _, by rw [List.length_map, List.length_range]; exact walk_range, fun _ _ => trivial, fun F2 i H2 x H3 hi _ e2 y => ?_⟩⟩
      obtain ⟨rfl, rfl⟩ := y
      rw [List.length_map, List.length_range] at hi
      exact ⟨F2, .int (m + (i : Int)), by rw [List.getElem?_map, List.getElem?_range hi] <;> rfl, Gr.refl e2, .int _⟩
theorem walk_zipS {a b : Addr} {xs ys : List V} (hl : xs.length = ys.length) : Walk (Itzs K a b) xs.length (fun H => SqL K H a xs ∧ SqL K H b ys) (YPair (fun i => xs[i]?) (fun i => ys[i]?)) :=
  ⟨fun i H hi q => ⟨xs, ys, xs[i], ys[i]'(by omega), q.1, q.2, List.getElem?_eq_getElem hi, List.getElem?_eq_getElem (by omega)⟩, fun H q => ⟨xs, ys, q.1, q.2, Nat.le_refl _, by omega⟩, fun i H x H' hi q y => by
    obtain ⟨T, x, y, rfl, hT, rfl, f1, f2⟩ := y
    exact ⟨T, x, y, rfl, hT, rfl, f1 xs q.1, f2 ys q.2⟩⟩
theorem pair_wd {J : It} {n : Nat} {G : Hp → Prop} {xs ys : List V} {ds es : List PyData} (W : Walk J n G (YPair (fun i => xs[i]?) (fun i => ys[i]?))) (hG : ∀ H, Ex F H → G H) (hx : DpAll K F xs ds) (hy : DpAll K F ys es) (hn : n = min ds.length es.length) :
    WD K J F ((ds.zip es).map fun z => .tuple [z.1, z.2]) := by
  refine ⟨G, _, by rw [List.length_map, List.length_zip, ← hn]; exact W, hG, fun F2 i H2 x H3 hi e1 e2 y => ?_⟩
  obtain ⟨T, x, y, rfl, hT, rfl, f1, f2⟩ := y
  obtain ⟨d1, a1, b1⟩ := dps_get hx f1
  obtain ⟨d2, a2, b2⟩ := dps_get hy f2
  refine ⟨_, .tuple [d1, d2], ?_, Gr.new e2 hT, .tup (st_of upd_same) (.cons (dp_ex (e1.trans (Ex.new (ex_none e2 hT))) b1) (.cons (dp_ex (e1.trans (Ex.new (ex_none e2 hT))) b2) .nil))⟩
  have hz : (ds.zip es)[i]? = some (d1, d2) := by
    rw [List.getElem?_zip_eq_some]
    exact ⟨a1, a2⟩
  rw [List.getElem?_map, hz] <;> rfl
theorem it_zipS {tas : TA} (h : EaD K tas σ F [.list ds, .list es]) (hl : ds.length = es.length) : ItD K (iZipS K tas) σ F ((ds.zip es).map fun z => .tuple [z.1, z.2]) := fun H eH R q => h H eH _ fun vs F1 H1 g1 hv => by
  cases hv with
  | cons hv hr =>
    cases hr with
    | cons hu hr =>
      cases hr
      cases hv with
      | lst hs hd =>
        cases hu with
        | lst hs2 hd2 =>
          have l1 := dps_len hd
          have l2 := dps_len hd2
          refine ⟨_, _, _, _, rfl, ex_l g1.fh hs, ex_l g1.fh hs2, q _ F1 H1 g1 (pair_wd (walk_zipS (by omega)) (fun H e => ⟨ex_l e hs, ex_l e hs2⟩) hd hd2 (by omega))⟩
theorem it_zip {tas : TA} (h : EaD K tas σ F [.list ds, .list es]) : ItD K (iZip K tas) σ F ((ds.zip es).map fun z => .tuple [z.1, z.2]) := fun H eH R q => h H eH _ fun vs F1 H1 g1 hv => by
  cases hv with
  | cons hv hr =>
    cases hr with
    | cons hu hr =>
      cases hr
      cases hv with
      | lst hs hd =>
        cases hu with
        | lst hs2 hd2 =>
          have l1 := dps_len hd
          have l2 := dps_len hd2
          refine ⟨_, _, _, _, rfl, ex_l g1.fh hs, ex_l g1.fh hs2, q _ F1 H1 g1 (pair_wd (walk_zip (n := min ds.length es.length) (by omega)) (fun H e => ⟨ex_l e hs, ex_l e hs2⟩) hd hd2 rfl)⟩
theorem it_is {wi : TI} (h : ItD K wi σ F ds) (e : ds = es) : ItD K wi σ F es := e ▸ h
/-! ### targets -/
/-- x1, x2 = a pair -/
theorem tup2 {v : V} (h : Dp K F v (.tuple [a, b])) : ∃ x y, Dp K F x a ∧ Dp K F y b ∧ ∀ (i j : Nat) (σ : L2.St) (H : Hp), Ex F H → ∀ Q : L2.St → Hp → Prop, Q ((σ.set i (some x)).set j (some y)) H → gTup K 2 (gCons (gName i) (gCons (gName j) gNil)) v σ H Q := by
  cases h with
  | tup hs hd =>
    cases hd with
    | cons h1 hr =>
      cases hr with
      | cons h2 hr =>
        cases hr
        exact ⟨_, _, h1, h2, fun i j σ H e Q q => ⟨_, _, rfl, ex_t e hs, rfl, _, _, rfl, _, _, rfl, rfl, q⟩⟩
theorem tup3 {v : V} {c : PyData} (h : Dp K F v (.tuple [a, b, c])) : ∃ x y z, Dp K F x a ∧ Dp K F y b ∧ Dp K F z c ∧
    ∀ (i j k : Nat) (σ : L2.St) (H : Hp), Ex F H → ∀ Q : L2.St → Hp → Prop, Q (((σ.set i (some x)).set j (some y)).set k (some z)) H → gTup K 3 (gCons (gName i) (gCons (gName j) (gCons (gName k) gNil))) v σ H Q := by
  cases h with
  | tup hs hd =>
    cases hd with
    | cons h1 hr =>
      cases hr with
      | cons h2 hr =>
        cases hr with
        | cons h3 hr =>
          cases hr
          exact ⟨_, _, _, h1, h2, h3, fun i j k σ H e Q q => ⟨_, _, rfl, ex_t e hs, rfl, _, _, rfl, _, _, rfl, _, _, rfl, rfl, q⟩⟩
/-! ### statements -/
variable {D : Ends} {ts tw : TS} {g : TG}
theorem s_asg {i : Nat} (h : EvD K te σ F d) (e : Ex F H) (k : ∀ v F' H', Gr F H F' H' → Dp K F' v d → D.nx (σ.set i (some v)) H') : tAsg te (gName i) D σ H := h H e _ fun v F' H' g hv => k v F' H' g hv
theorem s_asgL {i : Nat} (h : EvL K te σ F ds) (e : Ex F H) (k : ∀ p vs F' H', Gr F H F' H' → H p = none → F' p = none → H' p = some (.lst vs) → DpAll K F' vs ds → D.nx (σ.set i (some (.ref p))) H') : tAsg te (gName i) D σ H :=
  h H e _ fun p vs F' H' g h1 h2 h3 h4 => k p vs F' H' g h1 h2 h3 h4
theorem s_ret (h : EvD K te σ F d) (e : Ex F H) (k : ∀ v F' H', Gr F H F' H' → Dp K F' v d → D.rt v H') : tRet te D σ H := h H e _ k
theorem s_retL (h : EvL K te σ F ds) (e : Ex F H) (k : ∀ p vs F' H', Gr F H F' H' → H p = none → F' p = none → H' p = some (.lst vs) → DpAll K F' vs ds → D.rt (.ref p) H') : tRet te D σ H :=
  h H e _ fun p vs F' H' g h1 h2 h3 h4 => k p vs F' H' g h1 h2 h3 h4
theorem s_if (h : EtD tt σ F p) (e : Ex F H) (h1 : p = true → ∀ F' H', Gr F H F' H' → ts D σ H') (h2 : p = false → ∀ F' H', Gr F H F' H' → tw D σ H') : tIfS tt ts tw D σ H := h H e _ fun F' H' g => by
  cases p with
  | true =>
    show ts D σ H'
    exact h1 rfl F' H' g
  | false =>
    show tw D σ H'
    exact h2 rfl F' H' g
theorem s_par {i j : Nat} {tas : TA} (h : EaD K tas σ F [a, b]) (e : Ex F H) (k : ∀ v u F' H', Gr F H F' H' → Dp K F' v a → Dp K F' u b → D.nx ((σ.set i (some v)).set j (some u)) H') : tPar i j tas D σ H := h H e _ fun vs F' H' g hv => by
  cases hv with
  | cons h1 hr =>
    cases hr with
    | cons h2 hr =>
      cases hr
      exact ⟨_, _, rfl, k _ _ F' H' g h1 h2⟩
/-- xs.append(e), xs a list of H alone -/
theorem s_app {l : Addr} {xs : List V} {i : Nat} (hl : H l = some (.lst xs)) (fl : F l = none) (hi : σ[i]? = some (some (.ref l))) (h : EvD K te σ F d) (e : Ex F H) (hz : xs.length < 100000)
    (k : ∀ v F' H', Gr F H F' H' → Dp K F' v d → F' l = none → H' l = some (.lst xs) → D.nx σ (upd H' l (.lst (xs ++ [v])))) : tDrop (tBM K "list" rAppend (tVar i) (tCons te tNil)) D σ H :=
  ⟨_, hi, Or.inl ⟨rfl, xs, sq_of hl⟩, h H e _ fun v F' H' g hv => ⟨l, xs, v, rfl, rfl, (g.keep hl fl).1, sz_lt hz, k v F' H' g hv (g.keep hl fl).2 (g.keep hl fl).1⟩⟩
/-- a for over data: Pv by the turn, the slots, F and H -/
def NxP (Fb : Hp) (Pv : L2.St → Hp → Hp → Prop) : L2.St → Hp → Prop := fun σ H => ∃ F', Ex Fb F' ∧ Ex F' H ∧ Pv σ F' H
theorem s_for {wi : TI} (h : ItD K wi σ F ds) (e : Ex F H) (Pv : Nat → L2.St → Hp → Hp → Prop) (h0 : ∀ F' H', Gr F H F' H' → Pv 0 σ F' H')
    (hs : ∀ Fb, Ex F Fb → ∀ n σ' F' H' v d F2 H2, ds[n]? = some d → Ex Fb F' → Ex F' H' → Pv n σ' F' H' → Gr F' H' F2 H2 → Dp K F2 v d →
      g v σ' H2 fun σ2 H3 => ts { D with nx := NxP Fb (Pv (n + 1)), ct := NxP Fb (Pv (n + 1)), bk := D.nx } σ2 H3)
    (hd : ∀ σ' F' H', Ex F F' → Ex F' H' → Pv ds.length σ' F' H' → D.nx σ' H') : tFor wi g ts D σ H := h H e _ fun J F1 H1 g1 wd => by
  obtain ⟨G, Y, W, hG, hY⟩ := wd
  exact for_it W (fun n => NxP F1 (Pv n)) ⟨F1, Ex.refl _, g1.fh, h0 F1 H1 g1⟩ (fun n σ' H' _ p => by
    obtain ⟨F', e1, e2, p⟩ := p
    exact hG _ (e1.trans e2)) (fun n v σ' H' H2 hn p y => by
    obtain ⟨F', e1, e3, p⟩ := p
    obtain ⟨F2, d, hd, g2, hv⟩ := hY F' n H' v H2 hn e1 e3 y
    exact hs F1 g1.fx n σ' F' H' v d F2 H2 hd e1 e3 p g2 hv) (fun σ' H' p => by
    obtain ⟨F', e1, e2, p⟩ := p
    exact hd σ' F' H' (g1.fx.trans e1) e2 p)
/-- while, by a word that falls -/
theorem s_while (W : Nat → L2.St → Hp → Hp → Prop) (m0 : Nat) (h0 : W m0 σ F H) (e : Ex F H)
    (hs : ∀ m σ' F' H', W m σ' F' H' → Ex F F' → Ex F' H' → ∃ b, EtD tt σ' F' b ∧ (b = true → ∀ F1 H1, Gr F' H' F1 H1 → ∃ N : L2.St → Hp → Prop, (∀ σ2 H2, N σ2 H2 → ∃ m' F2, m' < m ∧ W m' σ2 F2 H2 ∧ Ex F F2 ∧ Ex F2 H2) ∧ ts { D with nx := N, ct := N, bk := D.nx } σ' H1) ∧
      (b = false → ∀ F1 H1, Gr F' H' F1 H1 → D.nx σ' H1)) : tWhile tt ts D σ H :=
  ⟨fun m σ H => ∃ F', W m σ F' H ∧ Ex F F' ∧ Ex F' H, ⟨m0, F, h0, Ex.refl F, e⟩, fun m σ' H' hw => by
    obtain ⟨F', w, e1, e2⟩ := hw
    obtain ⟨b, hb, h1, h2⟩ := hs m σ' F' H' w e1 e2
    refine hb H' e2 _ fun F1 H1 g => ?_
    cases b with
    | true =>
      obtain ⟨N, n1, n2⟩ := h1 rfl F1 H1 g
      exact ⟨N, fun σ2 H2 n => let ⟨m', F2, a, b, c, d⟩ := n1 σ2 H2 n; ⟨m', a, F2, b, c, d⟩, n2⟩
    | false => exact h2 rfl F1 H1 g⟩
end
end Dv

set_option Elab.async false
set_option linter.all false
set_option maxRecDepth 100000
set_option maxHeartbeats 4000000
/-! An own exception over ValueError whose __init__(self, f=None) says super().__init__(f) and self.f = f: made, read, told by isinstance. -/
namespace PySem
namespace Xn
open PySem.W PySem.Calls PyProof.Rows PySem.HandSPX
/-! ### the text of __init__ -/
def iA (fld : Str) (p1 p2 p3 : Pos) : Arguments := { posonlyargs := [], args := [{ arg := "self", annotation := none, pos := p1 }, { arg := fld, annotation := none, pos := p2 }], vararg := none, kwonlyargs := [], kw_defaults := [], kwarg := none, defaults := [.Constant .none 0 p3] }
def iB (fld : Str) (q : Nat → Pos) : List Stmt :=
  [.Expr (.Call (.Attribute (.Call (.Name "super" (q 0)) [] [] (q 1)) "__init__" (q 2)) [.Name fld (q 3)] [] (q 4)) (q 4),
   .Assign [.Attribute (.Name "self" (q 5)) fld (q 6)] (.Name fld (q 7)) (q 8)]
def iS (fld : Str) : Scope := { kind := .function, names := [(PySem.Str.ofString "self", .local), (fld, .local), (PySem.Str.ofString "__class__", .free), (PySem.Str.ofString "super", .globalImplicit)], isGenerator := false, isCoroutine := false, more := [] }
/-- what is asked of the places in the text: closed by rfl where they are written -/
structure TextOk (fld : Str) (q : Nat → Pos) : Prop where
  ev : ∃ pl : Sem Bool, ∀ env : Env, eval (.Call (.Attribute (.Call (.Name "super" (q 0)) [] [] (q 1)) "__init__" (q 2)) [.Name fld (q 3)] [] (q 4)) env = (do
      let ov ← attributeBase (.Call (.Name "super" (q 0)) [] [] (q 1)) "__init__" env (eval (.Call (.Name "super" (q 0)) [] [] (q 1)) env)
      standAt (q 2).atName
      let (f, first) ← holding [ov] (getMethod ov "__init__" pl)
      callWith (q 4) f first (backTo (q 4) (starEach [.Name fld (q 3)] env)) [])
  sw1 : ∀ env : Env, swapsWith (.Call (.Attribute (.Call (.Name "super" (q 0)) [] [] (q 1)) "__init__" (q 2)) [.Name fld (q 3)] [] (q 4)) none (q 4).line env = pure false
  st : ∀ env : Env, starEach [.Name fld (q 3)] env = (false, eval (.Name fld (q 3)) env) :: starEach [] env
  pl : ∀ env : Env, (backTo (q 4) (starEach [] env)).any (·.1) = false
  sw2 : ∀ env : Env, swapsWith (.Name fld (q 7)) (some (.Attribute (.Name "self" (q 5)) fld (q 6))) (q 8).line env = pure false
/-- how its arguments are bound -/
structure BindOk (fld : Str) (fd : FuncData) (da : Addr) : Prop where
  two : ∀ x v : Value, ∃ k, bindArgs fd ⟨[x, v], []⟩ = seqItems? (.ref da) >>= k ∧ k (some #[.none]) = pure [(("self" : Str), x), (fld, v)]
  kw : ∀ x v : Value, ∃ k, bindArgs fd ⟨[x], [(fld, v)]⟩ = seqItems? (.ref da) >>= k ∧ k (some #[.none]) = pure [(("self" : Str), x), (fld, v)]
  one : ∀ x : Value, ∃ k, bindArgs fd ⟨[x], []⟩ = seqItems? (.ref da) >>= k ∧ k (some #[.none]) = pure [(("self" : Str), x), (fld, Value.none)]
/-- what the written part says of the class at C, field fld, its __init__ at fI -/
structure ExT (P : Program) (K : Frag) (mg : Str → Option Value) (cn fld : Str) (C fI : Addr) : Prop where
  gC : mg cn = some (.ref C)
  cls : ∃ nm q N bs bm sn sub ab col dd k0 k1 k2 k3 k5, K.lookup C = some (excClassObj nm q C N bs bm true sn sub ab col dd k0 k1 k2 k3 k5 "ValueError.__new__") ∧ refsVE bm = true ∧ alongIn K "__init__" bm = some (some (.builtin "ValueError.__init__"))
  sa : findIn K (.ref C) "__setattr__" = some (some (.builtin "object.__setattr__"))
  ga : findIn K (.ref C) "__getattribute__" = some (some (.builtin "BaseException.__getattribute__"))
  gg : findIn K (.ref C) "__getattr__" = some none
  noN : findIn K (.ref C) fld = some none
  iC : findIn K (.ref C) "__init__" = some (some (.ref fI))
  tC : typeIn K (.ref fI) = some (.type "function")
  kC : keepIn K (.ref C) = true
  exC : subIn K (.ref C) (.type "BaseException") = some true
  exV : subIn K (.ref C) (.type "ValueError") = some true
  exO : mroIn K C (.ref C) = some true
  tyC : typeIn K (.ref C) = some (.type "type")
  hdC : hasDictIn K C = true
  opq : nsIn K cStatics "thirdparty.any" = some none
  noS : mg "super" = none
  fn : ∃ (oc : Value) (od : Option Addr) (qual : Str) (dV doc pm : Value) (an : Option Addr) (cda cc : Addr) (ct : Value) (osl : Array (Option Value)) (p1 p2 p3 : Pos) (q : Nat → Pos)
    (ccl : Value) (cdd : Option Addr) (vs : Array Value) (ccs : Array (Option Value)) (file : Str) (tf : Tok) (cl : Value) (cld : Option Addr) (csl : Array (Option Value)) (dcl : Value) (ddi : Option Addr) (dn : Nat) (dsl : Array (Option Value)) (da : Addr),
    K.lookup fI = some ⟨oc, od, .func (ksFn "__init__" qual (iA fld p1 p2 p3) (iB fld q) (iS fld) dV .none doc pm an (.ref cda) ct cc), osl⟩ ∧ codeIn K (.ref cda) qual = true ∧
    K.lookup cda = some ⟨ccl, cdd, .fields vs, ccs⟩ ∧ vs[2]? = some (.str file tf) ∧ ((P.main.file : Str) == file) = true ∧
    K.lookup cc = some ⟨cl, cld, .cell (some (.ref C)), csl⟩ ∧ TextOk fld q ∧ BindOk fld (ksFn "__init__" qual (iA fld p1 p2 p3) (iB fld q) (iS fld) dV .none doc pm an (.ref cda) ct cc) da ∧ dV = .ref da ∧ K.lookup da = some ⟨dcl, ddi, .seq #[.none] dn, dsl⟩
  nclash : (fld == ("__debug__" : Str)) = false ∧ ¬ (fld = ("self" : Str)) ∧ ¬ (fld = ("__class__" : Str)) ∧ ¬ (fld = ("super" : Str))
theorem one_size (v : Value) : [v].length ≤ sizeLine := by
  rw [sizeLine_eq]
  exact (by decide : 1 ≤ 16777216)
/-- what __init__ leaves of a fresh exception at x -/
structure InitEnd (h h' : Heap) (x C dx t1 : Addr) (fld : Str) (v : Value) : Prop where
  keep : ∀ b o, b ≠ x → h.get? b = some o → h'.get? b = some o
  obj : h'.get? x = some { cls := .ref C, dict := some dx, data := .fields #[.ref t1, .none, .none, .none, .bool false, .none] }
  dbig : h.objs.size ≤ dx
  dne : dx ≠ x
  ns : h'.Ns1 dx (fun y => if y = fld then some v else none)
/-- a made one -/
structure OwnMade (h h' : Heap) (e C d : Addr) (fld : Str) (v : Value) : Prop where
  keep : ∀ b o, h.get? b = some o → h'.get? b = some o
  new : h.objs.size ≤ e
  obj : ∃ t1, h'.get? e = some { cls := .ref C, dict := some d, data := .fields #[.ref t1, .none, .none, .none, .bool false, .none] }
  dbig : h.objs.size ≤ d
  dne : d ≠ e
  ns : h'.Ns1 d (fun y => if y = fld then some v else none)
/-- the module's names and the built-in ones, by the heap -/
structure Nms (h : Heap) (mg : Str → Option Value) : Prop where
  g : h.Ns mainGlobals mg
  b : ∃ mb, h.Ns builtinsNs mb ∧ ∀ x : Str, x ≠ "__name__" → mb x = bootBuiltins x
theorem Nms.keeps {h h' : Heap} {mg : Str → Option Value} (n : Nms h mg) (k : ∀ b o, h.get? b = some o → h'.get? b = some o) : Nms h' mg :=
  ⟨n.g.keeps k, let ⟨mb, a, b⟩ := n.b; ⟨mb, a.keeps k, b⟩⟩
section
variable {prog : Program} {w : World} {A : Around} {E : Value → Shared → Prop} {R : Result → Shared → Prop} {s : Shared} {K : Frag} {mg : Str → Option Value} {cn fld : Str} {C fI : Addr}
theorem call_mw {h : Heap} {g : Array GenState} {d : Drawn} {t : Nat} {os : OsState} {nm q : Str} {N : Addr} {bs bm : List Value} {hdct : Bool} {sn : List Str} {sub : List Value} {ab : Bool} {col : Option Bool} {dd : Option Addr} {k0 k1 k2 k3 k5 : Option Value} {u e t0 : Addr} {rest : List Value} {Q : Value → Shared → Prop}
    (hC : h.get? C = some (excClassObj nm q C N bs bm hdct sn sub ab col dd k0 k1 k2 k3 k5 "ValueError.__new__")) (he : h.get? e = some (excO C t0)) (hu : h.get? u = some (kxs_mw "ValueError.__init__" e)) (hrest : rest.length ≤ sizeLine)
    (hq : ∀ h' t1, (∀ b o, b ≠ e → h.get? b = some o → h'.get? b = some o) → h'.get? e = some (excO C t1) → Q .none ⟨h', g, d, t, os⟩) :
    wpAny (model prog w) A (call (.ref u) rest) Q E ⟨h, g, d, t, os⟩ := by
  refine wpAny_call (codeAny_of_tree ?_)
  show wpAny _ A.in1 (callAny (.ref u) ⟨rest, []⟩) _ _ _
  simp only [callAny]
  refine wpAny_bind (wpAny_load hu ?_)
  simp only [kxs_mw, show (Value.type "method-wrapper" == Value.type "method" || Value.type "method-wrapper" == Value.type "builtin_function_or_method" || Value.type "method-wrapper" == Value.type "method-wrapper") = true by decide, if_true]
  refine W.KFB.if_so (by decide) ?_
  refine wpAny_bind (check_bound_init F.excBase_ValueError.toExcCallFacts hC he rfl ?_)
  refine wpAny_bind (wpAny_pure (wpAny_pure ?_))
  refine ⟨Code.quiet_builtin _ (by decide +kernel), codeAny_builtin F.excBase_ValueError.initEntry ?_⟩
  rw [Around.under_plainId F.excBase_ValueError.init.plain _]
  wp_walk
  refine hq _ h.objs.size (fun b o hb ho => ?_) ?_
  · rw [Heap.get?_update_other _ _ (Ne.symm hb)]
    exact Heap.get?_push_of_some _ ho
  · rw [Heap.get?_update_self _ (Heap.get?_push_of_some _ he) rfl]
    rfl

theorem kept_but {K : Frag} {h h' : Heap} {x : Addr} (X : K.In h) (hx : K.lookup x = none) (k : ∀ b o, b ≠ x → h.get? b = some o → h'.get? b = some o) : K.In h' := fun a o e =>
  k a o (fun z => by rw [z, hx] at e; cases e) (X a o e)
theorem xn_init (T : ExT prog K mg cn fld C fI) {x t0 : Addr} {v : Value} (X : K.In s.heap) (G : Nms s.heap mg) (hlim : s.heap.NoLimit) (hx : s.heap.get? x = some (excO C t0)) (hnx : K.lookup x = none) (hroom : A.depth < recursionLimit)
    (htop : (prog.main.scope.names.lookup ("super" : Str)).isSome = false)
    {args : Args} (hbind : ∀ fd : FuncData, (∃ o : Obj, K.lookup fI = some o ∧ o.data = .func fd) → BindsTo s fd args [("self", .ref x), (fld, v)])
    (hq : ∀ h' tk dx t1, InitEnd s.heap h' x C dx t1 fld v → R (.ok (.ret .none)) { s with heap := h', toks := tk }) :
    codeAny (model prog w) A (.call (.ref fI) args) R s := by
  obtain ⟨oc, od, qual, dV, doc, pm, an, cda, cc, ct, osl, p1, p2, p3, q, ccl, cdd, vs, ccs, file, tf, cl, cld, csl, dcl, ddi, dn, dsl, da, ho, hcd, hcda, hvs, hfile, hcc, hTx, hBd, hdV, hda⟩ := T.fn
  obtain ⟨pl, hev⟩ := hTx.ev
  obtain ⟨nm, qn, N, bs, bm, sn, sub, ab, col, dd, k0, k1, k2, k3, k5, hC, hbm, hal⟩ := T.cls
  obtain ⟨n1, n2, n3, n4⟩ := T.nclash
  have n2' : ¬ (("self" : Str) = fld) := fun e => n2 e.symm
  have hcl : clsIn K C = some { name := nm, bases := bs, mro := .ref C :: bm, ns := N, qualname := qn, hasDict := true, slotNames := sn, subclasses := sub, abstract := ab, collection := col, hasDel := false } := by unfold clsIn; rw [hC] <;> rfl
  have lkS : (iS fld).names.lookup ("self" : Str) = some .local := by simp [iS, List.lookup]
  have lkF : (iS fld).names.lookup fld = some .local := by
    show List.lookup fld [(PySem.Str.ofString "self", NameKind.local), (fld, .local), (PySem.Str.ofString "__class__", .free), (PySem.Str.ofString "super", .globalImplicit)] = _
    have e : (fld == PySem.Str.ofString "self") = false := by simpa using n2
    rw [List.lookup_cons, e, List.lookup_cons]
    simp
  have lkC : (iS fld).names.lookup ("__class__" : Str) = some .free := by
    show List.lookup (PySem.Str.ofString "__class__") [(PySem.Str.ofString "self", NameKind.local), (fld, .local), (PySem.Str.ofString "__class__", .free), (PySem.Str.ofString "super", .globalImplicit)] = _
    have e : (PySem.Str.ofString "__class__" == PySem.Str.ofString "self") = false := by decide +kernel
    have e2 : (PySem.Str.ofString "__class__" == fld) = false := by simpa using fun e => n3 e.symm
    rw [List.lookup_cons, e, List.lookup_cons, e2, List.lookup_cons]
    simp
  have lkSu : (iS fld).names.lookup ("super" : Str) = some .globalImplicit := by
    show List.lookup (PySem.Str.ofString "super") [(PySem.Str.ofString "self", NameKind.local), (fld, .local), (PySem.Str.ofString "__class__", .free), (PySem.Str.ofString "super", .globalImplicit)] = _
    have e : (PySem.Str.ofString "super" == PySem.Str.ofString "self") = false := by decide +kernel
    have e2 : (PySem.Str.ofString "super" == fld) = false := by simpa using fun e => n4 e.symm
    have e3 : (PySem.Str.ofString "super" == PySem.Str.ofString "__class__") = false := by decide +kernel
    rw [List.lookup_cons, e, List.lookup_cons, e2, List.lookup_cons, e3, List.lookup_cons]
    simp
  have hcellN : ∀ y ∈ (iS fld).names, y.2 ≠ .cell := by
    intro y hy
    rcases List.mem_cons.mp hy with rfl | hy
    · intro z; cases z
    rcases List.mem_cons.mp hy with rfl | hy
    · intro z; cases z
    rcases List.mem_cons.mp hy with rfl | hy
    · intro z; cases z
    rcases List.mem_cons.mp hy with rfl | hy
    · intro z; cases z
    · cases hy
  refine ks_codeAny_call_defAt (fd := ksFn "__init__" qual (iA fld p1 p2 p3) (iB fld q) (iS fld) dV .none doc pm an (.ref cda) ct cc) (body := iB fld q) (binds := [("self", .ref x), (fld, v)]) hroom (X _ _ ho) rfl hlim (codeRec_of X hcd) rfl
    (hbind _ ⟨_, ho, rfl⟩) hcellN (fun y hy => ?_) (fun h₁ hns hk₁ => ?_) rfl rfl rfl
  · rcases List.mem_cons.mp hy with rfl | hy
    · exact lkS
    · rcases List.mem_cons.mp hy with rfl | hy
      · exact lkF
      · cases hy
  have X₁ : K.In h₁ := X.keeps hk₁
  have G₁ : Nms h₁ mg := G.keeps hk₁
  have hx₁ := hk₁ _ _ hx
  have mS : (fun y => ([(("self" : Str), Value.ref x), (fld, v)] : List (Str × Value)).reverse.lookup y) "self" = some (.ref x) := by
    show List.lookup ("self" : Str) [(fld, v), (("self" : Str), Value.ref x)] = _
    have e : (("self" : Str) == fld) = false := by simpa using n2'
    rw [List.lookup_cons, e, List.lookup_cons]
    simp
  have mF : (fun y => ([(("self" : Str), Value.ref x), (fld, v)] : List (Str × Value)).reverse.lookup y) fld = some v := by
    show List.lookup fld [(fld, v), (("self" : Str), Value.ref x)] = _
    rw [List.lookup_cons]
    simp
  have hL : s.heap.objs.size ≠ x := Nat.ne_of_gt (Heap.lt_size hx)
  have hLlt : s.heap.objs.size < h₁.objs.size := hns.lt
  obtain ⟨mb, hb, hbb⟩ := G₁.b
  have hcC₁ := X₁ _ _ hC
  have iV : Looks (model prog w) h₁ (isInstance (.ref x) (.type "ValueError")) true := by
    have I : InstAt h₁ x (excO C t0) C none := ⟨hx₁, rfl, rfl, trivial⟩
    exact I.type.andThen (looks_subIn X₁ T.exV)
  -- super().__init__(value)
  unfold iB
  refine ks_wpAt_execs_cons (ks_wpAt_Expr_any (ks_wpAt_MethodCall (pl := pl) ?_ (hev _)) rfl (hTx.sw1 _))
  refine ks_wpAt_super_base (env := ksEnv qual (iS fld) s.heap.objs.size fI (.ref cda) cc) lkSu lkC rfl rfl (X₁ _ _ ho) rfl rfl rfl (X₁ _ _ hcda) rfl hvs hfile htop ?_
  refine ks_loadName_global rfl lkSu (loadGlobal_builtin (env := ksEnv qual (iS fld) s.heap.objs.size fI (.ref cda) cc) G₁.g T.noS hb ((hbb _ (by decide +kernel)).trans (by first | boot_by_name | rfl | kernel_rfl)) ⟨rfl, ?_⟩)
  refine wpAny_loadName_free rfl lkC rfl ⟨_, X₁ _ _ hcc, rfl⟩ ?_
  refine wpAny_loadName_local rfl lkS hns mS ?_
  refine ks_wpAny_isType_cls hcC₁ rfl ⟨rfl, ?_⟩
  refine ks_wpAny_call_super hcC₁ rfl hx₁ rfl (fun c e => by cases e) (looks_mroIn X₁ T.exO) (fun h₂ e₂ k₂ => ?_)
  have X₂ : K.In h₂ := X₁.keeps k₂
  refine kxs_getMethod kxs_ValueError e₂ (looks_opaque X₂ T.opq) (l₀ := .ref C :: bm) ?_ (l := bm) (by simp [List.dropWhile_cons]) X₂ hal (iV.keeps k₂) ?_ (by decide +kernel) ?_
  · exact fun A Q E s k q => wpAny_bind ((looks_clsIn X₂ hcl) A _ E s k (wpAny_pure q))
  · rintro rfl
    rw [hcC₁] at hx₁
    cases hx₁
  -- the argument, the call
  have hx₂ := k₂ _ _ hx₁
  have k₃ : ∀ b o, h₂.get? b = some o → (h₂.push (kxs_mw "ValueError.__init__" x)).get? b = some o := fun b o e => Heap.get?_push_of_some _ e
  have hu : (h₂.push (kxs_mw "ValueError.__init__" x)).get? h₂.objs.size = some (kxs_mw "ValueError.__init__" x) := Heap.get?_push_at rfl rfl
  have X₃ := X₂.keeps k₃
  show wpAny _ _ (callWith (q 4) (.ref h₂.objs.size) [] (backTo (q 4) (starEach [.Name fld (q 3)] _)) []) _ _ _
  rw [hTx.st]
  refine kxs_callWith (i := "ValueError.__init__") (x := x) (by show (false || (backTo (q 4) (starEach [] _)).any (·.1)) = false; rw [hTx.pl]; rfl) ?_
  refine evalArgs_plain ?_
  refine Calls.spliced_cons ?_
  refine ESX.ldL (v := v) (hns.keeps fun b o e => k₃ b o (k₂ b o e)) mF ?_ rfl lkF n1
  refine Calls.spliced_nil ?_
  refine ⟨hu, ?_⟩
  refine call_mw (X₃ _ _ hC) (k₃ _ _ hx₂) hu (one_size v) fun h₄ t₁ k₄ hx₄ => ?_
  have kk : ∀ b o, b ≠ x → h₁.get? b = some o → h₄.get? b = some o := fun b o hb e => k₄ b o hb (k₃ b o (k₂ b o e))
  have X₄ : K.In h₄ := kept_but X₁ hnx kk
  have hns₄ : h₄.Ns s.heap.objs.size (fun y => ([(("self" : Str), Value.ref x), (fld, v)] : List (Str × Value)).reverse.lookup y) := by
    obtain ⟨o, es, ep, e, r⟩ := hns
    exact ⟨o, es, ep, kk _ _ hL e, r⟩
  refine wpAt_of_wpAny ?_
  show wpAny _ _ (execs [_] _) _ _ _
  refine wpAny_execs_cons (plainObj_wpAny_Assign_Attribute ?_ (hTx.sw2 _))
  refine ESX.ldL (v := v) hns₄ mF (ESX.ldL (v := .ref x) hns₄ mS ?_ rfl lkS (by decide)) rfl lkF n1
  refine set_plain X₄ (ox := excO C t₁) (od := none) ⟨hx₄, rfl, rfl, trivial⟩ T.sa ?_
  refine exc_osa X₄ hx₄ hcl (show refsVE (.ref C :: bm) = true from hbm) rfl T.noN (fun h₅ tk₅ dx k₅ dn dne hx₅ hn₅ => ?_)
  show wpAny _ _ (execs _ _) _ _ _
  have z1 : s.heap.objs.size ≤ h₄.objs.size := Nat.le_of_lt hns₄.lt
  exact wpAny_execs_nil (hq h₅ tk₅ dx t₁ ⟨fun b o hb e => k₅ b o hb (kk b o hb (hk₁ b o e)), hx₅, Nat.le_trans z1 dn, dne, hn₅⟩)
end

/-! ### C(f=v): the call with the field's name -/
section
variable {M : Model} {A : Around} {E : Value → Shared → Prop} {h : Heap} {g : Array GenState} {d : Drawn} {t : Nat} {os : OsState}
variable {nm q : Str} {C N : Addr} {bs bm bmB : List Value} {hdct : Bool} {sn : List Str} {sub : List Value} {ab : Bool} {col : Option Bool} {dd : Option Addr} {k0 k1 k2 k3 k5 : Option Value} {B newId initId : String}
theorem check_new_ownK (F : ExcBaseFacts B newId initId bmB) (hT : ∀ X : String, bm.contains (.type X) = bmB.contains (.type X)) {rest : List Value} {kw : List (Str × Value)} {Q : Unit → Shared → Prop}
    (hC : h.get? C = some (excClassObj nm q C N bs bm hdct sn sub ab col dd k0 k1 k2 k3 k5 newId)) (hq : Q () ⟨h, g, d, t, os⟩) : wpAny M A (checkBuiltinCall newId ⟨.ref C :: rest, kw⟩) Q E ⟨h, g, d, t, os⟩ := by
  have hcont : (Value.ref C :: bm).contains (.type B) = true := by rw [List.contains_cons, hT, F.hasB, Bool.or_true]
  have hstar := F.noStar
  simp only [checkBuiltinCall, F.newKind, F.newSplit, F.newRow]
  repeat (first | refine wpAny_loadPart_at hC ?_ | (refine wpAny_isSubtype_exc hC ?_; rw [hcont]) | refine wpAny_staticBase_exc hC ?_ | refine wpAny_madeBy_exc hC ?_ | simp only [bne_self_eq_false, Bool.false_eq_true, if_false] | wp_step)
  exact hq
end
section
variable {prog : Program} {w : World} {A : Around} {E : Value → Shared → Prop} {R : Result → Shared → Prop} {h : Heap} {g : Array GenState} {d : Drawn} {t : Nat} {os : OsState}
variable {nm q : Str} {C N : Addr} {bs bm bmB : List Value} {hdct : Bool} {sn : List Str} {sub : List Value} {ab : Bool} {col : Option Bool} {dd : Option Addr} {k0 k1 k2 k3 k5 : Option Value} {B newId initId : String}
theorem new_ownK (F : ExcBaseFacts B newId initId bmB) (hT : ∀ X : String, bm.contains (.type X) = bmB.contains (.type X)) {rest : List Value} {kw : List (Str × Value)}
    (hC : h.get? C = some (excClassObj nm q C N bs bm hdct sn sub ab col dd k0 k1 k2 k3 k5 newId))
    (hq : R (.ok (.ret (.ref (h.objs.size + 1)))) ⟨(h.push { cls := .type "tuple", data := .seq rest.toArray }).push
      { cls := .ref C, data := .fields #[.ref h.objs.size, .none, .none, .none, .bool false, .none] }, g, d, t, os⟩) (hrest : rest.length ≤ sizeLine) :
    codeAny (model prog w) A (.builtin newId ⟨.ref C :: rest, kw⟩) R ⟨h, g, d, t, os⟩ := by
  have hends := F.ends
  have hcB : (Value.ref C :: bm).contains (.type B) = true := by rw [List.contains_cons, hT, F.hasB, Bool.or_true]
  have hcA : (Value.ref C :: bm).contains (.type "AttributeError") = false := by rw [List.contains_cons, hT, F.noAttr]; rfl
  have hcN : (Value.ref C :: bm).contains (.type "NameError") = false := by rw [List.contains_cons, hT, F.noName]; rfl
  refine codeAny_builtinAt F.entry ?_
  unfold Builtin.«BaseException.__new__»
  refine wpAt_bind ?_
  show wpAt _ _ _ (stack >>= _) _ _ _
  refine wpAt_bind (wpAt_stack fun p below => wpAt_of_wpAny ?_)
  wp_walk
  refine wpAt_of_wpAny ?_
  rw [F.owner]
  repeat (first | with_reducible refine wpAny_madeHere_exc F.canon hC ?_ | with_reducible refine wpAny_loadPart_at hC ?_ | (with_reducible refine wpAny_isSubtype_exc hC ?_; first | rw [hcB] | rw [hcA] | rw [hcN]) | wp_step)
  show R _ _
  rw [Heap.size_push]
  exact hq
theorem type_call_ownK (F : ExcBaseFacts B newId initId bmB) (hT : ∀ X : String, bm.contains (.type X) = bmB.contains (.type X)) {rest : List Value} {kw : List (Str × Value)} {fI : Addr} {Q : Fin → Shared → Prop}
    (hC : h.get? C = some (excClassObj nm q C N bs bm hdct sn sub ab col dd k0 k1 k2 k3 k5 newId))
    (hi : W.Looks (model prog w) h (typeLookup (.ref C) "__init__") (some (.ref fI))) (hb : ∀ self, W.Looks (model prog w) h (bindSpecial (.ref fI) self) (.ref fI, [self])) (hrest : rest.length ≤ sizeLine)
    (hq : codeAny (model prog w) A (.call (.ref fI) ⟨.ref (h.objs.size + 1) :: rest, kw⟩)
      (fun r s' => match r with | .ok (.ret v) => v = .none ∧ Q (.done (.ret (.ref (h.objs.size + 1)))) s' | .ok _ => False | .error e => E e s')
      ⟨(h.push (W.kdv_tup rest)).push (excO C h.objs.size), g, d, t, os⟩) :
    wpAny (model prog w) A (Builtin.«type.__call__» ⟨.ref C :: rest, kw⟩) Q E ⟨h, g, d, t, os⟩ := by
  repeat (first | with_reducible refine wpAny_loadPart_at hC ?_ | with_reducible refine wpAny_madeBy_exc hC ?_ | wp_step)
  refine codeAny_call_builtin_code (Code.quiet_builtin _ F.quiet) (check_new_ownK F hT hC ?_)
  refine new_ownK F hT hC ?_ hrest
  show wpAny _ _ _ _ _ _
  have k : ∀ b o, h.get? b = some o → ((h.push (W.kdv_tup rest)).push (excO C h.objs.size)).get? b = some o := fun b o e => Heap.get?_push_of_some _ (Heap.get?_push_of_some _ e)
  have hC₁ := k _ _ hC
  have hget : ((h.push (W.kdv_tup rest)).push (excO C h.objs.size)).get? (h.objs.size + 1) = some (excO C h.objs.size) := by heap_get
  have hcC : (Value.ref C :: bm).contains (.ref C) = true := by simp
  have i1 := hi.keeps k
  have b1 := (hb (.ref (h.objs.size + 1))).keeps k
  unfold isInstance
  repeat (first | with_reducible refine wpAny_loadPart_at hget ?_ | (with_reducible refine wpAny_isSubtype_exc hC₁ ?_; rw [hcC]) | wp_step)
  show wpAny _ _ (typeLookup (.ref C) _) _ _ _
  refine i1.at ?_
  refine wpAny_holding (wpAny_bind (b1.at ?_))
  refine wpAny_bind (wpAny_call (codeAny_mono hq fun r s' z => ?_))
  rcases r with e | (v | _ | _ | _) <;> first | exact z | exact z.elim | skip
  obtain ⟨rfl, z⟩ := z
  first
    | exact wpAny_pure (wpAny_pure z)
    | (wp_walk; exact z)
theorem call_ownK (F : ExcBaseFacts B newId initId bmB) (hT : ∀ X : String, bm.contains (.type X) = bmB.contains (.type X)) {rest : List Value} {kw : List (Str × Value)} {fI : Addr}
    (hC : h.get? C = some (excClassObj nm q C N bs bm hdct sn sub ab col dd k0 k1 k2 k3 k5 newId))
    (hi : W.Looks (model prog w) h (typeLookup (.ref C) "__init__") (some (.ref fI))) (hb : ∀ self, W.Looks (model prog w) h (bindSpecial (.ref fI) self) (.ref fI, [self])) (hrest : rest.length ≤ sizeLine)
    (hq : codeAny (model prog w) (A.under (.builtin "type.__call__" ⟨.ref C :: rest, kw⟩)) (.call (.ref fI) ⟨.ref (h.objs.size + 1) :: rest, kw⟩) (W.InitBack (h.objs.size + 1) R)
      ⟨(h.push (W.kdv_tup rest)).push (excO C h.objs.size), g, d, t, os⟩) :
    codeAny (model prog w) A (.call (.ref C) ⟨rest, kw⟩) R ⟨h, g, d, t, os⟩ := by
  have f1 := tc_lookup
  have f2 := tc_bind (.ref C)
  have f3 := tc_sub
  have hTy : (⟨h, g, d, t, os⟩ : Shared).TypeIs (.ref C) "type" := ⟨_, hC, rfl⟩
  refine codeAny_of_tree ?_
  show wpAny _ _ (callAny (.ref C) _) _ _ _
  repeat (any_goals (first | assumption | with_reducible refine wpAny_loadPart_at hC ?_ | wp_step))
  refine ⟨rfl, ?_⟩
  have typ : W.Looks (model prog w) h (isInstance (.ref C) (.type "type")) true := by
    intro A' Q' E' s' k' q'
    have hT' : s'.TypeIs (.ref C) "type" := ⟨_, k' _ _ hC, rfl⟩
    unfold isInstance
    refine wpAny_bind (wpAny_typeOf hT' ?_)
    refine wpAny_of_eq tc_sub ?_
    exact q'

  refine codeAny_call_builtin_at (Code.quiet_builtin _ (by decide +kernel)) entry_typeCall (W.check_slot tc_kind tc_split typ (W.tc_args _ _ _) (type_call_ownK F hT hC hi hb hrest ?_))
  refine codeAny_mono hq fun r s' z => ?_
  rcases r with e | (v | _ | _ | _) <;> exact z
end

end Xn
end PySem

set_option Elab.async false
set_option linter.all false
set_option maxRecDepth 100000
set_option maxHeartbeats 4000000
namespace PySem
namespace Xn
open PySem.W PySem.Calls PyProof.Rows PySem.HandSPX

section
variable {prog : Program} {w : World} {A : Around} {R : Result → Shared → Prop} {s : Shared} {K : Frag} {mg : Str → Option Value} {cn fld : Str} {C fI : Addr}
/-- a new exception of the class: by position (args [v], no keyword), by name, or bare -/
theorem xn_made (T : ExT prog K mg cn fld C fI) {v : Value} {rest : List Value} {kw : List (Str × Value)} (hform : (rest = [v] ∧ kw = []) ∨ (rest = [] ∧ kw = [(fld, v)]) ∨ (rest = [] ∧ kw = [] ∧ v = .none))
    (X : K.In s.heap) (G : Nms s.heap mg) (hlim : s.heap.NoLimit) (hroom : A.depth + 1 < recursionLimit) (htop : (prog.main.scope.names.lookup ("super" : Str)).isSome = false)
    (hq : ∀ h' tk e d, OwnMade s.heap h' e C d fld v → R (.ok (.ret (.ref e))) { s with heap := h', toks := tk }) :
    codeAny (model prog w) A (.call (.ref C) ⟨rest, kw⟩) R s := by
  obtain ⟨nm, q, N, bs, bm, sn, sub, ab, col, dd, k0, k1, k2, k3, k5, hC, hbm, hal⟩ := T.cls
  obtain ⟨hp, g, dr, tk, os⟩ := s
  have k : ∀ b o, hp.get? b = some o → ((hp.push (kdv_tup rest)).push (excO C hp.objs.size)).get? b = some o := fun b o e => Heap.get?_push_of_some _ (Heap.get?_push_of_some _ e)
  have hget : ((hp.push (kdv_tup rest)).push (excO C hp.objs.size)).get? (hp.objs.size + 1) = some (excO C hp.objs.size) := by heap_get
  have hnx : K.lookup (hp.objs.size + 1) = none := by
    cases e : K.lookup (hp.objs.size + 1) with
    | none => rfl
    | some o =>
      have z : hp.get? (hp.objs.size + 1) = some o := X _ _ e
      exact absurd (Nat.lt_of_succ_lt (Heap.lt_size z)) (Nat.lt_irrefl _)
  have hrest : rest.length ≤ sizeLine := by
    rcases hform with ⟨rfl, _⟩ | ⟨rfl, _⟩ | ⟨rfl, _⟩
    · exact one_size v
    · exact Nat.zero_le _
    · exact Nat.zero_le _
  refine call_ownK F.excBase_ValueError (fun X => refsVE_contains X bm hbm) (X _ _ hC) (looks_findIn X T.iC) (fun self => bind_fn X self T.tC) hrest ?_
  refine xn_init (v := v) (s := ⟨(hp.push (kdv_tup rest)).push (excO C hp.objs.size), g, dr, tk, os⟩) T (X.keeps k) (G.keeps k) (hlim.keeps k) hget hnx ?_ htop ?_ fun h' tk' dx t1 ⟨k', hx, dn, dne, hns⟩ => ?_
  · show (A.under _).depth < recursionLimit
    have : (A.under (.builtin "type.__call__" ⟨.ref C :: rest, kw⟩)).depth = A.depth + 1 := by
      first | rfl | simp [Around.under, Code.weight, Code.isCreation, Code.isGuard, Code.isCaller, Code.frames, Code.isFrame, guardIds]
    rw [this]
    exact hroom
  · intro fd ⟨o, ho, hfd⟩
    obtain ⟨oc, od, qual, dV, doc, pm, an, cda, cc, ct, osl, p1, p2, p3, q, ccl, cdd, vs, ccs, file, tf, cl, cld, csl, dcl, ddi, dn, dsl, da, ho', hcd, hcda, hvs, hfile, hcc, hTx, hBd, hdV, hda⟩ := T.fn
    rw [ho] at ho'
    cases ho'
    cases hfd
    have X' := X.keeps k
    rcases hform with ⟨rfl, rfl⟩ | ⟨rfl, rfl⟩ | ⟨rfl, rfl, rfl⟩
    · obtain ⟨kk, e1, e2⟩ := hBd.two (.ref (hp.objs.size + 1)) v
      exact L2.BindsTo.of_looks fun M => by rw [e1]; exact L2.looks_items X' hda rfl (.of_pure e2)
    · obtain ⟨kk, e1, e2⟩ := hBd.kw (.ref (hp.objs.size + 1)) v
      exact L2.BindsTo.of_looks fun M => by rw [e1]; exact L2.looks_items X' hda rfl (.of_pure e2)
    · obtain ⟨kk, e1, e2⟩ := hBd.one (.ref (hp.objs.size + 1))
      exact L2.BindsTo.of_looks fun M => by rw [e1]; exact L2.looks_items X' hda rfl (.of_pure e2)
  · have old : ∀ b o, hp.get? b = some o → h'.get? b = some o := fun b o e => k' b o (Nat.ne_of_lt (Nat.lt_succ_of_lt (Heap.lt_size e))) (k b o e)
    have z : hp.objs.size + 1 + 1 ≤ dx := by
      first
        | (simpa only [Heap.size_push] using dn)
        | exact dn
        | (have q := dn; rw [Heap.size_push, Heap.size_push] at q; exact q)
    exact ⟨rfl, hq h' tk' (hp.objs.size + 1) dx ⟨old, Nat.le_succ _, ⟨t1, hx⟩, Nat.le_trans (Nat.le_trans (Nat.le_succ _) (Nat.le_succ _)) z, dne, hns⟩⟩
end
end Xn
end PySem

set_option Elab.async false
set_option linter.all false
set_option maxRecDepth 100000
set_option maxHeartbeats 4000000
namespace L2
open PySem PySem.Spec PyProof.Rows
/-- an exception object of the class at C, its own dict at d, at a -/
def ExI (C d a : Addr) : HO := .ext fun h => ∃ t1, h.get? a = some { cls := .ref C, dict := some d, data := .fields #[.ref t1, .none, .none, .none, .bool false, .none] }
theorem exI_ok {P : Program} {w : World} {H : Hp} {h : Heap} {C d a : Addr} {t1 : Addr} (e : h.get? a = some { cls := .ref C, dict := some d, data := .fields #[.ref t1, .none, .none, .none, .bool false, .none] }) : ObjOk P w H h a (ExI C d a) :=
  ⟨⟨t1, e⟩, ⟨_, e⟩, fun _ _ ⟨t, q⟩ k => ⟨t, k _ q⟩⟩
theorem relO_one {fld : Str} {v : V} {v' : Value} (r : RelV v v') (f : Str) : RelO (List.lookup f [(fld, v)]) (if f = fld then some v' else none) := by
  by_cases hw : f = fld
  · subst hw
    rw [if_pos rfl]
    have q : List.lookup f [(f, v)] = some v := by simp [List.lookup]
    rw [q]
    exact r
  · rw [if_neg hw]
    have qw : (f == fld) = false := by simpa using hw
    have q2 : List.lookup f [(fld, v)] = none := by simp [List.lookup, qw]
    rw [q2]
    trivial
/-- C(v) in every form -/
def tXn (C : Addr) (fld : Str) (ta : St → Hp → (V → Hp → Prop) → Prop) : TE := fun σ H Q => ta σ H fun v H1 => ∀ e d, H1 e = none → H1 d = none → d ≠ e →
  Q (.ref e) (upd (upd H1 d (.xd [(fld, v)])) e (ExI C d e))
section
variable {X : Cx} {cn fld : Str} {C fI : Addr} {k : Nat}
theorem xn_fin (T : PySem.Xn.ExT X.prog X.K X.mg cn fld C fI) {pins : List (Addr × Obj)} {σ : St} {H : Hp} {s : Shared} {Q : VK} {v : V} {v' : Value} {h' : Heap} {tk : Nat} {e d : Addr} (I : Inv X pins σ H s) (rv : RelV v v') (M : PySem.Xn.OwnMade s.heap h' e C d fld v')
    (q : ∀ e d, H e = none → H d = none → d ≠ e → Q (.ref e) (upd (upd H d (.xd [(fld, v)])) e (ExI C d e))) : EP X pins σ Q (.ref e) { s with heap := h', toks := tk } := by
  obtain ⟨t1, hoe⟩ := M.obj
  have hns := M.ns
  obtain ⟨hp, g, dr, tk0, os⟩ := s
  obtain ⟨G', g1, g2⟩ := restrict h' fun b => decide (b ≠ e)
  have gk : ∀ b, b ≠ e → G'.get? b = h'.get? b := fun b hb => g1 b (decide_eq_true hb)
  have ge : G'.get? e = none := g2 e (by simp)
  have old : ∀ b o, hp.get? b = some o → G'.get? b = some o := fun b o q => (gk b (Nat.ne_of_lt (Nat.lt_of_lt_of_le (Heap.lt_size q) M.new))).trans (M.keep b o q)
  have ob : ObjOk X.prog X.w (upd H d (.xd [(fld, v)])) G' d (.xd [(fld, v)]) :=
    ⟨_, hns.at (fun o q => (gk d M.dne).trans q), fun f => relO_one rv f⟩
  have J : Inv X pins σ (upd H d (.xd [(fld, v)])) ⟨G', g, dr, tk, os⟩ := I.laid (t' := tk) old M.dbig ob
  have hne : (upd H d (.xd [(fld, v)])) e = none := by
    rw [upd_ne (Ne.symm M.dne)]
    exact I.hok.fresh M.new
  have J2 : Inv X pins σ (upd (upd H d (.xd [(fld, v)])) e (ExI C d e)) ⟨h', g, dr, tk, os⟩ :=
    J.laidN (t' := tk) (h' := h') (fun b o q => by
      by_cases hb : b = e
      · have q' : G'.get? b = some o := q
        rw [hb, ge] at q'; cases q'
      · exact (gk b hb).symm.trans q) ge hne (exI_ok hoe)
  exact ⟨.ref e, _, J2, rfl, q e d (I.hok.fresh M.new) (I.hok.fresh M.dbig) M.dne⟩
theorem Inv.nms {pins : List (Addr × Obj)} {σ : St} {H : Hp} {s : Shared} (I : Inv X pins σ H s) : PySem.Xn.Nms s.heap X.mg :=
  ⟨I.mod.glob.keeps I.bk, let ⟨mb, a, b⟩ := I.mod.blt; ⟨mb, a.keeps I.bk, b⟩⟩
/-- C(e) -/
def t1A (ta : TA) : St → Hp → (V → Hp → Prop) → Prop := fun σ H Q => ta σ H fun vs H1 => ∃ v, vs = [v] ∧ Q v H1
theorem pe_xn1 {a : Expr} {ta : TA} {p pos : Pos} (T : PySem.Xn.ExT X.prog X.K X.mg cn fld C fI) (hr : Room k X.A) (ht : (X.prog.main.scope.names.lookup ("super" : Str)).isSome = false) (ha : PA X [a] ta) (hg : Gl X cn := by rfl) (hdb : (cn == ("__debug__" : Str)) = false := by decide)
    (he : starEach (a :: []) X.env = (false, eval a X.env) :: starEach [] X.env := by rfl) (hpl : (backTo pos (starEach [] X.env)).any (·.1) = false := by rfl) :
    PE X (.Call (.Name cn p) [a] [] pos) (tXn C fld (t1A ta)) := by
  refine ⟨fun pins s σ H Q I h => ?_⟩
  refine wpAny_Call_Name_kw (ld_glob I hg T.gC ?_ hdb)
  refine PySem.W.callWith_K (h₀ := X.base) I.ok.mod.kin T.kC (thn (ha.run pos pins s σ H _ I h) fun us s1 hh => ?_) he hpl
  obtain ⟨vs, H1, I1, r1, v, ev, q1⟩ := hh
  subst ev
  refine ⟨I1.kIn, ?_⟩
  cases r1 with
  | cons rv rn =>
    rename_i v' us'
    cases rn
    show wpAny _ _ (call (.ref C) [v']) _ _ _
    exact wpAny_call (PySem.Xn.xn_made T (.inl ⟨rfl, rfl⟩) I1.kIn I1.nms I1.nolimit (by have := hr.dp; omega) ht fun h' tk' e d M => xn_fin T I1 rv M q1)
/-- C() -/
theorem pe_xn0 {p pos : Pos} (T : PySem.Xn.ExT X.prog X.K X.mg cn fld C fI) (hr : Room k X.A) (ht : (X.prog.main.scope.names.lookup ("super" : Str)).isSome = false) (hg : Gl X cn := by rfl) (hdb : (cn == ("__debug__" : Str)) = false := by decide) :
    PE X (.Call (.Name cn p) [] [] pos) (tXn C fld fun _ H Q => Q .non H) := by
  refine ⟨fun pins s σ H Q I h => ?_⟩
  refine wpAny_Call_Name_kw (ld_glob I hg T.gC ?_ hdb)
  refine PySem.W.callWith_K0 I.kIn T.kC ?_
  show wpAny _ _ (call (.ref C) []) _ _ _
  exact wpAny_call (PySem.Xn.xn_made T (v := .none) (.inr (.inr ⟨rfl, rfl, rfl⟩)) I.kIn I.nms I.nolimit (by have := hr.dp; omega) ht fun h' tk' e d M => xn_fin T I (v := .non) rfl M h)
/-- C(f=e) -/
theorem pe_xnK {kws : List Keyword} {tk : TA} {p pos : Pos} (T : PySem.Xn.ExT X.prog X.K X.mg cn fld C fI) (hr : Room k X.A) (ht : (X.prog.main.scope.names.lookup ("super" : Str)).isSome = false) (hkw : PK X kws tk) (hg : Gl X cn := by rfl) (hdb : (cn == ("__debug__" : Str)) = false := by decide)
    (hall : (backToKw pos (keywordEach kws X.env)).all (·.1.isSome) = true := by rfl) (hks : (backToKw pos (keywordEach kws X.env)).filterMap (·.1) = [fld] := by rfl)
    (hpl : ((backTo pos (starEach [] X.env)).any (·.1) || (backToKw pos (keywordEach kws X.env)).any (·.1.isNone)) = false := by rfl) :
    PE X (.Call (.Name cn p) [] kws pos) (tXn C fld (t1A tk)) := by
  refine ⟨fun pins s σ H Q I h => ?_⟩
  refine wpAny_Call_Name_kw (ld_glob I hg T.gC ?_ hdb)
  refine PySem.W.callWith_KW0 (h₀ := X.base) I.ok.mod.kin T.kC hall ?_ hpl
  refine thn (hkw.run pos pins s σ H _ I h) fun ws s2 hh => ?_
  obtain ⟨zs, H2, I2, rz, v, ev, q2⟩ := hh
  subst ev
  refine ⟨I2.kIn, ?_⟩
  rw [hks]
  cases rz with
  | cons rv rn =>
    rename_i v' us'
    cases rn
    show wpAny _ _ (call (.ref C) [] [(fld, v')]) _ _ _
    exact wpAny_call (PySem.Xn.xn_made T (.inr (.inl ⟨rfl, rfl⟩)) I2.kIn I2.nms I2.nolimit (by have := hr.dp; omega) ht fun h' tk' e d M => xn_fin T I2 rv M q2)
/-- e.f of a made exception that stands in H -/
def tXnF (K : PySem.W.Frag) (f : Str) (te : TE) : TE := fun σ H Q => te σ H fun x H1 => ∃ (a C d : Addr) (fs : List (Str × V)) (v : V), x = .ref a ∧ H1 a = some (ExI C d a) ∧ H1 d = some (.xd fs) ∧ fs.lookup f = some v ∧ XfC K C ∧ PySem.W.findIn K (.ref C) f = some none ∧ Q v H1
theorem pe_xnF {e : Expr} {te : TE} {pos : Pos} {n : Str} (he : PE X e te) (hb : attributeBase e n X.env (eval e X.env) = eval e X.env := by rfl) : PE X (.Attribute e n pos) (tXnF X.K n te) := by
  refine ⟨fun pins s σ H Q I h => ?_⟩
  refine attr_of hb (thn (he.run pins s σ H _ I h) fun u s1 hh => ?_)
  obtain ⟨x, H1, I1, rx, a, C, dd, fs, v, ex, ha, ea, l, T, hno, q⟩ := hh
  subst ex
  obtain rfl : u = Value.ref a := rx
  obtain ⟨⟨t1, hoa⟩, _, _⟩ := I1.hok a _ ha
  have hx : ObjOk X.prog X.w H1 s1.heap dd (.xd fs) := I1.hok dd _ ea
  obtain ⟨mA, hns, hr⟩ := hx
  obtain ⟨od, ho, hl⟩ := lookIn_ns hns
  obtain ⟨u, hu, ru⟩ := RelO.some_of (v := v) (o := mA n) (by rw [← l]; exact hr n)
  have J : PySem.W.InstAt s1.heap a _ C (some od) := ⟨hoa, rfl, rfl, ho⟩
  exact HandSPX.exc_get I1.kIn J T.ga T.gg T.exC (PySem.W.findObj_own T.hdC hno rfl (by rw [hl, hu])) (handed_of ru) ⟨v, H1, I1.tok _, ru, q⟩
/-- isinstance(e, c) of a made exception that stands in H -/
structure ExC (K : PySem.W.Frag) (C : Addr) : Prop where
  hcl : (PySem.W.clsIn K C).isSome = true
  hg : PySem.W.findIn K (.ref C) "__getattribute__" = some (some (.builtin "BaseException.__getattribute__"))
  hk : PySem.W.findIn K (.ref C) "__getattr__" = some none
  hs : PySem.W.subIn K (.ref C) (.type "BaseException") = some true
  ha : PySem.W.findIn K (.ref C) "__class__" = some (some (.builtin "object.__class__"))
  hn : PySem.W.specialIn K (.builtin "object.__class__") "__get__" = some (some (.builtin "getset_descriptor.__get__"))
  ht : PySem.W.takesIn K (.builtin "object.__class__") = some true
  hm : PySem.W.mroIn K C (.type "object") = some true
def rIsX (K : PySem.W.Frag) : List V → Hp → VK → Prop := fun xs H Q => ∃ (a C d : Addr) (c : V) (cv : Value) (b : Bool), xs = [.ref a, c] ∧ H a = some (ExI C d a) ∧ (∃ fs, H d = some (.xd fs)) ∧ ClsV c cv ∧ ExC K C ∧ PySem.W.kitOne K (.ref C) cv = some b ∧ Q (.bl b) H
theorem call_isX : CallR X (.builtin "isinstance") (rIsX X.K) := by
  intro pins s σ H xs us Q I r h
  obtain ⟨a, C, d, c, cv, b, rfl, ha, ⟨fs, hd⟩, hcv, T, e, q⟩ := h
  obtain ⟨u1, u2, rfl, r1, r2⟩ := vals2 r
  have e2 := hcv.eq r2
  subst e2
  obtain rfl : u1 = Value.ref a := r1
  obtain ⟨⟨t1, hoa⟩, _, _⟩ := I.hok a _ ha
  obtain ⟨mA, hns, _⟩ : ObjOk X.prog X.w H s.heap d (.xd fs) := I.hok d _ hd
  obtain ⟨od, hod, _⟩ := lookIn_ns hns
  have J : PySem.W.InstAt s.heap a _ C (some od) := ⟨hoa, rfl, rfl, hod⟩
  exact PySem.W.kia_one (PySem.W.kitx_exc T.hcl T.hg T.hk T.hs T.ha T.hn T.ht T.hm) I.kIn J e (fun z => nomatch z) fun tk => ⟨.bl b, H, I.tok tk, rfl, q⟩
end
end L2

set_option Elab.async false
set_option linter.all false
set_option maxRecDepth 100000
set_option maxHeartbeats 4000000
/-! The hand layer's calls once more, where it is told that no repr runs around (A.guards). -/
namespace L2
open PySem PySem.Spec PyProof.Rows
abbrev RoomG (k : Nat) (A : Around) : Prop := Room k A ∧ A.guards = some []
theorem RoomG.mono {j k : Nat} {A : Around} (r : RoomG k A) (h : j ≤ k) : RoomG j A := ⟨r.1.mono h, r.2⟩
structure FnOkG (P : Program) (w : World) (K : PySem.W.Frag) (mg : Str → Option Value) (base : Heap) (CX : CXT) (k : Nat) (f : Addr) (fd : FuncData) (ps : List Str) (sp : Sp) : Prop where
  len : ∀ vs H Q E, sp vs H Q E → vs.length = ps.length
  run : ∀ (A : Around) (outer : List Env) (s : Shared) (H : Hp) (args : Args) (us : List Value) (vs : List V) (Q : VK) (E : XK), RoomG k A → Env0 P w K mg base A outer s H → BindsTo s fd args (ps.zip us) → Vals vs us → sp vs H Q E →
    codeAny (model P w) A (.call (.ref f) args) (CR CX outer P w H s Q E) s
theorem FnOk.g {P : Program} {w : World} {K : PySem.W.Frag} {mg : Str → Option Value} {base : Heap} {CX : CXT} {k : Nat} {f : Addr} {fd : FuncData} {ps : List Str} {sp : Sp} (F : FnOk P w K mg base CX k f fd ps sp) : FnOkG P w K mg base CX k f fd ps sp :=
  ⟨F.len, fun A outer s H args us vs Q E hr => F.run A outer s H args us vs Q E hr.1⟩
theorem FnOkG.imp {P : Program} {w : World} {K : PySem.W.Frag} {mg : Str → Option Value} {base : Heap} {CX : CXT} {k : Nat} {f : Addr} {fd : FuncData} {ps : List Str} {sp sp' : Sp} (F : FnOkG P w K mg base CX k f fd ps sp)
    (h : ∀ vs H Q E, sp' vs H Q E → sp vs H Q E) : FnOkG P w K mg base CX k f fd ps sp' :=
  ⟨fun vs H Q E q => F.len vs H Q E (h _ _ _ _ q), fun A outer s H args us vs Q E hr he hb hv hs => F.run A outer s H args us vs Q E hr he hb hv (h _ _ _ _ hs)⟩
section
variable {X : Cx} {CX : CXT} {k : Nat} {f C : Addr} {fd : FuncData} {ps : List Str} {sp : Sp} {dvs : List V} {ds : List Value} {E : XK} {x m : Str} {p pos apos : Pos} {e o : Expr} {es : List Expr} {ta : TE} {t : TA}
theorem run_fnG {pins : List (Addr × Obj)} {σ : St} {H : Hp} {s : Shared} {Q : VK} {us : List Value} {vs : List V} (F : FnOkG X.prog X.w X.K X.mg X.base CX k f fd ps sp) (hr : RoomG k X.A) (hb : Binds X.K fd ps ds) (hd : Vals dvs ds) (hx : Passes CX X E)
    (I : Inv X pins σ H s) (r : Vals vs us) (h : sp (vs ++ dvs) H Q E) : wpAny (model X.prog X.w) X.A (call (.ref f) us) (EP X pins σ Q) X.xe s := by
  have r2 : Vals (vs ++ dvs) (us ++ ds) := r.append hd
  have hl : (us ++ ds).length = ps.length := by rw [← r2.length]; exact F.len _ _ _ _ h
  refine wpAny_call (codeAny_mono (F.run X.A X.stack s H ⟨us, []⟩ (us ++ ds) (vs ++ dvs) Q E hr I.env0 (hb s us I.kIn hl) r2 h) fun r s' hq => ?_)
  cases r with
  | error e => exact hx pins σ H s e s' I hq
  | ok fl =>
    cases fl with
    | ret u => exact I.after hq
    | next => exact False.elim hq
    | brk => exact False.elim hq
    | cont => exact False.elim hq

theorem pe_callG (F : FnOkG X.prog X.w X.K X.mg X.base CX k f fd ps sp) (hr : RoomG k X.A) (hg : Gl X x) (hm : X.mg x = some (.ref f)) (hk : PySem.W.keepIn X.K (.ref f) = true) (hb : Binds X.K fd ps ds) (hd : Vals dvs ds) (hx : Passes CX X E)
    (ha : PA X (e :: es) t) (hdb : (x == ("__debug__" : Str)) = false := by decide) (he : starEach (e :: es) X.env = (false, eval e X.env) :: starEach es X.env := by rfl) (hpl : (backTo pos (starEach es X.env)).any (·.1) = false := by rfl) :
    PE X (.Call (.Name x p) (e :: es) [] pos) (tCall sp dvs E t) := by
  refine ⟨fun pins s σ H Q I h => ?_⟩
  refine wpAny_Call_Name_kw (ld_glob I hg hm ?_ hdb)
  refine PySem.W.callWith_K (h₀ := X.base) I.ok.mod.kin hk (thn (ha.run pos pins s σ H _ I h) fun us s1 ⟨vs, H1, I1, r, q⟩ => ⟨I1.kIn, ?_⟩) he hpl
  exact run_fnG F hr hb hd hx I1 r q
theorem pe_call0G (F : FnOkG X.prog X.w X.K X.mg X.base CX k f fd ps sp) (hr : RoomG k X.A) (hg : Gl X x) (hm : X.mg x = some (.ref f)) (hk : PySem.W.keepIn X.K (.ref f) = true) (hb : Binds X.K fd ps ds) (hd : Vals dvs ds) (hx : Passes CX X E)
    (hdb : (x == ("__debug__" : Str)) = false := by decide) : PE X (.Call (.Name x p) [] [] pos) (tCall sp dvs E tNil) := by
  refine ⟨fun pins s σ H Q I h => ?_⟩
  refine wpAny_Call_Name_kw (ld_glob I hg hm ?_ hdb)
  exact PySem.W.callWith_K0 I.kIn hk (run_fnG (us := []) F hr hb hd hx I .nil h)

/-- o.m(e, ..) -/
theorem pe_methG {pl : Sem Bool} (he : PE X o ta) (c : Cls X.K C) (hm : Meth X.K C m f) (F : FnOkG X.prog X.w X.K X.mg X.base CX k f fd ps sp) (hr : RoomG k X.A) (hb : Binds X.K fd ps ds) (hd : Vals dvs ds) (hx : Passes CX X E) (ha : PA X (e :: es) t)
    (hst : starEach (e :: es) X.env = (false, eval e X.env) :: starEach es X.env := by rfl) (hpl : (backTo pos (starEach es X.env)).any (·.1) = false := by rfl)
    (ht : eval (.Call (.Attribute o m apos) (e :: es) [] pos) X.env = (do
      let ov ← eval o X.env
      standAt apos.atName
      let (f, first) ← holding [ov] (getMethod ov m pl)
      callWith pos f first (backTo pos (starEach (e :: es) X.env)) (backToKw pos (keywordEach [] X.env))) := by rfl) :
    PE X (.Call (.Attribute o m apos) (e :: es) [] pos) (tMeth C m sp dvs E ta t) := by
  refine ⟨fun pins s σ H Q I h => ?_⟩
  refine PySem.W.methodCall_KW (pl := pl) (thn (he.run pins s σ H _ I h) fun u s1 ⟨x, H1, I1, rx, a, dx, fs, ex, ea, l, q⟩ => ?_) ht
  subst ex
  obtain rfl : u = Value.ref a := rx
  refine getmeth_ok I1 ea c hm l ?_
  refine PySem.W.callWith_K (first := [.ref a]) (h₀ := X.base) I.ok.mod.kin hm.kp (thn (ha.run pos pins s1 σ H1 _ I1 q) fun us s2 ⟨vs, H2, I2, r, q2⟩ => ⟨I2.kIn, ?_⟩) hst hpl
  exact run_fnG (us := .ref a :: us) (vs := .ref a :: vs) F hr hb hd hx I2 (.cons rfl r) q2
/-- o.m() -/
theorem pe_meth0G {pl : Sem Bool} (he : PE X o ta) (c : Cls X.K C) (hm : Meth X.K C m f) (F : FnOkG X.prog X.w X.K X.mg X.base CX k f fd ps sp) (hr : RoomG k X.A) (hb : Binds X.K fd ps ds) (hd : Vals dvs ds) (hx : Passes CX X E)
    (ht : eval (.Call (.Attribute o m apos) [] [] pos) X.env = (do
      let ov ← eval o X.env
      standAt apos.atName
      let (f, first) ← holding [ov] (getMethod ov m pl)
      callWith pos f first (backTo pos (starEach [] X.env)) (backToKw pos (keywordEach [] X.env))) := by rfl) :
    PE X (.Call (.Attribute o m apos) [] [] pos) (tMeth C m sp dvs E ta tNil) := by
  refine ⟨fun pins s σ H Q I h => ?_⟩
  refine PySem.W.methodCall_KW (pl := pl) (thn (he.run pins s σ H _ I h) fun u s1 ⟨x, H1, I1, rx, a, dx, fs, ex, ea, l, q⟩ => ?_) ht
  subst ex
  obtain rfl : u = Value.ref a := rx
  refine getmeth_ok I1 ea c hm l ?_
  exact PySem.W.callWith_K0 (first := [.ref a]) I1.kIn hm.kp (run_fnG (us := [.ref a]) (vs := [.ref a]) F hr hb hd hx I1 (.cons rfl .nil) q)

theorem run_makeG {pins : List (Addr × Obj)} {σ : St} {H : Hp} {s : Shared} {Q : VK} {us : List Value} {vs : List V} (M : Mk X.K C f) (F : FnOkG X.prog X.w X.K X.mg X.base CX k f fd ps sp) (hr : RoomG (k + 1) X.A) (hb : Binds X.K fd ps ds) (hd : Vals dvs ds)
    (hx : Passes CX X E) (I : Inv X pins σ H s) (r : Vals vs us)
    (h : ∀ x dx, H x = none → H dx = none → dx ≠ x → sp (.ref x :: (vs ++ dvs)) (upd (upd H dx (.own x)) x (.ins C dx [])) (fun v H2 => v = .non ∧ Q (.ref x) H2) E) :
    wpAny (model X.prog X.w) X.A (call (.ref C) us) (EP X pins σ Q) X.xe s := by
  have hq := h (s.heap.objs.size + 1) s.heap.objs.size (I.hok.fresh (Nat.le_succ _)) (I.hok.fresh (Nat.le_refl _)) (Nat.ne_of_lt (Nat.lt_succ_self _))
  have I2 := Inv.made (C := C) I
  have r2 : Vals (V.ref (s.heap.objs.size + 1) :: (vs ++ dvs)) (Value.ref (s.heap.objs.size + 1) :: (us ++ ds)) := .cons rfl (r.append hd)
  have hl : (Value.ref (s.heap.objs.size + 1) :: us ++ ds).length = ps.length := by
    have e := r2.length
    rw [F.len _ _ _ _ hq] at e
    exact e.symm
  refine wpAny_call (make_map (f := f) I.kIn M.makes M.init (beq_iff_eq.mp M.fn) (codeAny_mono (F.run _ X.stack _ _ ⟨Value.ref (s.heap.objs.size + 1) :: us, []⟩ (Value.ref (s.heap.objs.size + 1) :: (us ++ ds)) _ _ E ⟨hr.1.make C us [], hr.2⟩
    (I2.env0.make C us []) (hb _ (Value.ref (s.heap.objs.size + 1) :: us) I2.kIn hl) r2 hq) fun r s' hq' => ?_))
  cases r with
  | error e => exact hx pins σ _ _ e s' I2 hq'
  | ok fl =>
    cases fl with
    | ret u =>
      obtain ⟨v, H', I3, rv, ev, q3⟩ := I2.after hq'
      subst ev
      exact ⟨rv, ⟨V.ref (s.heap.objs.size + 1), H', I3, rfl, q3⟩⟩
    | next => exact False.elim hq'
    | brk => exact False.elim hq'
    | cont => exact False.elim hq'
theorem pe_makeG (M : Mk X.K C f) (F : FnOkG X.prog X.w X.K X.mg X.base CX k f fd ps sp) (hr : RoomG (k + 1) X.A) (hg : Gl X x) (hm : X.mg x = some (.ref C)) (hb : Binds X.K fd ps ds) (hd : Vals dvs ds) (hx : Passes CX X E)
    (ha : PA X (e :: es) t) (hdb : (x == ("__debug__" : Str)) = false := by decide) (he : starEach (e :: es) X.env = (false, eval e X.env) :: starEach es X.env := by rfl) (hpl : (backTo pos (starEach es X.env)).any (·.1) = false := by rfl) :
    PE X (.Call (.Name x p) (e :: es) [] pos) (tMake C sp dvs E t) := by
  refine ⟨fun pins s σ H Q I h => ?_⟩
  refine wpAny_Call_Name_kw (ld_glob I hg hm ?_ hdb)
  refine PySem.W.callWith_K (h₀ := X.base) I.ok.mod.kin M.kp (thn (ha.run pos pins s σ H _ I h) fun us s1 ⟨vs, H1, I1, r, q⟩ => ⟨I1.kIn, ?_⟩) he hpl
  exact run_makeG M F hr hb hd hx I1 r q
theorem pe_make0G (M : Mk X.K C f) (F : FnOkG X.prog X.w X.K X.mg X.base CX k f fd ps sp) (hr : RoomG (k + 1) X.A) (hg : Gl X x) (hm : X.mg x = some (.ref C)) (hb : Binds X.K fd ps ds) (hd : Vals dvs ds) (hx : Passes CX X E)
    (hdb : (x == ("__debug__" : Str)) = false := by decide) : PE X (.Call (.Name x p) [] [] pos) (tMake C sp dvs E tNil) := by
  refine ⟨fun pins s σ H Q I h => ?_⟩
  refine wpAny_Call_Name_kw (ld_glob I hg hm ?_ hdb)
  exact PySem.W.callWith_K0 I.kIn M.kp (run_makeG (us := []) M F hr hb hd hx I .nil h)
end
theorem fn_ofG {CX : CXT} {P : Program} {w : World} {K : PySem.W.Frag} {mg : Str → Option Value} {base : Heap} {k : Nat} {f : Addr} {name qual : Str} {params : Arguments} {body : List Stmt} {scope : Scope} {dV kV doc pm cdv ct oc : Value} {an od : Option Addr}
    {osl : Array (Option Value)} {N ps : List Str} {sp : Sp} (lk : K.lookup f = some ⟨oc, od, .func (PySem.W.fnOf name qual params body scope dV kV doc pm an cdv ct), osl⟩) (hcd : PySem.W.codeIn K cdv qual = true) (S : FnScope N ps scope)
    (len : ∀ vs H Q E, sp vs H Q E → vs.length = ps.length)
    (hbody : ∀ (A : Around) (outer : List Env) (s : Shared) (H : Hp) (vs : List V) (Q : VK) (E : XK), RoomG k (A.deeper (envOfC qual scope s.heap.objs.size f cdv)) → sp vs H Q E →
      ∃ t, PSs (cxOf CX P w K mg base N qual scope f cdv A outer s H E) body t ∧ t { nx := fun _ H' => Q .non H', rt := Q } (start N vs) H) :
    FnOkG P w K mg base CX (k + 1) f (PySem.W.fnOf name qual params body scope dV kV doc pm an cdv ct) ps sp := by
  refine ⟨len, fun A outer s H args us vs Q E hr e0 hb r hsp => ?_⟩
  have hl := len _ _ _ _ hsp
  have KX : K.In s.heap := e0.mod.kin.keeps fun b o e => (e0.bs b o e).1
  have lim : s.heap.NoLimit := e0.mod.nolimit.keeps fun b o e => (e0.bs b o e).1
  have hkind : ∀ y ∈ ps.zip us, scope.names.lookup y.1 = some .local ∨ (scope.names.lookup y.1 = some .cell ∧ ((cellsFrom (s.heap.objs.size + 1) scope.names []).lookup y.1).isSome = true) := fun ⟨n, v⟩ hy => by
    rcases S.par n (List.of_mem_zip hy).1 with q | q
    · exact .inl q
    · exact .inr ⟨q, PySem.W.cellsFrom_some _ _ _ (.inl q)⟩
  refine codeAny_call_function hr.1.depth (KX _ _ lk) rfl S.co S.gen rfl (PySem.W.codeRec_of KX hcd) (hb _ _ _ _ ?_)
  refine wpAny_newFunctionEnv_cells S.kind hkind fun env he s1 x => ?_
  subst he
  refine ⟨lim.keeps x.toInCall.keep, codeAny_func ?_⟩
  obtain ⟨t, ht, hq⟩ := hbody A outer s H vs Q E ⟨hr.1.deeper _, hr.2⟩ hsp
  have I : Inv (cxOf CX P w K mg base N qual scope f cdv A outer s H E) [] (start N vs) H s1 := inv_start S hr.1.hd e0 hl r x
  refine wpAny_mono (ht.run [] s1 (start N vs) H _ I hq) (fun fl s' hs => ?_) fun e s' hs => hs
  have fin : ∀ {σ' : St} {H' : Hp} {v : V} {u : Value}, Inv (cxOf CX P w K mg base N qual scope f cdv A outer s H E) [] σ' H' s' → RelV v u → Q v H' → CE outer P w H s Q u s' :=
    fun {σ' H' v u} J rv q => ⟨v, H', J.os, J.bare, J.base, J.hok, rv, q⟩
  cases fl with
  | ret u =>
    obtain ⟨v, σ', H', J, rv, q⟩ := hs
    exact fin J rv q
  | next =>
    obtain ⟨σ', H', J, q⟩ := hs
    exact fin (v := V.non) (u := Value.none) J rfl q
  | brk =>
    obtain ⟨_, _, _, q⟩ := hs
    exact False.elim q
  | cont =>
    obtain ⟨_, _, _, q⟩ := hs
    exact False.elim q

theorem Fun.okG {P : Program} {w : World} {K : PySem.W.Frag} {mg : Str → Option Value} {base : Heap} {x qual : Str} {st : Stmt} {f : Addr} {fd : FuncData} {N ps : List Str} {k : Nat} {sp : Sp} (F : Fun K x qual st f fd) (S : FnScope N ps (defScope st)) (len : ∀ vs H Q E, sp vs H Q E → vs.length = ps.length)
    (hbody : ∀ (cdv : Value) (A : Around) (outer : List Env) (s : Shared) (H : Hp) (vs : List V) (Q : VK) (E : XK), RoomG k (A.deeper (envOfC qual (defScope st) s.heap.objs.size f cdv)) → sp vs H Q E →
      ∃ t, PSs (cxOf CX0 P w K mg base N qual (defScope st) f cdv A outer s H E).nox (defBody st) t ∧ t { nx := fun _ H' => Q .non H', rt := Q } (start N vs) H) : FnOkG P w K mg base CX0 (k + 1) f fd ps sp := by
  obtain ⟨oc, od, kV, doc, pm, an, cdv, ct, osl, rfl, lk, hcd⟩ := F.ex
  refine fn_ofG lk hcd S len fun A outer s H vs Q E hr hsp => ?_
  obtain ⟨t, h, q⟩ := hbody cdv A outer s H vs Q E hr hsp
  exact ⟨t, h.nox, q⟩
theorem Fun.okXG {P : Program} {w : World} {K : PySem.W.Frag} {mg : Str → Option Value} {base : Heap} {x qual : Str} {st : Stmt} {f : Addr} {fd : FuncData} {N ps : List Str} {k : Nat} {sp : Sp} (F : Fun K x qual st f fd) (S : FnScope N ps (defScope st)) (len : ∀ vs H Q E, sp vs H Q E → vs.length = ps.length)
    (hbody : ∀ (cdv : Value) (A : Around) (outer : List Env) (s : Shared) (H : Hp) (vs : List V) (Q : VK) (E : XK), RoomG k (A.deeper (envOfC qual (defScope st) s.heap.objs.size f cdv)) → sp vs H Q E →
      ∃ t, PSs (cxOf (L2.CX P w) P w K mg base N qual (defScope st) f cdv A outer s H E) (defBody st) t ∧ t { nx := fun _ H' => Q .non H', rt := Q } (start N vs) H) : FnOkG P w K mg base (L2.CX P w) (k + 1) f fd ps sp := by
  obtain ⟨oc, od, kV, doc, pm, an, cdv, ct, osl, rfl, lk, hcd⟩ := F.ex
  exact fn_ofG lk hcd S len fun A outer s H vs Q E hr hsp => hbody cdv A outer s H vs Q E hr hsp
theorem law_callG {P : Program} {w : World} {K : PySem.W.Frag} {mg mb : Str → Option Value} {CX : CXT} {k : Nat} {fa a : Addr} {fd : FuncData} {x : Str} {sp : Sp} {s₁ : Shared} {vs : List Value} {ns : List Int}
    (KX : K.In s₁.heap) (hns : s₁.heap.Ns mainGlobals mg) (hb : s₁.heap.Ns builtinsNs mb) (hbb : ∀ x : Str, x ≠ "__name__" → mb x = bootBuiltins x) (hlim : s₁.heap.NoLimit) (hg : s₁.gens = #[])
    (ha : s₁.heap.get? a = some { cls := .type "list", data := .seq vs.toArray }) (hi : IntsAre vs ns) (hl : ns.length ≤ sizeLine) (hr : Room k callerA)
    (F : ∀ base : Heap, K.In base → base.Ns mainGlobals mg → FnOkG P w K mg base CX k fa fd [x] sp) (hbind : ∀ (s : Shared) (u : Value), BindsTo s fd ⟨[u], []⟩ [(x, u)])
    (hsp : ∀ H : Hp, Only H → SqL K H a (ns.map V.int) → sp [.ref a] H (fun v _ => v = .bl true) fun _ _ _ => False)
    (hCX : ∀ H e s', CX [] H s₁ (fun _ _ _ => False) e s' → False) :
    codeAny (model P w) callerA (.call (.ref fa) ⟨[.ref a], []⟩) (fun r s' => r = .ok (.ret (.bool true)) ∧ OldK s₁.heap s'.heap ∧ s'.os = s₁.os ∧ AllBare s'.gens) s₁ := by
  have rv := vals_ints hi
  have lenV := hi.length
  -- from an abstract heap in which nothing but the script may be tracked
  have core : ∀ H : Hp, Only H → SqL K H a (ns.map V.int) → HOk P w H s₁.heap → (∀ b, H b ≠ none → b = a) → (H a ≠ none → K.lookup a = none) →
      codeAny (model P w) callerA (.call (.ref fa) ⟨[.ref a], []⟩) (fun r s' => r = .ok (.ret (.bool true)) ∧ OldK s₁.heap s'.heap ∧ s'.os = s₁.os ∧ AllBare s'.gens) s₁ := by
    intro H hO hS hok hA hK
    have base_of : ∀ {b : Addr} {o : Obj}, s₁.heap.get? b = some o → H b = none → (hidT s₁.heap H).get? b = some o := fun e n => hidT_get e n
    have noA : ∀ {b : Addr} {o : Obj} {es : Array DictEntry} {ep : Nat}, s₁.heap.get? b = some o → o.data = .dict es ep → H b = none := fun {b o es ep} e d => by
      cases q : H b with
      | none => rfl
      | some u =>
        have e' : b = a := hA b (by rw [q]; simp)
        subst e'
        rw [ha] at e; cases e
        have d' : Data.seq vs.toArray _ = Data.dict es ep := d
        cases d'
    have nsK : ∀ {b : Addr} {m : Str → Option Value}, s₁.heap.Ns b m → (hidT s₁.heap H).Ns b m := fun {b m} ⟨o, es, ep, e, d, r⟩ => ⟨o, es, ep, base_of e (noA e d), d, r⟩
    have hKb : K.In (hidT s₁.heap H) := fun b o e => base_of (KX b o e) (by
      cases q : H b with
      | none => rfl
      | some u =>
        have e' : b = a := hA b (by rw [q]; simp)
        subst e'
        rw [hK (by rw [q]; simp)] at e; cases e)
    have hM : Mod K mg (hidT s₁.heap H) := ⟨hKb, nsK hns, ⟨mb, nsK hb, hbb⟩, let ⟨mc, h1, h2⟩ := hlim; ⟨mc, nsK h1, h2⟩⟩
    have e0 : Env0 P w K mg (hidT s₁.heap H) callerA [] s₁ H := ⟨rfl, hM, fun b o e => of_hidT e, Nat.le_of_eq (hidT_size _ _), trivial, fun b hb => absurd (show b ∈ ([] : List Addr) from hb) (by simp), hok, .of_eq hg⟩
    refine codeAny_mono ((F _ hKb (nsK hns)).run callerA [] s₁ H ⟨[.ref a], []⟩ [.ref a] [.ref a] _ _ ⟨hr, rfl⟩ e0 (hbind s₁ (.ref a)) (.cons rfl .nil) (hsp H hO hS)) fun r s' h => ?_
    cases r with
    | error e => exact (hCX H e s' h).elim
    | ok fl =>
      cases fl with
      | next => exact False.elim h
      | brk => exact False.elim h
      | cont => exact False.elim h
      | ret u =>
        obtain ⟨v, H', os, bare, un, hok', r', q⟩ := h
        have q' : v = .bl true := q
        subst q'
        obtain rfl : u = Value.bool true := r'
        refine ⟨rfl, OldK.of_keep fun b o e => ?_, os, bare⟩
        cases q : H b with
        | none => exact un.keep b o e q (by intro z; exact absurd (show b ∈ ([] : List Addr) from z) (by simp)) (by simp)
        | some u =>
          rcases hO b with z | ⟨ob, xs, z⟩
          · rw [q] at z; cases z
          · have z2 := un.frzs b ob _ z
            obtain ⟨e1, _⟩ := hok b _ z
            obtain ⟨e2, _⟩ := hok' b _ z2
            rw [e] at e1; cases e1
            exact e2
  cases hk : K.lookup a with
  | some o =>
    -- the script is one of the module's own objects
    have e := KX a o hk
    rw [ha] at e
    cases e
    refine core (fun _ => none) (fun _ => .inl rfl) (.inr ⟨_, vs.toArray, _, hk, rfl, rfl, rfl, by rw [List.size_toArray, lenV]; exact hl, by simpa using rv⟩) (fun b u z => by have z' : (none : Option HO) = some u := z; cases z') (fun b z => absurd rfl z) fun z => absurd rfl z
  | none =>
    refine core (fun b => if b = a then some (.frz { cls := .type "list", data := .seq vs.toArray } (.lst (ns.map V.int))) else none) (fun b => ?_) (.inl (.inr ⟨{ cls := .type "list", data := .seq vs.toArray }, if_pos rfl⟩)) (fun b u z => ?_) (fun b z => ?_) fun _ => hk
    · by_cases hb : b = a
      · exact .inr ⟨_, _, if_pos hb⟩
      · exact .inl (if_neg hb)
    · by_cases hb : b = a
      · have z' := (if_pos hb).symm.trans z
        cases z'
        subst hb
        exact ⟨ha, by rw [List.length_map]; exact hl, vs, _, rv, ha⟩
      · have z' := (if_neg hb).symm.trans z
        cases z'
    · by_cases hb : b = a
      · exact hb
      · exact absurd (if_neg hb) z
theorem walk_ofG {l : PySem.W.OpenLaw} {n k : Nat} {q : Program} {loose : List Str} {XP : (Str → Option Value) → Heap → Prop} {YP : World → Heap → Prop} {d : DefRec} {K : Params → PySem.W.Frag} {CX : World → CXT} {sp : World → Sp} {x : Str}
    (hn : l.most = some n) (hn2 : n ≤ sizeLine) (hdf : d.params.defaults = []) (hr : Room k callerA)
    (hY : ∀ (w : World) (h : Heap), YP w h → (K w.params).In h)
    (F : ∀ (w : World) (mg : Str → Option Value) (fa : Addr) (h : Heap), (K w.params).In h → h.Ns mainGlobals mg → mg d.name = some (.ref fa) →
      ∃ fd : FuncData, (∀ (s : Shared) (u : Value), BindsTo s fd ⟨[u], []⟩ [(x, u)]) ∧
        ∀ base : Heap, (K w.params).In base → base.Ns mainGlobals mg → FnOkG l.prog w (K w.params) mg base (CX w) k fa fd [x] (sp w))
    (hsp : ∀ (w : World) (H : Hp) (a : Addr) (ns : List Int), ns.length ≤ n → Only H → SqL (K w.params) H a (ns.map V.int) → sp w [.ref a] H (fun v _ => v = .bl true) fun _ _ _ => False)
    (hCX : ∀ (w : World) (H : Hp) (s : Shared) (e : Value) (s' : Shared), CX w [] H s (fun _ _ _ => False) e s' → False) :
    PySem.W.WalkO q loose XP YP l.row.toRowW d [] (fun f vs => PySem.call f vs) := by
  refine Att.attach_call hn hdf fun w s₀ s₁ mg mb fa o pm cd doc a vs ns G Y ho hd hcd hmg hobj hints hlen hg => ?_
  have KX := hY w _ Y
  obtain ⟨fd, hb, hF⟩ := F w mg fa _ KX G.T.g hmg
  exact law_callG KX G.T.g G.T.b G.T.builtins G.T.nolimit hg hobj hints (Nat.le_trans hlen hn2) hr hF hb (fun H hO hS => hsp w H a ns hlen hO hS) fun H e s' => hCX w H s₁ e s'

end L2

set_option Elab.async false
set_option linter.all false
set_option maxRecDepth 100000
set_option maxHeartbeats 4000000
namespace L2
open PySem PySem.Spec PyProof.Rows
def keyD : Key → PyData
  | .inl i => .int i
  | .inr x => .str x
/-- a scalar -/
inductive Sc : V → PyData → Prop
  | non : Sc .non .none
  | bl (b : Bool) : Sc (.bl b) (.bool b)
  | int (i : Int) : Sc (.int i) (.int i)
  | str (x : Str) : Sc (.str x) (.str x)
theorem Sc.reads {h : Heap} : ∀ {v : V} {d : PyData} {u : Value}, Sc v d → RelV v u → Reads h u d []
  | _, _, _, .non, r => by cases r; exact .none
  | _, _, _, .bl b, r => by cases r; exact .bool b
  | _, _, _, .int i, r => by obtain ⟨t, rfl⟩ := r; exact .int i t
  | _, _, _, .str x, r => by obtain ⟨t, rfl⟩ := r; exact .str x t
theorem Sc.readsAll {h : Heap} : ∀ {vs : List V} {ds : List PyData} {us : List Value}, Paired Sc vs ds → Vals vs us → ReadsAll h us ds []
  | _, _, _, .nil, .nil => .nil
  | _, _, _, .cons a b, .cons r t => by
    have := ReadsAll.cons (a.reads (h := h) r) (Sc.readsAll b t)
    simpa using this
/-- repr of data without dicts, or of a dict of scalars -/
def rReprD (K : PySem.W.Frag) : List V → Hp → VK → Prop := fun xs H Q => ∃ (v : V) (d : PyData), xs = [v] ∧
  ((Dp K H v d ∧ d.hasDict = false) ∨ ∃ (a : Addr) (kvs : List (Key × V)) (ds : List PyData), v = .ref a ∧ H a = some (.dK kvs) ∧ Paired Sc (kvs.map (·.2)) ds ∧ d = .dict ((kvs.map fun p => keyD p.1).zip ds)) ∧
  d.showable = true ∧ d.shown.length ≤ sizeLine ∧ d.depth ≤ 50 ∧ Q (.str d.shown) H
theorem keys_read {P : Program} {w : World} {h : Heap} : ∀ {es : List DictEntry} {kvs : List (Key × Value)}, Pairs (mixKind P w) es kvs → ReadsAll h (es.map (·.key)) (kvs.map fun p => keyD p.1) [] ∧ es.map (·.val) = kvs.map (·.2)
  | _, _, .nil => ⟨.nil, rfl⟩
  | _, _, .cons (e := e) (kv := kv) a b c => by
    obtain ⟨r1, r2⟩ := keys_read c
    refine ⟨?_, by rw [List.map_cons, List.map_cons, b, r2]⟩
    have k1 : Reads h e.key (keyD kv.1) [] := by
      rcases keyIs_shape (show keyIs kv.1 e.key = true from a) with ⟨i, t, e1, e2⟩ | ⟨x, t, e1, e2⟩
      · rw [e1, e2]
        exact .int i t
      · rw [e1, e2]
        exact .str x t
    have := ReadsAll.cons k1 r1
    simpa using this
section
variable {X : Cx}
theorem call_reprD (hg : X.A.guards = some []) (hu : X.A.units + 64 < cLine) : CallR X (.builtin "repr") (rReprD X.K) := by
  intro pins s σ H xs us Q I r h
  obtain ⟨v, d, rfl, hv, hs, hz, hdp, q⟩ := h
  obtain ⟨u, rfl, rv⟩ := vals1 r
  have fin : ∀ (as : List Addr), Reads s.heap u d as → (d.hasDict = true → sysModules ∉ as) → wpAny (model X.prog X.w) X.A (call (.builtin "repr") [u]) (EP X pins σ Q) X.xe s := by
    intro as hr hno
    cases hr with
    | none => exact PySem.P.repr_of_none ⟨.str _, H, I.tok _, ⟨_, rfl⟩, q⟩
    | bool b => exact PySem.P.repr_of_bool ⟨.str _, H, I.tok _, ⟨_, rfl⟩, q⟩
    | int i t => exact PySem.P.repr_of_int (by simpa [PyData.showable] using hs) ⟨.str _, H, I.tok _, ⟨_, rfl⟩, q⟩
    | str x t => exact PySem.P.repr_of_str ⟨.str _, H, I.tok _, ⟨_, rfl⟩, q⟩ hz
    | list a b c e => exact repr_of_reads' (.list a b c e) hs hno hg (by omega) (fun _ _ z => z) (fun h' u' tk k => ⟨.str _, H, I.kept (t' := tk) k, ⟨_, rfl⟩, q⟩) hz
    | tuple a b c e => exact repr_of_reads' (.tuple a b c e) hs hno hg (by omega) (fun _ _ z => z) (fun h' u' tk k => ⟨.str _, H, I.kept (t' := tk) k, ⟨_, rfl⟩, q⟩) hz
    | dict a b c e f => exact repr_of_reads' (.dict a b c e f) hs hno hg (by omega) (fun _ _ z => z) (fun h' u' tk k => ⟨.str _, H, I.kept (t' := tk) k, ⟨_, rfl⟩, q⟩) hz
  rcases hv with ⟨hd, hno⟩ | ⟨a, kvs, ds, rfl, ha, hp, rfl⟩
  · obtain ⟨as, hr⟩ := Dp.reads I d v u hd rv
    exact fin as hr fun z => by rw [hno] at z; cases z
  · obtain rfl : u = Value.ref a := rv
    obtain ⟨_, hsys, vs, kv, o, es, ep, ho, hE, hD, _, hP, _⟩ : ObjOk X.prog X.w H s.heap a (.dK kvs) := I.hok a _ ha
    obtain ⟨kr, vr⟩ := keys_read (h := s.heap) hP
    have e1 : ∀ {l1 : List (Key × V)} {l2 : List (Key × Value)}, KV l1 l2 → (l2.map fun p => keyD p.1) = (l1.map fun p => keyD p.1) ∧ Vals (l1.map (·.2)) (l2.map (·.2)) := by
      intro l1 l2 hk
      induction hk with
      | nil => exact ⟨rfl, .nil⟩
      | cons a _ ih => exact ⟨by rw [List.map_cons, List.map_cons, a.1, ih.1], .cons a.2 ih.2⟩
    obtain ⟨ek, ev⟩ := e1 kv
    have hlen : (kvs.map fun p => keyD p.1).length = ds.length := by
      have := Paired.length hp
      simpa using this
    have vr2 : ReadsAll s.heap (es.toList.map (·.val)) ds [] := by
      rw [vr]
      exact Sc.readsAll hp ev
    have R : Reads s.heap (.ref a) (.dict ((kvs.map fun p => keyD p.1).zip ds)) (a :: [] ++ []) :=
      .dict ho hE.1 hD (by rw [List.map_fst_zip (Nat.le_of_eq hlen), ← ek]; exact kr) (by rw [List.map_snd_zip (Nat.le_of_eq hlen.symm)]; exact vr2)
    exact fin _ R fun _ z => by
      have : sysModules = a := by simpa using z
      rw [this] at hsys
      simp at hsys
end
end L2

set_option Elab.async false
set_option linter.all false
set_option maxRecDepth 100000
set_option maxHeartbeats 4000000
namespace Dv
open PySem L2 Evl
/-- the type of a datum by its name -/
def tyD : PyData → String
  | .none => "NoneType"
  | .bool _ => "bool"
  | .int _ => "int"
  | .str _ => "str"
  | .list _ => "list"
  | .tuple _ => "tuple"
  | .dict _ => "dict"
def isD (d : PyData) (T : String) : Bool := tyD d == T || (T == "int" && tyD d == "bool")
section
variable {K : PySem.W.Frag} {σ : L2.St} {F F1 H H1 : Hp} {te ta tb : TE} {d a b : PyData} {ds es : List PyData} {i j : Int} {tt tu : TT} {p q : Bool}
theorem tyx_of {v : V} (h : Dp K H v d) : TyX K H v (.type (tyD d)) := by
  cases h with
  | non => exact .base .non
  | bl b => exact .base (.bl b)
  | int i => exact .base (.int i)
  | str x => exact .base (.str x)
  | lst hs _ =>
    rcases hs with (h | ⟨o, h⟩) | ⟨o, its, n, hk, hc, _⟩
    · exact .base (.lst h)
    · exact .base (.frz h)
    · exact .kList hk hc
  | tup hs _ =>
    rcases hs with (h | ⟨o, h⟩) | ⟨o, its, n, hk, hc, _⟩
    · exact .base (.tup h)
    · exact .fTuple h
    · exact .kTuple hk hc
/-- the answers of isinstance for the built-in types -/
def tys : List String := ["int", "bool", "str", "list", "tuple", "dict"]
theorem kit_ty {T : String} (hT : T ∈ tys) (hd : ∀ kv, d ≠ .dict kv) : PySem.W.kitOne K (.type (tyD d)) (.type T) = some (isD d T) := by
  have e : ∀ t ∈ ["NoneType", "bool", "int", "str", "list", "tuple"], ∀ T ∈ tys, PySem.W.kitOne ([] : PySem.W.Frag) (.type t) (.type T) = some (t == T || (T == "int" && t == "bool")) := by decide +kernel
  have e2 : PySem.W.kitOne K (.type (tyD d)) (.type T) = PySem.W.kitOne ([] : PySem.W.Frag) (.type (tyD d)) (.type T) := rfl
  rw [e2]
  refine e _ ?_ T hT
  cases d <;> simp [tyD]
  exact absurd rfl (hd _)
theorem dp_nodict {v : V} (h : Dp K H v d) : ∀ kv, d ≠ .dict kv := by
  intro kv e
  subst e
  cases h
theorem ev_isi {T : String} (h : EvD K ta σ F d) (hT : T ∈ tys) : EvD K (tCB (rIsi K) (tCons ta (tCons (tC (.ty T)) tNil))) σ F (.bool (isD d T)) := fun H e Q q =>
  h H e _ fun v F' H' g hv => ⟨v, .ty T, _, _, _, rfl, .ty T, tyx_of (dp_ex g.fh hv), kit_ty hT (dp_nodict hv), q _ F' H' g (.bl _)⟩
theorem ev_abs (h : EvD K ta σ F (.int i)) : EvD K (tCB (fun xs H Q => ∃ i, xs = [.int i] ∧ Q (.int (if i < 0 then -i else i)) H) (tCons ta tNil)) σ F (.int (i.natAbs : Int)) := fun H e Q q =>
  h H e _ fun v F' H' g hv => by
    cases hv
    refine ⟨i, rfl, q _ F' H' g ?_⟩
    have : (if i < 0 then -i else i) = (i.natAbs : Int) := by split <;> omega
    rw [this]
    exact .int _
theorem ev_int1 (h : EvD K ta σ F (.int i)) : EvD K (tCB (fun xs H Q => (∃ i, xs = [.int i] ∧ Q (.int i) H) ∨ ∃ k, xs = [.bl k] ∧ Q (.int (if k then 1 else 0)) H) (tCons ta tNil)) σ F (.int i) := fun H e Q q =>
  h H e _ fun v F' H' g hv => by
    cases hv
    exact .inl ⟨i, rfl, q _ F' H' g (.int _)⟩
/-- len -/
def lenD : PyData → Option Nat
  | .list ds => some ds.length
  | .tuple ds => some ds.length
  | .str x => some x.length
  | _ => none
theorem ev_len {n : Nat} (h : EvD K ta σ F d) (hl : lenD d = some n) (hn : n ≤ 100000) : EvD K (tCB (fun xs H Q => ∃ x n, xs = [x] ∧ LenV K x H n ∧ Q (.int n) H) (tCons ta tNil)) σ F (.int (n : Int)) := fun H e Q q =>
  h H e _ fun v F' H' g hv => by
    refine ⟨v, n, rfl, ?_, q _ F' H' g (.int _)⟩
    have hv' := dp_ex g.fh hv
    cases hv' with
    | str x => cases hl; exact ⟨sz_of hn, rfl⟩
    | lst hs ha => cases hl; exact .inl ⟨_, hs, (dps_len ha).symm⟩
    | tup hs ha => cases hl; exact .inr ⟨_, hs, (dps_len ha).symm⟩
    | non => cases hl
    | bl b => cases hl
    | int i => cases hl
/-- list(..) of a list or a tuple: a new list; tuple(..) of a list -/
theorem el_list (h : EvD K ta σ F d) (hd : d = .list ds ∨ d = .tuple ds) : EvL K (tCB (fun xs H Q => ∃ p ys, xs = [.ref p] ∧ (SqL K H p ys ∨ SqT K H p ys) ∧ ∀ l, H l = none → Q (.ref l) (upd H l (.lst ys))) (tCons ta tNil)) σ F ds := fun H e Q q =>
  h H e _ fun v F' H' g hv => by
    rcases hd with rfl | rfl
    · cases hv with
      | lst hs ha => exact ⟨_, _, rfl, .inl (ex_l g.fh hs), fun l hl => q l _ F' _ (g.trans (Gr.only g.fh hl)) (ex_none g.hx hl) (ex_none g.fh hl) upd_same ha⟩
    · cases hv with
      | tup hs ha => exact ⟨_, _, rfl, .inr (ex_t g.fh hs), fun l hl => q l _ F' _ (g.trans (Gr.only g.fh hl)) (ex_none g.hx hl) (ex_none g.fh hl) upd_same ha⟩
theorem ev_tuple (h : EvD K ta σ F (.list ds)) : EvD K (tCB (fun xs H Q => ∃ p ys, xs = [.ref p] ∧ ((SqL K H p ys ∧ ∀ l, H l = none → Q (.ref l) (upd H l (.tup ys))) ∨ (SqT K H p ys ∧ Q (.ref p) H))) (tCons ta tNil)) σ F (.tuple ds) := fun H e Q q =>
  h H e _ fun v F' H' g hv => by
    cases hv with
    | lst hs ha => exact ⟨_, _, rfl, .inl ⟨ex_l g.fh hs, fun l hl => q _ _ _ (g.trans (Gr.new g.fh hl)) (.tup (st_of upd_same) (dps_ex (Ex.new (ex_none g.fh hl)) ha))⟩⟩
/-- slices of a list -/
def cutD (ds : List PyData) (lo hi : Option Int) : List PyData := (ds.drop (HT.sIx ds.length 0 lo)).take (HT.sIx ds.length ds.length hi - HT.sIx ds.length 0 lo)
theorem dps_drop : ∀ (n : Nat) {ds : List PyData} {vs : List V}, DpAll K F vs ds → DpAll K F (vs.drop n) (ds.drop n)
  | 0, _, _, h => h
  | n + 1, [], _, h => by cases h; exact .nil
  | n + 1, _ :: _, _, h => by cases h with | cons h1 h2 => exact dps_drop n h2
theorem dps_take : ∀ (n : Nat) {ds : List PyData} {vs : List V}, DpAll K F vs ds → DpAll K F (vs.take n) (ds.take n)
  | 0, _, _, _ => .nil
  | n + 1, [], _, h => by cases h; exact .nil
  | n + 1, _ :: _, _, h => by cases h with | cons h1 h2 => exact .cons h1 (dps_take n h2)
theorem el_sl {tl th : TO} {lo hi : Option Int} (h : EvD K te σ F (.list ds)) (h1 : EoD tl σ F lo) (h2 : EoD th σ F hi) : EvL K (tSl (rSlL K) te tl th) σ F (cutD ds lo hi) := fun H e Q q =>
  h H e _ fun v F1 H1 g1 hv => (h1.mono g1.fx) H1 g1.fh _ fun F2 H2 g2 => (h2.mono (g1.fx.trans g2.fx)) H2 g2.fh _ fun F3 H3 g3 => by
    cases hv with
    | lst hs ha =>
      have e3 := (g2.fx.trans g3.fx)
      have l := dps_len ha
      refine ⟨_, _, rfl, ex_l (e3.trans g3.fh) hs, fun p hp => q p _ F3 _ ((g1.trans (g2.trans g3)).trans (Gr.only g3.fh hp)) (ex_none (g1.trans (g2.trans g3)).hx hp) (ex_none g3.fh hp) upd_same ?_⟩
      unfold cutV cutD
      rw [l]
      exact dps_take _ (dps_drop _ (dps_ex e3 ha))
end
end Dv

set_option Elab.async false
set_option linter.all false
set_option maxRecDepth 100000
set_option maxHeartbeats 4000000
namespace Dv
open PySem PySem.Spec PyProof.Rows L2 Evl
/-- a def that can be called: its name stands for it, and it does what sp says -/
structure Cal (P : Program) (w : World) (K : PySem.W.Frag) (mg : Str → Option Value) (base : Heap) (nm : Str) (ps : List Str) (k : Nat) (sp : Sp) : Prop where
  ex : ∃ f fd, mg nm = some (.ref f) ∧ PySem.W.keepIn K (.ref f) = true ∧ Binds K fd ps [] ∧ FnOkG P w K mg base CX0 k f fd ps sp ∧ ∃ oc od osl, K.lookup f = some ⟨oc, od, .func fd, osl⟩
/-- what the module says of a def -/
structure Def (K : PySem.W.Frag) (mg : Str → Option Value) (nm : Str) (st : Stmt) (ps : List Str) : Prop where
  ex : ∃ f fd, mg nm = some (.ref f) ∧ Fun K nm nm st f fd ∧ Binds K fd ps []
section
variable {P : Program} {w : World} {K : PySem.W.Frag} {mg : Str → Option Value} {base : Heap} {nm : Str} {st : Stmt} {N ps : List Str} {k : Nat} {sp : Sp}
theorem cal_mk (D : Def K mg nm st ps) (S : FnScope N ps (defScope st)) (len : ∀ vs H Q E, sp vs H Q E → vs.length = ps.length)
    (hbody : ∀ (f : Addr) (cdv : Value) (A : Around) (outer : List Env) (s : Shared) (H : Hp) (vs : List V) (Q : VK) (E : XK), RoomG k (A.deeper (envOfC nm (defScope st) s.heap.objs.size f cdv)) → sp vs H Q E →
      ∃ t, PSs (cxOf CX0 P w K mg base N nm (defScope st) f cdv A outer s H E).nox (defBody st) t ∧ t { nx := fun _ H' => Q .non H', rt := Q } (start N vs) H) : Cal P w K mg base nm ps (k + 1) sp := by
  obtain ⟨f, fd, g, F, b⟩ := D.ex
  obtain ⟨oc, od, kV, doc, pm, an, cdv, ct, osl, e, lk, hcd⟩ := F.ex
  exact ⟨f, fd, g, F.kp, b, F.okG S len (hbody f), oc, od, osl, lk⟩
theorem len_D {f : List PyData → PyData → Prop} {n : Nat} (h : ∀ ds d, f ds d → ds.length = n) : ∀ vs H Q E, spD K f vs H Q E → vs.length = n := fun _ _ _ _ ⟨_, _, _, _, hv, hf, _⟩ => (dps_len hv).trans (h _ _ hf)
theorem len_N {f : List PyData → List PyData → Prop} {n : Nat} (h : ∀ ds d, f ds d → ds.length = n) : ∀ vs H Q E, spN K f vs H Q E → vs.length = n := fun _ _ _ _ ⟨_, _, _, _, hv, hf, _⟩ => (dps_len hv).trans (h _ _ hf)
end
section
variable {X : Cx} {x : Str} {p pos : Pos} {e : Expr} {es : List Expr} {t : TA} {k j : Nat} {ps : List Str} {sp : Sp}
theorem pe_callC (C : Cal X.prog X.w X.K X.mg X.base x ps k sp) (hr : RoomG j X.A) (ha : PA X (e :: es) t) (hg : Gl X x := by rfl) (hj : k ≤ j := by decide) (hdb : (x == ("__debug__" : Str)) = false := by decide)
    (he : starEach (e :: es) X.env = (false, eval e X.env) :: starEach es X.env := by rfl) (hpl : (backTo pos (starEach es X.env)).any (·.1) = false := by rfl) : PE X (.Call (.Name x p) (e :: es) [] pos) (tCall sp [] E0 t) := by
  obtain ⟨f, fd, g, kp, b, G, _⟩ := C.ex
  exact pe_callG G (hr.mono hj) hg g kp b .nil pass0 ha hdb he hpl
end
section
variable {K : PySem.W.Frag} {σ : L2.St} {F : Hp} {te ta tb : TE} {d a b : PyData} {tt tu : TT} {p q : Bool}
/-! ### tests whose first part decides -/
theorem et_orT (h : EtD tt σ F true) : EtD (tOr tt tu) σ F true := et_or (q := true) h fun z => nomatch z
theorem et_orF (h : EtD tt σ F false) (h2 : EtD tu σ F q) : EtD (tOr tt tu) σ F q := et_or h fun _ => h2
theorem et_andF (h : EtD tt σ F false) : EtD (tAnd tt tu) σ F false := et_and (q := false) h fun z => nomatch z
theorem et_andT (h : EtD tt σ F true) (h2 : EtD tu σ F q) : EtD (tAnd tt tu) σ F q := et_and h fun _ => h2
theorem ev_orT (h : EvD K ta σ F (.bool true)) : EvD K (tOrV ta tb) σ F (.bool true) := ev_orV (q := true) h fun z => nomatch z
theorem ev_orF (h : EvD K ta σ F (.bool false)) (h2 : EvD K tb σ F (.bool q)) : EvD K (tOrV ta tb) σ F (.bool q) := ev_orV h fun _ => h2
theorem ev_andF (h : EvD K ta σ F (.bool false)) : EvD K (tAndV ta tb) σ F (.bool false) := ev_andV (q := false) h fun z => nomatch z
theorem ev_andT (h : EvD K ta σ F (.bool true)) (h2 : EvD K tb σ F (.bool q)) : EvD K (tAndV ta tb) σ F (.bool q) := ev_andV h fun _ => h2
theorem ev_ifT (h : EtD tt σ F true) (h1 : EvD K ta σ F d) : EvD K (tIf tt ta tb) σ F d := ev_if h (fun _ => h1) fun z => nomatch z
theorem ev_ifF (h : EtD tt σ F false) (h1 : EvD K tb σ F d) : EvD K (tIf tt ta tb) σ F d := ev_if h (fun z => nomatch z) fun _ => h1
theorem s_ifT {ts tw : TS} {D : Ends} {H : Hp} (h : EtD tt σ F true) (e : Ex F H) (k : ∀ F' H', Gr F H F' H' → ts D σ H') : tIfS tt ts tw D σ H := s_if h e (fun _ => k) fun z => nomatch z
theorem s_ifF {ts tw : TS} {D : Ends} {H : Hp} (h : EtD tt σ F false) (e : Ex F H) (k : ∀ F' H', Gr F H F' H' → tw D σ H') : tIfS tt ts tw D σ H := s_if h e (fun z => nomatch z) fun _ => k
theorem et_notT (h : EtD tt σ F true) : EtD (tNot tt) σ F false := et_not h
theorem et_notF (h : EtD tt σ F false) : EtD (tNot tt) σ F true := et_not h
theorem et_v (h : EvD K te σ F d) (e : d = .bool p) : EtD (tTest te) σ F p := et_test (by rw [← e]; exact h)
theorem one {vs : List V} {a : PyData} (h : DpAll K F vs [a]) : ∃ x, vs = [x] ∧ Dp K F x a := by
  cases h with
  | cons h1 h =>
  cases h
  exact ⟨_, rfl, h1⟩
theorem two {vs : List V} {a b : PyData} (h : DpAll K F vs [a, b]) : ∃ x y, vs = [x, y] ∧ Dp K F x a ∧ Dp K F y b := by
  cases h with
  | cons h1 h =>
  cases h with
  | cons h2 h =>
  cases h
  exact ⟨_, _, rfl, h1, h2⟩
theorem three {vs : List V} {a b c : PyData} (h : DpAll K F vs [a, b, c]) : ∃ x y z, vs = [x, y, z] ∧ Dp K F x a ∧ Dp K F y b ∧ Dp K F z c := by
  cases h with
  | cons h1 h =>
  obtain ⟨x, y, rfl, h2, h3⟩ := two h
  exact ⟨_, _, _, rfl, h1, h2, h3⟩
end
end Dv

set_option Elab.async false
set_option linter.all false
set_option maxRecDepth 100000
set_option maxHeartbeats 4000000
namespace R3
open PySem PySem.Spec PyProof.Rows L2 Dv
def top (i : Nat) : Stmt := PySem.Challenge.pw_wholemills_k30_brews_and_their_gains.main.body.getD i (.Pass ⟨0, 0, 0, 0⟩)
abbrev sWall : Stmt := top 0
abbrev sIsWhole : Stmt := top 12
abbrev sIsName : Stmt := top 13
abbrev sCommonDivisor : Stmt := top 14
abbrev sFraction : Stmt := top 15
abbrev sIsFraction : Stmt := top 16
abbrev sIsAmount : Stmt := top 17
abbrev sPlus : Stmt := top 18
abbrev sScaled : Stmt := top 19
abbrev sCheckSize : Stmt := top 25
abbrev sIsNumber : Stmt := top 26
abbrev sIsStuff : Stmt := top 27
abbrev sAreParts : Stmt := top 28
abbrev sIsRecipe : Stmt := top 29
abbrev sCheckMill : Stmt := top 30
abbrev sNumbersOf : Stmt := top 31
abbrev sIsBrew : Stmt := top 34
abbrev sGainsOf : Stmt := top 35
abbrev sGain : Stmt := top 36
abbrev sIsFair : Stmt := top 37
abbrev sIsLoop : Stmt := top 38
abbrev sLawCell : Stmt := top 40
abbrev sLawHash : Stmt := top 41
abbrev sLawGenerator : Stmt := top 42
abbrev sLawRandom : Stmt := top 43
abbrev sLawFraction : Stmt := top 44
abbrev sLawSum : Stmt := top 45
abbrev sLawSide : Stmt := top 46
abbrev sLawGains : Stmt := top 47
abbrev sLawRecipe : Stmt := top 48
abbrev sLawMoved : Stmt := top 49
abbrev sLawWorth : Stmt := top 50
abbrev sLawSidesDrawn : Stmt := top 51
abbrev sLawMillDrawn : Stmt := top 52
abbrev sLawMade : Stmt := top 53
abbrev sLawAllGains : Stmt := top 54
abbrev sLawBrewDrawn : Stmt := top 55
abbrev sLawBent : Stmt := top 56
abbrev sLawCaught : Stmt := top 57
abbrev sLawIsLoop : Stmt := top 58
abbrev sLawIsFair : Stmt := top 59
abbrev sLawRight : Stmt := top 60
abbrev sLawPricesRight : Stmt := top 61
abbrev sLaw : Stmt := top 62
/-- the built-in names that the module does not hold -/
structure Bl (mg : Str → Option Value) : Prop where
  int : mg "int" = none
  bool : mg "bool" = none
  str : mg "str" = none
  list : mg "list" = none
  tuple : mg "tuple" = none
  dict : mg "dict" = none
  len : mg "len" = none
  range : mg "range" = none
  sum : mg "sum" = none
  max : mg "max" = none
  abs : mg "abs" = none
  isi : mg "isinstance" = none
  repr : mg "repr" = none
  zip : mg "zip" = none
  enum : mg "enumerate" = none
section
variable {P : Program} {w : World} {K : PySem.W.Frag} {mg : Str → Option Value} {base : Heap}
/-! ### common_divisor, fraction -/
def spGcd : Sp := fun vs H Q _ => ∃ a b : Nat, vs = [.int a, .int b] ∧ Q (.int (Nat.gcd a b : Nat)) H
theorem sc_common_divisor : FnScope (["one", "other"] : List Str) (["one", "other"] : List Str) (defScope sCommonDivisor) := ⟨rfl, rfl, rfl, by decide +kernel, rfl, by decide +kernel, by decide +kernel⟩
theorem ok_common_divisor (D : Def K mg "common_divisor" sCommonDivisor ["one", "other"]) : Cal P w K mg base "common_divisor" ["one", "other"] 1 spGcd := by
  refine cal_mk D sc_common_divisor (fun vs H Q E h => ?_) (fun f cdv A outer s H vs Q E hr h => ?_)
  · obtain ⟨a, b, rfl, _⟩ := h
    rfl
  · obtain ⟨a, b, rfl, q⟩ := h
    refine ⟨_, (pss_cons (ps_while PassesOwn.never (pt_cmpR op_ne (pv 1) pe_int (nomark _)) (pss_one (ps_par (i := 0) (j := 1) (by rfl) sc_common_divisor.nd rfl rfl (by decide) rfl rfl (pa_cons (pv 1) (pa_cons (pe_op op_mod (pv 0) (pv 1)) pa_nil)) (by rfl))))
      (pss_one (ps_ret (pv 0)))), ?_⟩
    refine ⟨fun m σ H' => ∃ x y : Nat, σ = [some (.int x), some (.int y)] ∧ Nat.gcd x y = Nat.gcd a b ∧ m = y ∧ H' = H, ⟨b, a, b, rfl, rfl, rfl, rfl⟩, ?_⟩
    rintro m σ H' ⟨x, y, rfl, hg, rfl, rfl⟩
    refine ⟨_, rfl, rfl, _, rfl, ?_⟩
    have e : (!decide (V.int (m : Int) = V.int 0)) = decide (m ≠ 0) := by
      rw [dec_int, Bool.eq_iff_iff]
      simp
    rw [e]
    by_cases h0 : m = 0
    · subst h0
      rw [decide_eq_false (by simp)]
      refine iteF ?_
      refine ⟨_, rfl, ?_⟩
      rw [← hg, Nat.gcd_zero_right] at q
      exact q
    · rw [decide_eq_true h0]
      refine iteT ?_
      refine ⟨fun σ' H2 => ∃ x' y' : Nat, σ' = [some (.int x'), some (.int y')] ∧ Nat.gcd x' y' = Nat.gcd a b ∧ y' < m ∧ H2 = H', ?_, ?_⟩
      · rintro σ' H2 ⟨x', y', h1, h2, h3, h4⟩
        exact ⟨y', h3, x', y', h1, h2, rfl, h4⟩
      · refine ⟨_, rfl, _, rfl, _, rfl, _, _, rfl, rfl, (by omega), _, _, rfl, m, x % m, ?_, ?_, Nat.mod_lt _ (by omega), rfl⟩
        · rfl
        · rw [Nat.gcd_comm m, ← Nat.gcd_rec, Nat.gcd_comm m x, hg]
theorem ev_gcd {σ : L2.St} {F : Hp} {ta tb : TE} {i j : Int} {E : XK} (hi : 0 ≤ i) (hj : 0 ≤ j) (ha : EvD K ta σ F (.int i)) (hb : EvD K tb σ F (.int j)) : EvD K (tCall spGcd [] E (tCons ta (tCons tb tNil))) σ F (.int (Nat.gcd i.natAbs j.natAbs : Nat)) :=
  ev_call (Dv.ea_cons ha (Dv.ea_cons hb Dv.ea_nil)) fun vs F1 H1 _ e1 hv Q q => by
    cases hv with
    | cons h1 hv =>
    cases hv with
    | cons h2 hv =>
    cases hv
    cases h1
    cases h2
    refine ⟨i.natAbs, j.natAbs, ?_, q _ F1 H1 (Gr.refl e1) (.int _)⟩
    rw [show ((i.natAbs : Nat) : Int) = i by omega, show ((j.natAbs : Nat) : Int) = j by omega] <;> rfl
/-- top over under, in least terms -/
def frac (t : Int) (u : Int) : Int × Int := (t / (Nat.gcd t.natAbs u.natAbs : Int), u / (Nat.gcd t.natAbs u.natAbs : Int))
def encF (x : Int × Int) : PyData := .tuple [.int x.1, .int x.2]
def fFrac : List PyData → PyData → Prop := fun ds d => ∃ t u : Int, ds = [.int t, .int u] ∧ 0 < u ∧ u < 1073741824 ∧ d = encF (frac t u)
theorem two {F : Hp} {vs : List V} {a b : PyData} (h : DpAll K F vs [a, b]) : ∃ x y, vs = [x, y] ∧ Dp K F x a ∧ Dp K F y b := by
  cases h with
  | cons h1 h =>
  cases h with
  | cons h2 h =>
  cases h
  exact ⟨_, _, rfl, h1, h2⟩
theorem one {F : Hp} {vs : List V} {a : PyData} (h : DpAll K F vs [a]) : ∃ x, vs = [x] ∧ Dp K F x a := by
  cases h with
  | cons h1 h =>
  cases h
  exact ⟨_, rfl, h1⟩
theorem sc_fraction : FnScope (["top", "under", "common"] : List Str) (["top", "under"] : List Str) (defScope sFraction) := ⟨rfl, rfl, rfl, by decide +kernel, rfl, by decide +kernel, by decide +kernel⟩
theorem ok_fraction (D : Def K mg "fraction" sFraction ["top", "under"]) (B : Bl mg) (C_common_divisor : Cal P w K mg base "common_divisor" ["one", "other"] 1 spGcd) : Cal P w K mg base "fraction" ["top", "under"] 2 (spD K fFrac) := by
  refine cal_mk D sc_fraction (len_D (by rintro _ _ ⟨t, u, rfl, _⟩; rfl)) (fun f cdv A outer s H vs Q E hr h => ?_)
  obtain ⟨F, ds, d, e, hv, ⟨t, u, rfl, hu, hu2, rfl⟩, q⟩ := h
  obtain ⟨x, y, rfl, h1, h2⟩ := two hv
  refine ⟨_, (pss_cons (ps_set (i := 2) sc_fraction.nd rfl (.inl rfl) (pe_callC C_common_divisor hr (pa_cons (pe_callB call_abs (by rfl) B.abs (by decide +kernel) (pa_cons (pv 0) pa_nil)) (pa_cons (pv 1) pa_nil))))
      (pss_one (ps_ret (pe_tup (pa_cons (pe_op op_fdiv (pv 0) (pv 2)) (pa_cons (pe_op op_fdiv (pv 1) (pv 2)) pa_nil)))))), ?_⟩
  have hg : 0 < Nat.gcd t.natAbs u.natAbs := Nat.gcd_pos_of_pos_right _ (by omega)
  have hg2 : Nat.gcd t.natAbs u.natAbs ≤ u.natAbs := Nat.gcd_le_right _ (by omega)
  refine Dv.s_asg (K := K) (F := F) (d := .int (Nat.gcd t.natAbs u.natAbs : Nat)) (Dv.ev_is (ev_gcd (by omega) (by omega) (ev_abs (Dv.ev_var rfl h1)) (Dv.ev_var rfl h2)) (by simp)) e ?_
  intro v F1 H1 g1 hv
  refine Dv.s_ret (K := K) (d := encF (frac t u)) (Dv.ev_tup (Dv.ea_cons (Dv.ev_I ⟨by omega, by omega⟩ (fun _ => .int _) (Dv.ev_var rfl (dp_ex g1.fx h1)) (Dv.ev_var rfl hv)) (Dv.ea_cons (Dv.ev_I ⟨by omega, by omega⟩ (fun _ => .int _) (Dv.ev_var rfl (dp_ex g1.fx h2)) (Dv.ev_var rfl hv)) Dv.ea_nil)) (by simp)) g1.fh ?_
  intro v F2 H2 g2 hv
  exact q v F2 H2 (g1.trans g2) hv
/-! ### plus, scaled -/
def fplus (x y : Int × Int) : Int × Int := frac (x.1 * y.2 + y.1 * x.2) (x.2 * y.2)
def fscaled (x : Int × Int) (n : Int) : Int × Int := frac (x.1 * n) x.2
/-- a fraction whose numbers are small -/
def Sm (x : Int × Int) : Prop := 0 < x.2 ∧ x.2 < 32768 ∧ -1000000000000 < x.1 ∧ x.1 < 1000000000000
def fPlus : List PyData → PyData → Prop := fun ds d => ∃ x y : Int × Int, ds = [encF x, encF y] ∧ Sm x ∧ Sm y ∧ d = encF (fplus x y)
theorem sc_plus : FnScope (["one", "other"] : List Str) (["one", "other"] : List Str) (defScope sPlus) := ⟨rfl, rfl, rfl, by decide +kernel, rfl, by decide +kernel, by decide +kernel⟩
theorem ok_plus (D : Def K mg "plus" sPlus ["one", "other"]) (C_fraction : Cal P w K mg base "fraction" ["top", "under"] 2 (spD K fFrac)) : Cal P w K mg base "plus" ["one", "other"] 3 (spD K fPlus) := by
  refine cal_mk D sc_plus (len_D (by rintro _ _ ⟨t, u, rfl, _⟩; rfl)) (fun f cdv A outer s H vs Q E hr h => ?_)
  obtain ⟨F, ds, d, e, hv, ⟨⟨a, b⟩, ⟨c, d⟩, rfl, ⟨s1, s2, s3, s4⟩, ⟨t1, t2, t3, t4⟩, rfl⟩, q⟩ := h
  obtain ⟨x, y, rfl, h1, h2⟩ := two hv
  dsimp only at s1 s2 s3 s4 t1 t2 t3 t4
  refine ⟨_, (pss_one (ps_ret (pe_callC C_fraction hr (pa_cons (pe_op op_add (pe_op op_mul (pe_ix ix_tup (pv 0) pe_int (fun _ _ => rfl)) (pe_ix ix_tup (pv 1) pe_int (fun _ _ => rfl))) (pe_op op_mul (pe_ix ix_tup (pv 1) pe_int (fun _ _ => rfl)) (pe_ix ix_tup (pv 0) pe_int (fun _ _ => rfl)))) (pa_cons (pe_op op_mul (pe_ix ix_tup (pv 0) pe_int (fun _ _ => rfl)) (pe_ix ix_tup (pv 1) pe_int (fun _ _ => rfl))) pa_nil))))), ?_⟩
  have p1 : 0 < b * d := Int.mul_pos s1 t1
  have p2 : b * d < 1073741824 := by
    have : b * d ≤ 32767 * 32767 := Int.mul_le_mul (by omega) (by omega) (by omega) (by omega)
    omega
  have o0 := Dv.ev_ixT (K := K) (F := F) (σ := [some x, some y]) (i := 0) (d := .int a) (Dv.ev_var (i := 0) rfl h1) (Dv.ev_int 0) rfl
  have o1 := Dv.ev_ixT (K := K) (F := F) (σ := [some x, some y]) (i := 1) (d := .int b) (Dv.ev_var (i := 0) rfl h1) (Dv.ev_int 1) rfl
  have t0 := Dv.ev_ixT (K := K) (F := F) (σ := [some x, some y]) (i := 0) (d := .int c) (Dv.ev_var (i := 1) rfl h2) (Dv.ev_int 0) rfl
  have u1 := Dv.ev_ixT (K := K) (F := F) (σ := [some x, some y]) (i := 1) (d := .int d) (Dv.ev_var (i := 1) rfl h2) (Dv.ev_int 1) rfl
  refine Dv.s_ret (K := K) (d := encF (fplus (a, b) (c, d))) (ev_callD (Dv.ea_cons (Dv.ev_I0 (fun _ => .int _) (Dv.ev_I (.inl ⟨by omega, by omega⟩) (fun _ => .int _) o0 u1) (Dv.ev_I (.inl ⟨by omega, by omega⟩) (fun _ => .int _) t0 o1))
    (Dv.ea_cons (Dv.ev_I (.inl ⟨by omega, by omega⟩) (fun _ => .int _) o1 u1) Dv.ea_nil)) ⟨_, _, rfl, p1, p2, rfl⟩) e ?_
  exact fun v F2 H2 g2 hv => q v F2 H2 g2 hv
end
end R3

set_option Elab.async false
set_option linter.all false
set_option maxRecDepth 100000
set_option maxHeartbeats 4000000
namespace R3
open PySem PySem.Spec PyProof.Rows L2 Dv
section
variable {P : Program} {w : World} {K : PySem.W.Frag} {mg : Str → Option Value} {base : Heap}
theorem one_times {n : Int} (x : Int × Int) : True := trivial
def fScaled : List PyData → PyData → Prop := fun ds d => ∃ (x : Int × Int) (n : Int), ds = [encF x, .int n] ∧ 0 < x.2 ∧ x.2 < 1073741824 ∧ (-1000000000000 < n ∧ n < 1000000000000) ∧ d = encF (fscaled x n)
theorem sc_scaled : FnScope (["one", "number"] : List Str) (["one", "number"] : List Str) (defScope sScaled) := ⟨rfl, rfl, rfl, by decide +kernel, rfl, by decide +kernel, by decide +kernel⟩
theorem ok_scaled (D : Def K mg "scaled" sScaled ["one", "number"]) (C_fraction : Cal P w K mg base "fraction" ["top", "under"] 2 (spD K fFrac)) : Cal P w K mg base "scaled" ["one", "number"] 3 (spD K fScaled) := by
  refine cal_mk D sc_scaled (len_D (by rintro _ _ ⟨t, u, rfl, _⟩; rfl)) (fun f cdv A outer s H vs Q E hr h => ?_)
  obtain ⟨F, ds, d, e, hv, ⟨⟨a, b⟩, n, rfl, s1, s2, ⟨s3, s4⟩, rfl⟩, q⟩ := h
  obtain ⟨x, y, rfl, h1, h2⟩ := Dv.two hv
  dsimp only at s1 s2
  refine ⟨_, (pss_one (ps_ret (pe_callC C_fraction hr (pa_cons (pe_op op_mul (pe_ix ix_tup (pv 0) pe_int (fun _ _ => rfl)) (pv 1)) (pa_cons (pe_ix ix_tup (pv 0) pe_int (fun _ _ => rfl)) pa_nil))))), ?_⟩
  refine Dv.s_ret (K := K) (d := encF (fscaled (a, b) n)) (ev_callD (Dv.ea_cons (Dv.ev_I (.inr ⟨by omega, by omega⟩) (fun _ => .int _) (Dv.ev_ixT (d := .int a) (Dv.ev_var rfl h1) (Dv.ev_int 0) rfl) (Dv.ev_var rfl h2)) (Dv.ea_cons (Dv.ev_ixT (d := .int b) (Dv.ev_var rfl h1) (Dv.ev_int 1) rfl) Dv.ea_nil)) ⟨_, _, rfl, s1, s2, rfl⟩) e ?_
  exact fun v F2 H2 g2 hv => q v F2 H2 g2 hv
/-! ### is_whole, is_fraction, is_amount -/
def isWhole (d : PyData) : Bool := isD d "int" && !isD d "bool"
def fWhole : List PyData → PyData → Prop := fun ds d => ∃ x, ds = [x] ∧ d = .bool (isWhole x)
theorem sc_is_whole : FnScope (["value"] : List Str) (["value"] : List Str) (defScope sIsWhole) := ⟨rfl, rfl, rfl, by decide +kernel, rfl, by decide +kernel, by decide +kernel⟩
theorem ok_is_whole (D : Def K mg "is_whole" sIsWhole ["value"]) (B : Bl mg) : Cal P w K mg base "is_whole" ["value"] 1 (spD K fWhole) := by
  refine cal_mk D sc_is_whole (len_D (by rintro _ _ ⟨t, rfl, _⟩; rfl)) (fun f cdv A outer s H vs Q E hr h => ?_)
  obtain ⟨F, ds, d, e, hv, ⟨d, rfl, rfl⟩, q⟩ := h
  obtain ⟨x, rfl, h1⟩ := Dv.one hv
  refine ⟨_, (pss_one (ps_ret (pe_and (pe_callB call_isi (by rfl) B.isi (by decide +kernel) (pa_cons (pv 0) (pa_cons (pe_bltn (v := .ty "int") (by rfl) B.int (by decide +kernel) rfl) pa_nil))) (pe_one (pe_not (pe_callB call_isi (by rfl) B.isi (by decide +kernel) (pa_cons (pv 0) (pa_cons (pe_bltn (v := .ty "bool") (by rfl) B.bool (by decide +kernel) rfl) pa_nil)))))))), ?_⟩
  exact Dv.s_ret (K := K) (d := .bool (isWhole d)) (Dv.ev_andV (ev_isi (Dv.ev_var rfl h1) (by decide)) fun _ => Dv.ev_notV (ev_isi (Dv.ev_var rfl h1) (by decide))) e fun v F2 H2 g2 hv => q v F2 H2 g2 hv
theorem whole_int {d : PyData} (h : isWhole d = true) : ∃ i, d = .int i := by
  cases d <;> first | exact ⟨_, rfl⟩ | (simp [isWhole, isD, tyD] at h)
/-- a fraction in least terms -/
def isFrac : PyData → Bool
  | .tuple [.int a, .int b] => decide (1 ≤ b) && (Nat.gcd a.natAbs b.natAbs == 1)
  | _ => false
def fIsFrac : List PyData → PyData → Prop := fun ds d => ∃ x, ds = [x] ∧ (∀ es, x = .tuple es → es.length ≤ 100000) ∧ d = .bool (isFrac x)
theorem sc_is_fraction : FnScope (["value"] : List Str) (["value"] : List Str) (defScope sIsFraction) := ⟨rfl, rfl, rfl, by decide +kernel, rfl, by decide +kernel, by decide +kernel⟩
theorem ok_is_fraction (D : Def K mg "is_fraction" sIsFraction ["value"]) (B : Bl mg) (C_common_divisor : Cal P w K mg base "common_divisor" ["one", "other"] 1 spGcd) (C_is_whole : Cal P w K mg base "is_whole" ["value"] 1 (spD K fWhole)) :
    Cal P w K mg base "is_fraction" ["value"] 2 (spD K fIsFrac) := by
  refine cal_mk D sc_is_fraction (len_D (by rintro _ _ ⟨t, rfl, _⟩; rfl)) (fun f cdv A outer s H vs Q E hr h => ?_)
  obtain ⟨F, ds, d, e, hv, ⟨d, rfl, hsz, rfl⟩, q⟩ := h
  obtain ⟨x, rfl, h1⟩ := Dv.one hv
  refine ⟨_, (pss_cons (ps_if (PW.pt (pw_or (pt_not (pt_val (pe_callB call_isi (by rfl) B.isi (by decide +kernel) (pa_cons (pv 0) (pa_cons (pe_bltn (v := .ty "tuple") (by rfl) B.tuple (by decide +kernel) rfl) pa_nil))))) (pw_or (pt_cmpR op_ne (pe_callB call_len (by rfl) B.len (by decide +kernel) (pa_cons (pv 0) pa_nil)) pe_int (nomark _)) (pw_or (pt_not (pt_val (pe_callC C_is_whole hr (pa_cons (pe_ix ix_tup (pv 0) pe_int (fun _ _ => rfl)) pa_nil)))) (pw_or1 (pt_not (pt_val (pe_callC C_is_whole hr (pa_cons (pe_ix ix_tup (pv 0) pe_int (fun _ _ => rfl)) pa_nil))))))))) (pss_one (ps_ret pe_bl)) pss_nil)
      (pss_one (ps_ret (pe_and (pe_cmpR op_ge (pe_ix ix_tup (pv 0) pe_int (fun _ _ => rfl)) pe_int (nomark _)) (pe_one (pe_cmpR op_eq (pe_callC C_common_divisor hr (pa_cons (pe_callB call_abs (by rfl) B.abs (by decide +kernel) (pa_cons (pe_ix ix_tup (pv 0) pe_int (fun _ _ => rfl)) pa_nil)) (pa_cons (pe_ix ix_tup (pv 0) pe_int (fun _ _ => rfl)) pa_nil))) pe_int (nomark _))))))), ?_⟩
  have no : isFrac d = false → ∀ F1 H1, Gr F H F1 H1 → Q (.bl false) H1 := fun h F1 H1 g => q _ F1 H1 g (by rw [h]; exact .bl false)
  have vx := Dv.ev_var (σ := [some x]) (i := 0) rfl h1
  by_cases ht : ∃ es, d = .tuple es
  · obtain ⟨es, rfl⟩ := ht
    have hl := hsz es rfl
    have tT := et_notT (Dv.et_test (ev_isi (T := "tuple") vx (by decide)))
    by_cases h2 : es.length = 2
    · match es, h2 with
      | [a, b], _ =>
        have ln := et_v (p := false) (Dv.ev_neI (ev_len vx rfl (by simp)) (Dv.ev_int 2)) rfl
        have va := Dv.ev_ixT (d := a) vx (Dv.ev_int 0) rfl
        have vb := Dv.ev_ixT (d := b) vx (Dv.ev_int 1) rfl
        by_cases ha : isWhole a = true
        · by_cases hb : isWhole b = true
          · obtain ⟨i, rfl⟩ := whole_int ha
            obtain ⟨j, rfl⟩ := whole_int hb
            refine s_ifF (et_orF tT (et_orF ln (et_orF (et_notT (et_v (ev_callD (Dv.ea_cons va Dv.ea_nil) ⟨_, rfl, rfl⟩) rfl)) (et_notT (et_v (ev_callD (Dv.ea_cons vb Dv.ea_nil) ⟨_, rfl, rfl⟩) rfl))))) e fun F1 H1 g1 => ?_
            have vb' := vb.mono g1.fx
            have va' := va.mono g1.fx
            by_cases hj : 1 ≤ j
            · exact Dv.s_ret (K := K) (d := .bool (isFrac (.tuple [.int i, .int j]))) (Dv.ev_andV (Dv.ev_I0 (k := .bool (decide (1 ≤ j))) (fun _ => .bl _) vb' (Dv.ev_int 1)) fun _ => Dv.ev_is (Dv.ev_eqI (ev_gcd (by omega) (by omega) (ev_abs va') vb') (Dv.ev_int 1)) (by
                congr 1
                rw [Bool.eq_iff_iff]
                simp
                omega)) g1.fh fun v F2 H2 g2 hv => q v F2 H2 (g1.trans g2) hv
            · have e0 : isFrac (.tuple [.int i, .int j]) = false := by simp [isFrac, hj]
              exact Dv.s_ret (K := K) (d := .bool false) (ev_andF (Dv.ev_is (Dv.ev_I0 (k := .bool (decide (1 ≤ j))) (fun _ => .bl _) vb' (Dv.ev_int 1)) (by rw [decide_eq_false hj]))) g1.fh fun v F2 H2 g2 hv => q v F2 H2 (g1.trans g2) (by rw [e0]; exact hv)
          · have hb : isWhole b = false := by simpa using hb
            have e0 : isFrac (.tuple [a, b]) = false := by
              cases a <;> cases b <;> first | rfl | (exfalso; revert hb; decide) | (exfalso; revert hb; simp [isWhole, isD, tyD])
            exact s_ifT (et_orF tT (et_orF ln (et_orF (et_notT (et_v (ev_callD (Dv.ea_cons va Dv.ea_nil) ⟨_, rfl, rfl⟩) (by rw [ha]))) (et_notF (et_v (ev_callD (Dv.ea_cons vb Dv.ea_nil) ⟨_, rfl, rfl⟩) (by rw [hb])))))) e fun F1 H1 g1 => no e0 F1 H1 g1
        · have ha : isWhole a = false := by simpa using ha
          have e0 : isFrac (.tuple [a, b]) = false := by
            cases a <;> cases b <;> first | rfl | (exfalso; revert ha; decide) | (exfalso; revert ha; simp [isWhole, isD, tyD])
          exact s_ifT (et_orF tT (et_orF ln (et_orT (et_notF (et_v (ev_callD (Dv.ea_cons va Dv.ea_nil) ⟨_, rfl, rfl⟩) (by rw [ha])))))) e fun F1 H1 g1 => no e0 F1 H1 g1
    · have e0 : isFrac (.tuple es) = false := by
        unfold isFrac
        split
        · rename_i q
          cases q
          exact absurd rfl h2
        · rfl
      exact s_ifT (et_orF tT (et_orT (et_v (Dv.ev_neI (ev_len vx rfl hl) (Dv.ev_int 2)) (by
        congr 1
        simp only [bne_iff_ne, ne_eq]
        omega)))) e fun F1 H1 g1 => no e0 F1 H1 g1
  · have e0 : isFrac d = false := by
      unfold isFrac
      split
      · exact absurd ⟨_, rfl⟩ ht
      · rfl
    have e1 : isD d "tuple" = false := by
      cases d <;> first | rfl | exact absurd ⟨_, rfl⟩ ht
    exact s_ifT (et_orT (et_notF (et_v (ev_isi (T := "tuple") vx (by decide)) (by rw [e1])))) e fun F1 H1 g1 => no e0 F1 H1 g1
def isAmt (d : PyData) : Bool := isFrac d && (match d with | .tuple (.int a :: _) => decide (0 ≤ a) | _ => false)
def fIsAmt : List PyData → PyData → Prop := fun ds d => ∃ x, ds = [x] ∧ (∀ es, x = .tuple es → es.length ≤ 100000) ∧ d = .bool (isAmt x)
theorem frac_shape {d : PyData} (h : isFrac d = true) : ∃ a b : Int, d = .tuple [.int a, .int b] ∧ 1 ≤ b := by
  unfold isFrac at h
  split at h
  · rename_i a b
    rw [Bool.and_eq_true] at h
    exact ⟨a, b, rfl, of_decide_eq_true h.1⟩
  · cases h
theorem sc_is_amount : FnScope (["value"] : List Str) (["value"] : List Str) (defScope sIsAmount) := ⟨rfl, rfl, rfl, by decide +kernel, rfl, by decide +kernel, by decide +kernel⟩
theorem ok_is_amount (D : Def K mg "is_amount" sIsAmount ["value"]) (C_is_fraction : Cal P w K mg base "is_fraction" ["value"] 2 (spD K fIsFrac)) : Cal P w K mg base "is_amount" ["value"] 3 (spD K fIsAmt) := by
  refine cal_mk D sc_is_amount (len_D (by rintro _ _ ⟨t, rfl, _⟩; rfl)) (fun f cdv A outer s H vs Q E hr h => ?_)
  obtain ⟨F, ds, d, e, hv, ⟨d, rfl, hsz, rfl⟩, q⟩ := h
  obtain ⟨x, rfl, h1⟩ := Dv.one hv
  refine ⟨_, (pss_one (ps_ret (pe_and (pe_callC C_is_fraction hr (pa_cons (pv 0) pa_nil)) (pe_one (pe_cmpR op_ge (pe_ix ix_tup (pv 0) pe_int (fun _ _ => rfl)) pe_int (nomark _)))))), ?_⟩
  refine Dv.s_ret (K := K) (d := .bool (isAmt d)) (Dv.ev_andV (ev_callD (Dv.ea_cons (Dv.ev_var rfl h1) Dv.ea_nil) ⟨_, rfl, hsz, rfl⟩) fun hf => ?_) e fun v F2 H2 g2 hv => q v F2 H2 g2 hv
  obtain ⟨a, b, rfl, _⟩ := frac_shape hf
  exact Dv.ev_I0 (fun _ => .bl _) (Dv.ev_ixT (d := .int a) (Dv.ev_var rfl h1) (Dv.ev_int 0) rfl) (Dv.ev_int 0)
end
end R3

set_option Elab.async false
set_option linter.all false
set_option maxRecDepth 100000
set_option maxHeartbeats 4000000
namespace Dv
open PySem L2 Evl
section
variable {K : PySem.W.Frag} {σ : L2.St} {F F1 H H1 : Hp} {te ta tb tc : TE} {d a b : PyData} {ds es : List PyData} {i j k : Int} {p q : Bool}
/-- a <= b <= c -/
theorem ev_chI {f g : Int → Int → Bool} (ha : EvD K ta σ F (.int i)) (hb : EvD K tb σ F (.int j)) (hc : EvD K tc σ F (.int k)) : EvD K (tChain (rI0 fun i j => .bl (f i j)) (rI0 fun i j => .bl (g i j)) ta tb tc) σ F (.bool (f i j && g j k)) := fun H e Q q =>
  ha H e _ fun v F1 H1 g1 hv => (hb.mono g1.fx) H1 g1.fh _ fun u F2 H2 g2 hu => by
    cases hv
    cases hu
    refine ⟨i, j, rfl, rfl, f i j, rfl, ?_⟩
    cases hf : f i j with
    | true =>
      show tc σ H2 _
      refine (hc.mono (g1.fx.trans g2.fx)) H2 g2.fh _ fun w F3 H3 g3 hw => ?_
      cases hw
      exact ⟨j, k, rfl, rfl, q _ F3 H3 (g1.trans (g2.trans g3)) (by rw [hf]; exact .bl _)⟩
    | false =>
      show Q (.bl false) H2
      exact q _ F2 H2 (g1.trans g2) (by rw [hf]; exact .bl _)
theorem et_chI {f g : Int → Int → Bool} (ha : EvD K ta σ F (.int i)) (hb : EvD K tb σ F (.int j)) (hc : EvD K tc σ F (.int k)) (e : (f i j && g j k) = p) : EtD (tTest (tChain (rI0 fun i j => .bl (f i j)) (rI0 fun i j => .bl (g i j)) ta tb tc)) σ F p :=
  et_v (ev_chI ha hb hc) (by rw [e])
theorem ev_notInS {c : Nat} {x : Str} (ha : EvD K ta σ F (.str ⟨#[c]⟩)) (hb : EvD K tb σ F (.str x)) : EvD K (tOp rNotInS ta tb) σ F (.bool (!decide (c ∈ x.cps.toList))) :=
  ev_op ha hb fun v u F1 H1 _ e hv hu Q q => by
    cases hv
    cases hu
    exact ⟨c, x, rfl, rfl, q _ F1 H1 (Gr.refl e) (.bl _)⟩
theorem ev_addS {x y : Str} (hl : x.length + y.length ≤ 100000) (ha : EvD K ta σ F (.str x)) (hb : EvD K tb σ F (.str y)) : EvD K (tOp (fun x y H Q => ∃ i j, x = .str i ∧ y = .str j ∧ i.length + j.length ≤ sizeLine ∧ Q (.str (i ++ j)) H) ta tb) σ F (.str (x ++ y)) :=
  ev_op ha hb fun v u F1 H1 _ e hv hu Q q => by
    cases hv
    cases hu
    exact ⟨x, y, rfl, rfl, sz_of hl, q _ F1 H1 (Gr.refl e) (.str _)⟩
theorem it_str {x : Str} (h : EvD K te σ F (.str x)) : ItD K (iStr te) σ F (x.cps.toList.map fun c => PyData.str ⟨#[c]⟩) := fun H eH R q => h H eH _ fun v F1 H1 g1 hv => by
  cases hv
  refine ⟨x, rfl, q _ F1 H1 g1 ⟨_, _, by rw [List.length_map, Array.length_toList]; exact walk_str, fun _ _ => trivial, fun F2 i H2 v H3 hi e1 e2 y => ?_⟩⟩
  obtain ⟨rfl, c, hc, rfl⟩ := y
  refine ⟨F2, .str ⟨#[c]⟩, ?_, Gr.refl e2, .str _⟩
  rw [List.getElem?_map, Array.getElem?_toList, hc] <;> rfl
theorem lay_strs : ∀ cs : List Nat, (∀ c ∈ cs, c < 0x110000) → PyData.canLayAll0 (cs.map fun c => PyData.str ⟨#[c]⟩) = true
  | [], _ => by simp [PyData.canLayAll0]
  | c :: cs, h => by
    have h1 := lay_strs cs fun c hc => h c (List.mem_cons_of_mem _ hc)
    have h2 := h c List.mem_cons_self
    simp [PyData.canLayAll0, PyData.canLay0, h1, PyData.strOk, h2]
theorem dep_strs : ∀ cs : List Nat, PyData.depthAll (cs.map fun c => PyData.str ⟨#[c]⟩) = 0
  | [] => by simp [PyData.depthAll]
  | c :: cs => by simp [PyData.depthAll, PyData.depth, dep_strs cs]
theorem shaped_strs (cs : List Nat) (h : ∀ c ∈ cs, c < 0x110000) : SeqAt.shaped (.list (cs.map fun c => PyData.str ⟨#[c]⟩)) = true := by
  show ((PyData.list _).canLay0 && decide ((PyData.list _).depth ≤ 64)) = true
  simp [PyData.canLay0, PyData.depth, lay_strs cs h, dep_strs]
theorem shaped_nil : SeqAt.shaped (.list []) = true := by decide +kernel
theorem eqv_nil (ds : List PyData) : PyData.eqv (.list ds) (.list []) = ds.isEmpty := by
  cases ds <;> simp [PyData.eqv, PyData.eqvAll]
end
end Dv
namespace R3
open PySem PySem.Spec PyProof.Rows L2 Dv
section
variable {P : Program} {w : World} {K : PySem.W.Frag} {mg : Str → Option Value} {base : Heap}
/-- the module's own numbers and texts -/
structure Cst (mg : Str → Option Value) : Prop where
  letters : ∃ t, mg "LETTERS" = some (.str "abcdefghijklmnopqrstuvwxyz" t)
  figures : ∃ t, mg "FIGURES" = some (.str "0123456789" t)
  mostName : ∃ t, mg "MOST_NAME" = some (.int 8 t)
  mostStuffs : ∃ t, mg "MOST_STUFFS" = some (.int 8 t)
  mostRecipes : ∃ t, mg "MOST_RECIPES" = some (.int 8 t)
  mostNumber : ∃ t, mg "MOST_NUMBER" = some (.int 1000000 t)
def letters : Str := "abcdefghijklmnopqrstuvwxyz"
def figures : Str := "0123456789"
def nameS (x : Str) : Bool := decide (1 ≤ x.length) && decide (x.length ≤ 8) && (match x.cps.toList with | c :: _ => decide (c ∈ letters.cps.toList) | [] => false) && x.cps.toList.all fun c => decide (c ∈ (letters ++ figures).cps.toList)
def isName : PyData → Bool
  | .str x => nameS x
  | _ => false
def fIsName : List PyData → PyData → Prop := fun ds d => ∃ x, ds = [x] ∧ (∀ y, x = .str y → y.length ≤ 30000 ∧ PyData.strOk y = true) ∧ d = .bool (isName x)
theorem sc_is_name : FnScope (["value", "sign"] : List Str) (["value"] : List Str) (defScope sIsName) := ⟨rfl, rfl, rfl, by decide +kernel, rfl, by decide +kernel, by decide +kernel⟩
theorem ok_is_name (D : Def K mg "is_name" sIsName ["value"]) (B : Bl mg) (CC : Cst mg) : Cal P w K mg base "is_name" ["value"] 1 (spD K fIsName) := by
  refine cal_mk D sc_is_name (len_D (by rintro _ _ ⟨t, rfl, _⟩; rfl)) (fun f cdv A outer s H vs Q E hr h => ?_)
  obtain ⟨F, ds, d, e, hv, ⟨d, rfl, hsz, rfl⟩, q⟩ := h
  obtain ⟨x, rfl, h1⟩ := Dv.one hv
  obtain ⟨t1, c1⟩ := CC.letters
  obtain ⟨t2, c2⟩ := CC.figures
  obtain ⟨t3, c3⟩ := CC.mostName
  refine ⟨_, (pss_cons (ps_if (PW.pt (pw_or (pt_not (pt_val (pe_callB call_isi (by rfl) B.isi (by decide +kernel) (pa_cons (pv 0) (pa_cons (pe_bltn (v := .ty "str") (by rfl) B.str (by decide +kernel) rfl) pa_nil))))) (pw_or (pt_not (pt_chain op_le op_le pe_int (pe_callB call_len (by rfl) B.len (by decide +kernel) (pa_cons (pv 0) pa_nil)) (pe_glob (v := .int 8) rfl c3 ⟨_, rfl⟩))) (pw_or1 (pt_cmpR op_notInS (pe_ix ix_str (pv 0) pe_int (fun _ _ => rfl)) (pe_glob (v := .str letters) rfl c1 ⟨_, rfl⟩) (by rfl)))))) (pss_one (ps_ret pe_bl)) pss_nil)
      (pss_one (ps_ret (pe_cmpR (op_eqD hr.1.units) (pe_lc (own := [("sign", 1)]) (g := gName 1) rfl sc_is_name.nd (pi_str (pv 0)) (blkOk_by (own := [("sign", 1)]) (N := ["value", "sign"]) (sc := defScope sIsName) (by decide +kernel)) (fun _ _ _ _ _ => (pg_name (i := 1) sc_is_name.nd rfl (.inl rfl)))  (fun _ _ _ _ _ => (pts_one (pt_cmpR op_notInS (pv 1) (pe_op op_add_str (pe_glob (v := .str letters) rfl c1 ⟨_, rfl⟩) (pe_glob (v := .str figures) rfl c2 ⟨_, rfl⟩)) (by rfl)))) (fun _ _ _ _ _ => (pv 1))) (pe_lst pa_nil) (nomark _))))), ?_⟩
  have no : isName d = false → ∀ F1 H1, Gr F H F1 H1 → Q (.bl false) H1 := fun h F1 H1 g => q _ F1 H1 g (by rw [h]; exact .bl false)
  have vx := Dv.ev_var (σ := [some x, none]) (i := 0) rfl h1
  by_cases ht : ∃ y, d = .str y
  · obtain ⟨y, rfl⟩ := ht
    obtain ⟨hl, hok⟩ := hsz y rfl
    have t1 := et_notT (et_v (p := true) (ev_isi (T := "str") vx (by decide)) rfl)
    have ln := ev_chI (f := fun i j => decide (i ≤ j)) (g := fun i j => decide (i ≤ j)) (Dv.ev_int 1) (ev_len vx rfl (show y.length ≤ 100000 by omega)) (Dv.ev_int 8)
    by_cases h2 : 1 ≤ y.length ∧ y.length ≤ 8
    · have e2 : (decide ((1 : Int) ≤ (y.length : Int)) && decide ((y.length : Int) ≤ 8)) = true := by
        rw [Bool.and_eq_true]
        exact ⟨decide_eq_true (by omega), decide_eq_true (by omega)⟩
      have t2 := et_notT (et_v ln (by rw [e2]))

      obtain ⟨c, cs, hc⟩ : ∃ c cs, y.cps.toList = c :: cs := by
        cases hq : y.cps.toList with
        | nil =>
          have : y.length = y.cps.toList.length := by rw [Array.length_toList] <;> rfl
          rw [hq] at this
          exact absurd h2.1 (by rw [this]; decide)
        | cons c cs => exact ⟨c, cs, rfl⟩
      have vc := Dv.ev_ixS (i := 0) (c := c) vx (Dv.ev_int 0) (show y.length ≤ 100000 by omega) (by rw [hc]; simp [atI, ixN])
      have t3 := Dv.ev_notInS vc (Dv.ev_c (.str letters))
      by_cases h3 : c ∈ letters.cps.toList
      · refine s_ifF (et_orF t1 (et_orF t2 (et_v t3 (by rw [decide_eq_true h3]; rfl)))) e fun F1 H1 g1 => ?_
        have hn : isName (.str y) = (y.cps.toList.filter fun c => !decide (c ∈ (letters ++ figures).cps.toList)).isEmpty := by
          show nameS y = _
          unfold nameS
          rw [decide_eq_true h2.1, decide_eq_true h2.2, hc]
          show ((true && true && decide (c ∈ letters.cps.toList)) && _) = _
          rw [decide_eq_true h3]
          simp only [Bool.true_and]
          rw [Bool.eq_iff_iff, List.isEmpty_iff, List.filter_eq_nil_iff, List.all_eq_true]
          simp
        refine Dv.s_ret (K := K) (d := .bool (isName (.str y))) (Dv.ev_is (Dv.ev_eqD (EvL.ev (lc_rule y.cps.toList (fun c => PyData.str ⟨#[c]⟩) (fun c => PyData.str ⟨#[c]⟩) (fun c => !decide (c ∈ (letters ++ figures).cps.toList)) (it_str (vx.mono g1.fx)) (by
          rw [Array.length_toList]
          show y.length ≤ _
          omega) (fun c _ v F2 e2 hv => ⟨[some x, some v], fun _ _ _ q => q, rfl, et_v (Dv.ev_notInS (Dv.ev_var rfl hv) (Dv.ev_addS (by decide +kernel) (Dv.ev_c (.str letters)) (Dv.ev_c (.str figures)))) rfl, fun _ => Dv.ev_var rfl hv⟩))) (EvL.ev (Dv.el_lst Dv.ea_nil (by simp))) (by
          refine shaped_strs (y.cps.toList.filter fun c => !decide (c ∈ (letters ++ figures).cps.toList)) fun c hc => ?_
          have hm := Array.mem_toList_iff.mp (List.mem_filter.mp hc).1
          have := Array.all_eq_true_iff_forall_mem.mp hok c hm
          exact of_decide_eq_true this) shaped_nil) (by
          rw [eqv_nil, hn, List.isEmpty_map])) g1.fh fun v F2 H2 g2 hv => q v F2 H2 (g1.trans g2) hv
      · have e0 : isName (.str y) = false := by
          show nameS y = false
          unfold nameS
          rw [hc]
          show ((_ && _ && decide (c ∈ letters.cps.toList)) && _) = _
          rw [decide_eq_false h3]
          simp
        exact s_ifT (et_orF t1 (et_orF t2 (et_v t3 (by rw [decide_eq_false h3]; rfl)))) e fun F1 H1 g1 => no e0 F1 H1 g1
    · have e2 : (decide ((1 : Int) ≤ (y.length : Int)) && decide ((y.length : Int) ≤ 8)) = false := by
        rw [Bool.and_eq_false_iff]
        by_cases h3 : 1 ≤ y.length
        · exact .inr (decide_eq_false (by omega))
        · exact .inl (decide_eq_false (by omega))
      have e0 : isName (.str y) = false := by
        show nameS y = false
        unfold nameS
        by_cases h3 : 1 ≤ y.length
        · rw [decide_eq_false (show ¬ y.length ≤ 8 by omega)]
          simp
        · rw [decide_eq_false h3]
          simp
      exact s_ifT (et_orF t1 (et_orT (et_notF (et_v ln (by rw [e2]))))) e fun F1 H1 g1 => no e0 F1 H1 g1
  · have e0 : isName d = false := by
      cases d <;> first | rfl | exact absurd ⟨_, rfl⟩ ht
    have e1 : isD d "str" = false := by
      cases d <;> first | rfl | exact absurd ⟨_, rfl⟩ ht
    exact s_ifT (et_orT (et_notF (et_v (ev_isi (T := "str") vx (by decide)) (by rw [e1])))) e fun F1 H1 g1 => no e0 F1 H1 g1
end
end R3

set_option Elab.async false
set_option linter.all false
set_option maxRecDepth 100000
set_option maxHeartbeats 4000000
namespace Dv
open PySem L2 Evl
mutual
/-- texts that can be laid, nothing of great length -/
def gd : PyData → Bool
  | .str x => decide (x.length ≤ 30000) && PyData.strOk x
  | .list xs => decide (xs.length ≤ 30000) && gds xs
  | .tuple xs => decide (xs.length ≤ 30000) && gds xs
  | _ => true
def gds : List PyData → Bool
  | [] => true
  | x :: xs => gd x && gds xs
end
theorem gd_str {x : Str} (h : gd (.str x) = true) : x.length ≤ 30000 ∧ PyData.strOk x = true := by
  rw [gd, Bool.and_eq_true] at h
  exact ⟨of_decide_eq_true h.1, h.2⟩
theorem gd_tup {xs : List PyData} (h : gd (.tuple xs) = true) : xs.length ≤ 30000 ∧ gds xs = true := by
  rw [gd, Bool.and_eq_true] at h
  exact ⟨of_decide_eq_true h.1, h.2⟩
theorem gd_list {xs : List PyData} (h : gd (.list xs) = true) : xs.length ≤ 30000 ∧ gds xs = true := by
  rw [gd, Bool.and_eq_true] at h
  exact ⟨of_decide_eq_true h.1, h.2⟩
theorem gds_mem : ∀ {xs : List PyData} {x : PyData}, gds xs = true → x ∈ xs → gd x = true
  | [], _, _, h => nomatch h
  | y :: ys, x, g, h => by
    rw [gds, Bool.and_eq_true] at g
    rcases List.mem_cons.mp h with rfl | h
    · exact g.1
    · exact gds_mem g.2 h
section
variable {K : PySem.W.Frag} {σ : L2.St} {F F1 H H1 : Hp} {te ta tb tc : TE} {d a b : PyData} {ds es : List PyData} {i j k : Int} {p q : Bool}
def nonB : PyData → Bool
  | .none => true
  | _ => false
theorem dec_non {v : V} (h : Dp K F v d) : decide (v = .non) = nonB d := by
  cases h <;> simp [nonB]
theorem ev_isNR (ha : EvD K ta σ F d) : EvD K (tOp rIsN ta (tC .non)) σ F (.bool (nonB d)) := fun H e Q q => ha H e _ fun v F1 H1 g1 hv => by
  refine ⟨rfl, q _ F1 H1 g1 ?_⟩
  rw [dec_non hv]
  exact .bl _
end
end Dv
namespace R3
open PySem PySem.Spec PyProof.Rows L2 Dv
section
variable {P : Program} {w : World} {K : PySem.W.Frag} {mg : Str → Option Value} {base : Heap}
def isNum (d : PyData) (l : Int) : Bool := isWhole d && (match d with | .int i => decide (l ≤ i) && decide (i ≤ 1000000) | _ => false)
def fIsNum : List PyData → PyData → Prop := fun ds d => ∃ x l, ds = [x, .int l] ∧ d = .bool (isNum x l)
theorem sc_is_number : FnScope (["value", "least"] : List Str) (["value", "least"] : List Str) (defScope sIsNumber) := ⟨rfl, rfl, rfl, by decide +kernel, rfl, by decide +kernel, by decide +kernel⟩
theorem ok_is_number (D : Def K mg "is_number" sIsNumber ["value", "least"]) (CC : Cst mg) (C_is_whole : Cal P w K mg base "is_whole" ["value"] 1 (spD K fWhole)) : Cal P w K mg base "is_number" ["value", "least"] 2 (spD K fIsNum) := by
  refine cal_mk D sc_is_number (len_D (by rintro _ _ ⟨t, l, rfl, _⟩; rfl)) (fun f cdv A outer s H vs Q E hr h => ?_)
  obtain ⟨F, ds, d, e, hv, ⟨d, l, rfl, rfl⟩, q⟩ := h
  obtain ⟨x, y, rfl, h1, h2⟩ := Dv.two hv
  obtain ⟨t3, c3⟩ := CC.mostNumber
  refine ⟨_, (pss_one (ps_ret (pe_and (pe_callC C_is_whole hr (pa_cons (pv 0) pa_nil)) (pe_one (pe_chain op_le op_le (pv 1) (pv 0) (pe_glob (v := .int 1000000) rfl c3 ⟨_, rfl⟩)))))), ?_⟩
  refine Dv.s_ret (K := K) (d := .bool (isNum d l)) (Dv.ev_andV (ev_callD (Dv.ea_cons (Dv.ev_var rfl h1) Dv.ea_nil) ⟨_, rfl, rfl⟩) fun hw => ?_) e fun v F2 H2 g2 hv => q v F2 H2 g2 hv
  obtain ⟨i, rfl⟩ := whole_int hw
  exact ev_chI (f := fun i j => decide (i ≤ j)) (g := fun i j => decide (i ≤ j)) (Dv.ev_var rfl h2) (Dv.ev_var rfl h1) (Dv.ev_int 1000000)
def isStuff : PyData → Bool
  | .tuple [n, r] => isName n && (nonB r || isNum r 0)
  | _ => false
def fIsStuff : List PyData → PyData → Prop := fun ds d => ∃ x, ds = [x] ∧ gd x = true ∧ d = .bool (isStuff x)
theorem sc_is_stuff : FnScope (["value"] : List Str) (["value"] : List Str) (defScope sIsStuff) := ⟨rfl, rfl, rfl, by decide +kernel, rfl, by decide +kernel, by decide +kernel⟩
theorem ok_is_stuff (D : Def K mg "is_stuff" sIsStuff ["value"]) (B : Bl mg) (C_is_name : Cal P w K mg base "is_name" ["value"] 1 (spD K fIsName)) (C_is_number : Cal P w K mg base "is_number" ["value", "least"] 2 (spD K fIsNum)) :
    Cal P w K mg base "is_stuff" ["value"] 3 (spD K fIsStuff) := by
  refine cal_mk D sc_is_stuff (len_D (by rintro _ _ ⟨t, rfl, _⟩; rfl)) (fun f cdv A outer s H vs Q E hr h => ?_)
  obtain ⟨F, ds, d, e, hv, ⟨d, rfl, hg, rfl⟩, q⟩ := h
  obtain ⟨x, rfl, h1⟩ := Dv.one hv
  refine ⟨_, (pss_cons (ps_if (PW.pt (pw_or (pt_not (pt_val (pe_callB call_isi (by rfl) B.isi (by decide +kernel) (pa_cons (pv 0) (pa_cons (pe_bltn (v := .ty "tuple") (by rfl) B.tuple (by decide +kernel) rfl) pa_nil))))) (pw_or (pt_cmpR op_ne (pe_callB call_len (by rfl) B.len (by decide +kernel) (pa_cons (pv 0) pa_nil)) pe_int (nomark _)) (pw_or1 (pt_not (pt_val (pe_callC C_is_name hr (pa_cons (pe_ix ix_tup (pv 0) pe_int (fun _ _ => rfl)) pa_nil)))))))) (pss_one (ps_ret pe_bl)) pss_nil)
      (pss_one (ps_ret (pe_or (pe_cmpR op_isN (pe_ix ix_tup (pv 0) pe_int (fun _ _ => rfl)) pe_non (nomark _)) (pe_one (pe_callC C_is_number hr (pa_cons (pe_ix ix_tup (pv 0) pe_int (fun _ _ => rfl)) (pa_cons pe_int pa_nil)))))))), ?_⟩
  have no : isStuff d = false → ∀ F1 H1, Gr F H F1 H1 → Q (.bl false) H1 := fun h F1 H1 g => q _ F1 H1 g (by rw [h]; exact .bl false)
  have vx := Dv.ev_var (σ := [some x]) (i := 0) rfl h1
  by_cases ht : ∃ es, d = .tuple es
  · obtain ⟨es, rfl⟩ := ht
    obtain ⟨hl, hgs⟩ := gd_tup hg
    have tT := et_notT (et_v (p := true) (ev_isi (T := "tuple") vx (by decide)) rfl)
    by_cases h2 : es.length = 2
    · match es, h2 with
      | [a, b], _ =>
        have ln := et_v (p := false) (Dv.ev_neI (ev_len vx rfl (by simp)) (Dv.ev_int 2)) rfl
        have va := Dv.ev_ixT (d := a) vx (Dv.ev_int 0) rfl
        have vb := Dv.ev_ixT (d := b) vx (Dv.ev_int 1) rfl
        have ga : gd a = true := gds_mem hgs (by simp)
        have nm := ev_callD (E := E0) (Dv.ea_cons va Dv.ea_nil) (show fIsName [a] (.bool (isName a)) from ⟨a, rfl, fun y hy => gd_str (by rw [← hy]; exact ga), rfl⟩)
        cases hn : isName a with
        | true =>
          refine s_ifF (et_orF tT (et_orF ln (et_notT (et_v nm (by rw [hn]))))) e fun F1 H1 g1 => ?_
          refine Dv.s_ret (K := K) (d := .bool (isStuff (.tuple [a, b]))) (Dv.ev_is (Dv.ev_orV (ev_isNR (vb.mono g1.fx)) fun _ => ev_callD (Dv.ea_cons (vb.mono g1.fx) (Dv.ea_cons (Dv.ev_int 0) Dv.ea_nil)) ⟨_, _, rfl, rfl⟩) (by
            show _ = PyData.bool (isName a && _)
            rw [hn, Bool.true_and])) g1.fh fun v F2 H2 g2 hv => q v F2 H2 (g1.trans g2) hv
        | false =>
          exact s_ifT (et_orF tT (et_orF ln (et_notF (et_v nm (by rw [hn]))))) e fun F1 H1 g1 => no (by show (isName a && _) = false; rw [hn] <;> rfl) F1 H1 g1
    · have e0 : isStuff (.tuple es) = false := by
        unfold isStuff
        split
        · rename_i q
          cases q
          exact absurd rfl h2
        · rfl
      exact s_ifT (et_orF tT (et_orT (et_v (Dv.ev_neI (ev_len vx rfl (by omega)) (Dv.ev_int 2)) (by
        congr 1
        simp only [bne_iff_ne, ne_eq]
        omega)))) e fun F1 H1 g1 => no e0 F1 H1 g1
  · have e0 : isStuff d = false := by
      unfold isStuff
      split
      · exact absurd ⟨_, rfl⟩ ht
      · rfl
    have e1 : isD d "tuple" = false := by
      cases d <;> first | rfl | exact absurd ⟨_, rfl⟩ ht
    exact s_ifT (et_orT (et_notF (et_v (ev_isi (T := "tuple") vx (by decide)) (by rw [e1])))) e fun F1 H1 g1 => no e0 F1 H1 g1
end
end R3

set_option Elab.async false
set_option linter.all false
set_option maxRecDepth 100000
set_option maxHeartbeats 4000000
namespace Dv
open PySem L2 Evl
section
variable {K : PySem.W.Frag} {σ : L2.St} {F F1 H H1 : Hp} {te ta tb tc : TE} {d a b : PyData} {ds es : List PyData} {i j k : Int} {p q : Bool} {tu : TT}
/-- not isinstance(x, tuple) or len(x) != n or .. -/
theorem et_tupn {n : Nat} (vx : EvD K te σ F d) (hl : ∀ es, d = .tuple es → es.length ≤ 100000) (h1 : ∀ es, d = .tuple es → es.length = n → EtD tu σ F p) (h2 : (¬ ∃ es, d = .tuple es ∧ es.length = n) → p = true) :
    EtD (tOr (tNot (tTest (tCB (rIsi K) (tCons te (tCons (tC (.ty "tuple")) tNil)))))
      (tOr (tTest (tOp rNe (tCB (fun xs H Q => ∃ x n, xs = [x] ∧ LenV K x H n ∧ Q (.int n) H) (tCons te tNil)) (tC (.int (n : Int))))) tu)) σ F p := by
  by_cases ht : ∃ es, d = .tuple es
  · obtain ⟨es, rfl⟩ := ht
    have tT := et_notT (et_v (p := true) (ev_isi (T := "tuple") vx (by decide)) rfl)
    have hl' := hl es rfl
    by_cases hn : es.length = n
    · exact et_orF tT (et_orF (et_v (ev_neI (ev_len vx rfl hl') (ev_int n)) (by
        congr 1
        simp only [bne_eq_false_iff_eq]
        omega)) (h1 es rfl hn))
    · have e0 := h2 (fun ⟨es', e, h⟩ => by cases e; exact hn h)
      subst e0
      exact et_orF tT (et_orT (et_v (ev_neI (ev_len vx rfl hl') (ev_int n)) (by
        congr 1
        simp only [bne_iff_ne, ne_eq]
        omega)))
  · have e0 := h2 (fun ⟨es', e, h⟩ => ht ⟨es', e⟩)
    subst e0
    have e1 : isD d "tuple" = false := by
      cases d <;> first | rfl | exact absurd ⟨_, rfl⟩ ht
    exact et_orT (et_notF (et_v (ev_isi (T := "tuple") vx (by decide)) (by rw [e1])))
theorem len2 {es : List PyData} (h : es.length = 2) : ∃ a b, es = [a, b] := match es, h with | [a, b], _ => ⟨a, b, rfl⟩
theorem len3 {es : List PyData} (h : es.length = 3) : ∃ a b c, es = [a, b, c] := match es, h with | [a, b, c], _ => ⟨a, b, c, rfl⟩
/-- x not in d, d a dict of F -/
theorem et_dnotin {ad : Addr} {kvs : List (Key × V)} {x : Str} (ha : EvD K ta σ F (.str x)) (hb : ∀ F1 H1, Ex F F1 → Ex F1 H1 → ∀ Q : VK, Q (.ref ad) H1 → tb σ H1 Q) (hd : F ad = some (.dK kvs)) : EtD (tB (tDNotIn ta tb)) σ F (!(valV kvs (.inr x)).isSome) := fun H e Q q =>
  ha H e _ fun v F1 H1 g1 hv => by
    cases hv
    exact hb F1 H1 g1.fx g1.fh _ ⟨ad, _, rfl, DGet.k (k := .inr x) (g1.fh _ _ (g1.fx _ _ hd)), _, rfl, q F1 H1 g1⟩
/-- x in xs, texts, xs a list of H alone -/
theorem et_inStrs {al : Addr} {xs : List Str} {x : Str} {l : Nat} (ha : EvD K ta σ F (.str x)) (hi : σ[l]? = some (some (.ref al))) (H : Hp) (e : Ex F H) (hl : H al = some (.lst (xs.map V.str))) (fl : F al = none) (Q : Bool → Hp → Prop)
    (q : ∀ F' H', Gr F H F' H' → Q (decide (x ∈ xs)) H') : tTest (tOp (rIn K false) ta (tVar l)) σ H Q := ha H e _ fun v F1 H1 g1 hv => by
  cases hv
  refine ⟨_, hi, al, xs.map V.str, rfl, .inl (sq_of (g1.keep hl fl).1), rfl, by simp [flatV], _, rfl, ?_⟩
  have : (if false = true then !inV (V.str x) (xs.map V.str) else inV (V.str x) (xs.map V.str)) = decide (x ∈ xs) := by
    rw [if_neg (by decide)]
    unfold inV
    rw [Bool.eq_iff_iff, List.any_eq_true, decide_eq_true_iff]
    constructor
    · rintro ⟨y, hy, he⟩
      obtain ⟨z, hz, rfl⟩ := List.mem_map.mp hy
      have : z = x := by simpa [eqV] using he
      exact this ▸ hz
    · intro hx
      exact ⟨_, List.mem_map.mpr ⟨x, hx, rfl⟩, by simp [eqV]⟩
  rw [this]
  exact q F1 H1 g1
end
end Dv
namespace R3
open PySem PySem.Spec PyProof.Rows L2 Dv
section
variable {P : Program} {w : World} {K : PySem.W.Frag} {mg : Str → Option Value} {base : Heap}
def partOk : PyData → Bool
  | .tuple [a, k] => isName a && isNum k 1
  | _ => false
theorem part_shape {d : PyData} (h : partOk d = true) : ∃ n k, d = .tuple [.str n, k] ∧ nameS n = true ∧ isNum k 1 = true := by
  unfold partOk at h
  split at h
  · rename_i a k
    rw [Bool.and_eq_true] at h
    obtain ⟨h1, h2⟩ := h
    cases a <;> first | (cases h1; done) | skip
    exact ⟨_, k, rfl, h1, h2⟩
  · cases h
def nameAt : PyData → Str
  | .tuple (.str n :: _) => n
  | _ => ""
def partsGo (names : List Str) : List PyData → List Str → Bool
  | [], _ => true
  | d :: r, seen => partOk d && decide (nameAt d ∈ names) && !decide (nameAt d ∈ seen) && partsGo names r (seen ++ [nameAt d])
def areParts (names : List Str) : PyData → Bool
  | .list xs => partsGo names xs []
  | _ => false
/-- the spots: a dict of names -/
def SpotsAt (F : Hp) (a : Addr) (names : List Str) : Prop := ∃ kvs : List (Key × V), F a = some (.dK kvs) ∧ ∀ x : Str, (valV kvs (.inr x)).isSome = decide (x ∈ names)
theorem SpotsAt.ex {F F1 : Hp} {a : Addr} {names : List Str} (e : Evl.Ex F F1) (h : SpotsAt F a names) : SpotsAt F1 a names := let ⟨k, h1, h2⟩ := h; ⟨k, e _ _ h1, h2⟩
def spParts (K : PySem.W.Frag) : Sp := fun vs H Q _ => ∃ (F : Hp) (v : V) (d : PyData) (sp : Addr) (names : List Str), vs = [v, .ref sp] ∧ Evl.Ex F H ∧ Dp K F v d ∧ gd d = true ∧ SpotsAt F sp names ∧ ∀ F' H', Gr F H F' H' → Q (.bl (areParts names d)) H'
theorem sc_are_parts : FnScope (["value", "spots", "seen", "item"] : List Str) (["value", "spots"] : List Str) (defScope sAreParts) := ⟨rfl, rfl, rfl, by decide +kernel, rfl, by decide +kernel, by decide +kernel⟩
theorem ok_are_parts (D : Def K mg "are_parts" sAreParts ["value", "spots"]) (B : Bl mg) (C_is_name : Cal P w K mg base "is_name" ["value"] 1 (spD K fIsName)) (C_is_number : Cal P w K mg base "is_number" ["value", "least"] 2 (spD K fIsNum)) :
    Cal P w K mg base "are_parts" ["value", "spots"] 3 (spParts K) := by
  refine cal_mk D sc_are_parts (fun vs H Q E h => ?_) (fun f cdv A outer s H vs Q E hr h => ?_)
  · obtain ⟨F, v, d, sp, names, rfl, _⟩ := h
    rfl
  obtain ⟨F, v, d, sp, names, rfl, e, hv, hg, hsp, q⟩ := h
  have hu := hu_of hr.1
  refine ⟨_, (pss_cons (ps_if (pt_not (pt_val (pe_callB call_isi (by rfl) B.isi (by decide +kernel) (pa_cons (pv 0) (pa_cons (pe_bltn (v := .ty "list") (by rfl) B.list (by decide +kernel) rfl) pa_nil))))) (pss_one (ps_ret pe_bl)) pss_nil)
      (pss_cons (ps_set (i := 2) sc_are_parts.nd rfl (.inl rfl) (pe_lst pa_nil))
      (pss_cons (ps_for PassesOwn.never rfl (pi_list (pv 0)) (pg_name (i := 3) sc_are_parts.nd rfl (.inl rfl)) (pss_cons (ps_if (PW.pt (pw_or (pt_not (pt_val (pe_callB call_isi (by rfl) B.isi (by decide +kernel) (pa_cons (pv 3) (pa_cons (pe_bltn (v := .ty "tuple") (by rfl) B.tuple (by decide +kernel) rfl) pa_nil))))) (pw_or (pt_cmpR op_ne (pe_callB call_len (by rfl) B.len (by decide +kernel) (pa_cons (pv 3) pa_nil)) pe_int (nomark _)) (pw_or (pt_not (pt_val (pe_callC C_is_name hr (pa_cons (pe_ix ix_tup (pv 3) pe_int (fun _ _ => rfl)) pa_nil)))) (pw_or1 (pt_not (pt_val (pe_callC C_is_number hr (pa_cons (pe_ix ix_tup (pv 3) pe_int (fun _ _ => rfl)) (pa_cons pe_int pa_nil)))))))))) (pss_one (ps_ret pe_bl)) pss_nil)
      (pss_cons (ps_if (PW.pt (pw_or (pt_cmp (pc_dnotin hu (pe_ix ix_tup (pv 3) pe_int (fun _ _ => rfl)) (pv 1)) (by rfl)) (pw_or1 (pt_cmpR op_in_seq (pe_ix ix_tup (pv 3) pe_int (fun _ _ => rfl)) (pv 2) (by rfl))))) (pss_one (ps_ret pe_bl)) pss_nil)
      (pss_one (ps_expr (pe_bm PySem.F.plainAttrs_list PySem.F.slot_list_append PySem.F.type_list_append mt_append (pv 2) (pa_cons (pe_ix ix_tup (pv 3) pe_int (fun _ _ => rfl)) pa_nil)))))))
      (pss_one (ps_ret pe_bl))))), ?_⟩
  have vx := Dv.ev_var (K := K) (σ := [some v, some (.ref sp), none, none]) (i := 0) rfl hv
  by_cases ht : ∃ xs, d = .list xs
  · obtain ⟨xs, rfl⟩ := ht
    obtain ⟨hxl, hgs⟩ := gd_list hg
    refine s_ifF (et_notT (et_v (p := true) (ev_isi (T := "list") vx (by decide)) rfl)) e fun F0 H0 g0 => ?_
    refine Dv.s_asgL (K := K) (Dv.el_lst Dv.ea_nil (by simp)) g0.fh fun p ws F1 H1 g1 hp0 fp hp1 hws => ?_
    cases hws
    have g01 := g0.trans g1
    refine Dv.s_for (it_list (Dv.ev_var rfl (dp_ex g01.fx hv))) g1.fh
      (fun n σ F' H' => ∃ (it : Option V) (seen : List Str), σ = [some v, some (.ref sp), some (.ref p), it] ∧ F' p = none ∧ H' p = some (.lst (seen.map V.str)) ∧ seen.length ≤ n ∧ partsGo names xs [] = partsGo names (xs.drop n) seen ∧ Gr F H F' H')
      (fun F2 H2 g2 => ?_) ?_ (fun σ' F2 H2 e2 e3 p2 => ?_)
    · have k := g2.keep hp1 fp
      exact ⟨none, [], rfl, k.2, k.1, Nat.le_refl _, rfl, g01.trans g2⟩
    · rintro Fb eb n σ' F2 H2 u du F3 H3 hdu e2 e3 ⟨it, seen, rfl, fp2, hp2, hsl, hpg, gg⟩ g3 hu3
      have hp3 := g3.keep hp2 fp2
      have gg3 := gg.trans g3
      have hn : n < xs.length := (List.getElem?_eq_some_iff.mp hdu).1
      have hdrop : xs.drop n = du :: xs.drop (n + 1) := by
        rw [List.drop_eq_getElem_cons hn]
        congr 1
        exact (List.getElem?_eq_some_iff.mp hdu).2
      rw [hdrop] at hpg
      have hgd : gd du = true := gds_mem hgs (List.mem_of_getElem? hdu)
      have vu := Dv.ev_var (K := K) (σ := [some v, some (.ref sp), some (.ref p), some u]) (i := 3) rfl hu3
      show tSeq _ _ _ [some v, some (.ref sp), some (.ref p), some u] H3
      have t1 : ∀ a k, du = .tuple [a, k] → EvD K (tCall (spD K fIsName) [] E0 (tCons (tOp (rIxT K) (tVar 3) (tC (.int 0))) tNil)) [some v, some (.ref sp), some (.ref p), some u] F3 (.bool (isName a)) := by
        intro a k hd
        subst hd
        have ga : gd a = true := gds_mem (gd_tup hgd).2 (by simp)
        exact ev_callD (Dv.ea_cons (Dv.ev_ixT (d := a) vu (Dv.ev_int 0) rfl) Dv.ea_nil) ⟨a, rfl, fun y hy => gd_str (by rw [← hy]; exact ga), rfl⟩
      have t2 : ∀ a k, du = .tuple [a, k] → EvD K (tCall (spD K fIsNum) [] E0 (tCons (tOp (rIxT K) (tVar 3) (tC (.int 1))) (tCons (tC (.int 1)) tNil))) [some v, some (.ref sp), some (.ref p), some u] F3 (.bool (isNum k 1)) := by
        intro a k hd
        subst hd
        exact ev_callD (Dv.ea_cons (Dv.ev_ixT (d := k) vu (Dv.ev_int 1) rfl) (Dv.ea_cons (Dv.ev_int 1) Dv.ea_nil)) ⟨_, _, rfl, rfl⟩
      cases hpo : partOk du with
      | false =>
        refine s_ifT (et_tupn (n := 2) vu (fun es he => by subst he; exact Nat.le_trans (gd_tup hgd).1 (by decide)) (fun es he hl => ?_) fun _ => rfl) g3.fh fun F4 H4 g4 => ?_
        · obtain ⟨a, k, rfl⟩ := len2 hl
          subst he
          have z : (isName a && isNum k 1) = false := hpo
          cases ha : isName a with
          | false => exact et_orT (et_notF (et_v (t1 a k rfl) (by rw [ha])))
          | true =>
            rw [ha, Bool.true_and] at z
            exact et_orF (et_notT (et_v (t1 a k rfl) (by rw [ha]))) (et_notF (et_v (t2 a k rfl) (by rw [z])))
        · have := q F4 H4 (gg3.trans g4)
          rw [show areParts names (.list xs) = partsGo names xs [] from rfl, hpg, partsGo, hpo] at this
          exact this
      | true =>
        obtain ⟨nm, k, rfl, hnm, hk⟩ := part_shape hpo
        refine s_ifF (et_tupn (n := 2) vu (fun es he => by cases he; exact (by simp : 2 ≤ 100000)) (fun es he hl => ?_) fun no => absurd ⟨_, rfl, rfl⟩ no) g3.fh fun F4 H4 g4 => ?_
        · cases he
          exact et_orF (et_notT (et_v (t1 _ _ rfl) (by rw [show isName (.str nm) = true from hnm]))) (et_notT (et_v (t2 _ _ rfl) (by rw [hk])))
        have hp4 := g4.keep hp3.1 hp3.2
        have gg4 := gg3.trans g4
        have v0 := Dv.ev_ixT (d := .str nm) (vu.mono g4.fx) (Dv.ev_int 0) rfl
        obtain ⟨kvs, hkv, hks⟩ := hsp.ex gg4.fx
        have nI := et_dnotin (tb := tVar 1) v0 (fun F1 H1 _ _ Q q => ⟨_, rfl, q⟩) hkv
        rw [hks] at nI
        have hpg' : partsGo names xs [] = (decide (nm ∈ names) && !decide (nm ∈ seen) && partsGo names (xs.drop (n + 1)) (seen ++ [nm])) := by
          rw [hpg, partsGo, hpo, Bool.true_and] <;> rfl
        have no : (decide (nm ∈ names) && !decide (nm ∈ seen)) = false → ∀ F5 H5, Gr F4 H4 F5 H5 → Q (.bl false) H5 := fun h F5 H5 g5 => by
          have := q F5 H5 (gg4.trans g5)
          rw [show areParts names (.list xs) = partsGo names xs [] from rfl, hpg', h, Bool.false_and] at this
          exact this
        by_cases hin : nm ∈ names
        · rw [decide_eq_true hin] at nI
          -- then the second part of the or
          refine nI H4 g4.fh _ fun F5 H5 g5 => ?_
          rw [if_neg (show ¬ ((!true) = true) by decide)]
          have hp5 := g5.keep hp4.1 hp4.2
          refine et_inStrs (v0.mono g5.fx) rfl H5 g5.fh hp5.1 hp5.2 _ fun F6 H6 g6 => ?_
          by_cases hs : nm ∈ seen
          · rw [decide_eq_true hs]
            exact iteT (no (by rw [decide_eq_true hs]; simp) F6 H6 (g5.trans g6))
          · rw [decide_eq_false hs]
            refine iteF ?_
            have hp6 := g6.keep hp5.1 hp5.2
            have g56 := g5.trans g6
            refine Dv.s_app (xs := seen.map V.str) (d := .str nm) hp6.1 hp6.2 rfl (v0.mono g56.fx) g6.fh (by rw [List.length_map]; omega) fun y F7 H7 g7 hy f7 h7 => ?_
            cases hy
            have hH : H p = none := ex_none g0.hx hp0
            refine ⟨F7, e2.trans (g3.fx.trans (g4.fx.trans (g56.fx.trans g7.fx))), ?_, some u, seen ++ [nm], rfl, f7, by rw [upd_same, List.map_append] <;> rfl, by rw [List.length_append]; simp; omega, ?_, ?_⟩
            · exact Evl.Ex.mut g7.fh f7
            · rw [hpg', decide_eq_true hin, decide_eq_false hs] <;> rfl
            · exact ((gg4.trans g56).trans g7).mut hH f7
        · rw [decide_eq_false hin] at nI
          refine nI H4 g4.fh _ fun F5 H5 g5 => ?_
          rw [if_pos (show (!false) = true from rfl)]
          exact iteT (no (by rw [decide_eq_false hin]; rfl) F5 H5 g5)
    · obtain ⟨it, seen, rfl, _, _, _, hpg, gg⟩ := p2
      dsimp only
      refine Dv.s_ret (K := K) (d := .bool true) (Dv.ev_bl true) e3 fun y F4 H4 g4 hy => ?_
      cases hy
      have := q F4 H4 (gg.trans g4)
      rw [show areParts names (.list xs) = partsGo names xs [] from rfl, hpg, List.drop_length] at this
      exact this
  · have e0 : areParts names d = false := by
      cases d <;> first | rfl | exact absurd ⟨_, rfl⟩ ht
    have e1 : isD d "list" = false := by
      cases d <;> first | rfl | exact absurd ⟨_, rfl⟩ ht
    refine s_ifT (et_notF (et_v (ev_isi (T := "list") vx (by decide)) (by rw [e1]))) e fun F1 H1 g1 => ?_
    have := q F1 H1 g1
    rw [e0] at this
    exact this
end
end R3

set_option Elab.async false
set_option linter.all false
set_option maxRecDepth 100000
set_option maxHeartbeats 4000000
namespace R3
open PySem PySem.Spec PyProof.Rows L2 Dv
section
variable {P : Program} {w : World} {K : PySem.W.Frag} {mg : Str → Option Value} {base : Heap}
theorem ev_parts {σ : L2.St} {F : Hp} {te : TE} {d : PyData} {sp : Addr} {names : List Str} {j : Nat} {E : XK} (h : EvD K te σ F d) (hj : σ[j]? = some (some (.ref sp))) (hs : SpotsAt F sp names) (hg : gd d = true) :
    EvD K (tCall (spParts K) [] E (tCons te (tCons (tVar j) tNil))) σ F (.bool (areParts names d)) := fun H e Q q =>
  h H e _ fun v F1 H1 g1 hv => ⟨_, hj, F1, v, d, sp, names, rfl, g1.fh, hv, hg, hs.ex g1.fx, fun F' H' g => q _ F' H' (g1.trans g) (.bl _)⟩
def isRecipe (names : List Str) : PyData → Bool
  | .tuple [n, t, g] => isName n && areParts names t && areParts names g
  | _ => false
def spRecipe (K : PySem.W.Frag) : Sp := fun vs H Q _ => ∃ (F : Hp) (v : V) (d : PyData) (sp : Addr) (names : List Str), vs = [v, .ref sp] ∧ Evl.Ex F H ∧ Dp K F v d ∧ gd d = true ∧ SpotsAt F sp names ∧ ∀ F' H', Gr F H F' H' → Q (.bl (isRecipe names d)) H'
theorem sc_is_recipe : FnScope (["value", "spots"] : List Str) (["value", "spots"] : List Str) (defScope sIsRecipe) := ⟨rfl, rfl, rfl, by decide +kernel, rfl, by decide +kernel, by decide +kernel⟩
theorem ok_is_recipe (D : Def K mg "is_recipe" sIsRecipe ["value", "spots"]) (B : Bl mg) (C_is_name : Cal P w K mg base "is_name" ["value"] 1 (spD K fIsName)) (C_are_parts : Cal P w K mg base "are_parts" ["value", "spots"] 3 (spParts K)) :
    Cal P w K mg base "is_recipe" ["value", "spots"] 4 (spRecipe K) := by
  refine cal_mk D sc_is_recipe (fun vs H Q E h => ?_) (fun f cdv A outer s H vs Q E hr h => ?_)
  · obtain ⟨F, v, d, sp, names, rfl, _⟩ := h
    rfl
  obtain ⟨F, v, d, sp, names, rfl, e, hv, hg, hsp, q⟩ := h
  refine ⟨_, (pss_cons (ps_if (PW.pt (pw_or (pt_not (pt_val (pe_callB call_isi (by rfl) B.isi (by decide +kernel) (pa_cons (pv 0) (pa_cons (pe_bltn (v := .ty "tuple") (by rfl) B.tuple (by decide +kernel) rfl) pa_nil))))) (pw_or (pt_cmpR op_ne (pe_callB call_len (by rfl) B.len (by decide +kernel) (pa_cons (pv 0) pa_nil)) pe_int (nomark _)) (pw_or1 (pt_not (pt_val (pe_callC C_is_name hr (pa_cons (pe_ix ix_tup (pv 0) pe_int (fun _ _ => rfl)) pa_nil)))))))) (pss_one (ps_ret pe_bl)) pss_nil)
      (pss_one (ps_ret (pe_and (pe_callC C_are_parts hr (pa_cons (pe_ix ix_tup (pv 0) pe_int (fun _ _ => rfl)) (pa_cons (pv 1) pa_nil))) (pe_one (pe_callC C_are_parts hr (pa_cons (pe_ix ix_tup (pv 0) pe_int (fun _ _ => rfl)) (pa_cons (pv 1) pa_nil)))))))), ?_⟩
  have vx := Dv.ev_var (K := K) (σ := [some v, some (.ref sp)]) (i := 0) rfl hv
  have nm : ∀ a t g, d = .tuple [a, t, g] → EvD K (tCall (spD K fIsName) [] E0 (tCons (tOp (rIxT K) (tVar 0) (tC (.int 0))) tNil)) [some v, some (.ref sp)] F (.bool (isName a)) := by
    intro a t g hd
    subst hd
    have ga : gd a = true := gds_mem (gd_tup hg).2 (by simp)
    exact ev_callD (Dv.ea_cons (Dv.ev_ixT (d := a) vx (Dv.ev_int 0) rfl) Dv.ea_nil) ⟨a, rfl, fun y hy => gd_str (by rw [← hy]; exact ga), rfl⟩
  have hlen : ∀ es, d = .tuple es → es.length ≤ 100000 := fun es he => by
    subst he
    exact Nat.le_trans (gd_tup hg).1 (by decide)
  by_cases hs : ∃ a t g, d = .tuple [a, t, g] ∧ isName a = true
  · obtain ⟨a, t, g, rfl, hn⟩ := hs
    have gt : gd t = true := gds_mem (gd_tup hg).2 (by simp)
    have gg : gd g = true := gds_mem (gd_tup hg).2 (by simp)
    refine s_ifF (et_tupn (n := 3) vx hlen (fun es he _ => et_notT (et_v (nm a t g rfl) (by rw [hn]))) fun no => absurd ⟨_, rfl, rfl⟩ no) e fun F1 H1 g1 => ?_
    refine Dv.s_ret (K := K) (d := .bool (isRecipe names (.tuple [a, t, g]))) (Dv.ev_is (Dv.ev_andV (ev_parts (j := 1) (Dv.ev_ixT (d := t) (vx.mono g1.fx) (Dv.ev_int 1) rfl) rfl (hsp.ex g1.fx) gt) fun _ => ev_parts (j := 1) (Dv.ev_ixT (d := g) (vx.mono g1.fx) (Dv.ev_int 2) rfl) rfl (hsp.ex g1.fx) gg) (by
      show _ = PyData.bool (isName a && areParts names t && areParts names g)
      rw [hn, Bool.true_and])) g1.fh fun y F2 H2 g2 hy => ?_
    cases hy
    exact q F2 H2 (g1.trans g2)
  · have e0 : isRecipe names d = false := by
      unfold isRecipe
      split
      · rename_i a t g
        cases hn : isName a with
        | true => exact absurd ⟨a, t, g, rfl, hn⟩ hs
        | false => rfl
      · rfl
    refine s_ifT (et_tupn (n := 3) vx hlen (fun es he hl => ?_) fun _ => rfl) e fun F1 H1 g1 => ?_
    · obtain ⟨a, t, g, rfl⟩ := len3 hl
      cases hn : isName a with
      | true => exact absurd ⟨a, t, g, he, hn⟩ hs
      | false => exact et_notF (et_v (nm a t g he) (by rw [hn]))
    · have := q F1 H1 g1
      rw [e0] at this
      exact this
def spSize (K : PySem.W.Frag) : Sp := fun vs H Q _ => ∃ (F : Hp) (v : V) (xs : List PyData) (l m : Int), vs = [v, .int l, .int m] ∧ Evl.Ex F H ∧ Dp K F v (.list xs) ∧ l ≤ xs.length ∧ (xs.length : Int) ≤ m ∧ xs.length ≤ 100000 ∧ ∀ F' H', Gr F H F' H' → Q .non H'
theorem sc_check_size : FnScope (["value", "least", "most"] : List Str) (["value", "least", "most"] : List Str) (defScope sCheckSize) := ⟨rfl, rfl, rfl, by decide +kernel, rfl, by decide +kernel, by decide +kernel⟩
theorem ok_check_size (D : Def K mg "check_size" sCheckSize ["value", "least", "most"]) (B : Bl mg) : Cal P w K mg base "check_size" ["value", "least", "most"] 1 (spSize K) := by
  refine cal_mk D sc_check_size (fun vs H Q E h => ?_) (fun f cdv A outer s H vs Q E hr h => ?_)
  · obtain ⟨F, v, xs, l, m, rfl, _⟩ := h
    rfl
  obtain ⟨F, v, xs, l, m, rfl, e, hv, h1, h2, h3, q⟩ := h
  refine ⟨_, (pss_one (ps_if (PW.pt (pw_or (pt_not (pt_val (pe_callB call_isi (by rfl) B.isi (by decide +kernel) (pa_cons (pv 0) (pa_cons (pe_bltn (v := .ty "list") (by rfl) B.list (by decide +kernel) rfl) pa_nil))))) (pw_or1 (pt_not (pt_chain op_le op_le (pv 1) (pe_callB call_len (by rfl) B.len (by decide +kernel) (pa_cons (pv 0) pa_nil)) (pv 2)))))) (pss_one ps_never) pss_nil)), ?_⟩
  have vx := Dv.ev_var (K := K) (σ := [some v, some (.int l), some (.int m)]) (i := 0) rfl hv
  refine s_ifF (et_orF (et_notT (et_v (p := true) (ev_isi (T := "list") vx (by decide)) rfl)) (et_notT (et_chI (f := fun i j => decide (i ≤ j)) (g := fun i j => decide (i ≤ j)) (Dv.ev_var rfl (.int l)) (ev_len vx rfl h3) (Dv.ev_var rfl (.int m)) (by
    rw [decide_eq_true h1, decide_eq_true h2] <;> rfl)))) e fun F1 H1 g1 => q F1 H1 g1
end
end R3

set_option Elab.async false
set_option linter.all false
set_option maxRecDepth 100000
set_option maxHeartbeats 4000000
/-! enumerate(d), d a dict that is locked. -/
namespace PySem
namespace EK
open Sem (wp)
section
variable {prog : Program} {w : World} {A : Around} {E : Value → Shared → Prop} {s : Shared}
theorem nextOf_key_item {it d : Addr} {i n ep : Nat} {od : Obj} {es : Array DictEntry} {en : DictEntry} {Q : Value → Shared → Prop} (hit : s.heap.IsKeyIter it d i n ep) (hod : s.heap.get? d = some od) (hdd : od.data = .dict es ep)
    (hsz : es.size = n) (hx : es[i]? = some en) (hQ : ∀ h', h'.IsKeyIter it d (i + 1) n ep → Heap.SameBut it s.heap h' → Q en.key { s with heap := h' }) : wpAny (model prog w) A (Builtin.SmallTypes.nextOf (.ref it)) Q E s := by
  obtain ⟨o, ho, hc, hd⟩ := id hit
  unfold Builtin.SmallTypes.nextOf
  refine wpAny_bind (wpAny_callSpecial?_slot (name := Str.ofString "__next__") hit.typeIs F.slot_dict_keyiterator_next
    (wpAny_call_entry F.slot_dict_keyiterator_next hit.typeIs F.entry_dict_keyiterator_next ?_ (F.args_dict_keyiterator_next_1 _)))
  refine wpAny_bind (wpAny_pure ?_)
  refine wpAny_bind ?_
  refine wpAny_bind ?_
  first | refine wpAny_bind (wpAny_typeNameOfWhole_keyiter hit.typeIs (wpAny_pure ?_)) | refine wpAny_bind (wpAny_typeNameOf_keyiter hit.typeIs (wpAny_pure ?_))
  refine wpAny_bind (wpAny_fieldsOf ho hd ?_)
  have hown : Builtin.Dict_items.ownsTuple "dict_keyiterator" = false := by decide
  simp only [hown, Bool.false_eq_true, if_false]
  show wpAny _ _ (if (Value.ref d == Value.none) = true then _ else _) _ _ s
  rw [if_neg (show ¬ ((Value.ref d == Value.none) = true) from Bool.false_ne_true)]
  refine wpAny_bind (wpAny_pure ?_)
  refine wpAny_bind (wpAny_dictEntries hod hdd ?_)
  rw [if_neg (by rw [hsz]; simp)]
  refine wpAny_bind (wpAny_pure ?_)
  refine wpAny_bind (wpAny_dictEpoch hod hdd ?_)
  rw [if_neg (by simp)]
  refine wpAny_pure ?_
  obtain ⟨hlt', hen⟩ := Array.getElem?_eq_some_iff.mp hx
  simp only [show ¬ ((i : Int) < 0) from by omega, if_false, Int.toNat_natCast, Array.getElem?_eq_getElem hlt']
  refine wpAny_bind ?_
  first | refine wpAny_bind (wpAny_typeNameOfWhole_keyiter hit.typeIs (wpAny_pure ?_)) | refine wpAny_bind (wpAny_typeNameOf_keyiter hit.typeIs (wpAny_pure ?_))
  refine wpAny_bind (wpAny_isOneOf_keyiter hit.typeIs ?_)
  show wpAny _ _ (setField (.ref it) 1 (rawInt ((i : Int) + 1)) >>= _) _ _ s
  refine wpAny_bind (wpAny_setField ho hd (by simp) ?_)
  have hit' : (s.heap.update it (Obj.mapFields (·.setIfInBounds 1 (rawInt ((i : Int) + 1))))).IsKeyIter it d (i + 1) n ep :=
    ⟨_, Heap.get?_update_self _ ho (Obj.isFreed_of_fields (Obj.data_mapFields hd _)), (Obj.cls_mapFields ..).trans hc, by rw [Obj.data_mapFields hd]; simp [rawInt]⟩
  refine wpAny_bind (wpAny_holding ?_)
  refine wpAny_bind (wpAny_isOneOf_keyiter (s := { s with heap := s.heap.update it (Obj.mapFields (·.setIfInBounds 1 (rawInt ((i : Int) + 1)))) }) hit'.typeIs ?_)
  show wpAny _ _ (pure es[i].key) _ _ _
  rw [hen]
  exact wpAny_pure (wpAny_pure ⟨_, rfl, wpAny_pure (hQ _ hit' (Heap.SameBut.update ..))⟩)
theorem nextOf_key_end {it d : Addr} {i n ep : Nat} {od : Obj} {es : Array DictEntry} {Q : Value → Shared → Prop} (hh : A.handled = none) (hit : s.heap.IsKeyIter it d i n ep) (hod : s.heap.get? d = some od) (hdd : od.data = .dict es ep)
    (hsz : es.size = n) (hge : n ≤ i) (hE : ∀ h' e, Heap.ExtBut it s.heap h' → (∃ o, h'.get? e = some o ∧ o.cls = .type "StopIteration") → E (.ref e) { s with heap := h' }) : wpAny (model prog w) A (Builtin.SmallTypes.nextOf (.ref it)) Q E s := by
  obtain ⟨o, ho, hc, hd⟩ := id hit
  unfold Builtin.SmallTypes.nextOf
  refine wpAny_bind (wpAny_callSpecial?_slot (name := Str.ofString "__next__") hit.typeIs F.slot_dict_keyiterator_next
    (wpAny_call_entry F.slot_dict_keyiterator_next hit.typeIs F.entry_dict_keyiterator_next ?_ (F.args_dict_keyiterator_next_1 _)))
  refine wpAny_bind (wpAny_pure ?_)
  refine wpAny_bind ?_
  refine wpAny_bind ?_
  first | refine wpAny_bind (wpAny_typeNameOfWhole_keyiter hit.typeIs (wpAny_pure ?_)) | refine wpAny_bind (wpAny_typeNameOf_keyiter hit.typeIs (wpAny_pure ?_))
  refine wpAny_bind (wpAny_fieldsOf ho hd ?_)
  have hown : Builtin.Dict_items.ownsTuple "dict_keyiterator" = false := by decide
  simp only [hown, Bool.false_eq_true, if_false]
  show wpAny _ _ (if (Value.ref d == Value.none) = true then _ else _) _ _ s
  rw [if_neg (show ¬ ((Value.ref d == Value.none) = true) from Bool.false_ne_true)]
  refine wpAny_bind (wpAny_pure ?_)
  refine wpAny_bind (wpAny_dictEntries hod hdd ?_)
  rw [if_neg (by rw [hsz]; simp)]
  refine wpAny_bind (wpAny_pure ?_)
  refine wpAny_bind (wpAny_dictEpoch hod hdd ?_)
  rw [if_neg (by simp)]
  refine wpAny_pure ?_
  have hge' : es.size ≤ i := by rw [hsz]; exact hge
  simp only [show ¬ ((i : Int) < 0) from by omega, if_false, Int.toNat_natCast, Array.getElem?_eq_none hge']
  refine wpAny_bind ?_
  first | refine wpAny_bind (wpAny_typeNameOfWhole_keyiter hit.typeIs (wpAny_pure ?_)) | refine wpAny_bind (wpAny_typeNameOf_keyiter hit.typeIs (wpAny_pure ?_))
  show wpAny _ _ (setField (.ref it) 0 .none >>= _) _ _ s
  refine wpAny_bind (wpAny_setField ho hd (by simp) ?_)
  show wpAny _ _ (newExc (.type "StopIteration") [] >>= _) _ _ _
  refine wpAny_bind ?_
  simp only [newExc, newTuple]
  refine wpAny_bind (wpAny_newObj_type ?_ (by size_fits))
  refine wpAny_bind (m := firstArgMember _ _) (wpAny_of_eq (a := Value.none) (by first | rfl | (simp only [firstArgMember]; rfl)) ?_)
  refine wpAny_newObj_type ?_ (by size_fits)
  simp only [raiseNew]
  refine wpAny_bind (wpAny_handled ?_)
  rw [show A.in1.handled = none from hh]
  refine wpAny_bind (wpAny_pure (wpAny_throw ?_))
  exact hE _ _ (((Heap.SameBut.update ..).extBut.push _).push _) ⟨_, Heap.get?_push_size _ rfl, rfl⟩
end
theorem draws_keys {prog : Program} {w : World} {A : Around} {it d : Addr} {n ep : Nat} {od : Obj} {es : Array DictEntry} (hh : A.handled = none) (hdd : od.data = .dict es ep) (hsz : es.size = n) (hne : d ≠ it) :
    Draws prog w A it [it, d] n (fun i v => ∃ en, es[i]? = some en ∧ v = en.key) (fun i h => h.IsKeyIter it d i n ep ∧ h.get? d = some od) where
  live := fun i h st => let ⟨⟨o, ho, _⟩, _⟩ := st; ⟨o, ho⟩
  frame := fun i h h' st k => let ⟨⟨o, ho, r⟩, hd⟩ := st; ⟨⟨o, k it (by simp) o ho, r⟩, k d (by simp) _ hd⟩
  item := fun i s Q E hi st hQ => by
    obtain ⟨hit, hod⟩ := st
    have hx : es[i]? = some es[i] := Array.getElem?_eq_getElem (by omega)
    exact nextOf_key_item hit hod hdd hsz hx fun h' hit' sb => hQ _ h' s.toks ⟨_, hx, rfl⟩ ⟨hit', (sb.2 d hne).trans hod⟩ sb
  done := fun s Q E st hE => nextOf_key_end hh st.1 st.2 hdd hsz (Nat.le_refl _) hE
theorem meets_new (d : Addr) (o : Obj) (es : Array DictEntry) (ep : Nat) (hs : (d == sysModules) = false) (hc : o.ExactDict) (hdat : o.data = .dict es ep) :
    Meets (Builtin.«enumerate.__new__» ⟨[.type "enumerate", .ref d], []⟩) (fun _ R s => s.heap.get? d = some o ∧
      R (.ok (.ret (.ref (s.heap.push { cls := .type "dict_keyiterator", data := .fields #[.ref d, .int 0 0, .int es.size 0, .int ep 0] }).objs.size)))
        { s with heap := (s.heap.push { cls := .type "dict_keyiterator", data := .fields #[.ref d, .int 0 0, .int es.size 0, .int ep 0] }).push { cls := .type "enumerate", data := .fields #[.none, .bool false, .ref s.heap.objs.size, rawInt 0, .none, .none] } }) :=
  .of_wp fun prog w A R s h => by
    obtain ⟨hp, g, dr, tk, os⟩ := s; obtain ⟨hl, h⟩ := h
    have hsub := sub_enumerate
    have hL : (Shared.mk hp g dr tk os).heap.get? d = some o := hl
    wp_walk using AutoSeq1.wpAny_loadPart' hl
    refine wpAny_stack_any fun st => wpAny_pure ?_
    split
    · rename_i c _ _ _ _ _
      cases (c == Value.type "enumerate")
      · wp_walk using AutoSeq1.wpAny_loadPart' hl, L2.iter_keys hs hL hc hdat
        exact ⟨_, rfl, h⟩
      · wp_walk using AutoSeq1.wpAny_loadPart' hl, L2.iter_keys hs hL hc hdat
        exact ⟨_, rfl, h⟩
    · wp_walk using AutoSeq1.wpAny_loadPart' hl, L2.iter_keys hs hL hc hdat
      exact ⟨_, rfl, h⟩
section
variable {prog : Program} {w : World} {A : Around} {E : Value → Shared → Prop} {s : Shared}
theorem call_enumK {d : Addr} {o : Obj} {es : Array DictEntry} {ep : Nat} {Q : Value → Shared → Prop} (hs : (d == sysModules) = false) (hd : s.heap.get? d = some o) (hc : o.ExactDict) (hdat : o.data = .dict es ep)
    (h : ∀ h', IsEnum h' (s.heap.objs.size + 1) s.heap.objs.size 0 .none → h'.IsKeyIter s.heap.objs.size d 0 es.size ep → h'.objs.size = s.heap.objs.size + 2 →
      (∀ b o, s.heap.get? b = some o → h'.get? b = some o) → Q (.ref (s.heap.objs.size + 1)) { s with heap := h' }) :
    wpAny (model prog w) A (call (.type "enumerate") [.ref d]) Q E s := by
  refine callType_new F.called_enumerate (by decide) (F.typeCall_enumerate_1 _) (F.newCall_enumerate_1 _) (fun obj => F.args_object_init_2 obj _) F.entry_enumerate_new
    (meets_new d o es ep hs hc hdat) ⟨hd, ?_⟩
  have hz : (s.heap.push { cls := .type "dict_keyiterator", data := .fields #[.ref d, .int 0 0, .int es.size 0, .int ep 0] }).objs.size = s.heap.objs.size + 1 := Heap.size_push ..
  show _ ∧ _
  rw [hz]
  have he : IsEnum ((s.heap.push { cls := .type "dict_keyiterator", data := .fields #[.ref d, .int 0 0, .int es.size 0, .int ep 0] }).push
      { cls := .type "enumerate", data := .fields #[.none, .bool false, .ref s.heap.objs.size, rawInt 0, .none, .none] }) (s.heap.objs.size + 1) s.heap.objs.size 0 .none := by
    rw [← hz]
    exact Heap.get?_push_size _ rfl
  refine ⟨⟨_, he, rfl⟩, h _ he ⟨_, Heap.get?_push_of_some _ (Heap.get?_push_size _ rfl), rfl, rfl⟩ (by rw [Heap.size_push, hz]) fun b o' e => Heap.get?_push_of_some _ (Heap.get?_push_of_some _ e)⟩
end
end EK
end PySem

set_option Elab.async false
set_option linter.all false
set_option maxRecDepth 100000
set_option maxHeartbeats 4000000
namespace L2
open PySem PySem.Spec PyProof.Rows
/-- the places and the keys of the locked dict at d, each a new tuple -/
def Itek (d : Addr) (o : Obj) (kvs : List (Key × V)) : It :=
  ⟨fun i H => H d = some (.frz o (.dK kvs)) ∧ i < kvs.length, fun i H x H' => ∃ T k v, kvs[i]? = some (k, v) ∧ x = .ref T ∧ H T = none ∧ H' = upd H T (.tup [.int (i : Nat), kV k]), fun i H => H d = some (.frz o (.dK kvs)) ∧ kvs.length ≤ i⟩
section
variable {P : Program} {w : World} {K : PySem.W.Frag} {d : Addr} {o : Obj} {es : Array DictEntry} {ep : Nat}
theorem turn_enumK {kvs : List (Key × V)} {elts : List Expr} {kk : Nat} {tpos : Pos} (e it : Addr) (hod : o.data = .dict es ep) (hde : d ≠ e) (hdi : d ≠ it) :
    Turn P w K (.Tuple elts kk tpos) (Itek d o kvs) [e, it] e (fun i h => (∃ old, IsEnum h e it ((i : Nat) : Int) old) ∧ h.IsKeyIter it d i kvs.length ep ∧ e ≠ it) where
  mem := by simp
  obj := fun i h st b hb => by
    obtain ⟨⟨old, he⟩, ⟨o, ho, hc, hd⟩, _⟩ := st
    have e' : b = e ∨ b = it := by simpa using hb
    rcases e' with z | z
    · rw [z]; exact ⟨_, he, fun v q => nomatch q⟩
    · rw [z]; exact ⟨o, ho, fun v q => by rw [hd] at q; cases q⟩
  keep := fun i h h' st k => let ⟨⟨old, he⟩, ⟨oi, ho, r⟩, hne⟩ := st; ⟨⟨old, k e (by simp) _ he⟩, ⟨oi, k it (by simp) oi ho, r⟩, hne⟩
  item := by
    intro X hP hw hK hc i pins s σ H E I hf st hg
    subst hP hw hK
    obtain ⟨⟨old, he⟩, hit, hne⟩ := st
    obtain ⟨hd, hi⟩ := hg
    obtain ⟨hs, hgd, hx, es', ep', vs, hdt, hsz, kv, hm⟩ := I.frzK hd
    obtain ⟨rfl, rfl⟩ := dict_ep hod hdt
    obtain ⟨⟨k, v⟩, hkv⟩ : ∃ p, kvs[i]? = some p := ⟨kvs[i], List.getElem?_eq_getElem hi⟩
    obtain ⟨u, hu, ru⟩ := kv_get kv hkv
    have hl : kvs.length = vs.length := Paired.length kv
    have hel : e < s.heap.objs.size := Heap.lt_size he
    have hil : it < s.heap.objs.size := by obtain ⟨_, q, _⟩ := hit; exact Heap.lt_size q
    refine wpAny_pyNext_enum_itemD (EK.draws_keys (prog := X.prog) (w := X.w) (A := X.A.in1) (it := it) (I.ok.hd hc) hod hsz hdi) he ⟨hit, hgd⟩ hi hne (by simpa using ⟨hne, Ne.symm hde⟩) fun x h' tk hP ho hst hT hsz' hk => ?_
    obtain ⟨en, hen, rfl⟩ := hP
    obtain ⟨od2, es2, hod2, _, hdd2, _, hp, _⟩ := hm
    rw [hgd] at hod2
    cases hod2
    obtain ⟨rfl, _⟩ := dict_ep hod hdd2
    have hkey : keyIs k en.key = true := (hp.get? (e := en) (by simpa using hen) hu).1
    refine ⟨_, rfl, wpAny_letOwnedTupleGo_enum (s := { s with heap := h', toks := tk + 1 }) ho fun h'' he' sb => ?_⟩
    have hT2 : h''.get? s.heap.objs.size = some { cls := .type "tuple", data := .seq #[.int i tk, en.key] } := (sb.2 _ (Nat.ne_of_gt hel)).trans hT
    have new : ObjOk X.prog X.w (upd H s.heap.objs.size (.tup [.int (i : Nat), kV k])) h'' s.heap.objs.size (.tup [.int (i : Nat), kV k]) :=
      ⟨by show 2 ≤ sizeLine; decide, [.int i tk, en.key], .cons ⟨_, rfl⟩ (.cons (relV_key hkey) .nil), ⟨_, hT2, rfl, _, rfl⟩⟩
    have I1 : Inv X pins σ (upd H s.heap.objs.size (.tup [.int (i : Nat), kV k])) { s with heap := h'', toks := tk + 1 } :=
      I.turnedNew (ch := [e, it]) (fun b ob hb q => (sb.2 b (fun z => hb (by simp [z]))).trans (hk b ob (fun z => hb (by simp [z])) (fun z => hb (by simp [z])) q)) hf (Nat.le_refl _) new
    obtain ⟨⟨oi, hoi, ri⟩, _⟩ := hst
    refine ⟨.ref s.heap.objs.size, _, I1, rfl, ⟨_, k, v, hkv, rfl, I.hok.fresh (Nat.le_refl _), rfl⟩, ⟨⟨en.key, ?_⟩, ⟨oi, (sb.2 it (Ne.symm hne)).trans hoi, ri⟩, hne⟩, fun b hb => ?_⟩
    · have e1 : ((i + 1 : Nat) : Int) = (i : Int) + 1 := by omega
      rw [e1]; exact he'
    · have hb' : b < s.heap.objs.size := by
        have e' : b = e ∨ b = it := by simpa using hb
        rcases e' with z | z
        · rw [z]; exact hel
        · rw [z]; exact hil
      rw [upd_ne (Nat.ne_of_lt hb')]
      exact (hf b hb).1
  done := by
    intro X hP hw hK hc i pins s σ H E I hf st hg
    subst hP hw hK
    obtain ⟨⟨old, he⟩, hit, hne⟩ := st
    obtain ⟨hd, hi⟩ := hg
    obtain ⟨hs, hgd, hx, es', ep', vs, hdt, hsz, kv, hm⟩ := I.frzK hd
    obtain ⟨rfl, rfl⟩ := dict_ep hod hdt
    obtain ⟨f0, f1, f2, f3, f4, f5⟩ := hf it (by simp)
    have hT : s.TypeIs (.ref e) "enumerate" := ⟨_, he, rfl⟩
    unfold pyNext
    refine wpAny_bind (wpAny_attempt (wpAny_callSpecial?_slot (name := Str.ofString "__next__") hT F.slot_enumerate_next
      (wpAny_call_entry F.slot_enumerate_next hT F.entry_enumerate_next ?_ (F.args_enumerate_next_1 _))))
    show wpAny _ _ (field (.ref e) 2 >>= _) _ _ _
    refine wpAny_bind (wpAny_field he rfl (x := .ref it) rfl ?_)
    refine wpAny_bind (EK.nextOf_key_end (show X.A.in1.handled = none from I.ok.hd hc) hit hgd hdt hsz hi fun h' x he' hx' => ?_)
    obtain ⟨ox, hox, hcx⟩ := hx'
    refine wpAny_bind (wpAny_isInstance (T := "StopIteration") (b := true) ⟨ox, hox, hcx⟩ isSubtype_stop ?_)
    exact wpAny_pure ⟨rfl, I.turned (t' := s.toks) (fun b ob hb q => he' b ob hb q) f0 f1 f3 f4 f5⟩
  self := fun A i s Q E st h => let ⟨⟨_, he⟩, _⟩ := st; wpAny_pyIter_enum he h
end
def iEnumK (ta : TA) : TI := fun σ H R => ta σ H fun vs H1 => ∃ d o kvs, vs = [.ref d] ∧ H1 d = some (.frz o (.dK kvs)) ∧ R (Itek d o kvs) H1
theorem pi_enumK {X : Cx} {e : Expr} {ta : TA} {p pos tpos : Pos} {elts : List Expr} {kk : Nat} (hg : Gl X "enumerate") (hm : X.mg "enumerate" = none) (ha : PA X [e] ta) (hs : starEach [e] X.env = [(false, eval e X.env)] := by rfl) :
    PI X (.Tuple elts kk tpos) (.Call (.Name "enumerate" p) [e] [] pos) (iEnumK ta) := by
  refine ⟨fun pins s σ H R I h => ?_⟩
  refine Call_ (ld_blt I hg hm boot_enumerate (PyProof.Rows.callWith_type1 (thn (ha.run pos pins s σ H _ I h) fun us s1 ⟨vs, H1, I1, r1, q1⟩ => ?_) hs rfl))
  obtain ⟨d, o, kvs, ex, hq, q⟩ := q1
  subst ex
  cases r1 with
  | cons r rr =>
    cases rr
    cases r
    obtain ⟨hs', hgd, hx, es, ep, vs, hdt, hsz, kv, hmm⟩ := I1.frzK hq
    have hlt : d < s1.heap.objs.size := Heap.lt_size hgd
    refine EK.call_enumK hs' hgd hx hdt fun h' he hit hsz' hk => wpAny_pyIter_enum he ?_
    have I2 : Inv X pins σ H1 { s1 with heap := h' } := I1.kept (t' := s1.toks) hk
    rw [hsz] at hit
    refine ⟨s1.heap.objs.size + 1, [s1.heap.objs.size + 1, s1.heap.objs.size], _, _, H1, rfl, I2, turn_enumK (s1.heap.objs.size + 1) s1.heap.objs.size hdt (Nat.ne_of_lt (Nat.lt_succ_of_lt hlt)) (Nat.ne_of_lt hlt), ⟨⟨.none, he⟩, hit, Nat.succ_ne_self _⟩, fun b hb => ?_, q⟩
    have e' : b = s1.heap.objs.size + 1 ∨ b = s1.heap.objs.size := by simpa using hb
    have hle : s1.heap.objs.size ≤ b := by
      rcases e' with z | z
      · rw [z]; exact Nat.le_add_right _ _
      · rw [z]; exact Nat.le_refl _
    exact I1.fpOk hle (I1.hok.fresh hle)
theorem walk_enumK {d : Addr} {o : Obj} {kvs : List (Key × V)} : Walk (Itek d o kvs) kvs.length (fun H => H d = some (.frz o (.dK kvs))) (YPair (fun i => some (.int (i : Nat))) (fun i => kvs[i]?.map fun kv => kV kv.1)) :=
  ⟨fun i H hi q => ⟨q, hi⟩, fun H q => ⟨q, Nat.le_refl _⟩, fun i H x H' hi q y => by
    obtain ⟨T, k, v, hkv, rfl, hT, rfl⟩ := y
    exact ⟨T, _, kV k, rfl, hT, rfl, rfl, by show Option.map _ kvs[i]? = _; rw [hkv] <;> rfl⟩⟩
end L2

set_option Elab.async false
set_option linter.all false
set_option maxRecDepth 100000
set_option maxHeartbeats 4000000
namespace Dv
open PySem L2 Evl
section
variable {K : PySem.W.Frag} {σ : L2.St} {F F1 H H1 : Hp} {te ta tb tc : TE} {d a b : PyData} {ds es : List PyData} {ad : Addr} {kvs : List (Key × V)}
/-- what stands at a dict's address is not seen by data -/
def NoSq (o : Option HO) : Prop := ∀ xs, o ≠ some (.lst xs) ∧ o ≠ some (.tup xs) ∧ ∀ ob, o ≠ some (.frz ob (.lst xs)) ∧ o ≠ some (.frz ob (.tup xs))
theorem noSq_dK : NoSq (some (.dK kvs)) := fun xs => ⟨(fun z => by cases z), (fun z => by cases z), fun ob => ⟨(fun z => by cases z), (fun z => by cases z)⟩⟩
theorem noSq_frz {o : Obj} : NoSq (some (.frz o (.dK kvs))) := fun xs => ⟨(fun z => by cases z), (fun z => by cases z), fun ob => ⟨(fun z => by cases z), (fun z => by cases z)⟩⟩
theorem noSq_none : NoSq none := fun xs => ⟨(fun z => by cases z), (fun z => by cases z), fun ob => ⟨(fun z => by cases z), (fun z => by cases z)⟩⟩
theorem sqL_put {p : Addr} {xs : List V} {o : HO} (h : NoSq (F ad)) (hs : SqL K F p xs) : SqL K (upd F ad o) p xs := by
  rcases hs with (q | ⟨ob, q⟩) | q
  · refine .inl (.inl ?_)
    rw [upd_ne (fun z => (h xs).1 (by rw [← z]; exact q))]
    exact q
  · refine .inl (.inr ⟨ob, ?_⟩)
    rw [upd_ne (fun z => ((h xs).2.2 ob).1 (by rw [← z]; exact q))]
    exact q
  · exact .inr q
theorem sqT_put {p : Addr} {xs : List V} {o : HO} (h : NoSq (F ad)) (hs : SqT K F p xs) : SqT K (upd F ad o) p xs := by
  rcases hs with (q | ⟨ob, q⟩) | q
  · refine .inl (.inl ?_)
    rw [upd_ne (fun z => (h xs).2.1 (by rw [← z]; exact q))]
    exact q
  · refine .inl (.inr ⟨ob, ?_⟩)
    rw [upd_ne (fun z => ((h xs).2.2 ob).2 (by rw [← z]; exact q))]
    exact q
  · exact .inr q
mutual
theorem dp_put {o : HO} (h : NoSq (F ad)) : ∀ {d : PyData} {v : V}, Dp K F v d → Dp K (upd F ad o) v d
  | .none, _, e => by cases e; exact .non
  | .bool b, _, e => by cases e; exact .bl b
  | .int i, _, e => by cases e; exact .int i
  | .str x, _, e => by cases e; exact .str x
  | .list ds, _, e => by
    cases e with
    | lst hs ha => exact .lst (sqL_put h hs) (dps_put h ha)
  | .tuple ds, _, e => by
    cases e with
    | tup hs ha => exact .tup (sqT_put h hs) (dps_put h ha)
  | .dict _, _, e => by cases e
theorem dps_put {o : HO} (h : NoSq (F ad)) : ∀ {ds : List PyData} {vs : List V}, DpAll K F vs ds → DpAll K (upd F ad o) vs ds
  | [], _, e => by cases e; exact .nil
  | d :: ds, _, e => by
    cases e with
    | cons h1 h2 => exact .cons (dp_put h h1) (dps_put h h2)
end
theorem ex_upd {F H : Hp} {p : Addr} {o : HO} (e : Ex F H) : Ex (upd F p o) (upd H p o) := fun a u h => by
  by_cases q : a = p
  · subst q
    rw [upd_same] at h ⊢
    exact h
  · rw [upd_ne q] at h ⊢
    exact e a u h
/-- from the locked heaps back -/
theorem Gr.unlock {F H F' H' : Hp} {o u : HO} (hd : F ad = some u) (e : Ex F H) (g : Gr (upd F ad o) (upd H ad o) F' H') : F' ad = some o ∧ H' ad = some o ∧ Gr F H (upd F' ad u) (upd H' ad u) := by
  have f1 : F' ad = some o := g.fx ad o upd_same
  refine ⟨f1, g.fh ad o f1, ?_, ex_upd g.fh, ?_, ?_⟩
  · intro a w h
    by_cases q : a = ad
    · subst q
      rw [upd_same]
      exact hd.symm.trans h
    · rw [upd_ne q]
      exact g.fx a w (by rw [upd_ne q]; exact h)
  · intro a w h
    by_cases q : a = ad
    · subst q
      rw [upd_same]
      exact (e _ _ hd).symm.trans h
    · rw [upd_ne q]
      exact g.hx a w (by rw [upd_ne q]; exact h)
  · intro a h1 h2
    by_cases q : a = ad
    · subst q
      rw [hd] at h1
      cases h1
    · rw [upd_ne q] at h2
      have := g.fr a (by rw [upd_ne q]; exact h1) h2
      rw [upd_ne q] at this
      exact this
/-- a comprehension over a dict of F: within, the dict is locked -/
theorem el_lock (hd : F ad = some (.dK kvs)) (h : ∀ od, EvL K te σ (upd F ad (.frz od (.dK kvs))) ds) : EvL K (tLockE te) σ F ds := fun H e Q q =>
  ⟨ad, _, e _ _ hd, trivial, fun od => h od (upd H ad (.frz od (.dK kvs))) (ex_upd e) _ fun p vs F' H' g h1 h2 h3 h4 => by
    obtain ⟨f1, f2, gg⟩ := Gr.unlock hd e g
    have hp : p ≠ ad := fun z => by
      subst z
      rw [upd_same] at h1
      cases h1
    refine ⟨f2, q p vs _ _ gg (by rw [upd_ne hp] at h1; exact h1) (by rw [upd_ne hp]; exact h2) (by rw [upd_ne hp]; exact h3) (dps_put (by rw [f1]; exact noSq_frz) h4)⟩⟩
/-! ### a locked dict walked -/
variable {o : Obj} {td : TE}
theorem it_vals (ht : ∀ H1, Ex F H1 → ∀ Q : VK, Q (.ref ad) H1 → td σ H1 Q) (hd : F ad = some (.frz o (.dK kvs))) (hv : DpAll K F (kvs.map Prod.snd) ds) : ItD K (iVals td) σ F ds := fun H e R q =>
  ht H e _ ⟨ad, o, kvs, rfl, e _ _ hd, q _ F H (Gr.refl e) ⟨_, _, by rw [← dps_len hv, List.length_map]; exact walk_values, fun H' e' => e' _ _ hd, fun F2 i H2 x H3 hi e1 e2 y => by
    obtain ⟨rfl, k, hk⟩ := y
    obtain ⟨d, h1, h2⟩ := dps_get hv (v := x) (i := i) (by rw [List.getElem?_map, hk] <;> rfl)
    exact ⟨F2, d, h1, Gr.refl e2, dp_ex e1 h2⟩⟩⟩
theorem it_enumK {tas : TA} {names : List Str} (ht : ∀ H1, Ex F H1 → ∀ Q : List V → Hp → Prop, Q [.ref ad] H1 → tas σ H1 Q) (hd : F ad = some (.frz o (.dK kvs))) (hn : kvs.map Prod.fst = names.map Sum.inr) :
    ItD K (iEnumK tas) σ F (names.zipIdx.map fun z => .tuple [.int z.2, .str z.1]) := fun H e R q =>
  ht H e _ ⟨ad, o, kvs, rfl, e _ _ hd, q _ F H (Gr.refl e) ⟨_, _, by
    have : kvs.length = names.length := by
      have := congrArg List.length hn
      rwa [List.length_map, List.length_map] at this
    rw [List.length_map, List.length_zipIdx, ← this]
    exact walk_enumK, fun H' e' => e' _ _ hd, fun F2 i H2 x H3 hi e1 e2 y => by
    obtain ⟨T, x, y, rfl, hT, rfl, f1, f2⟩ := y
    cases f1
    have hk : (names.map (Sum.inr : Str → Key))[i]? = (kvs.map Prod.fst)[i]? := by rw [hn]
    rw [List.getElem?_map, List.getElem?_map] at hk
    have f2 : Option.map (fun kv => kV kv.1) kvs[i]? = some y := f2
    cases hq : kvs[i]? with
    | none => rw [hq] at f2; cases f2
    | some kv =>
      rw [hq] at f2 hk
      cases hz : names[i]? with
      | none => rw [hz] at hk; cases hk
      | some nm =>
        rw [hz] at hk
        have hk' : (Sum.inr nm : Key) = kv.1 := Option.some.inj hk
        have f2' : kV kv.1 = y := Option.some.inj f2
        rw [← hk'] at f2'
        subst f2'
        refine ⟨_, .tuple [.int i, .str nm], ?_, Gr.new e2 hT, .tup (st_of upd_same) (.cons (.int _) (.cons (.str _) .nil))⟩
        rw [List.getElem?_map, List.getElem?_zipIdx, hz]
        simp⟩⟩
end
end Dv

set_option Elab.async false
set_option linter.all false
set_option maxRecDepth 100000
set_option maxHeartbeats 4000000
namespace L2
open PySem PySem.Spec PyProof.Rows
/-- a dict comprehension over a walk: Pv by the turn and the heap (the new dict at D within) -/
theorem dc_it {J : It} {n : Nat} {G : Hp → Prop} {Y : Nat → Hp → V → Hp → Prop} (w : Walk J n G Y) {g : TG} {tt : TT} {tk tv : TE} {vs : List Nat} {σ : St} {H1 : Hp} {D : Addr} {Qd : Hp → Prop} (Pv : Nat → Hp → Prop) (h0 : Pv 0 (upd H1 D (.dK []))) (hG : ∀ i H, i ≤ n → Pv i H → G H)
    (hs : ∀ i x H H', i < n → Pv i H → Y i H x H' → g x (wipe σ vs) H' fun σ2 H2 => wipe σ2 vs = wipe σ vs ∧ tt σ2 H2 fun b H3 =>
      if b = true then tk σ2 H3 fun y H4 => tv σ2 H4 fun z H5 => ∃ kvs k, y = kV k ∧ H5 D = some (.dK kvs) ∧ kvs.length < sizeLine ∧ Pv (i + 1) (upd H5 D (.dK (putK kvs k z))) else Pv (i + 1) H3) (hd : ∀ H, Pv n H → Qd H) :
    ∃ W : Nat → Nat → Hp → Prop, (∃ m, W 0 m (upd H1 D (.dK []))) ∧ ∀ i m H, W i m H →
      (J.stop i H ∧ Qd H) ∨ (J.go i H ∧ ∃ Nx : Hp → Prop, (∀ H', Nx H' → ∃ m', m' < m ∧ W (i + 1) m' H') ∧ ∀ x H', J.yld i H x H' → g x (wipe σ vs) H' fun σ2 H2 => wipe σ2 vs = wipe σ vs ∧ tt σ2 H2 fun b H3 =>
        if b = true then tk σ2 H3 fun y H4 => tv σ2 H4 fun z H5 => ∃ kvs k, y = kV k ∧ H5 D = some (.dK kvs) ∧ kvs.length < sizeLine ∧ Nx (upd H5 D (.dK (putK kvs k z))) else Nx H3) := by
  refine ⟨fun i m H => m = n - i ∧ i ≤ n ∧ Pv i H, ⟨n, by simp, Nat.zero_le _, h0⟩, ?_⟩
  rintro i m H ⟨rfl, hi, p⟩
  have q := hG i H hi p
  by_cases hlt : i < n
  · exact .inr ⟨w.goes i H hlt q, Pv (i + 1), fun H' p' => ⟨n - (i + 1), by omega, rfl, hlt, p'⟩, fun x H' y => hs i x H H' hlt p (w.yields i H x H' hlt q y)⟩
  · have e : i = n := by omega
    subst e
    exact .inl ⟨w.stops H q, hd H p⟩
end L2
namespace Dv
open PySem L2 Evl
section
variable {K : PySem.W.Frag} {σ : L2.St} {F F1 H H1 : Hp} {te ta tb tc : TE} {d a b : PyData} {ds es : List PyData} {ad : Addr} {kvs : List (Key × V)}
variable (K) in
/-- a new dict, not yet of F' -/
def EvK (te : TE) (σ : L2.St) (F : Hp) (ks : List Key) (ds : List PyData) : Prop := ∀ H, Ex F H → ∀ Q : VK, (∀ p vs F' H', Gr F H F' H' → H p = none → F' p = none → H' p = some (.dK (ks.zip vs)) → DpAll K F' vs ds → Q (.ref p) H') → te σ H Q
theorem ek_lock {ks : List Key} (hd : F ad = some (.dK kvs)) (h : ∀ od, EvK K te σ (upd F ad (.frz od (.dK kvs))) ks ds) : EvK K (tLockE te) σ F ks ds := fun H e Q q =>
  ⟨ad, _, e _ _ hd, trivial, fun od => h od (upd H ad (.frz od (.dK kvs))) (ex_upd e) _ fun p vs F' H' g h1 h2 h3 h4 => by
    obtain ⟨f1, f2, gg⟩ := Gr.unlock hd e g
    have hp : p ≠ ad := fun z => by
      subst z
      rw [upd_same] at h1
      cases h1
    refine ⟨f2, q p vs _ _ gg (by rw [upd_ne hp] at h1; exact h1) (by rw [upd_ne hp]; exact h2) (by rw [upd_ne hp]; exact h3) (dps_put (by rw [f1]; exact noSq_frz) h4)⟩⟩
theorem putK_new {κ : Type} [DecidableEq κ] {kvs : List (κ × V)} {k : κ} {v : V} (h : k ∉ kvs.map Prod.fst) : putK kvs k v = kvs ++ [(k, v)] := by
  unfold putK
  rw [if_neg]
  intro z
  obtain ⟨p, hp, e⟩ := List.any_eq_true.mp z
  exact h (List.mem_map.mpr ⟨p, hp, of_decide_eq_true e⟩)
theorem zip_fst : ∀ {ks : List Key} {vs : List V}, vs.length = ks.length → (ks.zip vs).map Prod.fst = ks
  | [], _, _ => by simp
  | k :: ks, [], h => by cases h
  | k :: ks, v :: vs, h => by
    rw [List.zip_cons_cons, List.map_cons, zip_fst (Nat.succ.inj h)]
theorem zip_snd : ∀ {ks : List Key} {vs : List V}, vs.length = ks.length → (ks.zip vs).map Prod.snd = vs
  | [], [], _ => rfl
  | [], _ :: _, h => by cases h
  | k :: ks, [], h => by cases h
  | k :: ks, v :: vs, h => by
    rw [List.zip_cons_cons, List.map_cons, zip_snd (Nat.succ.inj h)]
theorem zip_app {ks : List Key} {vs : List V} {k : Key} {v : V} (h : vs.length = ks.length) : ks.zip vs ++ [(k, v)] = (ks ++ [k]).zip (vs ++ [v]) := by
  rw [List.zip_append h.symm] <;> rfl
/-- {k: v for x in xs}, new texts as keys -/
theorem dc_rule {α : Type} {wi : TI} {g : TG} {vs : List Nat} {tk tv : TE} (xs : List α) (enc vf : α → PyData) (kf : α → Str) (hi : ItD K wi σ F (xs.map enc)) (hz : xs.length ≤ 40000) (hn : (xs.map kf).Nodup)
    (hb : ∀ x, x ∈ xs → ∀ v F1, Ex F F1 → Dp K F1 v (enc x) → ∃ σ2, (∀ H, Ex F1 H → ∀ Q : L2.St → Hp → Prop, Q σ2 H → g v (wipe σ vs) H Q) ∧ wipe σ2 vs = wipe σ vs ∧ EvD K tk σ2 F1 (.str (kf x)) ∧ EvD K tv σ2 F1 (vf x)) :
    EvK K (tDc wi g tYes tk tv vs) σ F (xs.map fun x => Sum.inr (kf x)) (xs.map vf) := fun H eH Q q => hi H eH _ fun J F1 H1 g1 wd => by
  obtain ⟨G, Y, W, hG, hY⟩ := wd
  rw [List.length_map] at W
  intro D hD
  have fD : F1 D = none := ex_none g1.fh hD
  refine dc_it W (Pv := fun i H' => ∃ F' ws, Gr F1 H1 F' H' ∧ F' D = none ∧ H' D = some (.dK (((xs.take i).map fun x => (Sum.inr (kf x) : Key)).zip ws)) ∧ DpAll K F' ws ((xs.take i).map vf)) ⟨F1, [], Gr.only g1.fh hD, fD, upd_same, by rw [List.take_zero]; exact .nil⟩
    (fun i H' _ p => ?_) (fun i v H2 H3 hin p y => ?_) (fun H' p => ?_)
  · obtain ⟨F', ws, g, _⟩ := p
    exact hG _ (g.fx.trans g.fh)
  · obtain ⟨F2, ws, g2, f2, h2, hw⟩ := p
    obtain ⟨F3, d, hd, g3, hv⟩ := hY F2 i H2 v H3 (by rw [List.length_map]; exact hin) g2.fx g2.fh y
    rw [List.getElem?_map, List.getElem?_eq_getElem hin] at hd
    cases hd
    have hx : xs[i] ∈ xs := List.getElem_mem hin
    obtain ⟨σ2, hg, hwp, hk, he⟩ := hb xs[i] hx v F3 (g1.fx.trans (g2.fx.trans g3.fx)) hv
    have k3 := g3.keep h2 f2
    refine hg H3 g3.fh _ ⟨hwp, ?_⟩
    unfold tYes
    refine iteT ?_
    refine hk H3 g3.fh _ fun y F4 H4 g4 hy => (he.mono g4.fx) H4 g4.fh _ fun z F5 H5 g5 hz5 => ?_
    cases hy
    have k5 := (g4.trans g5).keep k3.1 k3.2
    have tk' : (xs.take (i + 1)) = xs.take i ++ [xs[i]] := List.take_succ_eq_append_getElem hin
    have wl : ws.length = ((xs.take i).map fun x => (Sum.inr (kf x) : Key)).length := by rw [dps_len hw, List.length_map, List.length_map]
    have tl : (xs.take i).length ≤ xs.length := by rw [List.length_take]; omega
    refine ⟨_, Sum.inr (kf xs[i]), rfl, k5.1, sz_lt (by
      rw [List.length_zip, List.length_map]
      omega), F5, ws ++ [z], (g2.trans (g3.trans (g4.trans g5))).mut hD k5.2, k5.2, ?_, ?_⟩
    · rw [upd_same, putK_new, zip_app wl, tk', List.map_append] <;> try rfl
      rw [zip_fst wl]
      intro hm
      obtain ⟨x, hx', hk'⟩ := List.mem_map.mp hm
      have e1 : kf x = kf xs[i] := Sum.inr.inj hk'
      have hnd : ((xs.take i ++ [xs[i]]).map kf).Nodup := by
        rw [← tk']
        exact List.Nodup.sublist (List.Sublist.map _ (List.take_sublist _ _)) hn
      rw [List.map_append, List.nodup_append] at hnd
      exact hnd.2.2 (kf x) (List.mem_map.mpr ⟨x, hx', rfl⟩) (kf xs[i]) (by simp) e1
    · rw [tk', List.map_append]
      exact dps_app (dps_ex (g3.fx.trans (g4.fx.trans g5.fx)) hw) (.cons hz5 .nil)
  · obtain ⟨F', ws, g, fd, hd, hw⟩ := p
    rw [List.take_length] at hw hd
    exact q D ws F' H' (g1.trans g) (ex_none g1.hx hD) fd hd hw
end
end Dv

set_option Elab.async false
set_option linter.all false
set_option maxRecDepth 100000
set_option maxHeartbeats 4000000
namespace Dv
open PySem L2 Evl
/-- what __init__ of an object at x (its dict at dx) does to the heaps: F, H ahead know neither -/
structure Bx (x dx : Addr) (F H F' H' : Hp) : Prop where
  fx : Ex F F'
  fh : Ex F' H'
  hx : ∀ a o, a ≠ x → H a = some o → H' a = some o
  fr : ∀ a, F a = none → F' a ≠ none → H a = none ∨ a = x ∨ a = dx
theorem Bx.step {x dx : Addr} {F H F' H' F2 H2 : Hp} (b : Bx x dx F H F' H') (g : Gr F' H' F2 H2) : Bx x dx F H F2 H2 :=
  ⟨b.fx.trans g.fx, g.fh, fun a o h1 h2 => g.hx _ _ (b.hx a o h1 h2), fun a h1 h2 => by
    cases h : F' a with
    | some o => exact b.fr a h1 (by rw [h]; exact fun z => nomatch z)
    | none =>
      by_cases q : a = x
      · exact .inr (.inl q)
      · cases h3 : H a with
        | none => exact .inl rfl
        | some o =>
          have := g.fr a h h2
          rw [b.hx a o q h3] at this
          cases this⟩
/-- an object that is new, or x itself, set anew in both -/
theorem Bx.put {x dx p : Addr} {F H F' H' : Hp} {o : HO} (b : Bx x dx F H F' H') (hp : H p = none ∨ p = x) (fp : F p = none) : Bx x dx F H (upd F' p o) (upd H' p o) :=
  ⟨fun a u h => by
    rw [upd_ne (ne_of_none h fp)]
    exact b.fx a u h, ex_upd b.fh, fun a u h1 h2 => by
    have : a ≠ p := fun z => by
      rcases hp with hp | hp
      · rw [z, hp] at h2; cases h2
      · exact h1 (z.trans hp)
    rw [upd_ne this]
    exact b.hx a u h1 h2, fun a h1 h2 => by
    by_cases q : a = p
    · rcases hp with hp | hp
      · exact .inl (by rw [q]; exact hp)
      · exact .inr (.inl (q.trans hp))
    · rw [upd_ne q] at h2
      exact b.fr a h1 h2⟩
/-- in H' alone -/
theorem Bx.mut {x dx p : Addr} {F H F' H' : Hp} {o : HO} (b : Bx x dx F H F' H') (hp : H p = none) (fp : F' p = none) : Bx x dx F H F' (upd H' p o) :=
  ⟨b.fx, Ex.mut b.fh fp, fun a u h1 h2 => by
    rw [upd_ne (ne_of_none h2 hp)]
    exact b.hx a u h1 h2, b.fr⟩
theorem Bx.take {x dx p : Addr} {F H F' H' : Hp} {o : HO} (b : Bx x dx F H F' H') (hp : H p = none) (fp : F' p = none) (h : H' p = some o) : Bx x dx F H (upd F' p o) H' :=
  ⟨fun a u ha => by
    rw [upd_ne (ne_of_none (b.fx a u ha) fp)]
    exact b.fx a u ha, fun a u ha => by
    by_cases q : a = p
    · rw [q] at ha ⊢
      rw [upd_same] at ha
      cases ha
      exact h
    · rw [upd_ne q] at ha
      exact b.fh a u ha, b.hx, fun a h1 h2 => by
    by_cases q : a = p
    · exact .inl (by rw [q]; exact hp)
    · rw [upd_ne q] at h2
      exact b.fr a h1 h2⟩
section
variable {K : PySem.W.Frag} {σ : L2.St} {F F1 H H1 : Hp} {te ta tb tc : TE} {d a b : PyData} {ds es : List PyData} {ad : Addr} {kvs : List (Key × V)}
theorem fld_ref {C dx x : Addr} {fs : List (Str × V)} {f : Str} {v : V} {i : Nat} (hi : σ[i]? = some (some (.ref x))) (hx : F x = some (.ins C dx fs)) (c : Cls K C) (n : NoAttr K C f) (hl : fs.lookup f = some v) : ∀ H1, Ex F H1 → ∀ Q : VK, Q v H1 → tFld K (tVar i) f σ H1 Q :=
  fun H1 e Q q => ⟨_, hi, x, C, dx, fs, v, rfl, e _ _ hx, c, n, hl, q⟩
theorem valV_none {κ : Type} [DecidableEq κ] {kvs : List (κ × V)} {k : κ} (h : k ∉ kvs.map Prod.fst) : valV kvs k = none := by
  unfold valV
  cases q : kvs.find? fun kv => decide (kv.1 = k) with
  | none => rfl
  | some p =>
    have h1 := List.find?_some q
    exact absurd (List.mem_map.mpr ⟨p, List.mem_of_find?_eq_some q, of_decide_eq_true h1⟩) h
/-- for item in xs: if not call(item) or key in self.f: raise ..; self.f[key] = val -/
theorem fill_loop {α : Type} {D : Ends} {tcall : TE} {tk tv : TE} {C dx x ro : Addr} {fs : List (Str × V)} {f : Str} {vs0 : List V} (R : Hp → Hp → Prop) (xs : List α) (enc vf : α → PyData) (kf : α → Str) (σ0 : V → L2.St)
    (h0 : σ[0]? = some (some (.ref x))) (hs0 : ∀ v, (σ0 v)[0]? = some (some (.ref x))) (hset : ∀ v, σ.set 3 (some v) = σ0 v) (hset2 : ∀ v u, (σ0 v).set 3 (some u) = σ0 u)
    (hx : F x = some (.ins C dx fs)) (c : Cls K C) (n : NoAttr K C f) (hl : fs.lookup f = some (.ref ro)) (e : Ex F H) (hR : R F H)
    (hR1 : ∀ F H F' H', R F H → Gr F H F' H' → R F' H') (hR2 : ∀ F H o, R F H → F ro = none → R F (upd H ro o)) (hr : H ro = some (.dK [])) (fr : F ro = none)
    (hi : EvD K te σ F (.list (xs.map enc))) (hz : xs.length ≤ 40000) (hn : (xs.map kf).Nodup)
    (hcall : ∀ z, z ∈ xs → ∀ v F1, Ex F F1 → Dp K F1 v (enc z) → EvD K tcall (σ0 v) F1 (.bool true)) (hk : ∀ z, z ∈ xs → ∀ v F1, Ex F F1 → Dp K F1 v (enc z) → EvD K tk (σ0 v) F1 (.str (kf z)))
    (hv : ∀ z, z ∈ xs → ∀ v F1, Ex F F1 → Dp K F1 v (enc z) → EvD K tv (σ0 v) F1 (vf z))
    (hd : ∀ σ' vs F' H', (σ' = σ ∨ ∃ v, σ' = σ0 v) → R F' H' → Ex F F' → Ex F' H' → F' ro = none → H' ro = some (.dK ((xs.map fun z => (Sum.inr (kf z) : Key)).zip vs)) → DpAll K F' vs (xs.map vf) → D.nx σ' H') :
    tFor (iList K te) (gName 3) (tSeq (tIfS (tOr (tNot (tB tcall)) (tB (tDIn tk (tFld K (tVar 0) f)))) tNever tNext) (sDPut (tFld K (tVar 0) f) tk tv)) D σ H := by
  refine s_for (it_list hi) e (fun n σ' F' H' => (σ' = σ ∨ ∃ v, σ' = σ0 v) ∧ R F' H' ∧ F' ro = none ∧ ∃ vs, H' ro = some (.dK (((xs.take n).map fun z => (Sum.inr (kf z) : Key)).zip vs)) ∧ DpAll K F' vs ((xs.take n).map vf))
    (fun F' H' g => ?_) ?_ (fun σ' F' H' e1 e2 p => ?_)
  · have k := g.keep hr fr
    exact ⟨.inl rfl, hR1 _ _ _ _ hR g, k.2, [], by rw [List.take_zero]; exact k.1, by rw [List.take_zero]; exact .nil⟩
  · rintro Fb eb m σ' F' H' v du F2 H2 hdu e1 e2 ⟨hσ, hR', fr', ws, hr', hw⟩ g2 hv2
    obtain ⟨hm, hdm⟩ := List.getElem?_eq_some_iff.mp hdu
    rw [List.length_map] at hm
    have hdu' : du = enc xs[m] := by rw [← hdm, List.getElem_map]
    subst hdu'
    have hmem : xs[m] ∈ xs := List.getElem_mem hm
    have eF2 : Ex F F2 := eb.trans (e1.trans g2.fx)
    have k2 := g2.keep hr' fr'
    have es : σ'.set 3 (some v) = σ0 v := by
      rcases hσ with rfl | ⟨u, rfl⟩
      · exact hset v
      · exact hset2 u v
    show tSeq _ _ _ (σ'.set 3 (some v)) H2
    rw [es]
    have tl : (xs.take m).length ≤ xs.length := by rw [List.length_take]; omega
    have wl : ws.length = ((xs.take m).map fun z => (Sum.inr (kf z) : Key)).length := by rw [dps_len hw, List.length_map, List.length_map]
    have tk' : (xs.take (m + 1)) = xs.take m ++ [xs[m]] := List.take_succ_eq_append_getElem hm
    have hnew : (Sum.inr (kf xs[m]) : Key) ∉ (((xs.take m).map fun z => (Sum.inr (kf z) : Key)).zip ws).map Prod.fst := by
      rw [zip_fst wl]
      intro hm'
      obtain ⟨z, hz', hk'⟩ := List.mem_map.mp hm'
      have e1 : kf z = kf xs[m] := Sum.inr.inj hk'
      have hnd : ((xs.take m ++ [xs[m]]).map kf).Nodup := by
        rw [← tk']
        exact List.Nodup.sublist (List.Sublist.map _ (List.take_sublist _ _)) hn
      rw [List.map_append, List.nodup_append] at hnd
      exact hnd.2.2 (kf z) (List.mem_map.mpr ⟨z, hz', rfl⟩) (kf xs[m]) (by simp) e1
    -- the test
    show tIfS _ _ _ _ (σ0 v) H2
    refine (hcall _ hmem v F2 eF2 hv2) H2 g2.fh _ fun y F3 H3 g3 hy => ?_
    cases hy
    refine ⟨true, rfl, ?_⟩
    refine iteF ?_
    refine (hk _ hmem v F3 (eF2.trans g3.fx) (dp_ex g3.fx hv2)) H3 g3.fh _ fun y F4 H4 g4 hy => ?_
    cases hy
    have k4 := (g3.trans g4).keep k2.1 k2.2
    have hx4 := (eF2.trans (g3.fx.trans g4.fx)) _ _ hx
    refine fld_ref (hs0 v) hx4 c n hl H4 g4.fh _ ⟨ro, _, rfl, DGet.k (k := Sum.inr (kf xs[m])) k4.1, ?_⟩
    refine ⟨_, rfl, ?_⟩
    rw [valV_none hnew]
    refine iteF ?_
    -- the setting
    refine (hv _ hmem v F4 (eF2.trans (g3.fx.trans g4.fx)) (dp_ex (g3.fx.trans g4.fx) hv2)) H4 g4.fh _ fun y F5 H5 g5 hy => ?_
    have hx5 := g5.fx _ _ hx4
    refine fld_ref (hs0 v) hx5 c n hl H5 g5.fh _ ?_
    refine (hk _ hmem v F5 (eF2.trans (g3.fx.trans (g4.fx.trans g5.fx))) (dp_ex (g3.fx.trans (g4.fx.trans g5.fx)) hv2)) H5 g5.fh _ fun y2 F6 H6 g6 hy2 => ?_
    cases hy2
    have gg := g3.trans (g4.trans (g5.trans g6))
    have k6 := gg.keep k2.1 k2.2
    refine ⟨ro, _, rfl, DPut.k (k := Sum.inr (kf xs[m])) k6.1 (sz_lt (by
      rw [List.length_zip, List.length_map]
      omega)), F6, e1.trans (g2.fx.trans gg.fx), Ex.mut gg.fh k6.2, .inr ⟨v, rfl⟩, hR2 _ _ _ (hR1 _ _ _ _ hR' (g2.trans gg)) k6.2, k6.2, ws ++ [y], ?_, ?_⟩
    · rw [upd_same, putK_new hnew, zip_app wl, tk', List.map_append] <;> rfl
    · rw [tk', List.map_append]
      exact dps_app (dps_ex (g2.fx.trans gg.fx) hw) (.cons (dp_ex g6.fx hy) .nil)
  · obtain ⟨hσ, hR', fr', ws, hr', hw⟩ := p
    rw [List.length_map, List.take_length] at hr' hw
    exact hd σ' ws F' H' hσ hR' e1 e2 fr' hr' hw
end
end Dv

set_option Elab.async false
set_option linter.all false
set_option maxRecDepth 100000
set_option maxHeartbeats 4000000
namespace R3
open PySem PySem.Spec PyProof.Rows L2 Dv
abbrev sMillInit : Stmt := inClass (top 24) 0
abbrev sMillStuffs : Stmt := inClass (top 24) 1
abbrev sMillRecipes : Stmt := inClass (top 24) 2
abbrev sMillNames : Stmt := inClass (top 24) 3
abbrev sMillEq : Stmt := inClass (top 24) 4
/-! ### a mill -/
structure MillD where
  stuffs : List (Str × Option Int)
  recipes : List (Str × List (Str × Int) × List (Str × Int))
def encRoom : Option Int → PyData
  | none => .none
  | some i => .int i
def encStuff (z : Str × Option Int) : PyData := .tuple [.str z.1, encRoom z.2]
def encPart (z : Str × Int) : PyData := .tuple [.str z.1, .int z.2]
def encRecipe (z : Str × List (Str × Int) × List (Str × Int)) : PyData := .tuple [.str z.1, .list (z.2.1.map encPart), .list (z.2.2.map encPart)]
def encRule (z : Str × List (Str × Int) × List (Str × Int)) : PyData := .tuple [.tuple (z.2.1.map encPart), .tuple (z.2.2.map encPart)]
def MillD.names (m : MillD) : List Str := m.stuffs.map (·.1)
structure MillD.Ok (m : MillD) : Prop where
  s1 : 1 ≤ m.stuffs.length
  s2 : m.stuffs.length ≤ 8
  sn : m.names.Nodup
  ss : ∀ z ∈ m.stuffs, gd (encStuff z) = true ∧ isStuff (encStuff z) = true
  r2 : m.recipes.length ≤ 8
  rn : (m.recipes.map (·.1)).Nodup
  rs : ∀ z ∈ m.recipes, gd (encRecipe z) = true ∧ isRecipe m.names (encRecipe z) = true
def keysOf (xs : List Str) : List Key := xs.map Sum.inr
structure MillAt (K : PySem.W.Frag) (F : Hp) (C x : Addr) (m : MillD) : Prop where
  ex : ∃ (dx ro sp ru : Addr) (v1 v2 v3 : List V), F x = some (.ins C dx [("rooms", .ref ro), ("spots", .ref sp), ("rules", .ref ru)]) ∧
    F ro = some (.dK ((m.stuffs.map fun z => (Sum.inr z.1 : Key)).zip v1)) ∧ DpAll K F v1 (m.stuffs.map fun z => encRoom z.2) ∧
    F sp = some (.dK ((m.names.zipIdx.map fun z => (Sum.inr z.1 : Key)).zip v2)) ∧ DpAll K F v2 (m.names.zipIdx.map fun z => PyData.int z.2) ∧
    F ru = some (.dK ((m.recipes.map fun z => (Sum.inr z.1 : Key)).zip v3)) ∧ DpAll K F v3 (m.recipes.map encRule) ∧ ro ≠ ru ∧ sp ≠ ru ∧ ro ≠ sp
theorem MillAt.mono {K : PySem.W.Frag} {F F1 : Hp} {C x : Addr} {m : MillD} (e : Evl.Ex F F1) (h : MillAt K F C x m) : MillAt K F1 C x m := by
  obtain ⟨dx, ro, sp, ru, v1, v2, v3, h1, h2, h3, h4, h5, h6, h7, r⟩ := h.ex
  exact ⟨dx, ro, sp, ru, v1, v2, v3, e _ _ h1, e _ _ h2, dps_ex e h3, e _ _ h4, dps_ex e h5, e _ _ h6, dps_ex e h7, r⟩
/-- what is asked of the class Mill -/
structure MillC (K : PySem.W.Frag) (C : Addr) : Prop where
  cl : Cls K C
  rooms : NoAttr K C "rooms"
  spots : NoAttr K C "spots"
  rules : NoAttr K C "rules"
theorem names_spots {names : List Str} {vs : List V} (h : vs.length = names.length) (x : Str) : (valV ((names.zipIdx.map fun z => (Sum.inr z.1 : Key)).zip vs) (.inr x)).isSome = decide (x ∈ names) := by
  have e : (names.zipIdx.map fun z => (Sum.inr z.1 : Key)) = names.map Sum.inr := by
    show names.zipIdx.map (Sum.inr ∘ Prod.fst) = _
    rw [← List.map_map, List.zipIdx_map_fst]
  rw [e, ← valV_any]
  rw [Bool.eq_iff_iff, List.any_eq_true, decide_eq_true_iff]
  constructor
  · rintro ⟨p, hp, hk⟩
    have : p.1 ∈ names.map (Sum.inr : Str → Key) := by
      rw [← zip_fst (ks := names.map Sum.inr) (vs := vs) (by rw [List.length_map]; exact h)]
      exact List.mem_map.mpr ⟨p, hp, rfl⟩
    rw [of_decide_eq_true hk] at this
    obtain ⟨y, hy, q⟩ := List.mem_map.mp this
    exact (Sum.inr.inj q) ▸ hy
  · intro hx
    have : (Sum.inr x : Key) ∈ ((names.map (Sum.inr : Str → Key)).zip vs).map Prod.fst := by
      rw [zip_fst (by rw [List.length_map]; exact h)]
      exact List.mem_map.mpr ⟨x, hx, rfl⟩
    obtain ⟨p, hp, q⟩ := List.mem_map.mp this
    exact ⟨p, hp, decide_eq_true q⟩
def spMillInit (K : PySem.W.Frag) (C : Addr) : Sp := fun vs H Q _ => ∃ (F : Hp) (x dx : Addr) (v1 v2 : V) (m : MillD), vs = [.ref x, v1, v2] ∧ Evl.Ex F H ∧ F x = none ∧ F dx = none ∧ H x = some (.ins C dx []) ∧ (H dx).isSome = true ∧ x ≠ dx ∧
  Dp K F v1 (.list (m.stuffs.map encStuff)) ∧ Dp K F v2 (.list (m.recipes.map encRecipe)) ∧ m.Ok ∧ ∀ F' H', Bx x dx F H F' H' → MillAt K F' C x m → Q .non H'
section
variable {P : Program} {w : World} {K : PySem.W.Frag} {mg : Str → Option Value} {base : Heap}
theorem ev_size {σ : L2.St} {F : Hp} {te : TE} {xs : List PyData} {l m : Int} {E : XK} (h : EvD K te σ F (.list xs)) (h1 : l ≤ xs.length) (h2 : (xs.length : Int) ≤ m) (h3 : xs.length ≤ 100000) :
    EvD K (tCall (spSize K) [] E (tCons te (tCons (tC (.int l)) (tCons (tC (.int m)) tNil)))) σ F .none := fun H e Q q =>
  h H e _ fun v F1 H1 g1 hv => ⟨F1, v, xs, l, m, rfl, g1.fh, hv, h1, h2, h3, fun F' H' g => q _ F' H' (g1.trans g) .non⟩
theorem s_drop {σ : L2.St} {F H : Hp} {te : TE} {d : PyData} {D : Ends} (h : EvD K te σ F d) (e : Evl.Ex F H) (k : ∀ F' H', Gr F H F' H' → D.nx σ H') : tDrop te D σ H := h H e _ fun v F' H' g _ => k F' H' g
/-- self.f = {} -/
theorem s_fldNew {σ : L2.St} {F H : Hp} {D : Ends} {C dx x : Addr} {fs : List (Str × V)} {f : Str} {i : Nat} (hi : σ[i]? = some (some (.ref x))) (hx : F x = some (.ins C dx fs)) (c : Cls K C) (n : NoAttr K C f) (hl : fs.length < 1000) (e : Evl.Ex F H)
    (k : ∀ p, H p = none → p ≠ x → D.nx σ (upd (upd H p (.dK [])) x (.ins C dx (putF f (.ref p) fs)))) : sFld K (tVar i) tDNewK f D σ H := fun p hp => by
  have hpx : p ≠ x := fun z => by
    have := e _ _ hx
    rw [← z, hp] at this
    cases this
  exact ⟨_, hi, x, C, dx, fs, rfl, by rw [upd_ne (Ne.symm hpx)]; exact e _ _ hx, c, n, hl, k p hp hpx⟩
/-- self.f = a new dict -/
theorem s_fldK {σ : L2.St} {F H : Hp} {D : Ends} {C dx x : Addr} {fs : List (Str × V)} {f : Str} {i : Nat} {tv : TE} {ks : List Key} {ds : List PyData} (h : EvK K tv σ F ks ds) (hi : σ[i]? = some (some (.ref x))) (hx : F x = some (.ins C dx fs)) (c : Cls K C) (n : NoAttr K C f) (hl : fs.length < 1000) (e : Evl.Ex F H)
    (k : ∀ p vs F' H', Gr F H F' H' → H p = none → F' p = none → H' p = some (.dK (ks.zip vs)) → DpAll K F' vs ds → D.nx σ (upd H' x (.ins C dx (putF f (.ref p) fs)))) : sFld K (tVar i) tv f D σ H :=
  h H e _ fun p vs F' H' g h1 h2 h3 h4 => ⟨_, hi, x, C, dx, fs, rfl, g.hx _ _ (e _ _ hx), c, n, hl, k p vs F' H' g h1 h2 h3 h4⟩
theorem sc_Mill___init__ : FnScope (["self", "stuffs", "recipes", "item", "at", "name"] : List Str) (["self", "stuffs", "recipes"] : List Str) (defScope sMillInit) := ⟨rfl, rfl, rfl, by decide +kernel, rfl, by decide +kernel, by decide +kernel⟩
theorem ok_mill_init {f : Addr} {fd : FuncData} {C : Addr} (D : Fun K "__init__" "Mill.__init__" sMillInit f fd) (MC : MillC K C) (B : Bl mg) (CC : Cst mg)
    (C_check_size : Cal P w K mg base "check_size" ["value", "least", "most"] 1 (spSize K)) (C_is_stuff : Cal P w K mg base "is_stuff" ["value"] 3 (spD K fIsStuff)) (C_is_recipe : Cal P w K mg base "is_recipe" ["value", "spots"] 4 (spRecipe K)) :
    FnOkG P w K mg base CX0 5 f fd ["self", "stuffs", "recipes"] (spMillInit K C) := by
  refine D.okG sc_Mill___init__ (fun vs H Q E h => ?_) (fun cdv A outer s H vs Q E hr h => ?_)
  · obtain ⟨F, x, dx, v1, v2, m, rfl, _⟩ := h
    rfl
  obtain ⟨F, x, dx, v1, v2, m, rfl, e, fx, fdx, hx, hdx, hxd, hv1, hv2, ok, q⟩ := h
  obtain ⟨t1, c1⟩ := CC.mostStuffs
  obtain ⟨t2, c2⟩ := CC.mostRecipes
  have hu := hu_of hr.1
  refine ⟨_, (pss_cons (ps_expr (pe_callC C_check_size hr (pa_cons (pv 1) (pa_cons pe_int (pa_cons (pe_glob (v := .int 8) rfl c1 ⟨_, rfl⟩) pa_nil)))))
      (pss_cons (ps_fld (pv 0) pe_dnewK rfl)
      (pss_cons (ps_for PassesOwn.never rfl (pi_list (pv 1)) (pg_name (i := 3) sc_Mill___init__.nd rfl (.inl rfl)) (pss_cons (ps_if (PW.pt (pw_or (pt_not (pt_val (pe_callC C_is_stuff hr (pa_cons (pv 3) pa_nil)))) (pw_or1 (pt_cmp (pc_din hu (pe_ix ix_tup (pv 3) pe_int (fun _ _ => rfl)) (pe_fld (pv 0) rfl)) (by rfl))))) (pss_one ps_never) pss_nil)
      (pss_one (ps_dput hu (pe_fld (pv 0) rfl) (pe_ix ix_tup (pv 3) pe_int (fun _ _ => rfl)) (pe_ix ix_tup (pv 3) pe_int (fun _ _ => rfl)) rfl))))
      (pss_cons (ps_expr (pe_callC C_check_size hr (pa_cons (pv 2) (pa_cons pe_int (pa_cons (pe_glob (v := .int 8) rfl c2 ⟨_, rfl⟩) pa_nil)))))
      (pss_cons (ps_fld (pv 0) (pe_lock (pe_dc (own := [("at", 4), ("name", 5)]) (g := gTup K 2 (gCons (gName 4) (gCons (gName 5) gNil))) rfl sc_Mill___init__.nd (pi_enumK rfl B.enum (pa_cons (pe_fld (pv 0) rfl) pa_nil)) (blkOk_by (own := [("at", 4), ("name", 5)]) (N := ["self", "stuffs", "recipes", "item", "at", "name"]) (sc := defScope sMillInit) (by decide +kernel)) (fun _ _ _ _ _ => (pg_tup (by rfl) (pgs_cons (pg_name (i := 4) sc_Mill___init__.nd rfl (.inl rfl)) (pgs_cons (pg_name (i := 5) sc_Mill___init__.nd rfl (.inl rfl)) pgs_nil)))) (fun _ _ _ _ _ => pts_nil) (fun _ _ _ _ _ => (pv 5)) (fun _ _ _ _ _ => (pv 4)))) rfl)
      (pss_cons (ps_fld (pv 0) pe_dnewK rfl)
      (pss_one (ps_for PassesOwn.never rfl (pi_list (pv 2)) (pg_name (i := 3) sc_Mill___init__.nd rfl (.inl rfl)) (pss_cons (ps_if (PW.pt (pw_or (pt_not (pt_val (pe_callC C_is_recipe hr (pa_cons (pv 3) (pa_cons (pe_fld (pv 0) rfl) pa_nil))))) (pw_or1 (pt_cmp (pc_din hu (pe_ix ix_tup (pv 3) pe_int (fun _ _ => rfl)) (pe_fld (pv 0) rfl)) (by rfl))))) (pss_one ps_never) pss_nil)
      (pss_one (ps_dput hu (pe_fld (pv 0) rfl) (pe_ix ix_tup (pv 3) pe_int (fun _ _ => rfl)) (pe_tup (pa_cons (pe_callTy call_tuple_of (by rfl) B.tuple (by decide +kernel) (pa_cons (pe_ix ix_tup (pv 3) pe_int (fun _ _ => rfl)) pa_nil)) (pa_cons (pe_callTy call_tuple_of (by rfl) B.tuple (by decide +kernel) (pa_cons (pe_ix ix_tup (pv 3) pe_int (fun _ _ => rfl)) pa_nil)) pa_nil))) rfl))))))))))), ?_⟩
  have st : start ["self", "stuffs", "recipes", "item", "at", "name"] [V.ref x, v1, v2] = [some (.ref x), some v1, some v2, none, none, none] := rfl
  rw [st]
  have k1 : (("rooms" : Str) == "spots") = false := by decide +kernel
  have k2 : (("rooms" : Str) == "rules") = false := by decide +kernel
  have k3 : (("spots" : Str) == "rules") = false := by decide +kernel
  -- x into F
  have b0 : Bx x dx F H F H := ⟨Evl.Ex.refl F, e, fun _ _ _ h => h, fun a h1 h2 => absurd h1 h2⟩
  have b1 : Bx x dx F H (upd F x (.ins C dx [])) H := by
    have := b0.put (p := x) (o := .ins C dx []) (.inr rfl) fx
    rwa [show upd H x (.ins C dx []) = H from by
      funext a
      by_cases z : a = x
      · rw [z, upd_same, hx]
      · rw [upd_ne z]] at this
  have hv1' := dp_put (o := .ins C dx []) (by rw [fx]; exact noSq_none) hv1
  have hv2' := dp_put (o := .ins C dx []) (by rw [fx]; exact noSq_none) hv2
  -- check_size(stuffs, 1, MOST_STUFFS)
  refine s_drop (K := K) (F := upd F x (.ins C dx [])) (ev_size (Dv.ev_var rfl hv1') (by rw [List.length_map]; have := ok.s1; omega) (by rw [List.length_map]; have := ok.s2; omega) (by rw [List.length_map]; have := ok.s2; omega)) b1.fh fun F1 H1 g1 => ?_
  have b2 := b1.step g1
  have x1 : F1 x = some (.ins C dx []) := g1.fx _ _ upd_same
  -- self.rooms = {}
  refine s_fldNew (f := "rooms") rfl x1 MC.cl MC.rooms (by simp) b2.fh fun ro hro hrx => ?_
  have hroH : H ro = none := by
    cases z : H ro with
    | none => rfl
    | some o => rw [b2.hx ro o hrx z] at hro; cases hro
  have fro1 : F1 ro = none := ex_none b2.fh hro
  have hroF : F ro = none := ex_none e hroH
  have b3 : Bx x dx F H (upd F1 x (.ins C dx [("rooms", .ref ro)])) (upd (upd H1 ro (.dK [])) x (.ins C dx [("rooms", .ref ro)])) := (b2.mut hroH fro1).put (.inr rfl) fx
  have n1 : NoSq (F1 x) := by rw [x1]; exact fun xs => ⟨(fun z => by cases z), (fun z => by cases z), fun ob => ⟨(fun z => by cases z), (fun z => by cases z)⟩⟩
  have w1 := dp_put (o := .ins C dx [("rooms", .ref ro)]) n1 (dp_ex g1.fx hv1')
  have w2 := dp_put (o := .ins C dx [("rooms", .ref ro)]) n1 (dp_ex g1.fx hv2')
  have rr : ∀ o, (upd F1 x o) ro = none := fun o => by rw [upd_ne hrx]; exact fro1
  have hR1 : ∀ Fa Ha Fb Hb, Bx x dx F H Fa Ha → Gr Fa Ha Fb Hb → Bx x dx F H Fb Hb := fun _ _ _ _ b g => b.step g
  -- for item in stuffs
  refine fill_loop (K := K) (fs := [("rooms", V.ref ro)]) (fun Fa Ha => Bx x dx F H Fa Ha) m.stuffs encStuff (fun z => encRoom z.2) (fun z => z.1) (fun v => [some (.ref x), some v1, some v2, some v, none, none]) (vs0 := [])
    rfl (fun _ => rfl) (fun _ => rfl) (fun _ _ => rfl) upd_same MC.cl MC.rooms (by rfl) b3.fh b3 hR1 (fun _ _ o b fr => b.mut hroH fr) (by rw [upd_ne hrx, upd_same]) (rr _) (Dv.ev_var rfl w1) (by have := ok.s2; omega) ok.sn
    (fun z hz v F2 _ hv => ev_callD (Dv.ea_cons (Dv.ev_var rfl hv) Dv.ea_nil) ⟨_, rfl, (ok.ss z hz).1, by rw [(ok.ss z hz).2]⟩)
    (fun z hz v F2 _ hv => Dv.ev_ixT (d := .str z.1) (Dv.ev_var rfl hv) (Dv.ev_int 0) rfl)
    (fun z hz v F2 _ hv => Dv.ev_ixT (d := encRoom z.2) (Dv.ev_var rfl hv) (Dv.ev_int 1) rfl)
    fun σ' ws F2 H2 hσ b4 e1 e2 fro2 hro2 hw => ?_
  obtain ⟨it, rfl⟩ : ∃ it, σ' = [some (.ref x), some v1, some v2, it, none, none] := by
    rcases hσ with rfl | ⟨v, rfl⟩
    · exact ⟨none, rfl⟩
    · exact ⟨some v, rfl⟩
  have w2' := dp_ex e1 w2
  have x2 : F2 x = some (.ins C dx [("rooms", .ref ro)]) := e1 _ _ upd_same
  -- check_size(recipes, 0, MOST_RECIPES)
  refine s_drop (K := K) (F := F2) (ev_size (Dv.ev_var rfl w2') (by omega) (by rw [List.length_map]; have := ok.r2; omega) (by rw [List.length_map]; have := ok.r2; omega)) e2 fun F3 H3 g3 => ?_
  have k3' := g3.keep hro2 fro2
  have b5 := (b4.step g3).take hroH k3'.2 k3'.1
  have n3 : NoSq (F3 ro) := by rw [k3'.2]; exact noSq_none
  have w2'' := dp_put (o := .dK ((m.stuffs.map fun z => (Sum.inr z.1 : Key)).zip ws)) n3 (dp_ex g3.fx w2')
  have hw3 := dps_put (o := .dK ((m.stuffs.map fun z => (Sum.inr z.1 : Key)).zip ws)) n3 (dps_ex g3.fx hw)
  have x3 : upd F3 ro (.dK ((m.stuffs.map fun z => (Sum.inr z.1 : Key)).zip ws)) x = some (.ins C dx [("rooms", .ref ro)]) := by
    rw [upd_ne (Ne.symm hrx)]
    exact g3.fx _ _ x2
  have wl : ws.length = m.stuffs.length := by rw [dps_len hw, List.length_map]
  have hkeys : ((m.stuffs.map fun z => (Sum.inr z.1 : Key)).zip ws).map Prod.fst = m.names.map Sum.inr := by
    rw [zip_fst (by rw [List.length_map]; exact wl)]
    unfold MillD.names
    rw [List.map_map] <;> rfl
  -- self.spots = {..}
  refine s_fldK (K := K) (f := "spots") (ek_lock (K := K) (F := upd F3 ro (.dK ((m.stuffs.map fun z => (Sum.inr z.1 : Key)).zip ws))) (ks := m.names.zipIdx.map fun z => Sum.inr z.1) (ds := m.names.zipIdx.map fun z => PyData.int z.2) upd_same fun od => ?_) rfl x3 MC.cl MC.spots (by simp) b5.fh fun sp v2s F5 H5 g5 hsp fsp hsp5 hd5 => ?_
  · refine dc_rule (K := K) m.names.zipIdx (fun z => PyData.tuple [.int z.2, .str z.1]) (fun z => PyData.int z.2) (fun z => z.1) (it_enumK (fun Hq eq Q q => fld_ref rfl (by rw [upd_ne (Ne.symm hrx)]; exact x3) MC.cl MC.rooms (by rfl) Hq eq _ q) upd_same hkeys) (by
      rw [List.length_zipIdx]
      have := ok.s2
      unfold MillD.names
      rw [List.length_map]
      omega) (by rw [List.zipIdx_map_fst]; exact ok.sn) fun z _ v F6 _ hv => ?_
    obtain ⟨a, b, ha, hb, ht⟩ := tup2 hv
    exact ⟨[some (.ref x), some v1, some v2, it, some a, some b], fun Hq eq Q q => ht 4 5 _ Hq eq Q q, rfl, Dv.ev_var rfl hb, Dv.ev_var rfl ha⟩
  have b6 := b5.step g5
  have hspH : H sp = none := by
    cases z : H sp with
    | none => rfl
    | some o =>
      have hsx : sp ≠ x := fun q => by
        rw [q] at hsp
        have := b5.fh _ _ x3
        rw [hsp] at this
        cases this
      rw [b5.hx sp o hsx z] at hsp
      cases hsp
  have hspx : sp ≠ x := fun q => by
    rw [q] at hsp
    have := b5.fh _ _ x3
    rw [hsp] at this
    cases this
  have hspr : ro ≠ sp := fun q => by
    rw [← q] at hsp
    have := b5.fh _ _ upd_same
    rw [hsp] at this
    cases this
  have x5 : F5 x = some (.ins C dx [("rooms", .ref ro)]) := g5.fx _ _ x3
  have b7 := b6.take hspH fsp hsp5
  generalize hS : HO.dK ((m.names.zipIdx.map fun z => (Sum.inr z.1 : Key)).zip v2s) = oS at b7 hsp5
  have b8 := b7.put (p := x) (o := .ins C dx [("rooms", .ref ro), ("spots", .ref sp)]) (.inr rfl) fx
  have pf : putF "spots" (.ref sp) [(("rooms" : Str), V.ref ro)] = ([("rooms", V.ref ro), ("spots", V.ref sp)] : List (Str × V)) := by
    show (if ("rooms" : Str) = "spots" then _ else _) = _
    rw [if_neg (by simpa using k1)] <;> rfl
  rw [pf]
  generalize hF8 : upd (upd F5 sp oS) x (.ins C dx [("rooms", .ref ro), ("spots", .ref sp)]) = F8 at b8
  generalize hH8 : upd H5 x (.ins C dx [("rooms", .ref ro), ("spots", .ref sp)]) = H8 at b8
  have x8 : F8 x = some (.ins C dx [("rooms", .ref ro), ("spots", .ref sp)]) := by rw [← hF8]; exact upd_same
  have n5 : NoSq (F5 sp) := by rw [fsp]; exact noSq_none
  have n5x : NoSq ((upd F5 sp oS) x) := by rw [upd_ne (Ne.symm hspx), x5]; exact fun xs => ⟨(fun z => by cases z), (fun z => by cases z), fun ob => ⟨(fun z => by cases z), (fun z => by cases z)⟩⟩
  have tr : ∀ {d : PyData} {v : V}, Dp K (upd F3 ro (.dK ((m.stuffs.map fun z => (Sum.inr z.1 : Key)).zip ws))) v d → Dp K F8 v d := fun h => by
    rw [← hF8]
    exact dp_put n5x (dp_put n5 (dp_ex g5.fx h))
  have trs : ∀ {ds : List PyData} {vs : List V}, DpAll K F5 vs ds → DpAll K F8 vs ds := fun h => by
    rw [← hF8]
    exact dps_put n5x (dps_put n5 h)
  have sp8 : F8 sp = some (.dK ((m.names.zipIdx.map fun z => (Sum.inr z.1 : Key)).zip v2s)) := by
    rw [← hF8, upd_ne hspx, upd_same, hS]
  have ro8 : F8 ro = some (.dK ((m.stuffs.map fun z => (Sum.inr z.1 : Key)).zip ws)) := by
    rw [← hF8, upd_ne hrx, upd_ne hspr]
    exact g5.fx _ _ upd_same
  have w8 := tr w2''
  have hw8 : DpAll K F8 ws (m.stuffs.map fun z => encRoom z.2) := trs (dps_ex g5.fx hw3)
  have hd8 := trs hd5
  -- self.rules = {}
  refine s_fldNew (f := "rules") rfl x8 MC.cl MC.rules (by simp) b8.fh fun ru hru hrux => ?_
  have pf2 : putF "rules" (.ref ru) [(("rooms" : Str), V.ref ro), ("spots", V.ref sp)] = ([("rooms", V.ref ro), ("spots", V.ref sp), ("rules", V.ref ru)] : List (Str × V)) := by
    show (if ("rooms" : Str) = "rules" then _ else (("rooms" : Str), V.ref ro) :: (if ("spots" : Str) = "rules" then _ else _)) = _
    rw [if_neg (by simpa using k2), if_neg (by simpa using k3)] <;> rfl
  rw [pf2]
  have hruH : H ru = none := by
    cases z : H ru with
    | none => rfl
    | some o => rw [b8.hx ru o hrux z] at hru; cases hru
  have fru8 : F8 ru = none := ex_none b8.fh hru
  have b9 : Bx x dx F H (upd F8 x (.ins C dx [("rooms", .ref ro), ("spots", .ref sp), ("rules", .ref ru)])) (upd (upd H8 ru (.dK [])) x (.ins C dx [("rooms", .ref ro), ("spots", .ref sp), ("rules", .ref ru)])) := (b8.mut hruH fru8).put (.inr rfl) fx
  have n8 : NoSq (F8 x) := by rw [x8]; exact fun xs => ⟨(fun z => by cases z), (fun z => by cases z), fun ob => ⟨(fun z => by cases z), (fun z => by cases z)⟩⟩
  have w9 := dp_put (o := .ins C dx [("rooms", .ref ro), ("spots", .ref sp), ("rules", .ref ru)]) n8 w8
  have hw9 := dps_put (o := .ins C dx [("rooms", .ref ro), ("spots", .ref sp), ("rules", .ref ru)]) n8 hw8
  have hd9 := dps_put (o := .ins C dx [("rooms", .ref ro), ("spots", .ref sp), ("rules", .ref ru)]) n8 hd8
  have hrr : ro ≠ ru := fun z => by rw [← z, ro8] at fru8; cases fru8
  have hsr : sp ≠ ru := fun z => by rw [← z, sp8] at fru8; cases fru8
  have v2l : v2s.length = m.names.length := by rw [dps_len hd5, List.length_map, List.length_zipIdx]
  -- for item in recipes
  refine fill_loop (K := K) (fs := [("rooms", V.ref ro), ("spots", V.ref sp), ("rules", V.ref ru)]) (fun Fa Ha => Bx x dx F H Fa Ha) m.recipes encRecipe encRule (fun z => z.1) (fun v => [some (.ref x), some v1, some v2, some v, none, none]) (vs0 := [])
    rfl (fun _ => rfl) (fun _ => rfl) (fun _ _ => rfl) upd_same MC.cl MC.rules (by rfl) b9.fh b9 hR1 (fun _ _ o b fr => b.mut hruH fr) (by rw [upd_ne hrux, upd_same]) (by rw [upd_ne hrux]; exact fru8) (Dv.ev_var rfl w9) (by have := ok.r2; omega) ok.rn
    (fun z hz v F2 ee hv Hq eq Q q => ⟨v, rfl, fld_ref rfl (ee _ _ upd_same) MC.cl MC.spots (by rfl) Hq eq _ ⟨F2, v, _, sp, m.names, rfl, eq, hv, (ok.rs z hz).1, ⟨_, ee _ _ (by rw [upd_ne hspx]; exact sp8), names_spots v2l⟩, fun F' H' g => q _ F' H' g (by rw [(ok.rs z hz).2]; exact .bl true)⟩⟩)
    (fun z hz v F2 _ hv => Dv.ev_ixT (d := .str z.1) (Dv.ev_var rfl hv) (Dv.ev_int 0) rfl)
    (fun z hz v F2 _ hv => Dv.ev_tup (Dv.ea_cons (ev_tuple (Dv.ev_ixT (d := .list (z.2.1.map encPart)) (Dv.ev_var rfl hv) (Dv.ev_int 1) rfl)) (Dv.ea_cons (ev_tuple (Dv.ev_ixT (d := .list (z.2.2.map encPart)) (Dv.ev_var rfl hv) (Dv.ev_int 2) rfl)) Dv.ea_nil)) (by simp))
    fun σ' us F' H' hσ b10 e3 e4 fru hru' hw10 => ?_
  refine q _ _ (b10.take hruH fru hru') ?_
  have nn : NoSq (F' ru) := by rw [fru]; exact noSq_none
  refine ⟨dx, ro, sp, ru, ws, v2s, us, ?_, ?_, dps_put nn (dps_ex e3 hw9), ?_, dps_put nn (dps_ex e3 hd9), upd_same, dps_put nn hw10, hrr, hsr, hspr⟩
  · rw [upd_ne (Ne.symm hrux)]
    exact e3 _ _ upd_same
  · rw [upd_ne hrr]
    exact e3 _ _ (by rw [upd_ne hrx]; exact ro8)
  · rw [upd_ne hsr]
    exact e3 _ _ (by rw [upd_ne hspx]; exact sp8)
end
end R3

set_option Elab.async false
set_option linter.all false
set_option maxRecDepth 100000
set_option maxHeartbeats 4000000
namespace Dv
open PySem PySem.Spec PyProof.Rows L2 Evl
/-- a class that can be made: its __init__ does what sp says -/
structure Mak (P : Program) (w : World) (K : PySem.W.Frag) (mg : Str → Option Value) (base : Heap) (nm : Str) (C : Addr) (ps : List Str) (k : Nat) (sp : Sp) : Prop where
  ex : ∃ f fd, mg nm = some (.ref C) ∧ Mk K C f ∧ Binds K fd ("self" :: ps) [] ∧ FnOkG P w K mg base CX0 k f fd ("self" :: ps) sp
section
variable {X : Cx} {x : Str} {p pos : Pos} {e : Expr} {es : List Expr} {t : TA} {k j : Nat} {ps : List Str} {sp : Sp} {C : Addr}
theorem pe_makC (M : Mak X.prog X.w X.K X.mg X.base x C ps k sp) (hr : RoomG j X.A) (ha : PA X (e :: es) t) (hg : Gl X x := by rfl) (hj : k + 1 ≤ j := by decide) (hdb : (x == ("__debug__" : Str)) = false := by decide)
    (he : starEach (e :: es) X.env = (false, eval e X.env) :: starEach es X.env := by rfl) (hpl : (backTo pos (starEach es X.env)).any (·.1) = false := by rfl) : PE X (.Call (.Name x p) (e :: es) [] pos) (tMake C sp [] E0 t) := by
  obtain ⟨f, fd, g, M, b, G⟩ := M.ex
  exact pe_makeG M G (hr.mono hj) hg g b .nil pass0 ha hdb he hpl
end
section
variable {K : PySem.W.Frag} {σ : L2.St} {F F1 H H1 : Hp} {te ta tb tc : TE} {d a b : PyData} {ds es : List PyData}
/-- evaluates to an object of which Pd holds -/
def EvO (Pd : Hp → Addr → Prop) (te : TE) (σ : L2.St) (F : Hp) : Prop := ∀ H, Ex F H → ∀ Q : VK, (∀ x F' H', Gr F H F' H' → Pd F' x → Q (.ref x) H') → te σ H Q
theorem eo_var {Pd : Hp → Addr → Prop} {i : Nat} {x : Addr} (hi : σ[i]? = some (some (.ref x))) (h : Pd F x) : EvO Pd (tVar i) σ F := fun H e Q q => ⟨_, hi, q x F H (Gr.refl e) h⟩
theorem Bx.gr {x dx : Addr} {F H F' H' : Hp} {o o2 : HO} (hx : H x = none) (hdx : H dx = none) (b : Bx x dx F (upd (upd H dx o) x o2) F' H') : Gr F H F' H' :=
  ⟨b.fx, b.fh, fun a u h => by
    have h1 := ne_of_none h hx
    have h2 := ne_of_none h hdx
    exact b.hx a u h1 (by rw [upd_ne h1, upd_ne h2]; exact h), fun a h1 h2 => by
    rcases b.fr a h1 h2 with h | h | h
    · by_cases q : a = x
      · rw [q]; exact hx
      · by_cases q2 : a = dx
        · rw [q2]; exact hdx
        · rw [upd_ne q, upd_ne q2] at h
          exact h
    · rw [h]; exact hx
    · rw [h]; exact hdx⟩
theorem ex_new2 {x dx : Addr} {F H : Hp} {o o2 : HO} (e : Ex F H) (hx : H x = none) (hdx : H dx = none) : Ex F (upd (upd H dx o) x o2) := fun a u h => by
  have h' := e a u h
  rw [upd_ne (ne_of_none h' hx), upd_ne (ne_of_none h' hdx)]
  exact h'
end
end Dv

set_option Elab.async false
set_option linter.all false
set_option maxRecDepth 100000
set_option maxHeartbeats 4000000
namespace R3
open PySem PySem.Spec PyProof.Rows L2 Dv
section
variable {P : Program} {w : World} {K : PySem.W.Frag} {mg : Str → Option Value} {base : Heap}
/-- Mill(..) -/
theorem ev_mill {σ : L2.St} {F : Hp} {ta : TA} {C : Addr} {E : XK} {m : MillD} (h : EaD K ta σ F [.list (m.stuffs.map encStuff), .list (m.recipes.map encRecipe)]) (ok : m.Ok) : EvO (fun F x => MillAt K F C x m) (tMake C (spMillInit K C) [] E ta) σ F := fun H e Q q =>
  h H e _ fun vs F1 H1 g1 hv x dx hx hdx hne => by
    obtain ⟨v1, v2, rfl, h1, h2⟩ := Dv.two hv
    refine ⟨F1, x, dx, v1, v2, m, rfl, ex_new2 g1.fh hx hdx, ex_none g1.fh hx, ex_none g1.fh hdx, upd_same, by rw [upd_ne hne, upd_same] <;> rfl, Ne.symm hne, h1, h2, ok, fun F' H' b hm => ⟨rfl, q x F' H' (g1.trans (b.gr hx hdx)) hm⟩⟩
/-- the part of a mill that is not its rules -/
structure Mill0 (K : PySem.W.Frag) (F : Hp) (C x : Addr) (m : MillD) : Prop where
  ex : ∃ (dx ro sp ru : Addr) (v1 v2 : List V), F x = some (.ins C dx [("rooms", .ref ro), ("spots", .ref sp), ("rules", .ref ru)]) ∧
    F ro = some (.dK ((m.stuffs.map fun z => (Sum.inr z.1 : Key)).zip v1)) ∧ DpAll K F v1 (m.stuffs.map fun z => encRoom z.2) ∧
    F sp = some (.dK ((m.names.zipIdx.map fun z => (Sum.inr z.1 : Key)).zip v2)) ∧ DpAll K F v2 (m.names.zipIdx.map fun z => PyData.int z.2)
theorem MillAt.part {F : Hp} {C x : Addr} {m : MillD} (h : MillAt K F C x m) : Mill0 K F C x m := by
  obtain ⟨dx, ro, sp, ru, v1, v2, v3, h1, h2, h3, h4, h5, r⟩ := h.ex
  exact ⟨dx, ro, sp, ru, v1, v2, h1, h2, h3, h4, h5⟩
theorem Mill0.mono {F F1 : Hp} {C x : Addr} {m : MillD} (e : Evl.Ex F F1) (h : Mill0 K F C x m) : Mill0 K F1 C x m := by
  obtain ⟨dx, ro, sp, ru, v1, v2, h1, h2, h3, h4, h5⟩ := h.ex
  exact ⟨dx, ro, sp, ru, v1, v2, e _ _ h1, e _ _ h2, dps_ex e h3, e _ _ h4, dps_ex e h5⟩
theorem spots_val {F : Hp} {n : Str} : ∀ (names : List Str) (k : Nat) (vs : List V), DpAll K F vs ((names.zipIdx k).map fun z => PyData.int z.2) → n ∈ names →
    valV (((names.zipIdx k).map fun z => (Sum.inr z.1 : Key)).zip vs) (.inr n) = some (.int ((k + names.idxOf n : Nat) : Int))
  | [], _, _, _, h => nomatch h
  | a :: r, k, vs, hd, hm => by
    rw [List.zipIdx_cons] at hd ⊢
    cases hd with
    | cons h1 h2 =>
      cases h1
      rw [List.map_cons, List.zip_cons_cons]
      by_cases e : a = n
      · subst e
        rw [valV_pos rfl, List.idxOf_cons_self]
        rfl
      · have hm' : n ∈ r := by
          rcases List.mem_cons.mp hm with h | h
          · exact absurd h.symm e
          · exact h
        rw [valV_neg (by intro z; exact e (Sum.inr.inj z)), spots_val r (k + 1) _ h2 hm', List.idxOf_cons, show (a == n) = false by simpa using e]
        congr 2
        simp only [cond_false]
        omega
/-- one number a stuff -/
def numbersOf (names : List Str) (ps : List (Str × Int)) : List Int := ps.foldl (fun acc p => acc.set (names.idxOf p.1) p.2) (List.replicate names.length 0)
theorem dps_ints {F : Hp} : ∀ xs : List Int, DpAll K F (xs.map V.int) (xs.map PyData.int)
  | [] => .nil
  | x :: xs => .cons (.int x) (dps_ints xs)
theorem ints_of {F : Hp} : ∀ {xs : List Int} {ws : List V}, DpAll K F ws (xs.map PyData.int) → ws = xs.map V.int
  | [], _, h => by cases h; rfl
  | x :: xs, _, h => by
    cases h with
    | cons h1 h2 =>
      cases h1
      rw [ints_of h2] <;> rfl
theorem foldl_len (names : List Str) : ∀ (ps : List (Str × Int)) (acc : List Int), (ps.foldl (fun acc p => acc.set (names.idxOf p.1) p.2) acc).length = acc.length
  | [], _ => rfl
  | p :: ps, acc => by rw [List.foldl_cons, foldl_len names ps, List.length_set]
theorem numbersOf_len (names : List Str) (ps : List (Str × Int)) : (numbersOf names ps).length = names.length := by
  unfold numbersOf
  rw [foldl_len, List.length_replicate]
def spNums (K : PySem.W.Frag) (C : Addr) : Sp := fun vs H Q _ => ∃ (F : Hp) (x : Addr) (v : V) (m : MillD) (ps : List (Str × Int)), vs = [.ref x, v] ∧ Evl.Ex F H ∧ Mill0 K F C x m ∧ m.stuffs.length ≤ 8 ∧ Dp K F v (.tuple (ps.map encPart)) ∧ (∀ p ∈ ps, p.1 ∈ m.names) ∧
  ∀ p ws F' H', Gr F H F' H' → H p = none → F' p = none → H' p = some (.lst ws) → DpAll K F' ws ((numbersOf m.names ps).map PyData.int) → Q (.ref p) H'
theorem fl1 {ro sp ru : Addr} : ([("rooms", V.ref ro), ("spots", V.ref sp), ("rules", V.ref ru)] : List (Str × V)).lookup ("rooms" : Str) = some (.ref ro) := by rfl
theorem fl2 {ro sp ru : Addr} : ([("rooms", V.ref ro), ("spots", V.ref sp), ("rules", V.ref ru)] : List (Str × V)).lookup ("spots" : Str) = some (.ref sp) := by rfl
theorem fl3 {ro sp ru : Addr} : ([("rooms", V.ref ro), ("spots", V.ref sp), ("rules", V.ref ru)] : List (Str × V)).lookup ("rules" : Str) = some (.ref ru) := by rfl
theorem sc_numbers_of : FnScope (["mill", "parts", "found", "name", "number"] : List Str) (["mill", "parts"] : List Str) (defScope sNumbersOf) := ⟨rfl, rfl, rfl, by decide +kernel, rfl, by decide +kernel, by decide +kernel⟩
theorem ok_numbers_of (D : Def K mg "numbers_of" sNumbersOf ["mill", "parts"]) (B : Bl mg) {C : Addr} (MC : MillC K C) : Cal P w K mg base "numbers_of" ["mill", "parts"] 1 (spNums K C) := by
  refine cal_mk D sc_numbers_of (fun vs H Q E h => ?_) (fun f cdv A outer s H vs Q E hr h => ?_)
  · obtain ⟨F, x, v, m, ps, rfl, _⟩ := h
    rfl
  obtain ⟨F, x, v, m, ps, rfl, e, hm, hl, hv, hin, q⟩ := h
  have hu := hu_of hr.1
  obtain ⟨dx, ro, sp, ru, v1, v2, hx, hro, hv1, hsp, hv2⟩ := hm.ex
  have hnl : m.names.length = m.stuffs.length := List.length_map ..
  refine ⟨_, (pss_cons (ps_set (i := 2) sc_numbers_of.nd rfl (.inl rfl) (pe_op op_rep (pe_lst (pa_cons pe_int pa_nil)) (pe_callB call_lenD (by rfl) B.len (by decide +kernel) (pa_cons (pe_fld (pv 0) rfl) pa_nil))))
      (pss_cons (ps_for PassesOwn.never rfl (pi_tup (pv 1)) (pg_tup (by rfl) (pgs_cons (pg_name (i := 3) sc_numbers_of.nd rfl (.inl rfl)) (pgs_cons (pg_name (i := 4) sc_numbers_of.nd rfl (.inl rfl)) pgs_nil))) (pss_one (ps_asg (pv 4) (pg_sub (pv 2) (pe_dget hu (pe_fld (pv 0) rfl) (pv 3) (fun _ _ => rfl)) set_list))))
      (pss_one (ps_ret (pv 2))))), ?_⟩
  have st : start ["mill", "parts", "found", "name", "number"] [V.ref x, v] = [some (.ref x), some v, none, none, none] := rfl
  rw [st]
  have el : EvL K (tOp rRep (tLst (tCons (tC (.int 0)) tNil)) (tCB (fun xs H Q => ∃ a kvs, xs = [V.ref a] ∧ H a = some (.dK kvs) ∧ Q (.int kvs.length) H) (tCons (tFld K (tVar 0) "rooms") tNil))) [some (.ref x), some v, none, none, none] F ((List.replicate m.names.length (0 : Int)).map PyData.int) := by
    intro H e Q q
    refine Dv.el_lst (K := K) (σ := [some (.ref x), some v, none, none, none]) (F := F) (ds := [.int 0]) (Dv.ea_cons (Dv.ev_int 0) Dv.ea_nil) (by simp) H e _ fun l ws F1 H1 g1 hl1 hf1 hl2 hw => ?_
    obtain ⟨y, rfl, hy⟩ := Dv.one hw
    cases hy
    refine fld_ref (K := K) (σ := [some (.ref x), some v, none, none, none]) rfl (g1.fx _ _ hx) MC.cl MC.rooms fl1 H1 g1.fh _ ?_
    have kl : ((m.stuffs.map fun z => (Sum.inr z.1 : Key)).zip v1).length = m.names.length := by
      have := dps_len hv1
      rw [List.length_map] at this
      rw [List.length_zip, List.length_map, hnl]
      omega
    refine ⟨ro, _, rfl, g1.fh _ _ (g1.fx _ _ hro), l, _, [V.int 0], rfl, rfl, hl2, by omega, by omega, ?_, fun p hp => ?_⟩
    · rw [kl]
      exact Evl.sz_of (by simp; omega)
    · rw [kl]
      have e1 : (List.replicate ((m.names.length : Int)).toNat [V.int 0]).flatten = (List.replicate m.names.length (0 : Int)).map V.int := by
        rw [Int.toNat_natCast, List.map_replicate]
        exact List.flatten_replicate_singleton
      rw [e1]
      exact q p _ F1 _ (g1.trans (Gr.only g1.fh hp)) (ex_none g1.hx hp) (ex_none g1.fh hp) upd_same (dps_ints _)
  refine Dv.s_asgL (K := K) el e fun p ws F1 H1 g1 hp0 fp hp1 hws => ?_
  have ewn : ws = (List.replicate m.names.length (0 : Int)).map V.int := ints_of hws
  subst ewn
  refine Dv.s_for (it_tup (Dv.ev_var rfl (dp_ex g1.fx hv))) g1.fh
    (fun n σ F' H' => ∃ (a b : Option V), σ = [some (.ref x), some v, some (.ref p), a, b] ∧ F' p = none ∧ H' p = some (.lst (((ps.take n).foldl (fun acc p => acc.set (m.names.idxOf p.1) p.2) (List.replicate m.names.length 0)).map V.int)) ∧ Gr F H F' H')
    (fun F2 H2 g2 => ?_) ?_ (fun σ' F2 H2 e2 e3 p2 => ?_)
  · have k := g2.keep hp1 fp
    exact ⟨none, none, rfl, k.2, by rw [List.take_zero]; exact k.1, g1.trans g2⟩
  · rintro Fb eb n σ F2 H2 u du F3 H3 hdu e2 e3 ⟨a, b, rfl, fp2, hp2, gg⟩ g3 hu3
    obtain ⟨hn, hdn⟩ := List.getElem?_eq_some_iff.mp hdu
    rw [List.length_map] at hn
    have hdu' : du = encPart ps[n] := by rw [← hdn, List.getElem_map]
    subst hdu'
    obtain ⟨y1, y2, hy1, hy2, ht⟩ := tup2 hu3
    have hp3 := g3.keep hp2 fp2
    have gg3 := gg.trans g3
    cases hy1
    cases hy2
    refine ht 3 4 _ H3 g3.fh _ ?_
    show tAsg _ _ _ [some (.ref x), some v, some (.ref p), some (.str ps[n].1), some (.int ps[n].2)] H3
    refine ⟨_, rfl, _, rfl, ?_⟩
    refine fld_ref (K := K) (σ := [some (.ref x), some v, some (.ref p), some (.str ps[n].1), some (.int ps[n].2)]) rfl (gg3.fx _ _ hx) MC.cl MC.spots fl2 H3 g3.fh _ ?_
    refine ⟨_, rfl, sp, _, rfl, DGet.k (k := Sum.inr ps[n].1) (gg3.fh _ _ (gg3.fx _ _ hsp)) |> fun h => (spots_val m.names 0 v2 hv2 (hin _ (List.getElem_mem hn))) ▸ h, ?_⟩
    have hix : m.names.idxOf ps[n].1 < m.names.length := List.idxOf_lt_length_of_mem (hin _ (List.getElem_mem hn))
    refine ⟨p, _, _, m.names.idxOf ps[n].1, rfl, rfl, hp3.1, ?_, ?_⟩
    · rw [List.length_map, foldl_len, List.length_replicate, Nat.zero_add]
      exact Evl.ixN_nat hix
    · dsimp only
      refine ⟨F3, e2.trans g3.fx, Evl.Ex.mut g3.fh hp3.2, some (.str ps[n].1), some (.int ps[n].2), rfl, hp3.2, ?_, gg3.mut hp0 hp3.2⟩
      rw [upd_same, List.take_succ_eq_append_getElem hn, List.foldl_append, ← List.map_set] <;> rfl
  · obtain ⟨a, b, rfl, fp2, hp2, gg⟩ := p2
    rw [List.length_map, List.take_length] at hp2
    exact ⟨_, rfl, q p _ F2 H2 gg hp0 fp2 hp2 (dps_ints _)⟩
end
end R3

set_option Elab.async false
set_option linter.all false
set_option maxRecDepth 100000
set_option maxHeartbeats 4000000
/-! list(d.values()) -/
namespace L2
open PySem PySem.Spec PyProof.Rows
def tListVals (td : TE) : TE := fun σ H Q => td σ H fun x H1 => ∃ a kvs, x = V.ref a ∧ H1 a = some (.dK kvs) ∧ ∀ p, H1 p = none → Q (.ref p) (upd H1 p (.lst (kvs.map Prod.snd)))
theorem pe_listVals {X : Cx} {o : Expr} {td : TE} {p pos mpos apos : Pos} (hc : X.calm = true) (hg : Gl X "list") (hm : X.mg "list" = none) (hd : PE X o td) (hbase : attributeBase o "values" X.env (eval o X.env) = eval o X.env := by rfl) (hline : (apos.endLine == mpos.line) = true := by rfl)
    (hse : starEach [Expr.Call (.Attribute o "values" apos) [] [] mpos] X.env = [(false, eval (Expr.Call (.Attribute o "values" apos) [] [] mpos) X.env)] := by rfl) :
    PE X (.Call (.Name "list" p) [.Call (.Attribute o "values" apos) [] [] mpos] [] pos) (tListVals td) := by
  refine ⟨fun pins s σ H Q I h => ?_⟩
  refine wpAny_Call_Name_kw (ld_blt I hg hm (u := .type "list") (by first | rfl | decide +kernel) ?_ (by first | decide +kernel | decide) (by first | decide +kernel | decide))
  rw [hse]
  refine PySem.callWith_type1 (wpAny_Call_method0_late hbase hline (thn (hd.run pins s σ H _ I h) fun v s1 ⟨x, H1, I1, r1, a, kvs, ex, ha, q⟩ => ?_))
  subst ex
  obtain rfl : v = Value.ref a := r1
  obtain ⟨hz, hsys, vs, rel, dof⟩ := dk_of I1.hok ha
  obtain ⟨ep, dat⟩ := dof.dictAt
  have dat' := dat
  obtain ⟨ob, es, ho, ex, hdat, hko, hpr, hnd⟩ := dat'
  refine ⟨"dict", "dict.values", F.plainAttrs_dict, F.slot_dict_values, F.type_dict_values, ⟨ob, ho, ex.1⟩, fun b e => ?_, Calls.callWith_builtin rfl (PySem.evalArgs_none ?_)⟩
  · cases e
    exact ⟨ob, ho, ex.2.1⟩
  refine call_meetsIn F.slot_dict_values ⟨ob, ho, ex.1⟩ F.entry_dict_values (F.args_dict_values_1 _) (meets_dict_values (mixKind X.prog X.w) a hsys) ⟨⟨vs, dof⟩, ?_⟩
  have k1 : ∀ b u, s1.heap.get? b = some u → (s1.heap.push { cls := .type "dict_values", data := .fields #[.ref a] }).get? b = some u := fun b u e => Heap.get?_push_of_some _ e
  have dat1 : (s1.heap.push { cls := .type "dict_values", data := .fields #[.ref a] }).DictAt (mixKind X.prog X.w) a vs ep := dat.keep k1
  have hl : kvs.length = vs.length := Paired.length rel
  have I2 : Inv X pins σ H1 { s1 with heap := s1.heap.push { cls := .type "dict_values", data := .fields #[.ref a] } } := I1.kept (t' := s1.toks) k1
  refine PySem.W.kdl_call (s := { s1 with heap := s1.heap.push { cls := .type "dict_values", data := .fields #[.ref a] } }) (PySem.W.kdl_values (knd := mixKind X.prog X.w) (kvs := vs) (ep := ep) (r := s1.heap.objs.size) (d := a)) (I.ok.hd hc) ⟨⟨_, Heap.get?_push_size _ rfl, rfl, rfl⟩, dat1⟩ (by rw [← hl]; exact hz) fun h' tk acc' c' hkeep hS hacc => ?_
  refine ⟨.ref _, upd H1 (s1.heap.push { cls := .type "dict_values", data := .fields #[.ref a] }).objs.size (.lst (kvs.map Prod.snd)), I2.laid hkeep (Nat.le_refl _) (show ObjOk X.prog X.w _ _ _ (.lst (kvs.map Prod.snd)) from ⟨?_, acc'.toList, c', ?_, ?_⟩), rfl, q _ (I2.hok.fresh (Nat.le_refl _))⟩
  · rw [List.length_map]; exact hz
  · have el : acc'.toList.length = acc'.size := by simp
    refine vals_of_at (by rw [List.length_map, el, hacc.1, hl]) fun j x w h1 h2 => ?_
    obtain ⟨k, hky⟩ := hacc.2 j w (by rw [← Array.getElem?_toList]; exact h2)
    obtain ⟨y, hy, ry⟩ := KV.at' rel hky
    rw [List.getElem?_map, hy] at h1
    cases h1
    exact ry
  · rw [Array.toArray_toList]; exact hS
end L2

set_option Elab.async false
set_option linter.all false
set_option maxRecDepth 100000
set_option maxHeartbeats 4000000
namespace Dv
open PySem L2 Evl
section
variable {K : PySem.W.Frag} {σ : L2.St} {F F0 H0 H : Hp} {te tv : TE} {d : PyData} {ds es : List PyData} {D : Ends} {C dx x : Addr} {fs : List (Str × V)} {f : Str} {i : Nat}
theorem noSq_ins : NoSq (some (.ins C dx fs)) := fun xs => ⟨(fun z => by cases z), (fun z => by cases z), fun ob => ⟨(fun z => by cases z), (fun z => by cases z)⟩⟩
theorem putF_new {v : V} : ∀ {fs : List (Str × V)}, (∀ p ∈ fs, p.1 ≠ f) → putF f v fs = fs ++ [(f, v)]
  | [], _ => rfl
  | (g, y) :: r, h => by
    have h1 : ¬ g = f := h (g, y) List.mem_cons_self
    show (if g = f then _ else _) = _
    rw [if_neg h1, putF_new fun p hp => h p (List.mem_cons_of_mem _ hp)] <;> rfl
theorem nofs {fs : List (Str × V)} {f : Str} (h : (fs.all fun p => !(p.1 == f)) = true) : ∀ p ∈ fs, p.1 ≠ f := fun p hp z => by
  have := List.all_eq_true.mp h p hp
  rw [z] at this
  simp at this
/-- self.f = data -/
theorem s_fldD (h : EvD K tv σ F d) (hi : σ[i]? = some (some (.ref x))) (hx : F x = some (.ins C dx fs)) (c : Cls K C) (n : NoAttr K C f) (hl : fs.length < 1000) (hn : ∀ p ∈ fs, p.1 ≠ f) (b : Bx x dx F0 H0 F H) (f0 : F0 x = none) (hf : DpAll K F (fs.map Prod.snd) ds)
    (k : ∀ v F' H', Bx x dx F0 H0 F' H' → F' x = some (.ins C dx (fs ++ [(f, v)])) → DpAll K F' ((fs ++ [(f, v)]).map Prod.snd) (ds ++ [d]) → D.nx σ H') : sFld K (tVar i) tv f D σ H :=
  h H b.fh _ fun v F' H' g hv => ⟨_, hi, x, C, dx, fs, rfl, g.hx _ _ (b.fh _ _ hx), c, n, hl, by
    rw [putF_new hn]
    have n1 : NoSq (F' x) := by rw [g.fx _ _ hx]; exact noSq_ins
    refine k v (upd F' x (.ins C dx (fs ++ [(f, v)]))) _ ((b.step g).put (.inr rfl) f0) upd_same ?_
    rw [List.map_append]
    exact dps_app (dps_put n1 (dps_ex g.fx hf)) (.cons (dp_put n1 hv) .nil)⟩
/-- self.f = a new list that is to grow -/
theorem s_fldL (h : EvL K tv σ F es) (hi : σ[i]? = some (some (.ref x))) (hx : F x = some (.ins C dx fs)) (c : Cls K C) (n : NoAttr K C f) (hl : fs.length < 1000) (hn : ∀ p ∈ fs, p.1 ≠ f) (b : Bx x dx F0 H0 F H) (f0 : F0 x = none) (hf : DpAll K F (fs.map Prod.snd) ds)
    (k : ∀ p ws F' H', Bx x dx F0 H0 F' H' → F' x = some (.ins C dx (fs ++ [(f, .ref p)])) → DpAll K F' (fs.map Prod.snd) ds → F' p = none → H' p = some (.lst ws) → H0 p = none → DpAll K F' ws es → D.nx σ H') : sFld K (tVar i) tv f D σ H :=
  h H b.fh _ fun p ws F' H' g h1 h2 h3 h4 => ⟨_, hi, x, C, dx, fs, rfl, g.hx _ _ (b.fh _ _ hx), c, n, hl, by
    rw [putF_new hn]
    have n1 : NoSq (F' x) := by rw [g.fx _ _ hx]; exact noSq_ins
    have hpx : p ≠ x := fun z => by rw [z, b.fh _ _ hx] at h1; cases h1
    have hp0 : H0 p = none := by
      cases z : H0 p with
      | none => rfl
      | some o => rw [b.hx p o hpx z] at h1; cases h1
    exact k p ws (upd F' x (.ins C dx (fs ++ [(f, .ref p)]))) _ ((b.step g).put (.inr rfl) f0) upd_same (dps_put n1 (dps_ex g.fx hf)) (by rw [upd_ne hpx]; exact h2) (by rw [upd_ne hpx]; exact h3) hp0 (dps_put n1 h4)⟩
theorem ev_fld {v : V} (hi : σ[i]? = some (some (.ref x))) (hx : F x = some (.ins C dx fs)) (c : Cls K C) (n : NoAttr K C f) (hl : fs.lookup f = some v) (hv : Dp K F v d) : EvD K (tFld K (tVar i) f) σ F d := fun H e Q q =>
  fld_ref hi hx c n hl H e Q (q v F H (Gr.refl e) hv)
/-- self.f.append(data), the list of H alone -/
theorem s_appF {l : Addr} {xs : List V} (hi : σ[i]? = some (some (.ref x))) (hx : F x = some (.ins C dx fs)) (c : Cls K C) (n : NoAttr K C f) (hlk : fs.lookup f = some (.ref l)) (hl : H l = some (.lst xs)) (fl : F l = none) (h : EvD K te σ F d) (e : Ex F H) (hz : xs.length < 100000)
    (k : ∀ v F' H', Gr F H F' H' → Dp K F' v d → F' l = none → H' l = some (.lst xs) → D.nx σ (upd H' l (.lst (xs ++ [v])))) : tDrop (tBM K "list" rAppend (tFld K (tVar i) f) (tCons te tNil)) D σ H :=
  show tFld K (tVar i) f σ H (fun x H1 => tyV K "list" x H1 ∧ (tCons te tNil) σ H1 fun xs H2 => rAppend x xs H2 fun _ H3 => D.nx σ H3) from
  fld_ref hi hx c n hlk H e _ ⟨Or.inl ⟨rfl, xs, sq_of hl⟩, h H e _ fun v F' H' g hv => ⟨l, xs, v, rfl, rfl, (g.keep hl fl).1, sz_lt hz, k v F' H' g hv (g.keep hl fl).2 (g.keep hl fl).1⟩⟩
/-- list(d.values()), list(d) -/
theorem el_listVals {ad : Addr} {kvs : List (Key × V)} {td : TE} (ht : ∀ H1, Ex F H1 → ∀ Q : VK, Q (.ref ad) H1 → td σ H1 Q) (hd : F ad = some (.dK kvs)) (hv : DpAll K F (kvs.map Prod.snd) ds) : EvL K (tListVals td) σ F ds := fun H e Q q =>
  ht H e _ ⟨ad, kvs, rfl, e _ _ hd, fun p hp => q p _ F _ (Gr.only e hp) hp (ex_none e hp) upd_same hv⟩
theorem dps_keys : ∀ {names : List Str}, DpAll K F ((names.map (Sum.inr : Str → Key)).map kV) (names.map PyData.str)
  | [] => .nil
  | n :: r => .cons (.str n) dps_keys
theorem el_listKeys {ad : Addr} {kvs : List (Key × V)} {names : List Str} {td : TE} (ht : ∀ H1, Ex F H1 → ∀ Q : VK, Q (.ref ad) H1 → td σ H1 Q) (hd : F ad = some (.dK kvs)) (hn : kvs.map Prod.fst = names.map Sum.inr) : EvL K (tCB rListD (tCons td tNil)) σ F (names.map PyData.str) := fun H e Q q =>
  ht H e _ ⟨ad, kvs, rfl, e _ _ hd, fun p hp => q p _ F _ (Gr.only e hp) hp (ex_none e hp) upd_same (by
    have e1 : (kvs.map fun kv => kV kv.1) = (names.map (Sum.inr : Str → Key)).map kV := by
      rw [← hn, List.map_map] <;> rfl
    rw [e1]
    exact dps_keys)⟩
end
end Dv
namespace R3
open PySem PySem.Spec PyProof.Rows L2 Dv
abbrev sGroundInit : Stmt := inClass (top 32) 0
abbrev sGroundHasRoom : Stmt := inClass (top 32) 1
structure GroundC (K : PySem.W.Frag) (G : Addr) : Prop where
  cl : Cls K G
  rooms : NoAttr K G "rooms"
  wide : NoAttr K G "wide"
  titles : NoAttr K G "titles"
  takes : NoAttr K G "takes"
  gives : NoAttr K G "gives"
  gains : NoAttr K G "gains"
def numsD (names : List Str) (ps : List (Str × Int)) : PyData := .list ((numbersOf names ps).map PyData.int)
def gainsOf (names : List Str) (r : Str × List (Str × Int) × List (Str × Int)) : List Int := ((numbersOf names r.2.1).zip (numbersOf names r.2.2)).map fun z => z.2 - z.1
structure GroundAt (K : PySem.W.Frag) (F : Hp) (G x : Addr) (m : MillD) : Prop where
  ex : ∃ (dx : Addr) (a1 a2 a3 a4 a5 a6 : V), F x = some (.ins G dx [("rooms", a1), ("wide", a2), ("titles", a3), ("takes", a4), ("gives", a5), ("gains", a6)]) ∧
    DpAll K F [a1, a2, a3, a4, a5, a6] [.list (m.stuffs.map fun z => encRoom z.2), .int m.stuffs.length, .list (m.recipes.map fun z => PyData.str z.1), .list (m.recipes.map fun r => numsD m.names r.2.1), .list (m.recipes.map fun r => numsD m.names r.2.2), .list (m.recipes.map fun r => PyData.list ((gainsOf m.names r).map PyData.int))]
section
variable {P : Program} {w : World} {K : PySem.W.Frag} {mg : Str → Option Value} {base : Heap}
theorem sc_Ground___init__ : FnScope (["self", "mill", "takes", "gives", "less", "more"] : List Str) (["self", "mill"] : List Str) (defScope sGroundInit) := ⟨rfl, rfl, rfl, by decide +kernel, rfl, by decide +kernel, by decide +kernel⟩
theorem parts_in {names : List Str} : ∀ {ps : List (Str × Int)} {seen : List Str}, partsGo names (ps.map encPart) seen = true → ∀ p ∈ ps, p.1 ∈ names
  | [], _, _, _, h => nomatch h
  | a :: r, seen, h, p, hp => by
    rw [List.map_cons, partsGo, Bool.and_eq_true, Bool.and_eq_true, Bool.and_eq_true] at h
    obtain ⟨⟨⟨h1, h2⟩, h3⟩, h4⟩ := h
    rcases List.mem_cons.mp hp with rfl | hp
    · exact of_decide_eq_true h2
    · exact parts_in h4 p hp
theorem rec_in {m : MillD} (ok : m.Ok) {r : Str × List (Str × Int) × List (Str × Int)} (hr : r ∈ m.recipes) : (∀ p ∈ r.2.1, p.1 ∈ m.names) ∧ ∀ p ∈ r.2.2, p.1 ∈ m.names := by
  have h := (ok.rs r hr).2
  have h' : (isName (.str r.1) && partsGo m.names (r.2.1.map encPart) [] && partsGo m.names (r.2.2.map encPart) []) = true := h
  rw [Bool.and_eq_true, Bool.and_eq_true] at h'
  exact ⟨parts_in h'.1.2, parts_in h'.2⟩
theorem ev_nums {σ : L2.St} {F : Hp} {te : TE} {C ml : Addr} {m : MillD} {ps : List (Str × Int)} {E : XK} {i : Nat} (hi : σ[i]? = some (some (.ref ml))) (hm : Mill0 K F C ml m) (hl : m.stuffs.length ≤ 8) (h : EvD K te σ F (.tuple (ps.map encPart))) (hin : ∀ p ∈ ps, p.1 ∈ m.names) :
    EvD K (tCall (spNums K C) [] E (tCons (tVar i) (tCons te tNil))) σ F (numsD m.names ps) := fun H e Q q =>
  ⟨_, hi, h H e _ fun v F1 H1 g1 hv => ⟨F1, ml, v, m, ps, rfl, g1.fh, hm.mono g1.fx, hl, hv, hin, fun p ws F' H' g h1 h2 h3 h4 => q _ _ _ (g1.trans (g.take h1 h2 h3)) (.lst (Evl.sq_of upd_same) (dps_ex (Evl.Ex.new h2) h4))⟩⟩
/-- a mill's rules, to be walked -/
theorem MillAt.rules {F : Hp} {C ml : Addr} {m : MillD} (h : MillAt K F C ml m) : ∃ (dx ro sp ru : Addr) (v1 v3 : List V), F ml = some (.ins C dx [("rooms", .ref ro), ("spots", .ref sp), ("rules", .ref ru)]) ∧
    F ro = some (.dK ((m.stuffs.map fun z => (Sum.inr z.1 : Key)).zip v1)) ∧ DpAll K F v1 (m.stuffs.map fun z => encRoom z.2) ∧
    F ru = some (.dK ((m.recipes.map fun z => (Sum.inr z.1 : Key)).zip v3)) ∧ DpAll K F v3 (m.recipes.map encRule) ∧
    ∀ od, upd F ru (.frz od (.dK ((m.recipes.map fun z => (Sum.inr z.1 : Key)).zip v3))) ml = some (.ins C dx [("rooms", .ref ro), ("spots", .ref sp), ("rules", .ref ru)]) ∧
      Mill0 K (upd F ru (.frz od (.dK ((m.recipes.map fun z => (Sum.inr z.1 : Key)).zip v3)))) C ml m := by
  obtain ⟨dx, ro, sp, ru, v1, v2, v3, h1, h2, h3, h4, h5, h6, h7, hrr, hsr, _⟩ := h.ex
  refine ⟨dx, ro, sp, ru, v1, v3, h1, h2, h3, h6, h7, fun od => ?_⟩
  have n6 : NoSq (F ru) := by rw [h6]; exact noSq_dK
  have hmr : ml ≠ ru := fun z => by rw [z, h6] at h1; cases h1
  have e1 : upd F ru (.frz od (.dK ((m.recipes.map fun z => (Sum.inr z.1 : Key)).zip v3))) ml = some (.ins C dx [("rooms", .ref ro), ("spots", .ref sp), ("rules", .ref ru)]) := by rw [upd_ne hmr]; exact h1
  exact ⟨e1, ⟨dx, ro, sp, ru, v1, v2, e1, by rw [upd_ne hrr]; exact h2, dps_put n6 h3, by rw [upd_ne hsr]; exact h4, dps_put n6 h5⟩⟩
def spGround (K : PySem.W.Frag) (C G : Addr) : Sp := fun vs H Q _ => ∃ (F : Hp) (x dx ml : Addr) (m : MillD), vs = [.ref x, .ref ml] ∧ Evl.Ex F H ∧ F x = none ∧ F dx = none ∧ H x = some (.ins G dx []) ∧ (H dx).isSome = true ∧ x ≠ dx ∧
  MillAt K F C ml m ∧ m.Ok ∧ ∀ F' H', Bx x dx F H F' H' → GroundAt K F' G x m → Q .non H'
theorem ok_ground_init {f : Addr} {fd : FuncData} {C G : Addr} (D : Fun K "__init__" "Ground.__init__" sGroundInit f fd) (MC : MillC K C) (GC : GroundC K G) (B : Bl mg) (C_numbers_of : Cal P w K mg base "numbers_of" ["mill", "parts"] 1 (spNums K C)) :
    FnOkG P w K mg base CX0 2 f fd ["self", "mill"] (spGround K C G) := by
  refine D.okG sc_Ground___init__ (fun vs H Q E h => ?_) (fun cdv A outer s H vs Q E hr h => ?_)
  · obtain ⟨F, x, dx, ml, m, rfl, _⟩ := h
    rfl
  obtain ⟨F, x, dx, ml, m, rfl, e, fx, fdx, hx, hdx, hxd, hm, ok, q⟩ := h
  refine ⟨_, (pss_cons (ps_fld (pv 0) (pe_listVals rfl rfl B.list (pe_fld (pv 1) rfl)) rfl)
      (pss_cons (ps_fld (pv 0) (pe_callB call_len (by rfl) B.len (by decide +kernel) (pa_cons (pe_fld (pv 0) rfl) pa_nil)) rfl)
      (pss_cons (ps_fld (pv 0) (pe_callTy (call_list_dK (by rfl)) (by rfl) B.list (by decide +kernel) (pa_cons (pe_fld (pv 1) rfl) pa_nil)) rfl)
      (pss_cons (ps_fld (pv 0) (pe_lock (pe_lc (own := [("takes", 2), ("gives", 3)]) (g := gTup K 2 (gCons (gName 2) (gCons (gName 3) gNil))) rfl sc_Ground___init__.nd (pi_values (pe_fld (pv 1) rfl)) (blkOk_by (own := [("takes", 2), ("gives", 3)]) (N := ["self", "mill", "takes", "gives", "less", "more"]) (sc := defScope sGroundInit) (by decide +kernel)) (fun _ _ _ _ _ => (pg_tup (by rfl) (pgs_cons (pg_name (i := 2) sc_Ground___init__.nd rfl (.inl rfl)) (pgs_cons (pg_name (i := 3) sc_Ground___init__.nd rfl (.inl rfl)) pgs_nil)))) (te := tCall (spNums K C) [] E0 (tCons (tVar 1) (tCons (tVar 2) tNil))) (fun _ _ _ _ _ => pts_nil) (fun _ _ _ _ _ => (pe_callC C_numbers_of hr (pa_cons (pv 1) (pa_cons (pv 2) pa_nil)))))) rfl)
      (pss_cons (ps_fld (pv 0) (pe_lock (pe_lc (own := [("takes", 2), ("gives", 3)]) (g := gTup K 2 (gCons (gName 2) (gCons (gName 3) gNil))) rfl sc_Ground___init__.nd (pi_values (pe_fld (pv 1) rfl)) (blkOk_by (own := [("takes", 2), ("gives", 3)]) (N := ["self", "mill", "takes", "gives", "less", "more"]) (sc := defScope sGroundInit) (by decide +kernel)) (fun _ _ _ _ _ => (pg_tup (by rfl) (pgs_cons (pg_name (i := 2) sc_Ground___init__.nd rfl (.inl rfl)) (pgs_cons (pg_name (i := 3) sc_Ground___init__.nd rfl (.inl rfl)) pgs_nil)))) (te := tCall (spNums K C) [] E0 (tCons (tVar 1) (tCons (tVar 3) tNil))) (fun _ _ _ _ _ => pts_nil) (fun _ _ _ _ _ => (pe_callC C_numbers_of hr (pa_cons (pv 1) (pa_cons (pv 3) pa_nil)))))) rfl)
      (pss_cons (ps_fld (pv 0) (pe_lst pa_nil) rfl)
      (pss_one (ps_for PassesOwn.never rfl (pi_zipS (by rfl) B.zip (pa_cons (pe_fld (pv 0) rfl) (pa_cons (pe_fld (pv 0) rfl) pa_nil))) (pg_tup (by rfl) (pgs_cons (pg_name (i := 2) sc_Ground___init__.nd rfl (.inl rfl)) (pgs_cons (pg_name (i := 3) sc_Ground___init__.nd rfl (.inl rfl)) pgs_nil))) (pss_one (ps_expr (pe_bm PySem.F.plainAttrs_list PySem.F.slot_list_append PySem.F.type_list_append mt_append (pe_fld (pv 0) rfl) (pa_cons (pe_lc (own := [("less", 4), ("more", 5)]) (g := gTup K 2 (gCons (gName 4) (gCons (gName 5) gNil))) rfl sc_Ground___init__.nd (pi_zipS (by rfl) B.zip (pa_cons (pv 2) (pa_cons (pv 3) pa_nil))) (blkOk_by (own := [("less", 4), ("more", 5)]) (N := ["self", "mill", "takes", "gives", "less", "more"]) (sc := defScope sGroundInit) (by decide +kernel)) (fun _ _ _ _ _ => (pg_tup (by rfl) (pgs_cons (pg_name (i := 4) sc_Ground___init__.nd rfl (.inl rfl)) (pgs_cons (pg_name (i := 5) sc_Ground___init__.nd rfl (.inl rfl)) pgs_nil))))  (fun _ _ _ _ _ => pts_nil) (fun _ _ _ _ _ => (pe_op op_sub (pv 5) (pv 4)))) pa_nil)))))))))))), ?_⟩
  have st : start ["self", "mill", "takes", "gives", "less", "more"] [V.ref x, V.ref ml] = [some (.ref x), some (.ref ml), none, none, none, none] := rfl
  rw [st]
  have b0 : Bx x dx F H F H := ⟨Evl.Ex.refl F, e, fun _ _ _ h => h, fun a h1 h2 => absurd h1 h2⟩
  have b1 : Bx x dx F H (upd F x (.ins G dx [])) H := by
    have := b0.put (p := x) (o := .ins G dx []) (.inr rfl) fx
    rwa [show upd H x (.ins G dx []) = H from by
      funext a
      by_cases z : a = x
      · rw [z, upd_same, hx]
      · rw [upd_ne z]] at this
  have hl8 := ok.s2
  have hr8 := ok.r2
  -- self.rooms = list(mill.rooms.values())
  obtain ⟨mdx, ro, sp, ru, v1, v3, hml, hro, hv1, hru, hv3, hlk⟩ := (hm.mono b1.fx).rules
  have v1l : v1.length = (m.stuffs.map fun z => (Sum.inr z.1 : Key)).length := by rw [dps_len hv1, List.length_map, List.length_map]
  have v3l : v3.length = (m.recipes.map fun z => (Sum.inr z.1 : Key)).length := by rw [dps_len hv3, List.length_map, List.length_map]
  refine s_fldD (K := K) (f := "rooms") (fs := []) (ds := []) (EvL.ev (el_listVals (fun H1 e1 Q q => fld_ref rfl hml MC.cl MC.rooms fl1 H1 e1 Q q) hro (by rw [zip_snd v1l]; exact hv1))) rfl upd_same GC.cl GC.rooms (by simp) (by simp) b1 fx .nil fun a1 F2 H2 b2 x2 f2 => ?_
  -- self.wide = len(self.rooms)
  cases f2 with
  | cons da1 _ =>
  refine s_fldD (K := K) (f := "wide") (fs := [("rooms", a1)]) (ds := [.list (m.stuffs.map fun z => encRoom z.2)]) (Dv.ev_is (ev_len (n := (m.stuffs.map fun z => encRoom z.2).length) (ev_fld (fs := [("rooms", a1)]) rfl x2 GC.cl GC.rooms (by rfl) da1) rfl (by rw [List.length_map]; omega)) (by rw [List.length_map])) rfl x2 GC.cl GC.wide (by simp) (nofs (by rfl)) b2 fx (.cons da1 .nil) fun a2 F3 H3 b3 x3 f3 => ?_
  -- self.titles = list(mill.rules)
  obtain ⟨mdx, ro, sp, ru, v1, v3, hml, hro, hv1, hru, hv3, hlk⟩ := (hm.mono b3.fx).rules
  refine s_fldD (K := K) (f := "titles") (fs := [("rooms", a1), ("wide", a2)]) (EvL.ev (el_listKeys (names := m.recipes.map (·.1)) (fun H1 e1 Q q => fld_ref rfl hml MC.cl MC.rules fl3 H1 e1 Q q) hru (by
    rw [zip_fst (by rw [dps_len hv3, List.length_map, List.length_map]), List.map_map] <;> rfl))) rfl x3 GC.cl GC.titles (by simp) (nofs (by rfl)) b3 fx f3 fun a3 F4 H4 b4 x4 f4 => ?_
  -- self.takes = [..]
  have lcs : ∀ (j : Nat) (hj : j = 2 ∨ j = 3) (F4 : Hp) (pick : (Str × List (Str × Int) × List (Str × Int)) → List (Str × Int)) (hpick : (j = 2 ∧ pick = fun r => r.2.1) ∨ (j = 3 ∧ pick = fun r => r.2.2)), MillAt K F4 C ml m →
      EvL K (tLockE (tLc (iVals (tFld K (tVar 1) "rules")) (gTup K 2 (gCons (gName 2) (gCons (gName 3) gNil))) tYes (tCall (spNums K C) [] E0 (tCons (tVar 1) (tCons (tVar j) tNil))) [2, 3])) [some (.ref x), some (.ref ml), none, none, none, none] F4 (m.recipes.map fun r => numsD m.names (pick r)) := by
    intro j hj F4 pick hpick hm4
    obtain ⟨mdx, ro, sp, ru, v1, v3, hml, hro, hv1, hru, hv3, hlk⟩ := hm4.rules
    refine el_lock hru fun od => ?_
    obtain ⟨hml', hm0⟩ := hlk od
    have n6 : NoSq (F4 ru) := by rw [hru]; exact noSq_dK
    have v3l : v3.length = (m.recipes.map fun z => (Sum.inr z.1 : Key)).length := by rw [dps_len hv3, List.length_map, List.length_map]
    refine Dv.el_is (lc_rule (K := K) (σ := [some (.ref x), some (.ref ml), none, none, none, none]) m.recipes encRule (fun r => numsD m.names (pick r)) (fun _ => true) (it_vals (fun H1 e1 Q q => fld_ref rfl hml' MC.cl MC.rules fl3 H1 e1 Q q) upd_same (by rw [zip_snd v3l]; exact dps_put n6 hv3)) (by omega) fun r hr v F1 e1 hv => ?_) (by
      rw [List.filter_eq_self.mpr fun _ _ => rfl])
    obtain ⟨y1, y2, hy1, hy2, ht⟩ := tup2 hv
    obtain ⟨i1, i2⟩ := rec_in ok hr
    refine ⟨[some (.ref x), some (.ref ml), some y1, some y2, none, none], fun H e Q q => ht 2 3 _ H e Q q, rfl, fun H e Q q => q F1 H (Gr.refl e), fun _ => ?_⟩
    rcases hpick with ⟨rfl, rfl⟩ | ⟨rfl, rfl⟩
    · exact ev_nums rfl (hm0.mono e1) hl8 (Dv.ev_var rfl hy1) i1
    · exact ev_nums rfl (hm0.mono e1) hl8 (Dv.ev_var rfl hy2) i2
  refine s_fldD (K := K) (f := "takes") (fs := [("rooms", a1), ("wide", a2), ("titles", a3)]) (EvL.ev (lcs 2 (.inl rfl) F4 (fun r => r.2.1) (.inl ⟨rfl, rfl⟩) (hm.mono b4.fx))) rfl x4 GC.cl GC.takes (by simp) (nofs (by rfl)) b4 fx f4 fun a4 F5 H5 b5 x5 f5 => ?_
  refine s_fldD (K := K) (f := "gives") (fs := [("rooms", a1), ("wide", a2), ("titles", a3), ("takes", a4)]) (EvL.ev (lcs 3 (.inr rfl) F5 (fun r => r.2.2) (.inr ⟨rfl, rfl⟩) (hm.mono b5.fx))) rfl x5 GC.cl GC.gives (by simp) (nofs (by rfl)) b5 fx f5 fun a5 F6 H6 b6 x6 f6 => ?_
  -- self.gains = []
  refine s_fldL (K := K) (f := "gains") (fs := [("rooms", a1), ("wide", a2), ("titles", a3), ("takes", a4), ("gives", a5)]) (Dv.el_lst Dv.ea_nil (by simp)) rfl x6 GC.cl GC.gains (by simp) (nofs (by rfl)) b6 fx f6 fun p ws F7 H7 b7 x7 f7 fp hp hpH hws => ?_
  cases hws
  have dt : Dp K F7 a4 (.list (m.recipes.map fun r => numsD m.names r.2.1)) := by
    obtain ⟨z, hz, hd⟩ := dps_at (i := 3) f7 rfl
    cases hz
    exact hd
  have dg : Dp K F7 a5 (.list (m.recipes.map fun r => numsD m.names r.2.2)) := by
    obtain ⟨z, hz, hd⟩ := dps_at (i := 4) f7 rfl
    cases hz
    exact hd
  have x7' : F7 x = some (.ins G dx [("rooms", a1), ("wide", a2), ("titles", a3), ("takes", a4), ("gives", a5), ("gains", .ref p)]) := x7
  refine Dv.s_for (K := K) (it_is (it_zipS (Dv.ea_cons (ev_fld (i := 0) rfl x7' GC.cl GC.takes (by rfl) dt) (Dv.ea_cons (ev_fld (i := 0) rfl x7' GC.cl GC.gives (by rfl) dg) Dv.ea_nil)) (by simp)) (show _ = m.recipes.map fun r => PyData.tuple [numsD m.names r.2.1, numsD m.names r.2.2] by
      rw [List.zip_map', List.map_map] <;> rfl)) b7.fh
    (fun n σ F' H' => ∃ (s2 s3 : Option V) (ws : List V), σ = [some (.ref x), some (.ref ml), s2, s3, none, none] ∧ F' p = none ∧ H' p = some (.lst ws) ∧ DpAll K F' ws ((m.recipes.take n).map fun r => PyData.list ((gainsOf m.names r).map PyData.int)) ∧ Bx x dx F H F' H')
    (fun F8 H8 g8 => ?_) ?_ (fun σ' F8 H8 e8 e9 p8 => ?_)
  · have k := g8.keep hp fp
    exact ⟨none, none, [], rfl, k.2, k.1, by rw [List.take_zero]; exact .nil, b7.step g8⟩
  · rintro Fb eb n σ F8 H8 u du F9 H9 hdu e8 e9 ⟨s2, s3, ws, rfl, fp8, hp8, hw8, b8⟩ g9 hu9
    obtain ⟨hn, hdn⟩ := List.getElem?_eq_some_iff.mp hdu
    rw [List.length_map] at hn
    have hdu' : du = PyData.tuple [numsD m.names m.recipes[n].2.1, numsD m.names m.recipes[n].2.2] := by rw [← hdn, List.getElem_map]
    subst hdu'
    obtain ⟨y1, y2, hy1, hy2, ht⟩ := tup2 hu9
    have k9 := g9.keep hp8 fp8
    have x9 : F9 x = some (.ins G dx [("rooms", a1), ("wide", a2), ("titles", a3), ("takes", a4), ("gives", a5), ("gains", .ref p)]) := g9.fx _ _ (e8 _ _ (eb _ _ x7'))
    refine ht 2 3 _ H9 g9.fh _ ?_
    have n1 := numbersOf_len m.names m.recipes[n].2.1
    have n2 := numbersOf_len m.names m.recipes[n].2.2
    have nl : m.names.length = m.stuffs.length := List.length_map ..
    have inner : EvL K (tLc (iZipS K (tCons (tVar 2) (tCons (tVar 3) tNil))) (gTup K 2 (gCons (gName 4) (gCons (gName 5) gNil))) tYes (tOp (rI0 fun i j => V.int (i - j)) (tVar 5) (tVar 4)) [4, 5]) [some (.ref x), some (.ref ml), some y1, some y2, none, none] F9 ((gainsOf m.names m.recipes[n]).map PyData.int) := by
      refine Dv.el_is (lc_rule (K := K) (σ := [some (.ref x), some (.ref ml), some y1, some y2, none, none]) ((numbersOf m.names m.recipes[n].2.1).zip (numbersOf m.names m.recipes[n].2.2)) (fun z => PyData.tuple [.int z.1, .int z.2]) (fun z => PyData.int (z.2 - z.1)) (fun _ => true)
        (it_is (it_zipS (Dv.ea_cons (Dv.ev_var rfl hy1) (Dv.ea_cons (Dv.ev_var rfl hy2) Dv.ea_nil)) (by rw [List.length_map, List.length_map]; omega)) (by rw [List.zip_map, List.map_map] <;> rfl)) (by
          rw [List.length_zip]
          omega) fun z _ v F1 e1 hv => ?_) (by
        rw [List.filter_eq_self.mpr fun _ _ => rfl]
        unfold gainsOf
        rw [List.map_map] <;> rfl)
      obtain ⟨z1, z2, hz1, hz2, hzt⟩ := tup2 hv
      exact ⟨[some (.ref x), some (.ref ml), some y1, some y2, some z1, some z2], fun H e Q q => hzt 4 5 _ H e Q q, rfl, fun H e Q q => q F1 H (Gr.refl e), fun _ => Dv.ev_I0 (fun _ => .int _) (Dv.ev_var rfl hz2) (Dv.ev_var rfl hz1)⟩
    have wl : ws.length ≤ 8 := by
      rw [dps_len hw8, List.length_map, List.length_take]
      omega
    refine s_appF (K := K) (f := "gains") (i := 0) rfl x9 GC.cl GC.gains (by rfl) k9.1 k9.2 (EvL.ev inner) g9.fh (by omega) fun y F10 H10 g10 hy f10 h10 => ?_
    dsimp only
    refine ⟨F10, e8.trans (g9.fx.trans g10.fx), Evl.Ex.mut g10.fh f10, some y1, some y2, ws ++ [y], rfl, f10, upd_same, ?_, ((b8.step g9).step g10).mut hpH f10⟩
    rw [List.take_succ_eq_append_getElem hn, List.map_append]
    exact dps_app (dps_ex (g9.fx.trans g10.fx) hw8) (.cons hy .nil)
  · obtain ⟨s2, s3, ws, rfl, fp8, hp8, hw8, b8⟩ := p8
    rw [List.length_map, List.take_length] at hw8
    have hpx : p ≠ x := fun z => by
      have := e8 _ _ x7'
      rw [← z, fp8] at this
      cases this
    refine q _ H8 (b8.take hpH fp8 hp8) ⟨dx, a1, a2, a3, a4, a5, .ref p, by rw [upd_ne (Ne.symm hpx)]; exact e8 _ _ x7', ?_⟩
    have f8 := dps_ex (Evl.Ex.new (o := .lst ws) fp8) (dps_ex e8 f7)
    have z := dps_app f8 (.cons (.lst (Evl.sq_of upd_same) (dps_ex (Evl.Ex.new fp8) hw8)) .nil)
    rw [show (m.recipes.map (fun x => x.1)).map PyData.str = m.recipes.map fun z => PyData.str z.1 from by rw [List.map_map] <;> rfl] at z
    exact z
end
end R3

set_option Elab.async false
set_option linter.all false
set_option maxRecDepth 100000
set_option maxHeartbeats 4000000
namespace Dv
open PySem L2 Evl
section
variable {K : PySem.W.Frag} {σ : L2.St} {F H : Hp} {te ta : TE} {d : PyData} {ds : List PyData}
theorem strs_of : ∀ {names : List Str} {ws : List V}, DpAll K F ws (names.map PyData.str) → ws = names.map V.str
  | [], _, h => by cases h; rfl
  | n :: r, _, h => by
    cases h with
    | cons h1 h2 =>
      cases h1
      rw [strs_of h2] <;> rfl
theorem inV_strs {x : Str} {xs : List Str} : inV (V.str x) (xs.map V.str) = decide (x ∈ xs) := by
  unfold inV
  rw [Bool.eq_iff_iff, List.any_eq_true, decide_eq_true_iff]
  constructor
  · rintro ⟨y, hy, he⟩
    obtain ⟨z, hz, rfl⟩ := List.mem_map.mp hy
    have : z = x := by simpa [eqV] using he
    exact this ▸ hz
  · intro hx
    exact ⟨_, List.mem_map.mpr ⟨x, hx, rfl⟩, by simp [eqV]⟩
theorem cutD_from (ds : List PyData) (k : Nat) : cutD ds (some (k : Int)) none = ds.drop k := by
  unfold cutD
  rw [HT.sIx_nat, HT.sIx_none]
  by_cases h : k ≤ ds.length
  · rw [Nat.min_eq_left h, List.take_of_length_le (by rw [List.length_drop]; exact Nat.le_refl _)]
  · rw [Nat.min_eq_right (by omega), List.drop_length, List.drop_of_length_le (by omega)]
    simp
/-- x not in a list of texts -/
theorem ev_notInStrs {x : Str} {xs : List Str} (ha : EvD K ta σ F (.str x)) (hb : EvD K te σ F (.list (xs.map PyData.str))) : EvD K (tOp (rIn K true) ta te) σ F (.bool (!decide (x ∈ xs))) :=
  ev_op ha hb fun v u F1 H1 _ e hv hu Q q => by
    cases hv
    cases hu with
    | lst hs hd =>
      have := strs_of hd
      subst this
      refine ⟨_, xs.map V.str, rfl, .inl (ex_l e hs), rfl, by simp [flatV], ?_⟩
      rw [if_pos rfl, inV_strs]
      exact q _ F1 H1 (Gr.refl e) (.bl _)
theorem idxOf_min {y : Str} : ∀ (xs : List Str) (m : Nat), xs[m]? = some y → xs.idxOf y ≤ m
  | [], m, h => by cases h
  | a :: r, 0, h => by
    cases h
    rw [List.idxOf_cons_self]
    exact Nat.le_refl _
  | a :: r, m + 1, h => by
    rw [List.idxOf_cons]
    have := idxOf_min r m h
    cases (a == y)
    · simp only [cond_false]
      omega
    · simp only [cond_true]
      omega
/-- names.index(x), there -/
theorem ev_indexStrs {x : Str} {xs : List Str} (hb : EvD K te σ F (.list (xs.map PyData.str))) (ha : EvD K ta σ F (.str x)) (hx : x ∈ xs) : EvD K (tBM K "list" (rIndex K) te (tCons ta tNil)) σ F (.int (xs.idxOf x : Nat)) := fun H e Q q =>
  hb H e _ fun v F1 H1 g1 hv => by
    cases hv with
    | lst hs hd =>
      have := strs_of hd
      subst this
      rename_i p
      refine ⟨.inl ⟨rfl, _, ex_l g1.fh hs⟩, (ha.mono g1.fx) H1 g1.fh _ fun u F2 H2 g2 hu => ?_⟩
      cases hu
      have hlt : xs.idxOf x < xs.length := List.idxOf_lt_length_of_mem hx
      have hget : xs[xs.idxOf x] = x := List.getElem_idxOf hlt
      refine ⟨p, xs.map V.str, .str x, xs.idxOf x, .str x, rfl, rfl, ex_l (g2.fx.trans g2.fh) hs, rfl, by simp [flatV], ?_, by simp [eqV], ?_, q _ F2 H2 (g1.trans g2) (.int _)⟩
      · rw [List.getElem?_map, List.getElem?_eq_getElem hlt, hget] <;> rfl
      · intro m z hm hz
        rw [List.getElem?_map] at hz
        obtain ⟨y, hy, rfl⟩ := Option.map_eq_some_iff.mp hz
        have hml : m < xs.length := (List.getElem?_eq_some_iff.mp hy).1
        have : y ≠ x := fun e => by
          subst e
          exact absurd (idxOf_min xs m hy) (by omega)
        simpa [eqV] using this
end
end Dv
namespace R3
open PySem PySem.Spec PyProof.Rows L2 Dv
section
variable {P : Program} {w : World} {K : PySem.W.Frag} {mg : Str → Option Value} {base : Heap}
/-- the module's NOTHING -/
structure Noth (K : PySem.W.Frag) (mg : Str → Option Value) : Prop where
  ex : ∃ a, mg "NOTHING" = some (.ref a) ∧ ∀ F, Dp K F (.ref a) (.tuple [.int 0, .int 1])
def isPair2 : PyData → Bool
  | .tuple [.str _, _] => true
  | _ => false
def brewNm : PyData → Str
  | .tuple (.str n :: _) => n
  | _ => ""
def brewAm : PyData → PyData
  | .tuple [_, a] => a
  | _ => .none
def brewGo : List Str → List PyData → Bool
  | _, [] => true
  | names, d :: r => isPair2 d && decide (brewNm d ∈ names) && isAmt (brewAm d) && !PyData.eqv (brewAm d) (.tuple [.int 0, .int 1]) && brewGo (names.drop (names.idxOf (brewNm d) + 1)) r
def isBrew (names : List Str) : PyData → Bool
  | .list xs => brewGo names xs
  | _ => false
def MillD.titles (m : MillD) : List Str := m.recipes.map (·.1)
def spIsBrew (K : PySem.W.Frag) (C : Addr) : Sp := fun vs H Q _ => ∃ (F : Hp) (ml : Addr) (m : MillD) (v : V) (d : PyData), vs = [.ref ml, v] ∧ Evl.Ex F H ∧ MillAt K F C ml m ∧ Dp K F v d ∧ gd d = true ∧ m.recipes.length ≤ 8 ∧ ∀ F' H', Gr F H F' H' → Q (.bl (isBrew m.titles d)) H'
theorem sc_is_brew : FnScope (["mill", "value", "names", "item"] : List Str) (["mill", "value"] : List Str) (defScope sIsBrew) := ⟨rfl, rfl, rfl, by decide +kernel, rfl, by decide +kernel, by decide +kernel⟩
theorem ok_is_brew (D : Def K mg "is_brew" sIsBrew ["mill", "value"]) (B : Bl mg) (NN : Noth K mg) {C : Addr} (MC : MillC K C) (C_is_amount : Cal P w K mg base "is_amount" ["value"] 3 (spD K fIsAmt)) : Cal P w K mg base "is_brew" ["mill", "value"] 4 (spIsBrew K C) := by
  refine cal_mk D sc_is_brew (fun vs H Q E h => ?_) (fun f cdv A outer s H vs Q E hr h => ?_)
  · obtain ⟨F, ml, m, v, d, rfl, _⟩ := h
    rfl
  obtain ⟨F, ml, m, v, d, rfl, e, hm, hv, hg, hr8, q⟩ := h
  obtain ⟨aN, gN, dN⟩ := NN.ex
  refine ⟨_, (pss_cons (ps_if (pt_not (pt_val (pe_callB call_isi (by rfl) B.isi (by decide +kernel) (pa_cons (pv 1) (pa_cons (pe_bltn (v := .ty "list") (by rfl) B.list (by decide +kernel) rfl) pa_nil))))) (pss_one (ps_ret pe_bl)) pss_nil)
      (pss_cons (ps_set (i := 2) sc_is_brew.nd rfl (.inl rfl) (pe_callTy (call_list_dK (by rfl)) (by rfl) B.list (by decide +kernel) (pa_cons (pe_fld (pv 0) rfl) pa_nil)))
      (pss_cons (ps_for PassesOwn.never rfl (pi_list (pv 1)) (pg_name (i := 3) sc_is_brew.nd rfl (.inl rfl)) (pss_cons (ps_if (PW.pt (pw_or (pt_not (pt_val (pe_callB call_isi (by rfl) B.isi (by decide +kernel) (pa_cons (pv 3) (pa_cons (pe_bltn (v := .ty "tuple") (by rfl) B.tuple (by decide +kernel) rfl) pa_nil))))) (pw_or (pt_cmpR op_ne (pe_callB call_len (by rfl) B.len (by decide +kernel) (pa_cons (pv 3) pa_nil)) pe_int (nomark _)) (pw_or (pt_not (pt_val (pe_callB call_isi (by rfl) B.isi (by decide +kernel) (pa_cons (pe_ix ix_tup (pv 3) pe_int (fun _ _ => rfl)) (pa_cons (pe_bltn (v := .ty "str") (by rfl) B.str (by decide +kernel) rfl) pa_nil))))) (pw_or1 (pt_cmpR op_notIn_seq (pe_ix ix_tup (pv 3) pe_int (fun _ _ => rfl)) (pv 2) (by rfl))))))) (pss_one (ps_ret pe_bl)) pss_nil)
      (pss_cons (ps_if (PW.pt (pw_or (pt_not (pt_val (pe_callC C_is_amount hr (pa_cons (pe_ix ix_tup (pv 3) pe_int (fun _ _ => rfl)) pa_nil)))) (pw_or1 (pt_cmpR (op_eqD hr.1.units) (pe_ix ix_tup (pv 3) pe_int (fun _ _ => rfl)) (pe_glob (v := .ref aN) rfl gN rfl) (nomark _))))) (pss_one (ps_ret pe_bl)) pss_nil)
      (pss_one (ps_set (i := 2) sc_is_brew.nd rfl (.inl rfl) (pe_slice sl_list (pv 2) (po_some (pe_op op_add (pe_bm PySem.F.plainAttrs_list PySem.F.slot_list_index PySem.F.type_list_index mt_index (pv 2) (pa_cons (pe_ix ix_tup (pv 3) pe_int (fun _ _ => rfl)) pa_nil)) pe_int)) po_none))))))
      (pss_one (ps_ret pe_bl))))), ?_⟩
  have vx := Dv.ev_var (K := K) (σ := [some (.ref ml), some v, none, none]) (i := 1) rfl hv
  by_cases ht : ∃ xs, d = .list xs
  · obtain ⟨xs, rfl⟩ := ht
    obtain ⟨hxl, hgs⟩ := gd_list hg
    refine s_ifF (et_notT (et_v (p := true) (ev_isi (T := "list") vx (by decide)) rfl)) e fun F0 H0 g0 => ?_
    obtain ⟨mdx, ro, sp, ru, v1, v3, hml, hro, hv1, hru, hv3, hlk⟩ := (hm.mono g0.fx).rules
    refine Dv.s_asg (K := K) (EvL.ev (el_listKeys (names := m.titles) (fun H1 e1 Q q => fld_ref rfl hml MC.cl MC.rules fl3 H1 e1 Q q) hru (by
      rw [zip_fst (by rw [dps_len hv3, List.length_map, List.length_map])]
      unfold MillD.titles
      rw [List.map_map] <;> rfl))) g0.fh fun nv F1 H1 g1 hnv => ?_
    have g01 := g0.trans g1
    refine Dv.s_for (it_list (Dv.ev_var rfl (dp_ex g01.fx hv))) g1.fh
      (fun n σ F' H' => ∃ (nv : V) (it : Option V) (names : List Str), σ = [some (.ref ml), some v, some nv, it] ∧ Dp K F' nv (.list (names.map PyData.str)) ∧ brewGo m.titles xs = brewGo names (xs.drop n) ∧ Gr F H F' H')
      (fun F2 H2 g2 => ⟨nv, none, m.titles, rfl, dp_ex g2.fx hnv, rfl, g01.trans g2⟩) ?_ (fun σ' F2 H2 e2 e3 p2 => ?_)
    · rintro Fb eb n σ F2 H2 u du F3 H3 hdu e2 e3 ⟨nv, it, names, rfl, hnv2, hgo, gg⟩ g3 hu3
      have gg3 := gg.trans g3
      have hn : n < xs.length := (List.getElem?_eq_some_iff.mp hdu).1
      have hdrop : xs.drop n = du :: xs.drop (n + 1) := by
        rw [List.drop_eq_getElem_cons hn]
        congr 1
        exact (List.getElem?_eq_some_iff.mp hdu).2
      rw [hdrop, brewGo] at hgo
      have hgd : gd du = true := gds_mem hgs (List.mem_of_getElem? hdu)
      show tSeq _ _ _ [some (.ref ml), some v, some nv, some u] H3
      have vu := Dv.ev_var (K := K) (σ := [some (.ref ml), some v, some nv, some u]) (i := 3) rfl hu3
      have vn := Dv.ev_var (K := K) (σ := [some (.ref ml), some v, some nv, some u]) (i := 2) rfl (dp_ex g3.fx hnv2)
      have no : brewGo m.titles xs = false → ∀ F4 H4, Gr F3 H3 F4 H4 → Q (.bl false) H4 := fun h F4 H4 g4 => by
        have := q F4 H4 (gg3.trans g4)
        rw [show isBrew m.titles (.list xs) = brewGo m.titles xs from rfl, h] at this
        exact this
      by_cases hs : ∃ nm a, du = .tuple [.str nm, a] ∧ nm ∈ names
      · obtain ⟨nm, a, rfl, hin⟩ := hs
        have ga : gd a = true := gds_mem (gd_tup hgd).2 (by simp)
        have hgo' : brewGo m.titles xs = (isAmt a && !PyData.eqv a (.tuple [.int 0, .int 1]) && brewGo (names.drop (names.idxOf nm + 1)) (xs.drop (n + 1))) := by
          rw [hgo]
          show (true && decide (nm ∈ names) && isAmt a && !PyData.eqv a (.tuple [.int 0, .int 1]) && _) = _
          rw [decide_eq_true hin, Bool.true_and, Bool.true_and] <;> rfl
        refine s_ifF (et_tupn (n := 2) vu (fun es he => by cases he; exact (by simp : 2 ≤ 100000)) (fun es he hl => ?_) fun nn => absurd ⟨_, rfl, rfl⟩ nn) g3.fh fun F4 H4 g4 => ?_
        · cases he
          exact et_orF (et_notT (et_v (p := true) (ev_isi (T := "str") (Dv.ev_ixT (d := .str nm) vu (Dv.ev_int 0) rfl) (by decide)) rfl)) (et_v (ev_notInStrs (Dv.ev_ixT (d := .str nm) vu (Dv.ev_int 0) rfl) vn) (by rw [decide_eq_true hin] <;> rfl))
        have vu4 := vu.mono g4.fx
        have am := ev_callD (K := K) (E := E0) (Dv.ea_cons (Dv.ev_ixT (d := a) vu4 (Dv.ev_int 1) rfl) Dv.ea_nil) (show fIsAmt [a] (.bool (isAmt a)) from ⟨a, rfl, fun es he => by subst he; exact Nat.le_trans (gd_tup ga).1 (by decide), rfl⟩)
        by_cases hok : (isAmt a && !PyData.eqv a (.tuple [.int 0, .int 1])) = true
        · have hok' := hok
          rw [Bool.and_eq_true] at hok
          obtain ⟨h1, h2⟩ := hok
          obtain ⟨i, j, rfl, _⟩ := frac_shape (by
            unfold isAmt at h1
            rw [Bool.and_eq_true] at h1
            exact h1.1)
          refine s_ifF (et_orF (et_notT (et_v am (by rw [h1]))) (et_v (Dv.ev_eqD (Dv.ev_ixT (d := .tuple [.int i, .int j]) vu4 (Dv.ev_int 1) rfl) (Dv.ev_c (dN F4)) (by simp [SeqAt.shaped, PyData.canLay0, PyData.canLayAll0, PyData.depth, PyData.depthAll]) (by decide +kernel)) (by
            rw [show PyData.eqv (.tuple [.int i, .int j]) (.tuple [.int 0, .int 1]) = false by simpa using h2]))) g4.fh fun F5 H5 g5 => ?_
          have vn5 := vn.mono (g4.fx.trans g5.fx)
          refine Dv.s_asg (K := K) (d := .list ((names.drop (names.idxOf nm + 1)).map PyData.str)) (EvL.ev (Dv.el_is (Dv.el_sl vn5 (Dv.eo_some (Dv.ev_I0 (fun _ => .int _) (ev_indexStrs vn5 (Dv.ev_ixT (d := .str nm) (vu4.mono g5.fx) (Dv.ev_int 0) rfl) hin) (Dv.ev_int 1))) Dv.eo_none) ?_)) g5.fh fun nv2 F6 H6 g6 hnv6 => ?_
          · rw [show ((names.idxOf nm : Nat) : Int) + 1 = ((names.idxOf nm + 1 : Nat) : Int) by omega, cutD_from, List.map_drop]
          · dsimp only
            refine ⟨F6, e2.trans (g3.fx.trans (g4.fx.trans (g5.fx.trans g6.fx))), g6.fh, nv2, some u, _, rfl, hnv6, ?_, gg3.trans (g4.trans (g5.trans g6))⟩
            rw [hgo', hok', Bool.true_and]
        · have hok' : (isAmt a && !PyData.eqv a (.tuple [.int 0, .int 1])) = false := by simpa using hok
          have e0 : brewGo m.titles xs = false := by rw [hgo', hok', Bool.false_and]
          cases h1 : isAmt a with
          | false => exact s_ifT (et_orT (et_notF (et_v am (by rw [h1])))) g4.fh fun F5 H5 g5 => no e0 F5 H5 (g4.trans g5)
          | true =>
            obtain ⟨i, j, rfl, _⟩ := frac_shape (by
              unfold isAmt at h1
              rw [Bool.and_eq_true] at h1
              exact h1.1)
            rw [h1, Bool.true_and] at hok'
            exact s_ifT (et_orF (et_notT (et_v am (by rw [h1]))) (et_v (Dv.ev_eqD (Dv.ev_ixT (d := .tuple [.int i, .int j]) vu4 (Dv.ev_int 1) rfl) (Dv.ev_c (dN F4)) (by simp [SeqAt.shaped, PyData.canLay0, PyData.canLayAll0, PyData.depth, PyData.depthAll]) (by decide +kernel)) (by
              rw [show PyData.eqv (.tuple [.int i, .int j]) (.tuple [.int 0, .int 1]) = true by simpa using hok']))) g4.fh fun F5 H5 g5 => no e0 F5 H5 (g4.trans g5)
      · have e0 : brewGo m.titles xs = false := by
          rw [hgo]
          cases hp : isPair2 du with
          | false => rfl
          | true =>
            obtain ⟨nm, a, rfl⟩ : ∃ nm a, du = .tuple [.str nm, a] := by
              unfold isPair2 at hp
              split at hp
              · exact ⟨_, _, rfl⟩
              · cases hp
            have : ¬ nm ∈ names := fun h => hs ⟨nm, a, rfl, h⟩
            show (true && decide (nm ∈ names) && _ && _ && _) = false
            rw [decide_eq_false this] <;> rfl
        refine s_ifT (et_tupn (n := 2) vu (fun es he => by subst he; exact Nat.le_trans (gd_tup hgd).1 (by decide)) (fun es he hl => ?_) fun _ => rfl) g3.fh fun F4 H4 g4 => no e0 F4 H4 g4
        obtain ⟨a, k, rfl⟩ := len2 hl
        subst he
        have va := Dv.ev_ixT (d := a) vu (Dv.ev_int 0) rfl
        by_cases hstr : ∃ nm, a = .str nm
        · obtain ⟨nm, rfl⟩ := hstr
          have : ¬ nm ∈ names := fun h => hs ⟨nm, k, rfl, h⟩
          exact et_orF (et_notT (et_v (p := true) (ev_isi (T := "str") va (by decide)) rfl)) (et_v (ev_notInStrs va vn) (by rw [decide_eq_false this] <;> rfl))
        · have e1 : isD a "str" = false := by
            cases a <;> first | rfl | exact absurd ⟨_, rfl⟩ hstr
          exact et_orT (et_notF (et_v (ev_isi (T := "str") va (by decide)) (by rw [e1])))
    · obtain ⟨nv, it, names, rfl, hnv2, hgo, gg⟩ := p2
      dsimp only
      refine Dv.s_ret (K := K) (d := .bool true) (Dv.ev_bl true) e3 fun y F4 H4 g4 hy => ?_
      cases hy
      have := q F4 H4 (gg.trans g4)
      rw [show isBrew m.titles (.list xs) = brewGo m.titles xs from rfl, hgo, List.drop_length, brewGo] at this
      exact this
  · have e0 : isBrew m.titles d = false := by
      cases d <;> first | rfl | exact absurd ⟨_, rfl⟩ ht
    have e1 : isD d "list" = false := by
      cases d <;> first | rfl | exact absurd ⟨_, rfl⟩ ht
    refine s_ifT (et_notF (et_v (ev_isi (T := "list") vx (by decide)) (by rw [e1]))) e fun F1 H1 g1 => ?_
    have := q F1 H1 g1
    rw [e0] at this
    exact this
end
end R3

set_option Elab.async false
set_option linter.all false
set_option maxRecDepth 100000
set_option maxHeartbeats 4000000
namespace R3
open PySem PySem.Spec PyProof.Rows L2 Dv
section
variable {P : Program} {w : World} {K : PySem.W.Frag} {mg : Str → Option Value} {base : Heap}
/-! ### check_mill of a mill -/
def spCheckMill (C : Addr) : Sp := fun vs H Q _ => ∃ (x dx : Addr) (fs : List (Str × V)), vs = [.ref x] ∧ H x = some (.ins C dx fs) ∧ Q .non H
theorem sc_check_mill : FnScope (["value"] : List Str) (["value"] : List Str) (defScope sCheckMill) := ⟨rfl, rfl, rfl, by decide +kernel, rfl, by decide +kernel, by decide +kernel⟩
theorem ok_check_mill (D : Def K mg "check_mill" sCheckMill ["value"]) (B : Bl mg) {C : Addr} (gC : mg "Mill" = some (.ref C)) (IC : C8.InsC K C) : Cal P w K mg base "check_mill" ["value"] 1 (spCheckMill C) := by
  refine cal_mk D sc_check_mill (fun vs H Q E h => ?_) (fun f cdv A outer s H vs Q E hr h => ?_)
  · obtain ⟨x, dx, fs, rfl, _⟩ := h
    rfl
  obtain ⟨x, dx, fs, rfl, hx, q⟩ := h
  refine ⟨_, (pss_one (ps_if (pt_not (pt_val (pe_callB (C8.call_isC IC) (by rfl) B.isi (by decide +kernel) (pa_cons (pv 0) (pa_cons (pe_glob (v := .ref C) rfl gC rfl) pa_nil))))) (pss_one ps_never) pss_nil)), ?_⟩
  exact ⟨_, rfl, x, dx, fs, rfl, hx, _, rfl, q⟩
/-- check_mill(m), a statement -/
theorem s_check {σ : L2.St} {F H : Hp} {C x : Addr} {m : MillD} {i : Nat} {E : XK} {D : Ends} (hi : σ[i]? = some (some (.ref x))) (hm : MillAt K F C x m) (e : Evl.Ex F H) (k : D.nx σ H) : tDrop (tCall (spCheckMill C) [] E (tCons (tVar i) tNil)) D σ H := by
  obtain ⟨dx, ro, sp, ru, v1, v2, v3, h1, _⟩ := hm.ex
  exact ⟨_, hi, x, dx, _, rfl, e _ _ h1, k⟩
/-- Ground(mill) -/
theorem ev_ground {σ : L2.St} {F : Hp} {C G ml : Addr} {E : XK} {m : MillD} {i : Nat} (hi : σ[i]? = some (some (.ref ml))) (hm : MillAt K F C ml m) (ok : m.Ok) : EvO (fun F x => GroundAt K F G x m) (tMake G (spGround K C G) [] E (tCons (tVar i) tNil)) σ F := fun H e Q q =>
  ⟨_, hi, fun x dx hx hdx hne => ⟨F, x, dx, ml, m, rfl, ex_new2 e hx hdx, ex_none e hx, ex_none e hdx, upd_same, by rw [upd_ne hne, upd_same] <;> rfl, Ne.symm hne, hm, ok, fun F' H' b hg => ⟨rfl, q x F' H' (b.gr hx hdx) hg⟩⟩⟩
theorem GroundAt.mono {F F1 : Hp} {G x : Addr} {m : MillD} (e : Evl.Ex F F1) (h : GroundAt K F G x m) : GroundAt K F1 G x m := by
  obtain ⟨dx, a1, a2, a3, a4, a5, a6, h1, h2⟩ := h.ex
  exact ⟨dx, a1, a2, a3, a4, a5, a6, e _ _ h1, dps_ex e h2⟩
theorem s_asgO {Pd : Hp → Addr → Prop} {σ : L2.St} {F H : Hp} {te : TE} {i : Nat} {D : Ends} (h : EvO Pd te σ F) (e : Evl.Ex F H) (k : ∀ x F' H', Gr F H F' H' → Pd F' x → D.nx (σ.set i (some (.ref x))) H') : tAsg te (gName i) D σ H := h H e _ fun x F' H' g hp => k x F' H' g hp
theorem ev_gfld {σ : L2.St} {F : Hp} {G x : Addr} {m : MillD} {i : Nat} (GC : GroundC K G) (hi : σ[i]? = some (some (.ref x))) (hg : GroundAt K F G x m) :
    EvD K (tFld K (tVar i) "wide") σ F (.int m.stuffs.length) ∧ EvD K (tFld K (tVar i) "titles") σ F (.list (m.titles.map PyData.str)) ∧ EvD K (tFld K (tVar i) "gains") σ F (.list (m.recipes.map fun r => PyData.list ((gainsOf m.names r).map PyData.int))) := by
  obtain ⟨dx, a1, a2, a3, a4, a5, a6, hx, hd⟩ := hg.ex
  cases hd with
  | cons d1 hd =>
  cases hd with
  | cons d2 hd =>
  cases hd with
  | cons d3 hd =>
  cases hd with
  | cons d4 hd =>
  cases hd with
  | cons d5 hd =>
  cases hd with
  | cons d6 hd =>
  refine ⟨ev_fld hi hx GC.cl GC.wide (by rfl) d2, ev_fld hi hx GC.cl GC.titles (by rfl) ?_, ev_fld hi hx GC.cl GC.gains (by rfl) d6⟩
  rw [show m.titles.map PyData.str = m.recipes.map fun z => PyData.str z.1 from by unfold MillD.titles; rw [List.map_map] <;> rfl]
  exact d3
theorem dps_rep {F : Hp} {v : V} {d : PyData} (h : Dp K F v d) : ∀ n : Nat, DpAll K F (List.replicate n v) (List.replicate n d)
  | 0 => .nil
  | n + 1 => .cons h (dps_rep h n)
/-- [x] * n -/
theorem el_rep {σ : L2.St} {F : Hp} {te tn : TE} {d : PyData} {n : Nat} (h : EvD K te σ F d) (hn : EvD K tn σ F (.int n)) (hz : n ≤ 100000) : EvL K (tOp rRep (tLst (tCons te tNil)) tn) σ F (List.replicate n d) := fun H e Q q =>
  Dv.el_lst (K := K) (Dv.ea_cons h Dv.ea_nil) (by simp) H e _ fun l ws F1 H1 g1 hl1 hf1 hl2 hw => by
    obtain ⟨y, rfl, hy⟩ := Dv.one hw
    refine (hn.mono g1.fx) H1 g1.fh _ fun v F2 H2 g2 hv => ?_
    cases hv
    have k2 := g2.keep hl2 hf1
    refine ⟨l, n, [y], rfl, rfl, k2.1, by omega, by omega, Evl.sz_of (by simp; omega), fun p hp => ?_⟩
    have e1 : (List.replicate ((n : Int)).toNat [y]).flatten = List.replicate n y := by
      rw [Int.toNat_natCast]
      exact List.flatten_replicate_singleton
    rw [e1]
    refine q p _ F2 _ ((g1.trans g2).trans (Gr.only g2.fh hp)) (ex_none (g1.trans g2).hx hp) (ex_none g2.fh hp) upd_same ?_
    exact dps_rep (dp_ex g2.fx hy) n
end
end R3

set_option Elab.async false
set_option linter.all false
set_option maxRecDepth 100000
set_option maxHeartbeats 4000000
namespace R3
open PySem PySem.Spec PyProof.Rows L2 Dv
section
variable {P : Program} {w : World} {K : PySem.W.Frag} {mg : Str → Option Value} {base : Heap}
abbrev Fr := Int × Int
def gstep (found : List Fr) (a : Fr) (row : List Int) : List Fr := (found.zip row).map fun z => fplus z.1 (fscaled a z.2)
def rowOf (m : MillD) (n : Str) : List Int := match m.recipes[m.titles.idxOf n]? with
  | some r => gainsOf m.names r
  | none => []
def gainsM (m : MillD) (brew : List (Str × Fr)) : List Fr := brew.foldl (fun f z => gstep f z.2 (rowOf m z.1)) (List.replicate m.stuffs.length (0, 1))
def encBrew (z : Str × Fr) : PyData := .tuple [.str z.1, encF z.2]
/-- the sums stay small -/
def StepsOk (m : MillD) (brew : List (Str × Fr)) : Prop := ∀ n (h : n < brew.length), 0 < brew[n].2.2 ∧ brew[n].2.2 < 1073741824 ∧ ∀ z ∈ (gainsM m (brew.take n)).zip (rowOf m brew[n].1), Sm z.1 ∧ (-1000000000000 < z.2 ∧ z.2 < 1000000000000) ∧ Sm (fscaled brew[n].2 z.2)
theorem rowOf_len {m : MillD} {n : Str} (h : n ∈ m.titles) : (rowOf m n).length = m.stuffs.length := by
  have hl : m.titles.idxOf n < m.recipes.length := by
    have := List.idxOf_lt_length_of_mem h
    unfold MillD.titles at this ⊢
    rwa [List.length_map] at this
  unfold rowOf
  rw [List.getElem?_eq_getElem hl]
  show (gainsOf m.names _).length = _
  unfold gainsOf
  rw [List.length_map, List.length_zip, numbersOf_len, numbersOf_len, Nat.min_self]
  unfold MillD.names
  rw [List.length_map]
theorem gainsM_len {m : MillD} : ∀ (brew : List (Str × Fr)) (acc : List Fr), acc.length = m.stuffs.length → (∀ z ∈ brew, z.1 ∈ m.titles) → (brew.foldl (fun f z => gstep f z.2 (rowOf m z.1)) acc).length = m.stuffs.length
  | [], _, h, _ => h
  | z :: r, acc, h, hb => by
    rw [List.foldl_cons]
    refine gainsM_len r _ ?_ fun y hy => hb y (List.mem_cons_of_mem _ hy)
    unfold gstep
    rw [List.length_map, List.length_zip, h, rowOf_len (hb z List.mem_cons_self), Nat.min_self]
def spGains (K : PySem.W.Frag) (C : Addr) : Sp := fun vs H Q _ => ∃ (F : Hp) (ml : Addr) (m : MillD) (v : V) (brew : List (Str × Fr)), vs = [.ref ml, v] ∧ Evl.Ex F H ∧ MillAt K F C ml m ∧ m.Ok ∧ Dp K F v (.list (brew.map encBrew)) ∧ brew.length ≤ 1000 ∧ (∀ z ∈ brew, z.1 ∈ m.titles) ∧ StepsOk m brew ∧
  ∀ p ws F' H', Gr F H F' H' → H p = none → F' p = none → H' p = some (.lst ws) → DpAll K F' ws ((gainsM m brew).map encF) → Q (.ref p) H'
theorem sc_gains_of : FnScope (["mill", "brew", "ground", "found", "name", "amount", "row", "one", "number"] : List Str) (["mill", "brew"] : List Str) (defScope sGainsOf) := ⟨rfl, rfl, rfl, by decide +kernel, rfl, by decide +kernel, by decide +kernel⟩
theorem ok_gains_of (D : Def K mg "gains_of" sGainsOf ["mill", "brew"]) (B : Bl mg) (NN : Noth K mg) {C G : Addr} (MC : MillC K C) (GC : GroundC K G) (M_Ground : Mak P w K mg base "Ground" G ["mill"] 2 (spGround K C G))
    (C_plus : Cal P w K mg base "plus" ["one", "other"] 3 (spD K fPlus)) (C_scaled : Cal P w K mg base "scaled" ["one", "number"] 3 (spD K fScaled)) : Cal P w K mg base "gains_of" ["mill", "brew"] 4 (spGains K C) := by
  refine cal_mk D sc_gains_of (fun vs H Q E h => ?_) (fun f cdv A outer s H vs Q E hr h => ?_)
  · obtain ⟨F, ml, m, v, brew, rfl, _⟩ := h
    rfl
  obtain ⟨F, ml, m, v, brew, rfl, e, hm, ok, hv, hbl, hin, hst, q⟩ := h
  obtain ⟨aN, gN, dN⟩ := NN.ex
  refine ⟨_, (pss_cons (ps_set (i := 2) sc_gains_of.nd rfl (.inl rfl) (pe_makC M_Ground hr (pa_cons (pv 0) pa_nil)))
      (pss_cons (ps_set (i := 3) sc_gains_of.nd rfl (.inl rfl) (pe_op op_rep (pe_lst (pa_cons (pe_glob (v := .ref aN) rfl gN rfl) pa_nil)) (pe_fld (pv 2) rfl)))
      (pss_cons (ps_for PassesOwn.never rfl (pi_list (pv 1)) (pg_tup (by rfl) (pgs_cons (pg_name (i := 4) sc_gains_of.nd rfl (.inl rfl)) (pgs_cons (pg_name (i := 5) sc_gains_of.nd rfl (.inr rfl)) pgs_nil))) (pss_cons (ps_set (i := 6) sc_gains_of.nd rfl (.inl rfl) (pe_ix ix_list (pe_fld (pv 2) rfl) (pe_bm PySem.F.plainAttrs_list PySem.F.slot_list_index PySem.F.type_list_index mt_index (pe_fld (pv 2) rfl) (pa_cons (pv 4) pa_nil)) (fun _ _ => rfl)))
      (pss_one (ps_setLc (i := 3) (own := [("one", 7), ("number", 8)]) (g := gTup K 2 (gCons (gName 7) (gCons (gName 8) gNil))) rfl sc_gains_of.nd rfl rfl rfl (pi_zipS (by rfl) B.zip (pa_cons (pv 3) (pa_cons (pv 6) pa_nil))) (blkOk_by (own := [("one", 7), ("number", 8)]) (N := ["mill", "brew", "ground", "found", "name", "amount", "row", "one", "number"]) (sc := defScope sGainsOf) (by decide +kernel)) (fun _ _ _ _ _ => (pg_tup (by rfl) (pgs_cons (pg_name (i := 7) sc_gains_of.nd rfl (.inl rfl)) (pgs_cons (pg_name (i := 8) sc_gains_of.nd rfl (.inl rfl)) pgs_nil)))) (te := tCall (spD K fPlus) [] E0 (tCons (tVar 7) (tCons (tCall (spD K fScaled) [] E0 (tCons (tVar 5) (tCons (tVar 8) tNil))) tNil))) (fun _ _ _ _ _ => pts_nil) (fun _ _ _ _ _ => (pe_callC C_plus hr (pa_cons (pv 7) (pa_cons (pe_callC C_scaled hr (pa_cons (pv 5) (pa_cons (pv 8) pa_nil))) pa_nil))))))))
      (pss_one (ps_ret (pv 3)))))), ?_⟩
  have st : start ["mill", "brew", "ground", "found", "name", "amount", "row", "one", "number"] [V.ref ml, v] = [some (.ref ml), some v, none, none, none, none, none, none, none] := rfl
  rw [st]
  refine s_asgO (ev_ground (i := 0) rfl hm ok) e fun gr F1 H1 g1 hg1 => ?_
  have hl8 := ok.s2
  refine Dv.s_asgL (K := K) (el_rep (n := m.stuffs.length) (Dv.ev_c (dN F1)) (ev_gfld (i := 2) GC rfl hg1).1 (by omega)) g1.fh fun p ws F2 H2 g2 hp fp hp2 hws => ?_
  have z0 : gainsM m (brew.take 0) = List.replicate m.stuffs.length (0, 1) := by rw [List.take_zero] <;> rfl
  have hws0 : DpAll K F2 ws ((gainsM m (brew.take 0)).map encF) := by
    rw [z0, List.map_replicate]
    exact hws
  have g12 := g1.trans g2
  have hp1 : H p = none := ex_none g1.hx hp
  refine Dv.s_for (it_list (Dv.ev_var rfl (dp_ex g12.fx hv))) g2.fh
    (fun n σ F' H' => ∃ (p : Addr) (ws : List V) (s4 s5 s6 : Option V), σ = [some (.ref ml), some v, some (.ref gr), some (.ref p), s4, s5, s6, none, none] ∧ H p = none ∧ F' p = none ∧ H' p = some (.lst ws) ∧ DpAll K F' ws ((gainsM m (brew.take n)).map encF) ∧ Gr F H F' H')
    (fun F3 H3 g3 => ⟨p, ws, none, none, none, rfl, hp1, (g3.keep hp2 fp).2, (g3.keep hp2 fp).1, dps_ex g3.fx hws0, g12.trans g3⟩) ?_ (fun σ' F3 H3 e2 e3 p2 => ?_)
  · rintro Fb eb n σ F3 H3 u du F4 H4 hdu e2 e3 ⟨p, ws, s4, s5, s6, rfl, hpH, fp3, hp3, hws3, gg⟩ g4 hu4
    obtain ⟨hn, hdn⟩ := List.getElem?_eq_some_iff.mp hdu
    rw [List.length_map] at hn
    have hdu' : du = encBrew brew[n] := by rw [← hdn, List.getElem_map]
    subst hdu'
    obtain ⟨yn, ya, hyn, hya, ht⟩ := tup2 hu4
    have hmem : brew[n] ∈ brew := List.getElem_mem hn
    have hti := hin _ hmem
    obtain ⟨a1, a2, hz⟩ := hst n hn
    have k4 := g4.keep hp3 fp3
    -- the found list is read: into F
    have g4' := (gg.trans g4).take hpH k4.2 k4.1
    have n4 : NoSq (F4 p) := by rw [k4.2]; exact noSq_none
    generalize hF5 : upd F4 p (.lst ws) = F5 at g4'
    have tr : ∀ {v : V} {d : PyData}, Dp K F4 v d → Dp K F5 v d := fun h => by rw [← hF5]; exact dp_put n4 h
    have e45 : Evl.Ex F4 F5 := by rw [← hF5]; exact Evl.Ex.new k4.2
    have hfound : Dp K F5 (.ref p) (.list ((gainsM m (brew.take n)).map encF)) := by
      rw [← hF5]
      exact .lst (Evl.sq_of upd_same) (dps_put n4 (dps_ex g4.fx hws3))
    have hg5 : GroundAt K F5 G gr m := hg1.mono (g2.fx.trans (eb.trans (e2.trans (g4.fx.trans e45))))
    refine ht 4 5 _ H4 g4.fh _ ?_
    show tSeq _ _ _ [some (.ref ml), some v, some (.ref gr), some (.ref p), some yn, some ya, s6, none, none] H4
    obtain ⟨_, gt, gg5⟩ := ev_gfld (K := K) (σ := [some (.ref ml), some v, some (.ref gr), some (.ref p), some yn, some ya, s6, none, none]) (i := 2) GC rfl hg5
    have hidx : m.titles.idxOf brew[n].1 < m.recipes.length := by
      have := List.idxOf_lt_length_of_mem hti
      unfold MillD.titles at this ⊢
      rwa [List.length_map] at this
    refine Dv.s_asg (K := K) (d := .list ((rowOf m brew[n].1).map PyData.int)) (Dv.ev_ixL gg5 (ev_indexStrs gt (Dv.ev_var rfl (tr hyn)) hti) (by
      unfold atI
      rw [List.length_map, Evl.ixN_nat hidx]
      show (m.recipes.map _)[m.titles.idxOf brew[n].1]? = _
      rw [List.getElem?_map, List.getElem?_eq_getElem hidx]
      unfold rowOf
      rw [List.getElem?_eq_getElem hidx] <;> rfl)) g4'.fh fun rv F6 H6 g6 hrv => ?_
    have gl : (gainsM m (brew.take n)).length = m.stuffs.length := gainsM_len _ _ (List.length_replicate ..) fun z hz => hin z (List.mem_of_mem_take hz)
    have rl := rowOf_len (m := m) hti
    refine Dv.s_asgL (K := K) (F := F6) (ds := (gainsM m (brew.take (n + 1))).map encF) (Dv.el_is (lc_rule (K := K) (σ := [some (.ref ml), some v, some (.ref gr), some (.ref p), some yn, some ya, some rv, none, none]) ((gainsM m (brew.take n)).zip (rowOf m brew[n].1)) (fun z => PyData.tuple [encF z.1, .int z.2]) (fun z => encF (fplus z.1 (fscaled brew[n].2 z.2))) (fun _ => true)
      (it_is (it_zipS (Dv.ea_cons (Dv.ev_var rfl (dp_ex g6.fx hfound)) (Dv.ea_cons (Dv.ev_var rfl hrv) Dv.ea_nil)) (by rw [List.length_map, List.length_map]; omega)) (by rw [List.zip_map, List.map_map] <;> rfl)) (by rw [List.length_zip]; omega) fun z hzm w' F7 e7 hw => ?_) ?_) g6.fh fun p' ws' F7 H7 g7 hp' fp' hp7 hws7 => ?_
    · obtain ⟨z1, z2, hz1, hz2, hzt⟩ := tup2 hw
      obtain ⟨b1, b2, b3⟩ := hz z hzm
      refine ⟨[some (.ref ml), some v, some (.ref gr), some (.ref p), some yn, some ya, some rv, some z1, some z2], fun H e Q q => hzt 7 8 _ H e Q q, rfl, fun H e Q q => q F7 H (Gr.refl e), fun _ => ?_⟩
      exact ev_callD (Dv.ea_cons (Dv.ev_var rfl hz1) (Dv.ea_cons (ev_callD (Dv.ea_cons (Dv.ev_var rfl (dp_ex (g6.fx.trans e7) (tr hya))) (Dv.ea_cons (Dv.ev_var rfl hz2) Dv.ea_nil)) ⟨brew[n].2, z.2, rfl, a1, a2, b2, rfl⟩) Dv.ea_nil)) ⟨_, _, rfl, b1, b3, rfl⟩
    · rw [List.filter_eq_self.mpr fun _ _ => rfl]
      have e1 : gainsM m (brew.take (n + 1)) = gstep (gainsM m (brew.take n)) brew[n].2 (rowOf m brew[n].1) := by
        unfold gainsM
        rw [List.take_succ_eq_append_getElem hn, List.foldl_append] <;> rfl
      rw [e1]
      unfold gstep
      rw [List.map_map] <;> rfl
    · dsimp only
      have gall := g4'.trans (g6.trans g7)
      exact ⟨F7, e2.trans (g4.fx.trans (e45.trans (g6.fx.trans g7.fx))), g7.fh, p', ws', some yn, some ya, some rv, rfl, ex_none (g4'.trans g6).hx hp', fp', hp7, hws7, gall⟩
  · obtain ⟨p, ws, s4, s5, s6, rfl, hpH, fp3, hp3, hws3, gg⟩ := p2
    rw [List.length_map, List.take_length] at hws3
    exact ⟨_, rfl, q p ws F3 H3 gg hpH fp3 hp3 hws3⟩
end
end R3

set_option Elab.async false
set_option linter.all false
set_option maxRecDepth 100000
set_option maxHeartbeats 4000000
namespace R3
open PySem PySem.Spec PyProof.Rows L2 Dv
section
variable {P : Program} {w : World} {K : PySem.W.Frag} {mg : Str → Option Value} {base : Heap}
/-- a brew that is_brew takes and whose sums stay small -/
structure BrewOk (m : MillD) (brew : List (Str × Fr)) : Prop where
  len : brew.length ≤ 1000
  inn : ∀ z ∈ brew, z.1 ∈ m.titles
  steps : StepsOk m brew
  good : gd (.list (brew.map encBrew)) = true
  isb : isBrew m.titles (.list (brew.map encBrew)) = true
theorem ev_isBrew {σ : L2.St} {F : Hp} {te : TE} {C ml : Addr} {m : MillD} {d : PyData} {i : Nat} {E : XK} (hi : σ[i]? = some (some (.ref ml))) (hm : MillAt K F C ml m) (h8 : m.recipes.length ≤ 8) (h : EvD K te σ F d) (hg : gd d = true) :
    EvD K (tCall (spIsBrew K C) [] E (tCons (tVar i) (tCons te tNil))) σ F (.bool (isBrew m.titles d)) := fun H e Q q =>
  ⟨_, hi, h H e _ fun v F1 H1 g1 hv => ⟨F1, ml, m, v, d, rfl, g1.fh, hm.mono g1.fx, hv, hg, h8, fun F' H' g => q _ F' H' (g1.trans g) (.bl _)⟩⟩
theorem el_gains {σ : L2.St} {F : Hp} {te : TE} {C ml : Addr} {m : MillD} {brew : List (Str × Fr)} {i : Nat} {E : XK} (hi : σ[i]? = some (some (.ref ml))) (hm : MillAt K F C ml m) (ok : m.Ok) (bo : BrewOk m brew) (h : EvD K te σ F (.list (brew.map encBrew))) :
    EvL K (tCall (spGains K C) [] E (tCons (tVar i) (tCons te tNil))) σ F ((gainsM m brew).map encF) := fun H e Q q =>
  ⟨_, hi, h H e _ fun v F1 H1 g1 hv => ⟨F1, ml, m, v, brew, rfl, g1.fh, hm.mono g1.fx, ok, hv, bo.len, bo.inn, bo.steps, fun p ws F' H' g h1 h2 h3 h4 => q p ws F' H' (g1.trans g) (ex_none g1.hx h1) h2 h3 h4⟩⟩
def spGain (K : PySem.W.Frag) (C : Addr) : Sp := fun vs H Q _ => ∃ (F : Hp) (ml : Addr) (m : MillD) (v : V) (brew : List (Str × Fr)), vs = [.ref ml, v] ∧ Evl.Ex F H ∧ MillAt K F C ml m ∧ m.Ok ∧ Dp K F v (.list (brew.map encBrew)) ∧ BrewOk m brew ∧
  ∀ p ws F' H', Gr F H F' H' → H p = none → F' p = none → H' p = some (.lst ws) → DpAll K F' ws ((gainsM m brew).map encF) → Q (.ref p) H'
theorem sc_gain : FnScope (["mill", "brew"] : List Str) (["mill", "brew"] : List Str) (defScope sGain) := ⟨rfl, rfl, rfl, by decide +kernel, rfl, by decide +kernel, by decide +kernel⟩
theorem ok_gain (D : Def K mg "gain" sGain ["mill", "brew"]) {C : Addr} (C_check_mill : Cal P w K mg base "check_mill" ["value"] 1 (spCheckMill C)) (C_is_brew : Cal P w K mg base "is_brew" ["mill", "value"] 4 (spIsBrew K C)) (C_gains_of : Cal P w K mg base "gains_of" ["mill", "brew"] 4 (spGains K C)) :
    Cal P w K mg base "gain" ["mill", "brew"] 5 (spGain K C) := by
  refine cal_mk D sc_gain (fun vs H Q E h => ?_) (fun f cdv A outer s H vs Q E hr h => ?_)
  · obtain ⟨F, ml, m, v, brew, rfl, _⟩ := h
    rfl
  obtain ⟨F, ml, m, v, brew, rfl, e, hm, ok, hv, bo, q⟩ := h
  refine ⟨_, (pss_cons (ps_expr (pe_callC C_check_mill hr (pa_cons (pv 0) pa_nil)))
      (pss_cons (ps_if (pt_not (pt_val (pe_callC C_is_brew hr (pa_cons (pv 0) (pa_cons (pv 1) pa_nil))))) (pss_one ps_never) pss_nil)
      (pss_one (ps_ret (pe_callC C_gains_of hr (pa_cons (pv 0) (pa_cons (pv 1) pa_nil))))))), ?_⟩
  have st : start ["mill", "brew"] [V.ref ml, v] = [some (.ref ml), some v] := rfl
  rw [st]
  refine s_check (i := 0) rfl hm e ?_
  refine s_ifF (et_notT (et_v (ev_isBrew (i := 0) (σ := [some (.ref ml), some v]) rfl hm ok.r2 (Dv.ev_var (i := 1) rfl hv) bo.good) (by rw [bo.isb]))) e fun F1 H1 g1 => ?_
  exact Dv.s_retL (K := K) (el_gains (i := 0) rfl (hm.mono g1.fx) ok bo (Dv.ev_var (i := 1) rfl (dp_ex g1.fx hv))) g1.fh fun p ws F2 H2 g2 h1 h2 h3 h4 => q p ws F2 H2 (g1.trans g2) (ex_none g1.hx h1) h2 h3 h4
/-! ### is_loop -/
theorem lay_fr : ∀ xs : List Fr, PyData.canLayAll0 (xs.map encF) = true
  | [] => by simp [PyData.canLayAll0]
  | x :: xs => by simp [PyData.canLayAll0, encF, PyData.canLay0, lay_fr xs]
theorem dep_fr : ∀ xs : List Fr, PyData.depthAll (xs.map encF) ≤ 1
  | [] => by simp [PyData.depthAll]
  | x :: xs => by
    have := dep_fr xs
    simp only [List.map_cons, PyData.depthAll, encF, PyData.depth]
    omega
theorem shaped_fr (xs : List Fr) : SeqAt.shaped (.list (xs.map encF)) = true := by
  have := dep_fr xs
  show ((PyData.list _).canLay0 && decide ((PyData.list _).depth ≤ 64)) = true
  rw [Bool.and_eq_true]
  refine ⟨by simp only [PyData.canLay0]; exact lay_fr xs, decide_eq_true ?_⟩
  simp only [PyData.depth]
  omega
def loopOf (gs : List Fr) : Bool := (gs.filter fun x => decide (x.1 < 0)).isEmpty && !(gs.filter fun x => decide (0 < x.1)).isEmpty
def spIsLoop (K : PySem.W.Frag) (C : Addr) : Sp := fun vs H Q _ => ∃ (F : Hp) (ml : Addr) (m : MillD) (v : V) (d : PyData) (r : Bool), vs = [.ref ml, v] ∧ Evl.Ex F H ∧ MillAt K F C ml m ∧ m.Ok ∧ Dp K F v d ∧ gd d = true ∧
  ((isBrew m.titles d = false ∧ r = false) ∨ ∃ brew, d = .list (brew.map encBrew) ∧ BrewOk m brew ∧ r = loopOf (gainsM m brew)) ∧ ∀ F' H', Gr F H F' H' → Q (.bl r) H'
theorem sc_is_loop : FnScope (["mill", "value", "gains", "one"] : List Str) (["mill", "value"] : List Str) (defScope sIsLoop) := ⟨rfl, rfl, rfl, by decide +kernel, rfl, by decide +kernel, by decide +kernel⟩
theorem ok_is_loop (D : Def K mg "is_loop" sIsLoop ["mill", "value"]) {C : Addr} (C_check_mill : Cal P w K mg base "check_mill" ["value"] 1 (spCheckMill C)) (C_is_brew : Cal P w K mg base "is_brew" ["mill", "value"] 4 (spIsBrew K C)) (C_gains_of : Cal P w K mg base "gains_of" ["mill", "brew"] 4 (spGains K C)) :
    Cal P w K mg base "is_loop" ["mill", "value"] 5 (spIsLoop K C) := by
  refine cal_mk D sc_is_loop (fun vs H Q E h => ?_) (fun f cdv A outer s H vs Q E hr h => ?_)
  · obtain ⟨F, ml, m, v, d, r, rfl, _⟩ := h
    rfl
  obtain ⟨F, ml, m, v, d, r, rfl, e, hm, ok, hv, hg, hcase, q⟩ := h
  refine ⟨_, (pss_cons (ps_expr (pe_callC C_check_mill hr (pa_cons (pv 0) pa_nil)))
      (pss_cons (ps_if (pt_not (pt_val (pe_callC C_is_brew hr (pa_cons (pv 0) (pa_cons (pv 1) pa_nil))))) (pss_one (ps_ret pe_bl)) pss_nil)
      (pss_cons (ps_set (i := 2) sc_is_loop.nd rfl (.inl rfl) (pe_callC C_gains_of hr (pa_cons (pv 0) (pa_cons (pv 1) pa_nil))))
      (pss_one (ps_ret (pe_and (pe_cmpR (op_eqD hr.1.units) (pe_lc (own := [("one", 3)]) (g := gName 3) rfl sc_is_loop.nd (pi_list (pv 2)) (blkOk_by (own := [("one", 3)]) (N := ["mill", "value", "gains", "one"]) (sc := defScope sIsLoop) (by decide +kernel)) (fun _ _ _ _ _ => (pg_name (i := 3) sc_is_loop.nd rfl (.inl rfl)))  (fun _ _ _ _ _ => (pts_one (pt_cmpR op_lt (pe_ix (r := rIxT K) ix_tup (pv 3) pe_int (fun _ _ => rfl)) pe_int (nomark _)))) (fun _ _ _ _ _ => (pv 3))) (pe_lst pa_nil) (nomark _)) (pe_one (pe_cmpR (op_neD hr.1.units) (pe_lc (own := [("one", 3)]) (g := gName 3) rfl sc_is_loop.nd (pi_list (pv 2)) (blkOk_by (own := [("one", 3)]) (N := ["mill", "value", "gains", "one"]) (sc := defScope sIsLoop) (by decide +kernel)) (fun _ _ _ _ _ => (pg_name (i := 3) sc_is_loop.nd rfl (.inl rfl)))  (fun _ _ _ _ _ => (pts_one (pt_cmpR op_gt (pe_ix (r := rIxT K) ix_tup (pv 3) pe_int (fun _ _ => rfl)) pe_int (nomark _)))) (fun _ _ _ _ _ => (pv 3))) (pe_lst pa_nil) (nomark _))))))))), ?_⟩
  have st : start ["mill", "value", "gains", "one"] [V.ref ml, v] = [some (.ref ml), some v, none, none] := rfl
  rw [st]
  refine s_check (i := 0) rfl hm e ?_
  have ib := ev_isBrew (K := K) (E := E0) (i := 0) (σ := [some (.ref ml), some v, none, none]) rfl hm ok.r2 (Dv.ev_var (i := 1) rfl hv) hg
  rcases hcase with ⟨hb, rfl⟩ | ⟨brew, rfl, bo, rfl⟩
  · exact s_ifT (et_notF (et_v ib (by rw [hb]))) e fun F1 H1 g1 => q F1 H1 g1
  · refine s_ifF (et_notT (et_v ib (by rw [bo.isb]))) e fun F1 H1 g1 => ?_
    refine Dv.s_asg (K := K) (EvL.ev (el_gains (i := 0) rfl (hm.mono g1.fx) ok bo (Dv.ev_var (i := 1) rfl (dp_ex g1.fx hv)))) g1.fh fun gv F2 H2 g2 hgv => ?_
    have cmp : ∀ (f : Fr → Bool) (rr : R2), (∀ (σ2 : L2.St) (F3 : Hp) (v3 : V) (z : Fr), σ2[3]? = some (some v3) → Dp K F3 v3 (encF z) → EvD K (tOp rr (tOp (rIxT K) (tVar 3) (tC (.int 0))) (tC (.int 0))) σ2 F3 (.bool (f z))) →
        EvL K (tLc (iList K (tVar 2)) (gName 3) (tTest (tOp rr (tOp (rIxT K) (tVar 3) (tC (.int 0))) (tC (.int 0)))) (tVar 3) [3]) [some (.ref ml), some v, some gv, none] F2 (((gainsM m brew).filter f).map encF) := fun f rr hrr =>
      lc_rule (K := K) (σ := [some (.ref ml), some v, some gv, none]) (gainsM m brew) encF encF f (it_list (Dv.ev_var rfl hgv)) (by
        have : (gainsM m brew).length = m.stuffs.length := gainsM_len _ _ (List.length_replicate ..) bo.inn
        have := ok.s2
        omega) fun z _ v3 F3 e3 hv3 => ⟨[some (.ref ml), some v, some gv, some v3], fun _ _ _ q => q, rfl, et_test (hrr _ F3 v3 z rfl hv3), fun _ => Dv.ev_var rfl hv3⟩
    have c1 := cmp (fun x => decide (x.1 < 0)) (rI0 fun i j => .bl (decide (i < j))) fun σ2 F3 v3 z h3 hd => Dv.ev_I0 (fun _ => .bl _) (Dv.ev_ixT (d := .int z.1) (Dv.ev_var h3 hd) (Dv.ev_int 0) rfl) (Dv.ev_int 0)
    have c2 := cmp (fun x => decide (0 < x.1)) (rI0 fun i j => .bl (decide (j < i))) fun σ2 F3 v3 z h3 hd => Dv.ev_I0 (fun _ => .bl _) (Dv.ev_ixT (d := .int z.1) (Dv.ev_var h3 hd) (Dv.ev_int 0) rfl) (Dv.ev_int 0)
    refine Dv.s_ret (K := K) (d := .bool (loopOf (gainsM m brew))) (Dv.ev_is (Dv.ev_andV (Dv.ev_eqD (EvL.ev c1) (EvL.ev (Dv.el_lst Dv.ea_nil (by simp))) (shaped_fr _) shaped_nil) fun _ => Dv.ev_neD (EvL.ev c2) (EvL.ev (Dv.el_lst Dv.ea_nil (by simp))) (shaped_fr _) shaped_nil) (by
      rw [eqv_nil, eqv_nil, List.isEmpty_map, List.isEmpty_map] <;> rfl)) g2.fh fun y F3 H3 g3 hy => ?_
    cases hy
    exact q F3 H3 (g1.trans (g2.trans g3))
end
end R3

set_option Elab.async false
set_option linter.all false
set_option maxRecDepth 100000
set_option maxHeartbeats 4000000
namespace R3
open PySem PySem.Spec PyProof.Rows L2 Dv
section
variable {P : Program} {w : World} {K : PySem.W.Frag} {mg : Str → Option Value} {base : Heap}
def nothD : PyData := .tuple [.int 0, .int 1]
def priceBad (d : PyData) : Bool := !isAmt d || PyData.eqv d nothD
theorem lay_filter (f : PyData → Bool) : ∀ xs : List PyData, PyData.canLayAll0 xs = true → PyData.canLayAll0 (xs.filter f) = true
  | [], h => h
  | x :: xs, h => by
    simp only [PyData.canLayAll0, Bool.and_eq_true] at h
    have := lay_filter f xs h.2
    rw [List.filter_cons]
    split
    · simp only [PyData.canLayAll0, Bool.and_eq_true]
      exact ⟨h.1, this⟩
    · exact this
theorem dep_filter (f : PyData → Bool) : ∀ xs : List PyData, PyData.depthAll (xs.filter f) ≤ PyData.depthAll xs
  | [] => Nat.le_refl _
  | x :: xs => by
    have := dep_filter f xs
    rw [List.filter_cons]
    split
    · simp only [PyData.depthAll]
      omega
    · simp only [PyData.depthAll]
      omega
theorem shaped_filter {xs : List PyData} (f : PyData → Bool) (h : SeqAt.shaped (.list xs) = true) : SeqAt.shaped (.list (xs.filter f)) = true := by
  have h' : ((PyData.list xs).canLay0 && decide ((PyData.list xs).depth ≤ 64)) = true := h
  show ((PyData.list _).canLay0 && decide ((PyData.list _).depth ≤ 64)) = true
  rw [Bool.and_eq_true] at h' ⊢
  obtain ⟨h1, h2⟩ := h'
  have h2 := of_decide_eq_true h2
  simp only [PyData.canLay0, PyData.depth] at h1 h2 ⊢
  have := dep_filter f xs
  exact ⟨lay_filter f xs h1, decide_eq_true (by omega)⟩
def worth (ps : List Fr) (row : List Int) : Fr := (ps.zip row).foldl (fun t z => fplus t (fscaled z.1 z.2)) (0, 1)
def fairOf (m : MillD) (ps : List Fr) : Bool := m.recipes.all fun r => decide ((worth ps (gainsOf m.names r)).1 ≤ 0)
/-- the sums stay small -/
def WorthOk (m : MillD) (ps : List Fr) : Prop := ∀ r ∈ m.recipes, ∀ n (h : n < (ps.zip (gainsOf m.names r)).length), Sm (((ps.zip (gainsOf m.names r)).take n).foldl (fun t z => fplus t (fscaled z.1 z.2)) (0, 1)) ∧
  0 < (ps.zip (gainsOf m.names r))[n].1.2 ∧ (ps.zip (gainsOf m.names r))[n].1.2 < 1073741824 ∧ (-1000000000000 < (ps.zip (gainsOf m.names r))[n].2 ∧ (ps.zip (gainsOf m.names r))[n].2 < 1000000000000) ∧ Sm (fscaled (ps.zip (gainsOf m.names r))[n].1 (ps.zip (gainsOf m.names r))[n].2)
/-- what is_fair says of the datum -/
inductive FairSays (m : MillD) : PyData → Bool → Prop
  | no {d : PyData} : (∀ xs, d ≠ .list xs) → FairSays m d false
  | len {xs : List PyData} : xs.length ≠ m.stuffs.length → FairSays m (.list xs) false
  | bad {xs : List PyData} : xs.length = m.stuffs.length → (xs.any priceBad) = true → FairSays m (.list xs) false
  | good {ps : List Fr} : ps.length = m.stuffs.length → ((ps.map encF).any priceBad) = false → WorthOk m ps → FairSays m (.list (ps.map encF)) (fairOf m ps)
def spIsFair (K : PySem.W.Frag) (C : Addr) : Sp := fun vs H Q _ => ∃ (F : Hp) (ml : Addr) (m : MillD) (v : V) (d : PyData) (r : Bool), vs = [.ref ml, v] ∧ Evl.Ex F H ∧ MillAt K F C ml m ∧ m.Ok ∧ Dp K F v d ∧ gd d = true ∧ SeqAt.shaped d = true ∧ FairSays m d r ∧ ∀ F' H', Gr F H F' H' → Q (.bl r) H'
theorem sc_is_fair : FnScope (["mill", "value", "ground", "one", "row", "total", "price", "number"] : List Str) (["mill", "value"] : List Str) (defScope sIsFair) := ⟨rfl, rfl, rfl, by decide +kernel, rfl, by decide +kernel, by decide +kernel⟩
theorem ok_is_fair (D : Def K mg "is_fair" sIsFair ["mill", "value"]) (B : Bl mg) (NN : Noth K mg) {C G : Addr} (GC : GroundC K G) (M_Ground : Mak P w K mg base "Ground" G ["mill"] 2 (spGround K C G)) (C_check_mill : Cal P w K mg base "check_mill" ["value"] 1 (spCheckMill C))
    (C_is_amount : Cal P w K mg base "is_amount" ["value"] 3 (spD K fIsAmt)) (C_plus : Cal P w K mg base "plus" ["one", "other"] 3 (spD K fPlus)) (C_scaled : Cal P w K mg base "scaled" ["one", "number"] 3 (spD K fScaled)) : Cal P w K mg base "is_fair" ["mill", "value"] 4 (spIsFair K C) := by
  refine cal_mk D sc_is_fair (fun vs H Q E h => ?_) (fun f cdv A outer s H vs Q E hr h => ?_)
  · obtain ⟨F, ml, m, v, d, r, rfl, _⟩ := h
    rfl
  obtain ⟨F, ml, m, v, d, r, rfl, e, hm, ok, hv, hg, hsh, hs, q⟩ := h
  obtain ⟨aN, gN, dN⟩ := NN.ex
  refine ⟨_, (pss_cons (ps_expr (pe_callC C_check_mill hr (pa_cons (pv 0) pa_nil)))
      (pss_cons (ps_set (i := 2) sc_is_fair.nd rfl (.inl rfl) (pe_makC M_Ground hr (pa_cons (pv 0) pa_nil)))
      (pss_cons (ps_if (PW.pt (pw_or (pt_not (pt_val (pe_callB call_isi (by rfl) B.isi (by decide +kernel) (pa_cons (pv 1) (pa_cons (pe_bltn (v := .ty "list") (by rfl) B.list (by decide +kernel) rfl) pa_nil))))) (pw_or1 (pt_cmpR op_ne (pe_callB call_len (by rfl) B.len (by decide +kernel) (pa_cons (pv 1) pa_nil)) (pe_fld (pv 2) rfl) (nomark _))))) (pss_one (ps_ret pe_bl)) pss_nil)
      (pss_cons (ps_if (pt_cmpR (op_neD hr.1.units) (pe_lc (own := [("one", 3)]) (g := gName 3) rfl sc_is_fair.nd (pi_list (pv 1)) (blkOk_by (own := [("one", 3)]) (N := ["mill", "value", "ground", "one", "row", "total", "price", "number"]) (sc := defScope sIsFair) (by decide +kernel)) (fun _ _ _ _ _ => (pg_name (i := 3) sc_is_fair.nd rfl (.inl rfl)))  (fun _ _ _ _ _ => (pts_one (PW.pt (pw_or (pt_not (pt_val (pe_callC C_is_amount hr (pa_cons (pv 3) pa_nil)))) (pw_or1 (pt_cmpR (r := rEqD K) (op_eqD hr.1.units) (pv 3) (pe_glob (v := .ref aN) rfl gN rfl) (nomark _))))))) (fun _ _ _ _ _ => (pv 3))) (pe_lst pa_nil) (nomark _)) (pss_one (ps_ret pe_bl)) pss_nil)
      (pss_cons (ps_for PassesOwn.never rfl (pi_list (pe_fld (pv 2) rfl)) (pg_name (i := 4) sc_is_fair.nd rfl (.inl rfl)) (pss_cons (ps_set (i := 5) sc_is_fair.nd rfl (.inl rfl) (pe_glob (v := .ref aN) rfl gN rfl))
      (pss_cons (ps_for PassesOwn.never rfl (pi_zipS (by rfl) B.zip (pa_cons (pv 1) (pa_cons (pv 4) pa_nil))) (pg_tup (by rfl) (pgs_cons (pg_name (i := 6) sc_is_fair.nd rfl (.inl rfl)) (pgs_cons (pg_name (i := 7) sc_is_fair.nd rfl (.inl rfl)) pgs_nil))) (pss_one (ps_set (i := 5) sc_is_fair.nd rfl (.inl rfl) (pe_callC C_plus hr (pa_cons (pv 5) (pa_cons (pe_callC C_scaled hr (pa_cons (pv 6) (pa_cons (pv 7) pa_nil))) pa_nil))))))
      (pss_one (ps_if (pt_cmpR op_gt (pe_ix ix_tup (pv 5) pe_int (fun _ _ => rfl)) pe_int (nomark _)) (pss_one (ps_ret pe_bl)) pss_nil)))))
      (pss_one (ps_ret pe_bl))))))), ?_⟩
  have st : start ["mill", "value", "ground", "one", "row", "total", "price", "number"] [V.ref ml, v] = [some (.ref ml), some v, none, none, none, none, none, none] := rfl
  rw [st]
  have hl8 := ok.s2
  refine s_check (i := 0) rfl hm e ?_
  refine s_asgO (ev_ground (i := 0) rfl hm ok) e fun gr F1 H1 g1 hg1 => ?_
  have vx := Dv.ev_var (K := K) (σ := [some (.ref ml), some v, some (.ref gr), none, none, none, none, none]) (i := 1) rfl (dp_ex g1.fx hv)
  obtain ⟨gw, _, gg⟩ := ev_gfld (K := K) (σ := [some (.ref ml), some v, some (.ref gr), none, none, none, none, none]) (i := 2) GC rfl hg1
  have bad : ∀ xs : List PyData, Dp K F1 v (.list xs) → gds xs = true → xs.length ≤ 30000 → EvL K (tLc (iList K (tVar 1)) (gName 3) (tOr (tNot (tTest (tCall (spD K fIsAmt) [] E0 (tCons (tVar 3) tNil)))) (tTest (tOp (rEqD K) (tVar 3) (tC (.ref aN))))) (tVar 3) [3]) [some (.ref ml), some v, some (.ref gr), none, none, none, none, none] F1 (xs.filter priceBad) := by
    intro xs hx hgx hxl
    refine Dv.el_is (lc_rule (K := K) (σ := [some (.ref ml), some v, some (.ref gr), none, none, none, none, none]) xs (fun x => x) (fun x => x) priceBad (by
      rw [List.map_id']
      exact it_list (Dv.ev_var rfl hx)) (by omega) fun x hxm u F2 e2 hu => ⟨[some (.ref ml), some v, some (.ref gr), some u, none, none, none, none], fun _ _ _ q => q, rfl, ?_, fun _ => Dv.ev_var rfl hu⟩) (by rw [List.map_id'])
    have gx := gds_mem hgx hxm
    have am := ev_callD (K := K) (E := E0) (σ := [some (.ref ml), some v, some (.ref gr), some u, none, none, none, none]) (Dv.ea_cons (Dv.ev_var (i := 3) rfl hu) Dv.ea_nil) (show fIsAmt [x] (.bool (isAmt x)) from ⟨x, rfl, fun es he => by subst he; exact Nat.le_trans (gd_tup gx).1 (by decide), rfl⟩)
    refine Dv.et_or (p := !isAmt x) (et_not (et_test am)) fun hn => ?_
    have ha : isAmt x = true := by simpa using hn
    obtain ⟨i, j, rfl, _⟩ := frac_shape (by
      unfold isAmt at ha
      rw [Bool.and_eq_true] at ha
      exact ha.1)
    exact et_test (Dv.ev_eqD (Dv.ev_var rfl hu) (Dv.ev_c (dN F2)) (by simp [SeqAt.shaped, PyData.canLay0, PyData.canLayAll0, PyData.depth, PyData.depthAll]) (by decide +kernel))
  have lt0 := ev_isi (T := "list") vx (by decide)
  cases hs with
  | no hno =>
    have e1 : isD d "list" = false := by
      cases d <;> first | rfl | exact absurd rfl (hno _)
    exact s_ifT (et_orT (et_notF (et_v lt0 (by rw [e1])))) g1.fh fun F2 H2 g2 => q F2 H2 (g1.trans g2)
  | @len xs hne =>
    obtain ⟨hxl, _⟩ := gd_list hg
    exact s_ifT (et_orF (et_notT (et_v (p := true) lt0 rfl)) (et_v (Dv.ev_neI (ev_len vx rfl (by omega)) gw) (by
      congr 1
      simp only [bne_iff_ne, ne_eq]
      omega))) g1.fh fun F2 H2 g2 => q F2 H2 (g1.trans g2)
  | @bad xs hlen hany =>
    obtain ⟨hxl, hgs⟩ := gd_list hg
    refine s_ifF (et_orF (et_notT (et_v (p := true) lt0 rfl)) (et_v (Dv.ev_neI (ev_len vx rfl (by omega)) gw) (by
      congr 1
      simp only [bne_eq_false_iff_eq]
      omega))) g1.fh fun F2 H2 g2 => ?_
    refine s_ifT (et_v (Dv.ev_neD (EvL.ev ((bad xs (dp_ex g1.fx hv) hgs hxl).mono g2.fx)) (EvL.ev (Dv.el_lst Dv.ea_nil (by simp))) (shaped_filter _ hsh) shaped_nil) (by
      rw [eqv_nil]
      congr 1
      obtain ⟨y, hy, hb⟩ := List.any_eq_true.mp hany
      have : xs.filter priceBad ≠ [] := fun z => by
        have := List.mem_filter.mpr ⟨hy, hb⟩
        rw [z] at this
        cases this
      simpa using this)) g2.fh fun F3 H3 g3 => q F3 H3 (g1.trans (g2.trans g3))
  | @good ps hlen hany hwo =>
    obtain ⟨hxl, hgs⟩ := gd_list hg
    refine s_ifF (et_orF (et_notT (et_v (p := true) lt0 rfl)) (et_v (Dv.ev_neI (ev_len vx rfl (by omega)) gw) (by
      congr 1
      simp only [bne_eq_false_iff_eq]
      rw [List.length_map]
      omega))) g1.fh fun F2 H2 g2 => ?_
    have em : (ps.map encF).filter priceBad = [] := by
      rw [List.filter_eq_nil_iff]
      intro a ha hb
      have := List.any_eq_true.mpr ⟨a, ha, hb⟩
      rw [hany] at this
      cases this
    refine s_ifF (et_v (Dv.ev_neD (EvL.ev ((bad (ps.map encF) (dp_ex g1.fx hv) hgs hxl).mono g2.fx)) (EvL.ev (Dv.el_lst Dv.ea_nil (by simp))) (shaped_filter _ hsh) shaped_nil) (by rw [em, eqv_nil] <;> rfl)) g2.fh fun F3 H3 g3 => ?_
    have g13 := g1.trans (g2.trans g3)
    refine Dv.s_for (it_list (gg.mono (g2.fx.trans g3.fx))) g3.fh
      (fun n σ F' H' => ∃ (s4 s5 s6 s7 : Option V), σ = [some (.ref ml), some v, some (.ref gr), none, s4, s5, s6, s7] ∧ (∀ r ∈ m.recipes.take n, (worth ps (gainsOf m.names r)).1 ≤ 0) ∧ Gr F H F' H')
      (fun F4 H4 g4 => ⟨none, none, none, none, rfl, (by rw [List.take_zero]; exact fun _ h => nomatch h), g13.trans g4⟩) ?_ (fun σ' F4 H4 e2 e3 p2 => ?_)
    · rintro Fb eb n σ F4 H4 u du F5 H5 hdu e2 e3 ⟨s4, s5, s6, s7, rfl, hall, g04⟩ g5 hu5
      obtain ⟨hn, hdn⟩ := List.getElem?_eq_some_iff.mp hdu
      rw [List.length_map] at hn
      have hdu' : du = .list ((gainsOf m.names m.recipes[n]).map PyData.int) := by rw [← hdn, List.getElem_map]
      subst hdu'
      have hmem : m.recipes[n] ∈ m.recipes := List.getElem_mem hn
      have hw := hwo _ hmem
      have glen : (gainsOf m.names m.recipes[n]).length = m.stuffs.length := by
        unfold gainsOf
        rw [List.length_map, List.length_zip, numbersOf_len, numbersOf_len, Nat.min_self]
        unfold MillD.names
        rw [List.length_map]
      have g05 := g04.trans g5
      show tSeq _ _ _ [some (.ref ml), some v, some (.ref gr), none, some u, s5, s6, s7] H5
      refine Dv.s_asg (K := K) (d := encF (0, 1)) (Dv.ev_c (dN F5)) g5.fh fun t0 F6 H6 g6 ht0 => ?_
      have g06 := g05.trans g6
      refine Dv.s_for (K := K) (it_is (it_zipS (Dv.ea_cons (Dv.ev_var (i := 1) rfl (dp_ex g06.fx hv)) (Dv.ea_cons (Dv.ev_var (i := 4) rfl (dp_ex g6.fx hu5)) Dv.ea_nil)) (by rw [List.length_map, List.length_map]; omega)) (show _ = (ps.zip (gainsOf m.names m.recipes[n])).map fun z => PyData.tuple [encF z.1, .int z.2] by rw [List.zip_map, List.map_map] <;> rfl)) g6.fh
        (fun k σ F' H' => ∃ (tv : V) (s6 s7 : Option V), σ = [some (.ref ml), some v, some (.ref gr), none, some u, some tv, s6, s7] ∧ Dp K F' tv (encF (((ps.zip (gainsOf m.names m.recipes[n])).take k).foldl (fun t z => fplus t (fscaled z.1 z.2)) (0, 1))) ∧ Gr F H F' H')
        (fun F7 H7 g7 => ⟨t0, s6, s7, rfl, by rw [List.take_zero]; exact dp_ex g7.fx ht0, g06.trans g7⟩) ?_ (fun σ' F7 H7 e4 e5 p7 => ?_)
      · rintro Fc ec k σ F7 H7 u2 d2 F8 H8 hd2 e4 e5 ⟨tv, s6, s7, rfl, htv, g07⟩ g8 hu8
        obtain ⟨hk, hdk⟩ := List.getElem?_eq_some_iff.mp hd2
        rw [List.length_map] at hk
        have hd2' : d2 = PyData.tuple [encF (ps.zip (gainsOf m.names m.recipes[n]))[k].1, .int (ps.zip (gainsOf m.names m.recipes[n]))[k].2] := by rw [← hdk, List.getElem_map]
        subst hd2'
        obtain ⟨y1, y2, hy1, hy2, ht⟩ := tup2 hu8
        obtain ⟨w1, w2, w3, w4, w5⟩ := hw k hk
        refine ht 6 7 _ H8 g8.fh _ ?_
        show tAsg _ _ _ [some (.ref ml), some v, some (.ref gr), none, some u, some tv, some y1, some y2] H8
        refine Dv.s_asg (K := K) (F := F8) (d := encF (((ps.zip (gainsOf m.names m.recipes[n])).take (k + 1)).foldl (fun t z => fplus t (fscaled z.1 z.2)) (0, 1))) (Dv.ev_is (ev_callD (Dv.ea_cons (Dv.ev_var rfl (dp_ex g8.fx htv)) (Dv.ea_cons (ev_callD (Dv.ea_cons (Dv.ev_var rfl hy1) (Dv.ea_cons (Dv.ev_var rfl hy2) Dv.ea_nil)) ⟨_, _, rfl, w2, w3, w4, rfl⟩) Dv.ea_nil)) ⟨_, _, rfl, w1, w5, rfl⟩) (by
          rw [List.take_succ_eq_append_getElem hk, List.foldl_append] <;> rfl)) g8.fh fun tv2 F9 H9 g9 htv2 => ?_
        dsimp only
        exact ⟨F9, e4.trans (g8.fx.trans g9.fx), g9.fh, tv2, some y1, some y2, rfl, htv2, g07.trans (g8.trans g9)⟩
      · obtain ⟨tv, s6, s7, rfl, htv, g07⟩ := p7
        rw [List.length_map, List.take_length] at htv
        dsimp only
        have vt : EvD K (tOp (rI0 fun i j => V.bl (decide (j < i))) (tOp (rIxT K) (tVar 5) (tC (.int 0))) (tC (.int 0))) [some (.ref ml), some v, some (.ref gr), none, some u, some tv, s6, s7] F7 (.bool (decide (0 < (worth ps (gainsOf m.names m.recipes[n])).1))) :=
          Dv.ev_I0 (fun _ => .bl _) (Dv.ev_ixT (d := .int (worth ps (gainsOf m.names m.recipes[n])).1) (Dv.ev_var rfl htv) (Dv.ev_int 0) rfl) (Dv.ev_int 0)
        by_cases hpos : 0 < (worth ps (gainsOf m.names m.recipes[n])).1
        · refine s_ifT (et_v vt (by rw [decide_eq_true hpos])) e5 fun F8 H8 g8 => ?_
          have := q F8 H8 (g07.trans g8)
          have e0 : fairOf m ps = false := by
            unfold fairOf
            rw [List.all_eq_false]
            exact ⟨_, hmem, by simp; omega⟩
          rw [e0] at this
          exact this
        · refine s_ifF (et_v vt (by rw [decide_eq_false hpos])) e5 fun F8 H8 g8 => ?_
          refine ⟨F8, e2.trans (g5.fx.trans (g6.fx.trans (e4.trans g8.fx))), g8.fh, some u, some tv, s6, s7, rfl, ?_, g07.trans g8⟩
          intro r hr
          rw [List.take_succ_eq_append_getElem hn, List.mem_append] at hr
          rcases hr with hr | hr
          · exact hall r hr
          · rw [List.mem_singleton.mp hr]
            omega
    · obtain ⟨s4, s5, s6, s7, rfl, hall, g04⟩ := p2
      rw [List.length_map, List.take_length] at hall
      dsimp only
      refine Dv.s_ret (K := K) (d := .bool true) (Dv.ev_bl true) e3 fun y F5 H5 g5 hy => ?_
      cases hy
      have := q F5 H5 (g04.trans g5)
      have e0 : fairOf m ps = true := by
        unfold fairOf
        rw [List.all_eq_true]
        exact fun r hr => decide_eq_true (hall r hr)
      rw [e0] at this
      exact this
end
end R3

set_option Elab.async false
set_option linter.all false
set_option maxRecDepth 100000
set_option maxHeartbeats 4000000
namespace R3
open PySem PySem.Spec PyProof.Rows L2 Dv
section
variable {P : Program} {w : World} {K : PySem.W.Frag} {mg : Str → Option Value} {base : Heap}
theorem sc__law_fraction : FnScope (["top", "under", "one", "other"] : List Str) (["top", "under"] : List Str) (defScope sLawFraction) := ⟨rfl, rfl, rfl, by decide +kernel, rfl, by decide +kernel, by decide +kernel⟩
theorem ok_law_fraction (D : Def K mg "_law_fraction" sLawFraction ["top", "under"]) (B : Bl mg) : Cal P w K mg base "_law_fraction" ["top", "under"] 1 (spD K fFrac) := by
  refine cal_mk D sc__law_fraction (len_D (by rintro _ _ ⟨t, u, rfl, _⟩; rfl)) (fun f cdv A outer s H vs Q E hr h => ?_)
  obtain ⟨F, ds, d, e, hv, ⟨t, u, rfl, hu, hu2, rfl⟩, q⟩ := h
  obtain ⟨x, y, rfl, h1, h2⟩ := Dv.two hv
  cases h1
  cases h2
  refine ⟨_, (pss_cons (ps_par (i := 2) (j := 3) (by rfl) sc__law_fraction.nd rfl rfl (by decide) rfl rfl (pa_cons (pe_callB call_abs (by rfl) B.abs (by decide +kernel) (pa_cons (pv 0) pa_nil)) (pa_cons (pv 1) pa_nil)) (by rfl))
      (pss_cons (ps_while PassesOwn.never (pt_cmpR op_ne (pv 3) pe_int (nomark _)) (pss_one (ps_par (i := 2) (j := 3) (by rfl) sc__law_fraction.nd rfl rfl (by decide) rfl rfl (pa_cons (pv 3) (pa_cons (pe_op op_mod (pv 2) (pv 3)) pa_nil)) (by rfl))))
      (pss_one (ps_ret (pe_tup (pa_cons (pe_op op_fdiv (pv 0) (pv 2)) (pa_cons (pe_op op_fdiv (pv 1) (pv 2)) pa_nil))))))), ?_⟩
  have st : start ["top", "under", "one", "other"] [V.int t, V.int u] = [some (.int t), some (.int u), none, none] := rfl
  rw [st]
  have hg : 0 < Nat.gcd t.natAbs u.natAbs := Nat.gcd_pos_of_pos_right _ (by omega)
  have hg2 : Nat.gcd t.natAbs u.natAbs ≤ u.natAbs := Nat.gcd_le_right _ (by omega)
  refine s_par (K := K) (F := F) (a := .int (t.natAbs : Int)) (b := .int u) (Dv.ea_cons (ev_abs (Dv.ev_var rfl (.int t))) (Dv.ea_cons (Dv.ev_var rfl (.int u)) Dv.ea_nil)) e fun a b F1 H1 g1 ha hb => ?_
  cases ha
  cases hb
  refine Dv.s_while (F := F1) (fun m σ F' H' => ∃ a b : Nat, σ = [some (.int t), some (.int u), some (.int a), some (.int b)] ∧ Nat.gcd a b = Nat.gcd t.natAbs u.natAbs ∧ m = b ∧ Gr F H F' H') u.natAbs ⟨t.natAbs, u.natAbs, by
    rw [show ((u.natAbs : Nat) : Int) = u by omega] <;> rfl, rfl, rfl, g1⟩ g1.fh ?_
  rintro m σ F2 H2 ⟨a, b, rfl, hgc, rfl, g2⟩ e1 e2
  refine ⟨decide (m ≠ 0), et_v (K := K) (Dv.ev_neI (Dv.ev_var (i := 3) rfl (.int _)) (Dv.ev_int 0)) (by
    congr 1
    rw [Bool.eq_iff_iff]
    simp), fun hm F3 H3 g3 => ?_, fun hm F3 H3 g3 => ?_⟩
  · have hm : m ≠ 0 := of_decide_eq_true hm
    refine ⟨fun σ' H' => ∃ (F' : Hp) (a' b' : Nat), σ' = [some (.int t), some (.int u), some (.int a'), some (.int b')] ∧ Nat.gcd a' b' = Nat.gcd t.natAbs u.natAbs ∧ b' < m ∧ Gr F H F' H' ∧ Evl.Ex F1 F' ∧ Evl.Ex F' H', ?_, ?_⟩
    · rintro σ' H' ⟨F', a', b', r1, r2, r3, r4, r5, r6⟩
      exact ⟨b', F', r3, ⟨a', b', r1, r2, rfl, r4⟩, r5, r6⟩
    · refine s_par (K := K) (F := F3) (a := .int (m : Int)) (b := .int ((a % m : Nat) : Int)) (Dv.ea_cons (Dv.ev_var (i := 3) rfl (.int _)) (Dv.ea_cons (Dv.ev_I (i := (a : Int)) (j := (m : Int)) (by omega) (fun _ => by rw [Int.natCast_emod]; exact .int _) (Dv.ev_var (i := 2) rfl (.int _)) (Dv.ev_var (i := 3) rfl (.int _))) Dv.ea_nil)) g3.fh fun x1 x2 F4 H4 g4 hx1 hx2 => ?_
      cases hx1
      cases hx2
      exact ⟨F4, m, a % m, rfl, by rw [Nat.gcd_comm m, ← Nat.gcd_rec, Nat.gcd_comm m a, hgc], Nat.mod_lt _ (by omega), (g2.trans g3).trans g4, e1.trans (g3.fx.trans g4.fx), g4.fh⟩
  · have hm : m = 0 := by simpa using hm
    subst hm
    rw [Nat.gcd_zero_right] at hgc
    subst hgc
    dsimp only
    refine Dv.s_ret (K := K) (F := F3) (d := encF (frac t u)) (Dv.ev_tup (Dv.ea_cons (Dv.ev_I (i := t) (j := (Nat.gcd t.natAbs u.natAbs : Nat)) ⟨by omega, by omega⟩ (fun _ => .int _) (Dv.ev_var (i := 0) rfl (.int _)) (Dv.ev_var (i := 2) rfl (.int _))) (Dv.ea_cons (Dv.ev_I (i := u) (j := (Nat.gcd t.natAbs u.natAbs : Nat)) ⟨by omega, by omega⟩ (fun _ => .int _) (Dv.ev_var (i := 1) rfl (.int _)) (Dv.ev_var (i := 2) rfl (.int _))) Dv.ea_nil)) (by simp)) g3.fh fun v F4 H4 g4 hv => ?_
    exact q v F4 H4 ((g2.trans g3).trans g4) hv
theorem sc__law_sum : FnScope (["one", "other"] : List Str) (["one", "other"] : List Str) (defScope sLawSum) := ⟨rfl, rfl, rfl, by decide +kernel, rfl, by decide +kernel, by decide +kernel⟩
theorem ok_law_sum (D : Def K mg "_law_sum" sLawSum ["one", "other"]) (C__law_fraction : Cal P w K mg base "_law_fraction" ["top", "under"] 1 (spD K fFrac)) : Cal P w K mg base "_law_sum" ["one", "other"] 2 (spD K fPlus) := by
  refine cal_mk D sc__law_sum (len_D (by rintro _ _ ⟨t, u, rfl, _⟩; rfl)) (fun f cdv A outer s H vs Q E hr h => ?_)
  obtain ⟨F, ds, d, e, hv, ⟨⟨a, b⟩, ⟨c, d⟩, rfl, ⟨s1, s2, s3, s4⟩, ⟨t1, t2, t3, t4⟩, rfl⟩, q⟩ := h
  obtain ⟨x, y, rfl, h1, h2⟩ := Dv.two hv
  dsimp only at s1 s2 s3 s4 t1 t2 t3 t4
  refine ⟨_, (pss_one (ps_ret (pe_callC C__law_fraction hr (pa_cons (pe_op op_add (pe_op op_mul (pe_ix ix_tup (pv 0) pe_int (fun _ _ => rfl)) (pe_ix ix_tup (pv 1) pe_int (fun _ _ => rfl))) (pe_op op_mul (pe_ix ix_tup (pv 1) pe_int (fun _ _ => rfl)) (pe_ix ix_tup (pv 0) pe_int (fun _ _ => rfl)))) (pa_cons (pe_op op_mul (pe_ix ix_tup (pv 0) pe_int (fun _ _ => rfl)) (pe_ix ix_tup (pv 1) pe_int (fun _ _ => rfl))) pa_nil))))), ?_⟩
  have p1 : 0 < b * d := Int.mul_pos s1 t1
  have p2 : b * d < 1073741824 := by
    have : b * d ≤ 32767 * 32767 := Int.mul_le_mul (by omega) (by omega) (by omega) (by omega)
    omega
  have o0 := Dv.ev_ixT (K := K) (F := F) (σ := [some x, some y]) (i := 0) (d := .int a) (Dv.ev_var (i := 0) rfl h1) (Dv.ev_int 0) rfl
  have o1 := Dv.ev_ixT (K := K) (F := F) (σ := [some x, some y]) (i := 1) (d := .int b) (Dv.ev_var (i := 0) rfl h1) (Dv.ev_int 1) rfl
  have t0 := Dv.ev_ixT (K := K) (F := F) (σ := [some x, some y]) (i := 0) (d := .int c) (Dv.ev_var (i := 1) rfl h2) (Dv.ev_int 0) rfl
  have u1 := Dv.ev_ixT (K := K) (F := F) (σ := [some x, some y]) (i := 1) (d := .int d) (Dv.ev_var (i := 1) rfl h2) (Dv.ev_int 1) rfl
  refine Dv.s_ret (K := K) (d := encF (fplus (a, b) (c, d))) (ev_callD (Dv.ea_cons (Dv.ev_I0 (fun _ => .int _) (Dv.ev_I (.inl ⟨by omega, by omega⟩) (fun _ => .int _) o0 u1) (Dv.ev_I (.inl ⟨by omega, by omega⟩) (fun _ => .int _) t0 o1))
    (Dv.ea_cons (Dv.ev_I (.inl ⟨by omega, by omega⟩) (fun _ => .int _) o1 u1) Dv.ea_nil)) ⟨_, _, rfl, p1, p2, rfl⟩) e ?_
  exact fun v F2 H2 g2 hv => q v F2 H2 g2 hv
end
end R3

set_option Elab.async false
set_option linter.all false
set_option maxRecDepth 100000
set_option maxHeartbeats 4000000
namespace R3
open PySem PySem.Spec PyProof.Rows L2 Dv
section
variable {P : Program} {w : World} {K : PySem.W.Frag} {mg : Str → Option Value} {base : Heap}
def RowOk (ps : List Fr) (row : List Int) : Prop := ∀ n (h : n < (ps.zip row).length), Sm (((ps.zip row).take n).foldl (fun t z => fplus t (fscaled z.1 z.2)) (0, 1)) ∧
  0 < (ps.zip row)[n].1.2 ∧ (ps.zip row)[n].1.2 < 1073741824 ∧ (-1000000000000 < (ps.zip row)[n].2 ∧ (ps.zip row)[n].2 < 1000000000000) ∧ Sm (fscaled (ps.zip row)[n].1 (ps.zip row)[n].2)
def fWorth : List PyData → PyData → Prop := fun ds d => ∃ (ps : List Fr) (row : List Int), ds = [.list (ps.map encF), .list (row.map PyData.int)] ∧ RowOk ps row ∧ d = encF (worth ps row)
theorem sc__law_worth : FnScope (["worths", "numbers", "total", "worth", "number"] : List Str) (["worths", "numbers"] : List Str) (defScope sLawWorth) := ⟨rfl, rfl, rfl, by decide +kernel, rfl, by decide +kernel, by decide +kernel⟩
theorem ok_law_worth (D : Def K mg "_law_worth" sLawWorth ["worths", "numbers"]) (B : Bl mg) (C__law_fraction : Cal P w K mg base "_law_fraction" ["top", "under"] 1 (spD K fFrac)) (C__law_sum : Cal P w K mg base "_law_sum" ["one", "other"] 2 (spD K fPlus)) :
    Cal P w K mg base "_law_worth" ["worths", "numbers"] 3 (spD K fWorth) := by
  refine cal_mk D sc__law_worth (len_D (by rintro _ _ ⟨t, u, rfl, _⟩; rfl)) (fun f cdv A outer s H vs Q E hr h => ?_)
  obtain ⟨F, ds, d, e, hv, ⟨ps, row, rfl, hw, rfl⟩, q⟩ := h
  obtain ⟨x, y, rfl, h1, h2⟩ := Dv.two hv
  refine ⟨_, (pss_cons (ps_set (i := 2) sc__law_worth.nd rfl (.inl rfl) (pe_tup (pa_cons pe_int (pa_cons pe_int pa_nil))))
      (pss_cons (ps_for PassesOwn.never rfl (pi_zip (by rfl) B.zip (pa_cons (pv 0) (pa_cons (pv 1) pa_nil))) (pg_tup (by rfl) (pgs_cons (pg_name (i := 3) sc__law_worth.nd rfl (.inl rfl)) (pgs_cons (pg_name (i := 4) sc__law_worth.nd rfl (.inl rfl)) pgs_nil))) (pss_one (ps_set (i := 2) sc__law_worth.nd rfl (.inl rfl) (pe_callC C__law_sum hr (pa_cons (pv 2) (pa_cons (pe_callC C__law_fraction hr (pa_cons (pe_op op_mul (pe_ix ix_tup (pv 3) pe_int (fun _ _ => rfl)) (pv 4)) (pa_cons (pe_ix ix_tup (pv 3) pe_int (fun _ _ => rfl)) pa_nil))) pa_nil))))))
      (pss_one (ps_ret (pv 2))))), ?_⟩
  have st : start ["worths", "numbers", "total", "worth", "number"] [x, y] = [some x, some y, none, none, none] := rfl
  rw [st]
  refine Dv.s_asg (K := K) (F := F) (d := encF (0, 1)) (Dv.ev_tup (Dv.ea_cons (Dv.ev_int 0) (Dv.ea_cons (Dv.ev_int 1) Dv.ea_nil)) (by simp)) e fun t0 F1 H1 g1 ht0 => ?_
  refine Dv.s_for (K := K) (it_is (it_zip (Dv.ea_cons (Dv.ev_var (i := 0) rfl (dp_ex g1.fx h1)) (Dv.ea_cons (Dv.ev_var (i := 1) rfl (dp_ex g1.fx h2)) Dv.ea_nil))) (show _ = (ps.zip row).map fun z => PyData.tuple [encF z.1, .int z.2] by rw [List.zip_map, List.map_map] <;> rfl)) g1.fh
    (fun k σ F' H' => ∃ (tv : V) (s6 s7 : Option V), σ = [some x, some y, some tv, s6, s7] ∧ Dp K F' tv (encF (((ps.zip row).take k).foldl (fun t z => fplus t (fscaled z.1 z.2)) (0, 1))) ∧ Gr F H F' H')
    (fun F7 H7 g7 => ⟨t0, none, none, rfl, by rw [List.take_zero]; exact dp_ex g7.fx ht0, g1.trans g7⟩) ?_ (fun σ' F7 H7 e4 e5 p7 => ?_)
  · rintro Fc ec k σ F7 H7 u2 d2 F8 H8 hd2 e4 e5 ⟨tv, s6, s7, rfl, htv, g07⟩ g8 hu8
    obtain ⟨hk, hdk⟩ := List.getElem?_eq_some_iff.mp hd2
    rw [List.length_map] at hk
    have hd2' : d2 = PyData.tuple [encF (ps.zip row)[k].1, .int (ps.zip row)[k].2] := by rw [← hdk, List.getElem_map]
    subst hd2'
    obtain ⟨y1, y2, hy1, hy2, ht⟩ := tup2 hu8
    obtain ⟨w1, w2, w3, ⟨w4, w4'⟩, w5⟩ := hw k hk
    refine ht 3 4 _ H8 g8.fh _ ?_
    show tAsg _ _ _ [some x, some y, some tv, some y1, some y2] H8
    have f0 := Dv.ev_ixT (K := K) (F := F8) (σ := [some x, some y, some tv, some y1, some y2]) (i := 0) (d := .int (ps.zip row)[k].1.1) (Dv.ev_var (i := 3) rfl hy1) (Dv.ev_int 0) rfl
    have f1 := Dv.ev_ixT (K := K) (F := F8) (σ := [some x, some y, some tv, some y1, some y2]) (i := 1) (d := .int (ps.zip row)[k].1.2) (Dv.ev_var (i := 3) rfl hy1) (Dv.ev_int 1) rfl
    refine Dv.s_asg (K := K) (F := F8) (d := encF (((ps.zip row).take (k + 1)).foldl (fun t z => fplus t (fscaled z.1 z.2)) (0, 1))) (Dv.ev_is (ev_callD (Dv.ea_cons (Dv.ev_var (i := 2) rfl (dp_ex g8.fx htv)) (Dv.ea_cons (ev_callD (Dv.ea_cons (Dv.ev_I (.inr ⟨by omega, by omega⟩) (fun _ => .int _) f0 (Dv.ev_var (i := 4) rfl hy2)) (Dv.ea_cons f1 Dv.ea_nil)) ⟨_, _, rfl, w2, w3, rfl⟩) Dv.ea_nil)) ⟨_, fscaled (ps.zip row)[k].1 (ps.zip row)[k].2, rfl, w1, w5, rfl⟩) (by
      rw [List.take_succ_eq_append_getElem hk, List.foldl_append] <;> rfl)) g8.fh fun tv2 F9 H9 g9 htv2 => ?_
    dsimp only
    exact ⟨F9, e4.trans (g8.fx.trans g9.fx), g9.fh, tv2, some y1, some y2, rfl, htv2, g07.trans (g8.trans g9)⟩
  · obtain ⟨tv, s6, s7, rfl, htv, g07⟩ := p7
    rw [List.length_map, List.take_length] at htv
    dsimp only
    exact Dv.s_ret (K := K) (d := encF (worth ps row)) (Dv.ev_var (i := 2) rfl htv) e5 fun v F8 H8 g8 hv => q v F8 H8 (g07.trans g8) hv
def fIsLoop : List PyData → PyData → Prop := fun ds d => ∃ gs : List Fr, ds = [.list (gs.map encF)] ∧ gs.length ≤ 1000 ∧ d = .bool (loopOf gs)
theorem sc__law_is_loop : FnScope (["gains", "one"] : List Str) (["gains"] : List Str) (defScope sLawIsLoop) := ⟨rfl, rfl, rfl, by decide +kernel, rfl, by decide +kernel, by decide +kernel⟩
theorem ok_law_is_loop (D : Def K mg "_law_is_loop" sLawIsLoop ["gains"]) : Cal P w K mg base "_law_is_loop" ["gains"] 1 (spD K fIsLoop) := by
  refine cal_mk D sc__law_is_loop (len_D (by rintro _ _ ⟨t, rfl, _⟩; rfl)) (fun f cdv A outer s H vs Q E hr h => ?_)
  obtain ⟨F, ds, d, e, hv, ⟨gs, rfl, hl, rfl⟩, q⟩ := h
  obtain ⟨x, rfl, h1⟩ := Dv.one hv
  refine ⟨_, (pss_one (ps_ret (pe_and (pe_cmpR (op_eqD hr.1.units) (pe_lc (own := [("one", 1)]) (g := gName 1) rfl sc__law_is_loop.nd (pi_list (pv 0)) (blkOk_by (own := [("one", 1)]) (N := ["gains", "one"]) (sc := defScope sLawIsLoop) (by decide +kernel)) (fun _ _ _ _ _ => (pg_name (i := 1) sc__law_is_loop.nd rfl (.inl rfl)))  (fun _ _ _ _ _ => (pts_one (pt_cmpR op_lt (pe_ix (r := rIxT K) ix_tup (pv 1) pe_int (fun _ _ => rfl)) pe_int (nomark _)))) (fun _ _ _ _ _ => (pv 1))) (pe_lst pa_nil) (nomark _)) (pe_one (pe_cmpR (op_neD hr.1.units) (pe_lc (own := [("one", 1)]) (g := gName 1) rfl sc__law_is_loop.nd (pi_list (pv 0)) (blkOk_by (own := [("one", 1)]) (N := ["gains", "one"]) (sc := defScope sLawIsLoop) (by decide +kernel)) (fun _ _ _ _ _ => (pg_name (i := 1) sc__law_is_loop.nd rfl (.inl rfl)))  (fun _ _ _ _ _ => (pts_one (pt_cmpR op_gt (pe_ix (r := rIxT K) ix_tup (pv 1) pe_int (fun _ _ => rfl)) pe_int (nomark _)))) (fun _ _ _ _ _ => (pv 1))) (pe_lst pa_nil) (nomark _)))))), ?_⟩
  have st : start ["gains", "one"] [x] = [some x, none] := rfl
  rw [st]
  have cmp : ∀ (f : Fr → Bool) (rr : R2), (∀ (σ2 : L2.St) (F3 : Hp) (v3 : V) (z : Fr), σ2[1]? = some (some v3) → Dp K F3 v3 (encF z) → EvD K (tOp rr (tOp (rIxT K) (tVar 1) (tC (.int 0))) (tC (.int 0))) σ2 F3 (.bool (f z))) →
      EvL K (tLc (iList K (tVar 0)) (gName 1) (tTest (tOp rr (tOp (rIxT K) (tVar 1) (tC (.int 0))) (tC (.int 0)))) (tVar 1) [1]) [some x, none] F ((gs.filter f).map encF) := fun f rr hrr =>
    lc_rule (K := K) (σ := [some x, none]) gs encF encF f (it_list (Dv.ev_var rfl h1)) (by omega) fun z _ v3 F3 e3 hv3 => ⟨[some x, some v3], fun _ _ _ q => q, rfl, et_test (hrr _ F3 v3 z rfl hv3), fun _ => Dv.ev_var rfl hv3⟩
  have c1 := cmp (fun x => decide (x.1 < 0)) (rI0 fun i j => .bl (decide (i < j))) fun σ2 F3 v3 z h3 hd => Dv.ev_I0 (fun _ => .bl _) (Dv.ev_ixT (d := .int z.1) (Dv.ev_var h3 hd) (Dv.ev_int 0) rfl) (Dv.ev_int 0)
  have c2 := cmp (fun x => decide (0 < x.1)) (rI0 fun i j => .bl (decide (j < i))) fun σ2 F3 v3 z h3 hd => Dv.ev_I0 (fun _ => .bl _) (Dv.ev_ixT (d := .int z.1) (Dv.ev_var h3 hd) (Dv.ev_int 0) rfl) (Dv.ev_int 0)
  refine Dv.s_ret (K := K) (d := .bool (loopOf gs)) (Dv.ev_is (Dv.ev_andV (Dv.ev_eqD (EvL.ev c1) (EvL.ev (Dv.el_lst Dv.ea_nil (by simp))) (shaped_fr _) shaped_nil) fun _ => Dv.ev_neD (EvL.ev c2) (EvL.ev (Dv.el_lst Dv.ea_nil (by simp))) (shaped_fr _) shaped_nil) (by
    rw [eqv_nil, eqv_nil, List.isEmpty_map, List.isEmpty_map] <;> rfl)) e fun y F3 H3 g3 hy => q y F3 H3 g3 hy
end
end R3

set_option Elab.async false
set_option linter.all false
set_option maxRecDepth 100000
set_option maxHeartbeats 4000000
namespace R3
open PySem PySem.Spec PyProof.Rows L2 Dv
section
variable {P : Program} {w : World} {K : PySem.W.Frag} {mg : Str → Option Value} {base : Heap}
def fMoved : List PyData → List PyData → Prop := fun ds es => ∃ (held : List Fr) (a : Fr) (row : List Int), ds = [.list (held.map encF), encF a, .list (row.map PyData.int), .int 1] ∧ held.length ≤ 1000 ∧ 0 < a.2 ∧ a.2 < 1073741824 ∧
  (∀ z ∈ held.zip row, Sm z.1 ∧ (-1000000000000 < z.2 ∧ z.2 < 1000000000000) ∧ Sm (fscaled a z.2)) ∧ es = (gstep held a row).map encF
theorem four {F : Hp} {vs : List V} {a b c d : PyData} (h : DpAll K F vs [a, b, c, d]) : ∃ x y z t, vs = [x, y, z, t] ∧ Dp K F x a ∧ Dp K F y b ∧ Dp K F z c ∧ Dp K F t d := by
  cases h with
  | cons h1 h =>
  obtain ⟨x, y, z, rfl, h2, h3, h4⟩ := Dv.three h
  exact ⟨_, _, _, _, rfl, h1, h2, h3, h4⟩
theorem sc__law_moved : FnScope (["held", "amount", "numbers", "sign", "found", "one", "number"] : List Str) (["held", "amount", "numbers", "sign"] : List Str) (defScope sLawMoved) := ⟨rfl, rfl, rfl, by decide +kernel, rfl, by decide +kernel, by decide +kernel⟩
theorem ok_law_moved (D : Def K mg "_law_moved" sLawMoved ["held", "amount", "numbers", "sign"]) (B : Bl mg) (C__law_fraction : Cal P w K mg base "_law_fraction" ["top", "under"] 1 (spD K fFrac)) (C__law_sum : Cal P w K mg base "_law_sum" ["one", "other"] 2 (spD K fPlus)) :
    Cal P w K mg base "_law_moved" ["held", "amount", "numbers", "sign"] 3 (spN K fMoved) := by
  refine cal_mk D sc__law_moved (len_N (by rintro _ _ ⟨t, u, r, rfl, _⟩; rfl)) (fun f cdv A outer s H vs Q E hr h => ?_)
  obtain ⟨F, ds, d, e, hv, ⟨held, a, row, rfl, hl, a1, a2, hz, rfl⟩, q⟩ := h
  obtain ⟨x, y, z, t, rfl, h1, h2, h3, h4⟩ := four hv
  refine ⟨_, (pss_cons (ps_set (i := 4) sc__law_moved.nd rfl (.inl rfl) (pe_lst pa_nil))
      (pss_cons (ps_for PassesOwn.never rfl (pi_zip (by rfl) B.zip (pa_cons (pv 0) (pa_cons (pv 2) pa_nil))) (pg_tup (by rfl) (pgs_cons (pg_name (i := 5) sc__law_moved.nd rfl (.inl rfl)) (pgs_cons (pg_name (i := 6) sc__law_moved.nd rfl (.inl rfl)) pgs_nil))) (pss_one (ps_expr (pe_bm PySem.F.plainAttrs_list PySem.F.slot_list_append PySem.F.type_list_append mt_append (pv 4) (pa_cons (pe_callC C__law_sum hr (pa_cons (pv 5) (pa_cons (pe_callC C__law_fraction hr (pa_cons (pe_op op_mul (pe_op op_mul (pv 3) (pe_ix ix_tup (pv 1) pe_int (fun _ _ => rfl))) (pv 6)) (pa_cons (pe_ix ix_tup (pv 1) pe_int (fun _ _ => rfl)) pa_nil))) pa_nil))) pa_nil)))))
      (pss_one (ps_ret (pv 4))))), ?_⟩
  have st : start ["held", "amount", "numbers", "sign", "found", "one", "number"] [x, y, z, t] = [some x, some y, some z, some t, none, none, none] := rfl
  rw [st]
  refine Dv.s_asgL (K := K) (Dv.el_lst Dv.ea_nil (by simp)) e fun p ws F1 H1 g1 hp fp hp1 hws => ?_
  cases hws
  refine Dv.s_for (K := K) (it_is (it_zip (Dv.ea_cons (Dv.ev_var (i := 0) rfl (dp_ex g1.fx h1)) (Dv.ea_cons (Dv.ev_var (i := 2) rfl (dp_ex g1.fx h3)) Dv.ea_nil))) (show _ = (held.zip row).map fun z => PyData.tuple [encF z.1, .int z.2] by rw [List.zip_map, List.map_map] <;> rfl)) g1.fh
    (fun k σ F' H' => ∃ (ws : List V) (s6 s7 : Option V), σ = [some x, some y, some z, some t, some (.ref p), s6, s7] ∧ F' p = none ∧ H' p = some (.lst ws) ∧ DpAll K F' ws ((((held.zip row).take k).map fun z => fplus z.1 (fscaled a z.2)).map encF) ∧ Gr F H F' H')
    (fun F7 H7 g7 => ⟨[], none, none, rfl, (g7.keep hp1 fp).2, (g7.keep hp1 fp).1, by rw [List.take_zero]; exact .nil, g1.trans g7⟩) ?_ (fun σ' F7 H7 e4 e5 p7 => ?_)
  · rintro Fc ec k σ F7 H7 u2 d2 F8 H8 hd2 e4 e5 ⟨ws, s6, s7, rfl, fp7, hp7, hw7, g07⟩ g8 hu8
    obtain ⟨hk, hdk⟩ := List.getElem?_eq_some_iff.mp hd2
    rw [List.length_map] at hk
    have hd2' : d2 = PyData.tuple [encF (held.zip row)[k].1, .int (held.zip row)[k].2] := by rw [← hdk, List.getElem_map]
    subst hd2'
    obtain ⟨y1, y2, hy1, hy2, ht⟩ := tup2 hu8
    obtain ⟨w1, ⟨w4, w4'⟩, w5⟩ := hz _ (List.getElem_mem hk)
    have k8 := g8.keep hp7 fp7
    refine ht 5 6 _ H8 g8.fh _ ?_
    show tDrop _ _ [some x, some y, some z, some t, some (.ref p), some y1, some y2] H8
    have eF := g07.fx.trans g8.fx
    have f0 := Dv.ev_ixT (K := K) (F := F8) (σ := [some x, some y, some z, some t, some (.ref p), some y1, some y2]) (i := 0) (d := .int a.1) (Dv.ev_var (i := 1) rfl (dp_ex eF h2)) (Dv.ev_int 0) rfl
    have f1 := Dv.ev_ixT (K := K) (F := F8) (σ := [some x, some y, some z, some t, some (.ref p), some y1, some y2]) (i := 1) (d := .int a.2) (Dv.ev_var (i := 1) rfl (dp_ex eF h2)) (Dv.ev_int 1) rfl
    have wl : ws.length ≤ 1000 := by
      rw [dps_len hw7, List.length_map, List.length_map, List.length_take, List.length_zip]
      omega
    refine Dv.s_app (K := K) (F := F8) (d := encF (fplus (held.zip row)[k].1 (fscaled a (held.zip row)[k].2))) k8.1 k8.2 rfl (ev_callD (Dv.ea_cons (Dv.ev_var (i := 5) rfl hy1) (Dv.ea_cons (ev_callD (Dv.ea_cons (Dv.ev_I (i := 1 * a.1) (.inr ⟨by omega, by omega⟩) (fun _ => .int _) (Dv.ev_I (i := 1) (.inl ⟨by omega, by omega⟩) (fun _ => .int _) (Dv.ev_var (i := 3) rfl (dp_ex eF h4)) f0) (Dv.ev_var (i := 6) rfl hy2)) (Dv.ea_cons f1 Dv.ea_nil)) ⟨_, _, rfl, a1, a2, rfl⟩) Dv.ea_nil)) ⟨_, fscaled a (held.zip row)[k].2, by unfold fscaled; rw [Int.one_mul], w1, w5, rfl⟩) g8.fh (by omega) fun v F9 H9 g9 hv9 f9 h9 => ?_
    dsimp only
    refine ⟨F9, e4.trans (g8.fx.trans g9.fx), Evl.Ex.mut g9.fh f9, ws ++ [v], some y1, some y2, rfl, f9, upd_same, ?_, (g07.trans (g8.trans g9)).mut hp f9⟩
    rw [List.take_succ_eq_append_getElem hk, List.map_append, List.map_append]
    exact dps_app (dps_ex (g8.fx.trans g9.fx) hw7) (.cons hv9 .nil)
  · obtain ⟨ws, s6, s7, rfl, fp7, hp7, hw7, g07⟩ := p7
    rw [List.length_map, List.take_length] at hw7
    exact ⟨_, rfl, q p ws F7 H7 g07 hp fp7 hp7 hw7⟩
end
end R3

set_option Elab.async false
set_option linter.all false
set_option maxRecDepth 100000
set_option maxHeartbeats 4000000
namespace R3
open PySem PySem.Spec PyProof.Rows L2 Dv
section
variable {P : Program} {w : World} {K : PySem.W.Frag} {mg : Str → Option Value} {base : Heap}
/-- the number that is told last of a name -/
def lastOf (ps : List (Str × Int)) (n : Str) : Int := ps.foldl (fun acc z => if z.1 = n then z.2 else acc) 0
theorem merge_last {n : Str} : ∀ (ps : List (Str × Int)) (kvs : List (Key × V)) (i0 : Int), (valV kvs (.inr n)).getD (.int 0) = .int i0 →
    (valV (mergeK kvs (ps.map fun z => ((Sum.inr z.1 : Key), V.int z.2))) (.inr n)).getD (.int 0) = .int (ps.foldl (fun acc z => if z.1 = n then z.2 else acc) i0)
  | [], _, _, h => h
  | z :: r, kvs, i0, h => by
    rw [List.foldl_cons]
    show (valV (mergeK (putK kvs (Sum.inr z.1) (V.int z.2)) (r.map _)) (.inr n)).getD (.int 0) = _
    refine merge_last r _ _ ?_
    rw [valV_put]
    by_cases e : z.1 = n
    · rw [if_pos (by rw [e]), if_pos e] <;> rfl
    · rw [if_neg (fun q => e (Sum.inr.inj q).symm), if_neg e]
      exact h
theorem parts_refs {F : Hp} : ∀ {ps : List (Str × Int)} {xs : List V}, DpAll K F xs (ps.map encPart) → ∃ as : List Addr, xs = as.map V.ref ∧ Paired (fun p kv => SqT K F p [kV kv.1, kv.2]) as (ps.map fun z => ((Sum.inr z.1 : Key), V.int z.2))
  | [], _, h => by
    cases h
    exact ⟨[], rfl, .nil⟩
  | z :: r, _, h => by
    cases h with
    | cons h1 h2 =>
      obtain ⟨as, rfl, hp⟩ := parts_refs h2
      cases h1 with
      | tup hs hd =>
        obtain ⟨y1, y2, rfl, d1, d2⟩ := Dv.two hd
        cases d1
        cases d2
        exact ⟨_ :: as, rfl, .cons hs hp⟩
theorem paired_ex {F F1 : Hp} (e : Evl.Ex F F1) : ∀ {as : List Addr} {kvs : List (Key × V)}, Paired (fun p kv => SqT K F p [kV kv.1, kv.2]) as kvs → Paired (fun p kv => SqT K F1 p [kV kv.1, kv.2]) as kvs
  | _, _, .nil => .nil
  | _, _, .cons h r => .cons (Evl.ex_t e h) (paired_ex e r)
def fSide : List PyData → List PyData → Prop := fun ds es => ∃ (stuffs : List (Str × Option Int)) (rest : PyData) (z : Str × List (Str × Int) × List (Str × Int)) (sd : Int) (ps : List (Str × Int)), ds = [.list [.list (stuffs.map encStuff), rest], encRecipe z, .int sd] ∧ stuffs.length ≤ 1000 ∧
  ((sd = 1 ∧ ps = z.2.1) ∨ (sd = 2 ∧ ps = z.2.2)) ∧ es = stuffs.map fun s => PyData.int (lastOf ps s.1)
theorem sc__law_side : FnScope (["parts", "recipe", "side", "told", "name", "room"] : List Str) (["parts", "recipe", "side"] : List Str) (defScope sLawSide) := ⟨rfl, rfl, rfl, by decide +kernel, rfl, by decide +kernel, by decide +kernel⟩
theorem ok_law_side (D : Def K mg "_law_side" sLawSide ["parts", "recipe", "side"]) (B : Bl mg) : Cal P w K mg base "_law_side" ["parts", "recipe", "side"] 1 (spN K fSide) := by
  refine cal_mk D sc__law_side (len_N (by rintro _ _ ⟨t, u, z, sd, ps, rfl, _⟩; rfl)) (fun f cdv A outer s H vs Q E hr h => ?_)
  obtain ⟨F, ds, es, e, hv, ⟨stuffs, rest, z, sd, ps, rfl, hl, hsd, rfl⟩, q⟩ := h
  obtain ⟨x, y, t, rfl, h1, h2, h3⟩ := Dv.three hv
  have hu := hu_of hr.1
  refine ⟨_, (pss_cons (ps_set (i := 3) sc__law_side.nd rfl (.inr rfl) (pe_callTy (call_dictP (by rfl)) (by rfl) B.dict (by decide +kernel) (pa_cons (pe_ix ix_tup (pv 1) (pv 2) (fun _ _ => rfl)) pa_nil)))
      (pss_one (ps_ret (pe_lc (own := [("name", 4), ("room", 5)]) (g := gTup K 2 (gCons (gName 4) (gCons (gName 5) gNil))) rfl sc__law_side.nd (pi_list (pe_ix ix_list (pv 0) pe_int (fun _ _ => rfl))) (blkOk_by (own := [("name", 4), ("room", 5)]) (N := ["parts", "recipe", "side", "told", "name", "room"]) (sc := defScope sLawSide) (by decide +kernel)) (fun _ _ _ _ _ => (pg_tup (by rfl) (pgs_cons (pg_name (i := 4) sc__law_side.nd rfl (.inl rfl)) (pgs_cons (pg_name (i := 5) sc__law_side.nd rfl (.inl rfl)) pgs_nil)))) (te := tDGet2 (tVar 3) (tVar 4) (tC (.int 0))) (fun _ _ _ _ _ => pts_nil) (fun _ _ _ _ _ => (pe_dget2 hu (pv 3) (pv 4) pe_int ⟨rfl, rfl, rfl, rfl⟩)))))), ?_⟩
  have st : start ["parts", "recipe", "side", "told", "name", "room"] [x, y, t] = [some x, some y, some t, none, none, none] := rfl
  rw [st]
  have vp : EvD K (tOp (rIxT K) (tVar 1) (tVar 2)) [some x, some y, some t, none, none, none] F (.list (ps.map encPart)) := by
    rcases hsd with ⟨rfl, rfl⟩ | ⟨rfl, rfl⟩
    · exact Dv.ev_ixT (Dv.ev_var (i := 1) rfl h2) (Dv.ev_var (i := 2) rfl h3) rfl
    · exact Dv.ev_ixT (Dv.ev_var (i := 1) rfl h2) (Dv.ev_var (i := 2) rfl h3) rfl
  refine vp H e _ fun v F1 H1 g1 hv1 => ?_
  cases hv1 with
  | lst hs hd =>
    obtain ⟨as, rfl, hpa⟩ := parts_refs hd
    refine ⟨_, as, _, rfl, Evl.ex_l g1.fh hs, paired_ex g1.fh hpa, fun p hp => ?_⟩
    have g2 := g1.trans (Gr.new (o := .dK (mergeK [] (ps.map fun z => ((Sum.inr z.1 : Key), V.int z.2)))) g1.fh hp)
    generalize hF2 : upd F1 p (.dK (mergeK [] (ps.map fun z => ((Sum.inr z.1 : Key), V.int z.2)))) = F2 at g2
    have hd2 : F2 p = some (.dK (mergeK [] (ps.map fun z => ((Sum.inr z.1 : Key), V.int z.2)))) := by rw [← hF2]; exact upd_same
    dsimp only
    refine Dv.s_retL (K := K) (F := F2) (ds := stuffs.map fun s => PyData.int (lastOf ps s.1)) (Dv.el_is (lc_rule (K := K) (σ := [some x, some y, some t, some (.ref p), none, none]) stuffs encStuff (fun s => PyData.int (lastOf ps s.1)) (fun _ => true) (it_list (Dv.ev_ixL (Dv.ev_var (i := 0) rfl (dp_ex g2.fx h1)) (Dv.ev_int 0) rfl)) (by omega) fun s _ v3 F3 e3 hv3 => ?_) (by
      rw [List.filter_eq_self.mpr fun _ _ => rfl])) g2.fh fun p' ws F4 H4 g4 a1 a2 a3 a4 => q p' ws F4 H4 (g2.trans g4) (ex_none g2.hx a1) a2 a3 a4
    obtain ⟨y1, y2, hy1, hy2, ht⟩ := tup2 hv3
    refine ⟨[some x, some y, some t, some (.ref p), some y1, some y2], fun H e Q q => ht 4 5 _ H e Q q, rfl, fun H e Q q => q F3 H (Gr.refl e), fun _ => ?_⟩
    cases hy1
    intro Hq eq Q q
    have hdq := eq _ _ (e3 _ _ hd2)
    refine ⟨_, rfl, p, rfl, .inl ⟨_, .inl hdq⟩, _, rfl, _, DGet.k (k := Sum.inr s.1) hdq, ?_⟩
    rw [merge_last ps [] 0 rfl]
    exact q _ F3 Hq (Gr.refl eq) (.int _)
end
end R3

set_option Elab.async false
set_option linter.all false
set_option maxRecDepth 100000
set_option maxHeartbeats 4000000
namespace R3
open PySem PySem.Spec PyProof.Rows L2 Dv
section
variable {P : Program} {w : World} {K : PySem.W.Frag} {mg : Str → Option Value} {base : Heap}
def sideL (stuffs : List (Str × Option Int)) (ps : List (Str × Int)) : List Int := stuffs.map fun s => lastOf ps s.1
def gainsL (stuffs : List (Str × Option Int)) (z : Str × List (Str × Int) × List (Str × Int)) : List Int := ((sideL stuffs z.2.1).zip (sideL stuffs z.2.2)).map fun w => w.2 - w.1
def fLGains : List PyData → List PyData → Prop := fun ds es => ∃ (stuffs : List (Str × Option Int)) (rest : PyData) (z : Str × List (Str × Int) × List (Str × Int)), ds = [.list [.list (stuffs.map encStuff), rest], encRecipe z] ∧ stuffs.length ≤ 1000 ∧ es = (gainsL stuffs z).map PyData.int
theorem sc__law_gains : FnScope (["parts", "recipe", "less", "more"] : List Str) (["parts", "recipe"] : List Str) (defScope sLawGains) := ⟨rfl, rfl, rfl, by decide +kernel, rfl, by decide +kernel, by decide +kernel⟩
theorem ok_law_gains (D : Def K mg "_law_gains" sLawGains ["parts", "recipe"]) (B : Bl mg) (C__law_side : Cal P w K mg base "_law_side" ["parts", "recipe", "side"] 1 (spN K fSide)) : Cal P w K mg base "_law_gains" ["parts", "recipe"] 2 (spN K fLGains) := by
  refine cal_mk D sc__law_gains (len_N (by rintro _ _ ⟨t, u, z, rfl, _⟩; rfl)) (fun f cdv A outer s H vs Q E hr h => ?_)
  obtain ⟨F, ds, es, e, hv, ⟨stuffs, rest, z, rfl, hl, rfl⟩, q⟩ := h
  obtain ⟨x, y, rfl, h1, h2⟩ := Dv.two hv
  refine ⟨_, (pss_one (ps_ret (pe_lc (own := [("less", 2), ("more", 3)]) (g := gTup K 2 (gCons (gName 2) (gCons (gName 3) gNil))) rfl sc__law_gains.nd (pi_zip (by rfl) B.zip (pa_cons (pe_callC C__law_side hr (pa_cons (pv 0) (pa_cons (pv 1) (pa_cons pe_int pa_nil)))) (pa_cons (pe_callC C__law_side hr (pa_cons (pv 0) (pa_cons (pv 1) (pa_cons pe_int pa_nil)))) pa_nil))) (blkOk_by (own := [("less", 2), ("more", 3)]) (N := ["parts", "recipe", "less", "more"]) (sc := defScope sLawGains) (by decide +kernel)) (fun _ _ _ _ _ => (pg_tup (by rfl) (pgs_cons (pg_name (i := 2) sc__law_gains.nd rfl (.inl rfl)) (pgs_cons (pg_name (i := 3) sc__law_gains.nd rfl (.inl rfl)) pgs_nil))))  (fun _ _ _ _ _ => pts_nil) (fun _ _ _ _ _ => (pe_op op_sub (pv 3) (pv 2)))))), ?_⟩
  have st : start ["parts", "recipe", "less", "more"] [x, y] = [some x, some y, none, none] := rfl
  rw [st]
  have cs : ∀ (sd : Int) (ps : List (Str × Int)), ((sd = 1 ∧ ps = z.2.1) ∨ (sd = 2 ∧ ps = z.2.2)) → EvD K (tCall (spN K fSide) [] E0 (tCons (tVar 0) (tCons (tVar 1) (tCons (tC (.int sd)) tNil)))) [some x, some y, none, none] F (.list ((sideL stuffs ps).map PyData.int)) := fun sd ps hsd =>
    Dv.ev_is (EvL.ev (el_callN (Dv.ea_cons (Dv.ev_var (i := 0) rfl h1) (Dv.ea_cons (Dv.ev_var (i := 1) rfl h2) (Dv.ea_cons (Dv.ev_int sd) Dv.ea_nil))) ⟨stuffs, rest, z, sd, ps, rfl, hl, hsd, rfl⟩)) (by
      unfold sideL
      rw [List.map_map] <;> rfl)
  refine Dv.s_retL (K := K) (F := F) (ds := (gainsL stuffs z).map PyData.int) (Dv.el_is (lc_rule (K := K) (σ := [some x, some y, none, none]) ((sideL stuffs z.2.1).zip (sideL stuffs z.2.2)) (fun w => PyData.tuple [.int w.1, .int w.2]) (fun w => PyData.int (w.2 - w.1)) (fun _ => true)
    (it_is (it_zip (Dv.ea_cons (cs 1 _ (.inl ⟨rfl, rfl⟩)) (Dv.ea_cons (cs 2 _ (.inr ⟨rfl, rfl⟩)) Dv.ea_nil))) (by rw [List.zip_map, List.map_map] <;> rfl)) (by
      rw [List.length_zip]
      unfold sideL
      rw [List.length_map, List.length_map]
      omega) fun w' _ v F1 e1 hv => ?_) (by
    rw [List.filter_eq_self.mpr fun _ _ => rfl]
    unfold gainsL
    rw [List.map_map] <;> rfl)) e fun p ws F2 H2 g2 a1 a2 a3 a4 => q p ws F2 H2 g2 a1 a2 a3 a4
  obtain ⟨z1, z2, hz1, hz2, hzt⟩ := tup2 hv
  exact ⟨[some x, some y, some z1, some z2], fun H e Q q => hzt 2 3 _ H e Q q, rfl, fun H e Q q => q F1 H (Gr.refl e), fun _ => Dv.ev_I0 (fun _ => .int _) (Dv.ev_var rfl hz2) (Dv.ev_var rfl hz1)⟩
theorem ev_eqS {σ : L2.St} {F : Hp} {ta tb : TE} {a b : Str} (ha : EvD K ta σ F (.str a)) (hb : EvD K tb σ F (.str b)) : EvD K (tOp rEq ta tb) σ F (.bool (decide (a = b))) :=
  Dv.ev_op ha hb fun v u F1 H1 _ e hv hu Q q => by
    cases hv
    cases hu
    refine ⟨rfl, q _ F1 H1 (Gr.refl e) ?_⟩
    rw [show decide (V.str a = V.str b) = decide (a = b) by
      rw [Bool.eq_iff_iff]
      simp]
    exact .bl _
def fLRecipe : List PyData → PyData → Prop := fun ds d => ∃ (st : PyData) (rs : List (Str × List (Str × Int) × List (Str × Int))) (n : Str) (z : Str × List (Str × Int) × List (Str × Int)), ds = [.list [st, .list (rs.map encRecipe)], .str n] ∧ rs.length ≤ 1000 ∧ (rs.filter fun r => decide (r.1 = n))[0]? = some z ∧ d = encRecipe z
theorem sc__law_recipe : FnScope (["parts", "name", "recipe"] : List Str) (["parts", "name"] : List Str) (defScope sLawRecipe) := ⟨rfl, rfl, rfl, by decide +kernel, rfl, by decide +kernel, by decide +kernel⟩
theorem ok_law_recipe (D : Def K mg "_law_recipe" sLawRecipe ["parts", "name"]) : Cal P w K mg base "_law_recipe" ["parts", "name"] 1 (spD K fLRecipe) := by
  refine cal_mk D sc__law_recipe (len_D (by rintro _ _ ⟨t, u, z, n, rfl, _⟩; rfl)) (fun f cdv A outer s H vs Q E hr h => ?_)
  obtain ⟨F, ds, d, e, hv, ⟨sx, rs, n, z, rfl, hl, hz, rfl⟩, q⟩ := h
  obtain ⟨x, y, rfl, h1, h2⟩ := Dv.two hv
  refine ⟨_, (pss_one (ps_ret (pe_ix ix_list (pe_lc (own := [("recipe", 2)]) (g := gName 2) rfl sc__law_recipe.nd (pi_list (pe_ix ix_list (pv 0) pe_int (fun _ _ => rfl))) (blkOk_by (own := [("recipe", 2)]) (N := ["parts", "name", "recipe"]) (sc := defScope sLawRecipe) (by decide +kernel)) (fun _ _ _ _ _ => (pg_name (i := 2) sc__law_recipe.nd rfl (.inl rfl)))  (fun _ _ _ _ _ => (pts_one (pt_cmpR op_eq (pe_ix (r := rIxT K) ix_tup (pv 2) pe_int (fun _ _ => rfl)) (pv 1) (nomark _)))) (fun _ _ _ _ _ => (pv 2))) pe_int (fun _ _ => rfl)))), ?_⟩
  have st : start ["parts", "name", "recipe"] [x, y] = [some x, some y, none] := rfl
  rw [st]
  refine Dv.s_ret (K := K) (F := F) (d := encRecipe z) (Dv.ev_ixL (EvL.ev (lc_rule (K := K) (σ := [some x, some y, none]) rs encRecipe encRecipe (fun r => decide (r.1 = n)) (it_list (Dv.ev_ixL (Dv.ev_var (i := 0) rfl h1) (Dv.ev_int 1) rfl)) (by omega) fun r _ v F1 e1 hv => ⟨[some x, some y, some v], fun _ _ _ q => q, rfl, et_test (ev_eqS (Dv.ev_ixT (d := .str r.1) (Dv.ev_var (i := 2) rfl hv) (Dv.ev_int 0) rfl) (Dv.ev_var (i := 1) rfl (dp_ex e1 h2))), fun _ => Dv.ev_var (i := 2) rfl hv⟩)) (Dv.ev_int 0) (by
    obtain ⟨hlt, hget⟩ := List.getElem?_eq_some_iff.mp hz
    unfold atI
    rw [List.length_map, show (0 : Int) = ((0 : Nat) : Int) from rfl, Evl.ixN_nat hlt]
    show (List.map _ _)[0]? = _
    rw [List.getElem?_map, hz] <;> rfl)) e fun v F2 H2 g2 hv => q v F2 H2 g2 hv
end
end R3

set_option Elab.async false
set_option linter.all false
set_option maxRecDepth 100000
set_option maxHeartbeats 4000000
namespace R3
open PySem PySem.Spec PyProof.Rows L2 Dv
section
variable {P : Program} {w : World} {K : PySem.W.Frag} {mg : Str → Option Value} {base : Heap}
abbrev RecD := Str × List (Str × Int) × List (Str × Int)
def rowL (stuffs : List (Str × Option Int)) (rs : List RecD) (n : Str) : List Int := match (rs.filter fun r => decide (r.1 = n))[0]? with
  | some z => gainsL stuffs z
  | none => []
def lawAll (stuffs : List (Str × Option Int)) (rs : List RecD) (brew : List (Str × Fr)) : List Fr := brew.foldl (fun f z => gstep f z.2 (rowL stuffs rs z.1)) (List.replicate stuffs.length (0, 1))
theorem lawAll_len (stuffs : List (Str × Option Int)) (rs : List RecD) : ∀ (brew : List (Str × Fr)) (acc : List Fr), (brew.foldl (fun f z => gstep f z.2 (rowL stuffs rs z.1)) acc).length ≤ acc.length
  | [], _ => Nat.le_refl _
  | z :: r, acc => by
    rw [List.foldl_cons]
    refine Nat.le_trans (lawAll_len stuffs rs r _) ?_
    unfold gstep
    rw [List.length_map, List.length_zip]
    omega
def fAll : List PyData → PyData → Prop := fun ds d => ∃ (stuffs : List (Str × Option Int)) (rs : List RecD) (brew : List (Str × Fr)), ds = [.list [.list (stuffs.map encStuff), .list (rs.map encRecipe)], .list (brew.map encBrew)] ∧ stuffs.length ≤ 1000 ∧ rs.length ≤ 1000 ∧
  (∀ n (h : n < brew.length), (∃ z, (rs.filter fun r => decide (r.1 = brew[n].1))[0]? = some z) ∧ 0 < brew[n].2.2 ∧ brew[n].2.2 < 1073741824 ∧
    ∀ z ∈ (lawAll stuffs rs (brew.take n)).zip (rowL stuffs rs brew[n].1), Sm z.1 ∧ (-1000000000000 < z.2 ∧ z.2 < 1000000000000) ∧ Sm (fscaled brew[n].2 z.2)) ∧ d = .list ((lawAll stuffs rs brew).map encF)
theorem sc__law_all_gains : FnScope (["parts", "brew", "total", "name", "amount"] : List Str) (["parts", "brew"] : List Str) (defScope sLawAllGains) := ⟨rfl, rfl, rfl, by decide +kernel, rfl, by decide +kernel, by decide +kernel⟩
theorem ok_law_all_gains (D : Def K mg "_law_all_gains" sLawAllGains ["parts", "brew"]) (B : Bl mg) (C__law_moved : Cal P w K mg base "_law_moved" ["held", "amount", "numbers", "sign"] 3 (spN K fMoved)) (C__law_gains : Cal P w K mg base "_law_gains" ["parts", "recipe"] 2 (spN K fLGains))
    (C__law_recipe : Cal P w K mg base "_law_recipe" ["parts", "name"] 1 (spD K fLRecipe)) : Cal P w K mg base "_law_all_gains" ["parts", "brew"] 4 (spD K fAll) := by
  refine cal_mk D sc__law_all_gains (len_D (by rintro _ _ ⟨t, u, z, rfl, _⟩; rfl)) (fun f cdv A outer s H vs Q E hr h => ?_)
  obtain ⟨F, ds, d, e, hv, ⟨stuffs, rs, brew, rfl, hl, hrl, hst, rfl⟩, q⟩ := h
  obtain ⟨x, y, rfl, h1, h2⟩ := Dv.two hv
  refine ⟨_, (pss_cons (ps_set (i := 2) sc__law_all_gains.nd rfl (.inl rfl) (pe_op op_rep (pe_lst (pa_cons (pe_tup (pa_cons pe_int (pa_cons pe_int pa_nil))) pa_nil)) (pe_callB call_len (by rfl) B.len (by decide +kernel) (pa_cons (pe_ix ix_list (pv 0) pe_int (fun _ _ => rfl)) pa_nil))))
      (pss_cons (ps_for PassesOwn.never rfl (pi_list (pv 1)) (pg_tup (by rfl) (pgs_cons (pg_name (i := 3) sc__law_all_gains.nd rfl (.inl rfl)) (pgs_cons (pg_name (i := 4) sc__law_all_gains.nd rfl (.inl rfl)) pgs_nil))) (pss_one (ps_set (i := 2) sc__law_all_gains.nd rfl (.inl rfl) (pe_callC C__law_moved hr (pa_cons (pv 2) (pa_cons (pv 4) (pa_cons (pe_callC C__law_gains hr (pa_cons (pv 0) (pa_cons (pe_callC C__law_recipe hr (pa_cons (pv 0) (pa_cons (pv 3) pa_nil))) pa_nil))) (pa_cons pe_int pa_nil))))))))
      (pss_one (ps_ret (pv 2))))), ?_⟩
  have st : start ["parts", "brew", "total", "name", "amount"] [x, y] = [some x, some y, none, none, none] := rfl
  rw [st]
  refine Dv.s_asg (K := K) (F := F) (d := .list ((lawAll stuffs rs (brew.take 0)).map encF)) (Dv.ev_is (EvL.ev (el_rep (n := stuffs.length) (Dv.ev_tup (Dv.ea_cons (Dv.ev_int 0) (Dv.ea_cons (Dv.ev_int 1) Dv.ea_nil)) (by simp)) (Dv.ev_is (ev_len (n := (stuffs.map encStuff).length) (Dv.ev_ixL (Dv.ev_var (i := 0) rfl h1) (Dv.ev_int 0) rfl) rfl (by rw [List.length_map]; omega)) (by rw [List.length_map])) (by omega))) (by
    rw [List.take_zero]
    show _ = PyData.list ((List.replicate stuffs.length ((0, 1) : Fr)).map encF)
    rw [List.map_replicate] <;> rfl)) e fun t0 F1 H1 g1 ht0 => ?_
  refine Dv.s_for (it_list (Dv.ev_var (i := 1) rfl (dp_ex g1.fx h2))) g1.fh
    (fun n σ F' H' => ∃ (tv : V) (s6 s7 : Option V), σ = [some x, some y, some tv, s6, s7] ∧ Dp K F' tv (.list ((lawAll stuffs rs (brew.take n)).map encF)) ∧ Gr F H F' H')
    (fun F2 H2 g2 => ⟨t0, none, none, rfl, dp_ex g2.fx ht0, g1.trans g2⟩) ?_ (fun σ' F2 H2 e2 e3 p2 => ?_)
  · rintro Fb eb n σ F2 H2 u du F3 H3 hdu e2 e3 ⟨tv, s6, s7, rfl, htv, g02⟩ g3 hu3
    obtain ⟨hn, hdn⟩ := List.getElem?_eq_some_iff.mp hdu
    rw [List.length_map] at hn
    have hdu' : du = encBrew brew[n] := by rw [← hdn, List.getElem_map]
    subst hdu'
    obtain ⟨y1, y2, hy1, hy2, ht⟩ := tup2 hu3
    obtain ⟨⟨z, hz⟩, a1, a2, a3⟩ := hst n hn
    have g03 := g02.trans g3
    refine ht 3 4 _ H3 g3.fh _ ?_
    show tAsg _ _ _ [some x, some y, some tv, some y1, some y2] H3
    have hrow : rowL stuffs rs brew[n].1 = gainsL stuffs z := by
      unfold rowL
      rw [hz]
    have vr := ev_callD (K := K) (E := E0) (σ := [some x, some y, some tv, some y1, some y2]) (F := F3) (Dv.ea_cons (Dv.ev_var (i := 0) rfl (dp_ex g03.fx h1)) (Dv.ea_cons (Dv.ev_var (i := 3) rfl hy1) Dv.ea_nil)) (show fLRecipe _ (encRecipe z) from ⟨.list (stuffs.map encStuff), rs, brew[n].1, z, rfl, hrl, hz, rfl⟩)
    have vg := el_callN (K := K) (E := E0) (σ := [some x, some y, some tv, some y1, some y2]) (F := F3) (Dv.ea_cons (Dv.ev_var (i := 0) rfl (dp_ex g03.fx h1)) (Dv.ea_cons vr Dv.ea_nil)) (show fLGains _ ((gainsL stuffs z).map PyData.int) from ⟨stuffs, .list (rs.map encRecipe), z, rfl, hl, rfl⟩)
    have hln : (lawAll stuffs rs (brew.take n)).length ≤ 1000 := Nat.le_trans (lawAll_len stuffs rs _ _) (by rw [List.length_replicate]; omega)
    refine Dv.s_asg (K := K) (F := F3) (d := .list ((lawAll stuffs rs (brew.take (n + 1))).map encF)) (EvL.ev (el_callN (Dv.ea_cons (Dv.ev_var (i := 2) rfl (dp_ex g3.fx htv)) (Dv.ea_cons (Dv.ev_var (i := 4) rfl hy2) (Dv.ea_cons (EvL.ev vg) (Dv.ea_cons (Dv.ev_int 1) Dv.ea_nil)))) ⟨lawAll stuffs rs (brew.take n), brew[n].2, gainsL stuffs z, rfl, hln, a1, a2, by rw [← hrow]; exact a3, by
      rw [← hrow]
      unfold lawAll
      rw [List.take_succ_eq_append_getElem hn, List.foldl_append] <;> rfl⟩)) g3.fh fun tv2 F4 H4 g4 htv2 => ?_
    dsimp only
    exact ⟨F4, e2.trans (g3.fx.trans g4.fx), g4.fh, tv2, some y1, some y2, rfl, htv2, g03.trans g4⟩
  · obtain ⟨tv, s6, s7, rfl, htv, g02⟩ := p2
    rw [List.length_map, List.take_length] at htv
    dsimp only
    exact Dv.s_ret (K := K) (d := .list ((lawAll stuffs rs brew).map encF)) (Dv.ev_var (i := 2) rfl htv) e3 fun v F3 H3 g3 hv => q v F3 H3 (g02.trans g3) hv
end
end R3

set_option Elab.async false
set_option linter.all false
set_option maxRecDepth 100000
set_option maxHeartbeats 4000000
namespace R3
open PySem PySem.Spec PyProof.Rows L2 Dv
section
variable {P : Program} {w : World} {K : PySem.W.Frag} {mg : Str → Option Value} {base : Heap}
def lawFair (stuffs : List (Str × Option Int)) (rs : List RecD) (ps : List Fr) : Bool := (rs.all fun r => decide ((worth ps (gainsL stuffs r)).1 ≤ 0)) && (ps.filter fun x => decide (x.1 ≤ 0)).isEmpty
def fLFair : List PyData → PyData → Prop := fun ds d => ∃ (stuffs : List (Str × Option Int)) (rs : List RecD) (ps : List Fr), ds = [.list [.list (stuffs.map encStuff), .list (rs.map encRecipe)], .list (ps.map encF)] ∧ stuffs.length ≤ 1000 ∧ ps.length ≤ 1000 ∧ (∀ r ∈ rs, RowOk ps (gainsL stuffs r)) ∧ d = .bool (lawFair stuffs rs ps)
theorem sc__law_is_fair : FnScope (["parts", "prices", "recipe", "one"] : List Str) (["parts", "prices"] : List Str) (defScope sLawIsFair) := ⟨rfl, rfl, rfl, by decide +kernel, rfl, by decide +kernel, by decide +kernel⟩
theorem ok_law_is_fair (D : Def K mg "_law_is_fair" sLawIsFair ["parts", "prices"]) (C__law_worth : Cal P w K mg base "_law_worth" ["worths", "numbers"] 3 (spD K fWorth)) (C__law_gains : Cal P w K mg base "_law_gains" ["parts", "recipe"] 2 (spN K fLGains)) :
    Cal P w K mg base "_law_is_fair" ["parts", "prices"] 4 (spD K fLFair) := by
  refine cal_mk D sc__law_is_fair (len_D (by rintro _ _ ⟨t, u, z, rfl, _⟩; rfl)) (fun f cdv A outer s H vs Q E hr h => ?_)
  obtain ⟨F, ds, d, e, hv, ⟨stuffs, rs, ps, rfl, hl, hpl, hw, rfl⟩, q⟩ := h
  obtain ⟨x, y, rfl, h1, h2⟩ := Dv.two hv
  refine ⟨_, (pss_cons (ps_for PassesOwn.never rfl (pi_list (pe_ix ix_list (pv 0) pe_int (fun _ _ => rfl))) (pg_name (i := 2) sc__law_is_fair.nd rfl (.inl rfl)) (pss_one (ps_if (pt_cmpR op_gt (pe_ix ix_tup (pe_callC C__law_worth hr (pa_cons (pv 1) (pa_cons (pe_callC C__law_gains hr (pa_cons (pv 0) (pa_cons (pv 2) pa_nil))) pa_nil))) pe_int (fun _ _ => rfl)) pe_int (nomark _)) (pss_one (ps_ret pe_bl)) pss_nil)))
      (pss_one (ps_ret (pe_cmpR (op_eqD hr.1.units) (pe_lc (own := [("one", 3)]) (g := gName 3) rfl sc__law_is_fair.nd (pi_list (pv 1)) (blkOk_by (own := [("one", 3)]) (N := ["parts", "prices", "recipe", "one"]) (sc := defScope sLawIsFair) (by decide +kernel)) (fun _ _ _ _ _ => (pg_name (i := 3) sc__law_is_fair.nd rfl (.inl rfl)))  (fun _ _ _ _ _ => (pts_one (pt_cmpR op_le (pe_ix (r := rIxT K) ix_tup (pv 3) pe_int (fun _ _ => rfl)) pe_int (nomark _)))) (fun _ _ _ _ _ => (pv 3))) (pe_lst pa_nil) (nomark _))))), ?_⟩
  have st : start ["parts", "prices", "recipe", "one"] [x, y] = [some x, some y, none, none] := rfl
  rw [st]
  refine Dv.s_for (it_list (Dv.ev_ixL (Dv.ev_var (i := 0) rfl h1) (Dv.ev_int 1) (d := .list (rs.map encRecipe)) rfl)) e
    (fun n σ F' H' => ∃ (s2 : Option V), σ = [some x, some y, s2, none] ∧ (∀ r ∈ rs.take n, (worth ps (gainsL stuffs r)).1 ≤ 0) ∧ Gr F H F' H')
    (fun F2 H2 g2 => ⟨none, rfl, (by rw [List.take_zero]; exact fun _ h => nomatch h), g2⟩) ?_ (fun σ' F2 H2 e2 e3 p2 => ?_)
  · rintro Fb eb n σ F2 H2 u du F3 H3 hdu e2 e3 ⟨s2, rfl, hall, g02⟩ g3 hu3
    obtain ⟨hn, hdn⟩ := List.getElem?_eq_some_iff.mp hdu
    rw [List.length_map] at hn
    have hdu' : du = encRecipe rs[n] := by rw [← hdn, List.getElem_map]
    subst hdu'
    have hmem : rs[n] ∈ rs := List.getElem_mem hn
    have g03 := g02.trans g3
    show tIfS _ _ _ _ [some x, some y, some u, none] H3
    have vg := el_callN (K := K) (E := E0) (σ := [some x, some y, some u, none]) (F := F3) (Dv.ea_cons (Dv.ev_var (i := 0) rfl (dp_ex g03.fx h1)) (Dv.ea_cons (Dv.ev_var (i := 2) rfl hu3) Dv.ea_nil)) (show fLGains _ ((gainsL stuffs rs[n]).map PyData.int) from ⟨stuffs, .list (rs.map encRecipe), rs[n], rfl, hl, rfl⟩)
    have vw := ev_callD (K := K) (E := E0) (σ := [some x, some y, some u, none]) (F := F3) (Dv.ea_cons (Dv.ev_var (i := 1) rfl (dp_ex g03.fx h2)) (Dv.ea_cons (EvL.ev vg) Dv.ea_nil)) (show fWorth _ (encF (worth ps (gainsL stuffs rs[n]))) from ⟨ps, _, rfl, hw _ hmem, rfl⟩)
    have vt := Dv.ev_I0 (K := K) (g := fun i j => V.bl (decide (j < i))) (k := .bool (decide (0 < (worth ps (gainsL stuffs rs[n])).1))) (fun _ => .bl _) (Dv.ev_ixT (d := .int (worth ps (gainsL stuffs rs[n])).1) vw (Dv.ev_int 0) rfl) (Dv.ev_int 0)
    by_cases hpos : 0 < (worth ps (gainsL stuffs rs[n])).1
    · refine s_ifT (et_v vt (by rw [decide_eq_true hpos])) g3.fh fun F8 H8 g8 => q _ F8 H8 (g03.trans g8) ?_
      have e0 : lawFair stuffs rs ps = false := by
        unfold lawFair
        rw [show (rs.all fun r => decide ((worth ps (gainsL stuffs r)).1 ≤ 0)) = false by
          rw [List.all_eq_false]
          exact ⟨_, hmem, by simp; omega⟩, Bool.false_and]
      rw [e0]
      exact .bl false
    · refine s_ifF (et_v vt (by rw [decide_eq_false hpos])) g3.fh fun F8 H8 g8 => ?_
      refine ⟨F8, e2.trans (g3.fx.trans g8.fx), g8.fh, some u, rfl, ?_, g03.trans g8⟩
      intro r hr
      rw [List.take_succ_eq_append_getElem hn, List.mem_append] at hr
      rcases hr with hr | hr
      · exact hall r hr
      · rw [List.mem_singleton.mp hr]
        omega
  · obtain ⟨s2, rfl, hall, g02⟩ := p2
    rw [List.length_map, List.take_length] at hall
    dsimp only
    refine Dv.s_ret (K := K) (d := .bool (lawFair stuffs rs ps)) (Dv.ev_is (Dv.ev_eqD (EvL.ev (lc_rule (K := K) (σ := [some x, some y, s2, none]) ps encF encF (fun z => decide (z.1 ≤ 0)) (it_list (Dv.ev_var (i := 1) rfl (dp_ex g02.fx h2))) (by omega) fun z _ v3 F3 e3 hv3 => ⟨[some x, some y, s2, some v3], fun _ _ _ q => q, rfl, et_test (Dv.ev_I0 (fun _ => .bl _) (Dv.ev_ixT (d := .int z.1) (Dv.ev_var (i := 3) rfl hv3) (Dv.ev_int 0) rfl) (Dv.ev_int 0)), fun _ => Dv.ev_var (i := 3) rfl hv3⟩)) (EvL.ev (Dv.el_lst Dv.ea_nil (by simp))) (shaped_fr _) shaped_nil) (by
      rw [eqv_nil, List.isEmpty_map]
      unfold lawFair
      rw [show (rs.all fun r => decide ((worth ps (gainsL stuffs r)).1 ≤ 0)) = true by
        rw [List.all_eq_true]
        exact fun r hr => decide_eq_true (hall r hr), Bool.true_and])) e3 fun v F3 H3 g3 hv => q v F3 H3 (g02.trans g3) hv
end
end R3

set_option Elab.async false
set_option linter.all false
set_option maxRecDepth 100000
set_option maxHeartbeats 4000000
namespace R3
open PySem PySem.Spec PyProof.Rows L2 Dv
section
variable {P : Program} {w : World} {K : PySem.W.Frag} {mg : Str → Option Value} {base : Heap}
def encParts (m : MillD) : PyData := .list [.list (m.stuffs.map encStuff), .list (m.recipes.map encRecipe)]
def spMade (K : PySem.W.Frag) (C : Addr) : Sp := fun vs H Q _ => ∃ (F : Hp) (v : V) (m : MillD), vs = [v] ∧ Evl.Ex F H ∧ Dp K F v (encParts m) ∧ m.Ok ∧ ∀ x F' H', Gr F H F' H' → MillAt K F' C x m → Q (.ref x) H'
/-- list(seq), read -/
def rLs (K : PySem.W.Frag) : List V → Hp → (V → Hp → Prop) → Prop := fun xs H Q => ∃ p ys, xs = [.ref p] ∧ (SqL K H p ys ∨ SqT K H p ys) ∧ ∀ l, H l = none → Q (.ref l) (upd H l (.lst ys))
theorem sc__law_made : FnScope (["parts", "name", "takes", "gives"] : List Str) (["parts"] : List Str) (defScope sLawMade) := ⟨rfl, rfl, rfl, by decide +kernel, rfl, by decide +kernel, by decide +kernel⟩
theorem ok_law_made (D : Def K mg "_law_made" sLawMade ["parts"]) (B : Bl mg) {C : Addr} (M_Mill : Mak P w K mg base "Mill" C ["stuffs", "recipes"] 5 (spMillInit K C)) : Cal P w K mg base "_law_made" ["parts"] 7 (spMade K C) := by
  refine cal_mk D sc__law_made (fun vs H Q E h => ?_) (fun f cdv A outer s H vs Q E hr h => ?_)
  · obtain ⟨F, v, m, rfl, _⟩ := h
    rfl
  obtain ⟨F, v, m, rfl, e, hv, ok, q⟩ := h
  refine ⟨_, (pss_one (ps_ret (pe_makC M_Mill hr (pa_cons (pe_callTy call_list_of (by rfl) B.list (by decide +kernel) (pa_cons (pe_ix ix_list (pv 0) pe_int (fun _ _ => rfl)) pa_nil)) (pa_cons (pe_lc (own := [("name", 1), ("takes", 2), ("gives", 3)]) (g := gTup K 3 (gCons (gName 1) (gCons (gName 2) (gCons (gName 3) gNil)))) rfl sc__law_made.nd (pi_list (pe_ix ix_list (pv 0) pe_int (fun _ _ => rfl))) (blkOk_by (own := [("name", 1), ("takes", 2), ("gives", 3)]) (N := ["parts", "name", "takes", "gives"]) (sc := defScope sLawMade) (by decide +kernel)) (fun _ _ _ _ _ => (pg_tup (by rfl) (pgs_cons (pg_name (i := 1) sc__law_made.nd rfl (.inl rfl)) (pgs_cons (pg_name (i := 2) sc__law_made.nd rfl (.inl rfl)) (pgs_cons (pg_name (i := 3) sc__law_made.nd rfl (.inl rfl)) pgs_nil)))))  (fun _ _ _ _ _ => pts_nil) (fun _ _ _ _ _ => (pe_tup (pa_cons (pv 1) (pa_cons (pe_callTy (T := "list") (r := rLs K) call_list_of (by rfl) B.list (by decide +kernel) (pa_cons (pv 2) pa_nil)) (pa_cons (pe_callTy (T := "list") (r := rLs K) call_list_of (by rfl) B.list (by decide +kernel) (pa_cons (pv 3) pa_nil)) pa_nil)))))) pa_nil))))), ?_⟩
  have st : start ["parts", "name", "takes", "gives"] [v] = [some v, none, none, none] := rfl
  rw [st]
  have r8 := ok.r2
  have vp := Dv.ev_var (K := K) (σ := [some v, none, none, none]) (i := 0) rfl hv
  refine ev_mill (K := K) (σ := [some v, none, none, none]) (F := F) (Dv.ea_cons (EvL.ev (Dv.el_list (Dv.ev_ixL (d := .list (m.stuffs.map encStuff)) vp (Dv.ev_int 0) rfl) (.inl rfl))) (Dv.ea_cons (EvL.ev (Dv.el_is (lc_rule (K := K) (σ := [some v, none, none, none]) m.recipes encRecipe encRecipe (fun _ => true) (it_list (Dv.ev_ixL vp (Dv.ev_int 1) rfl)) (by omega) fun r _ u F1 e1 hu => ?_) (by
    rw [List.filter_eq_self.mpr fun _ _ => rfl]))) Dv.ea_nil)) ok H e _ q
  obtain ⟨y1, y2, y3, hy1, hy2, hy3, ht⟩ := tup3 hu
  exact ⟨[some v, some y1, some y2, some y3], fun H e Q q => ht 1 2 3 _ H e Q q, rfl, fun H e Q q => q F1 H (Gr.refl e), fun _ => Dv.ev_tup (Dv.ea_cons (Dv.ev_var (i := 1) rfl hy1) (Dv.ea_cons (EvL.ev (Dv.el_list (Dv.ev_var (i := 2) rfl hy2) (.inl rfl))) (Dv.ea_cons (EvL.ev (Dv.el_list (Dv.ev_var (i := 3) rfl hy3) (.inl rfl))) Dv.ea_nil))) (by simp)⟩
end
end R3

set_option Elab.async false
set_option linter.all false
set_option maxRecDepth 100000
set_option maxHeartbeats 4000000
namespace R3
open PySem PySem.Spec PyProof.Rows L2 Dv
section
variable {P : Program} {w : World} {K : PySem.W.Frag} {mg : Str → Option Value} {base : Heap}
/-- a value below the last modulus, whatever it is -/
def spHash : Sp := fun vs H Q _ => ∃ s x : Int, vs = [.int s, .int x] ∧ 0 ≤ s ∧ s < 2147483647 ∧ 0 ≤ x ∧ x < 1000000 ∧ ∀ z : Int, 0 ≤ z → z < 2147483587 → Q (.int z) H
theorem sc__law_hash : FnScope (["seed", "index", "mixed"] : List Str) (["seed", "index"] : List Str) (defScope sLawHash) := ⟨rfl, rfl, rfl, by decide +kernel, rfl, by decide +kernel, by decide +kernel⟩
theorem ok_law_hash (D : Def K mg "_law_hash" sLawHash ["seed", "index"]) (B : Bl mg) : Cal P w K mg base "_law_hash" ["seed", "index"] 1 spHash := by
  refine cal_mk D sc__law_hash (fun vs H Q E h => ?_) (fun f cdv A outer s H vs Q E hr h => ?_)
  · obtain ⟨s, x, rfl, _⟩ := h
    rfl
  obtain ⟨a, x, rfl, h1, h2, h3, h4, q⟩ := h
  refine ⟨_, pss_cons (ps_set (i := 2) sc__law_hash.nd rfl (.inl rfl) (pe_op op_mod (pe_callTy call_int1 (by rfl) B.int (by decide +kernel) (pa_cons (pe_op op_add (pe_op op_add (pe_op op_add (pe_op op_mul (pv 0) pe_int) (pe_op op_mul (pe_op op_mul pe_int (pv 1)) (pv 1))) (pv 1)) pe_int) pa_nil)) pe_int))
      (pss_cons (ps_set (i := 2) sc__law_hash.nd rfl (.inl rfl) (pe_op op_mod (pe_callTy call_int1 (by rfl) B.int (by decide +kernel) (pa_cons (pe_op op_add (pe_op op_mul (pv 2) (pv 2)) pe_int) pa_nil)) pe_int))
      (pss_one (ps_ret (pe_op op_mod (pe_callTy call_int1 (by rfl) B.int (by decide +kernel) (pa_cons (pe_op op_mul (pv 2) pe_int) pa_nil)) pe_int)))), ?_⟩
  have e1 : 0 ≤ (a * 1103515245 + 7919 * x * x + x + 1) % 2147483647 := Int.emod_nonneg _ (by decide)
  have e2 : (a * 1103515245 + 7919 * x * x + x + 1) % 2147483647 < 2147483647 := Int.emod_lt_of_pos _ (by decide)
  have e3 : 0 ≤ ((a * 1103515245 + 7919 * x * x + x + 1) % 2147483647 * ((a * 1103515245 + 7919 * x * x + x + 1) % 2147483647) + 69621) % 2147483629 := Int.emod_nonneg _ (by decide)
  have e4 : ((a * 1103515245 + 7919 * x * x + x + 1) % 2147483647 * ((a * 1103515245 + 7919 * x * x + x + 1) % 2147483647) + 69621) % 2147483629 < 2147483629 := Int.emod_lt_of_pos _ (by decide)
  refine ⟨_, rfl, _, _, rfl, rfl, .inl ⟨by omega, by omega⟩, _, rfl, _, _, rfl, rfl, .inl ⟨by decide, by decide⟩, _, rfl, _, _, rfl, rfl, .inl ⟨by omega, by omega⟩, _, _, rfl, rfl, _, rfl, _, _, rfl, rfl, _, _, rfl, rfl, .inl ⟨_, rfl, ?_⟩⟩
  refine ⟨_, _, rfl, rfl, (by show (0 : Int) < _; decide), ?_⟩
  refine ⟨_, rfl, _, rfl, _, _, rfl, rfl, .inl ⟨by omega, by omega⟩, _, _, rfl, rfl, .inl ⟨_, rfl, ?_⟩⟩
  refine ⟨_, _, rfl, rfl, (by show (0 : Int) < _; decide), ?_⟩
  refine ⟨_, rfl, _, _, rfl, rfl, .inl ⟨by omega, by omega⟩, .inl ⟨_, rfl, ?_⟩⟩
  refine ⟨_, _, rfl, rfl, (by show (0 : Int) < _; decide), ?_⟩
  exact q _ (Int.emod_nonneg _ (by decide)) (Int.emod_lt_of_pos _ (by decide))
end
end R3

set_option Elab.async false
set_option linter.all false
set_option maxRecDepth 100000
set_option maxHeartbeats 4000000
namespace R3
open PySem PySem.Spec PyProof.Rows L2 Dv
section
variable {P : Program} {w : World} {K : PySem.W.Frag} {mg : Str → Option Value} {base : Heap}
/-- the generator: a list of three ints, kept out of what stays -/
def G3 (H : Hp) (g : Addr) (a s c : Int) : Prop := H g = some (.lst [.int a, .int s, .int c])
/-- a draw below a small bound -/
def spRandom : Sp := fun vs H Q _ => ∃ (g : Addr) (a s c b : Int), vs = [.ref g, .int b] ∧ G3 H g a s c ∧ 0 ≤ a ∧ 0 ≤ s ∧ s < 2147483647 ∧ 0 ≤ c ∧ c < 999000 ∧ 1 ≤ b ∧ b < 1000 ∧ Builtin.Int.intBits b < 30 ∧
  ∀ (r a' c' : Int), 0 ≤ r → r < b → 0 ≤ a' → c ≤ c' → c' ≤ c + 1 → Q (.int r) (upd H g (.lst [.int a', .int s, .int c']))
theorem sc__law_random : FnScope (["generator", "bound", "drawn", "turn"] : List Str) (["generator", "bound"] : List Str) (defScope sLawRandom) := ⟨rfl, rfl, rfl, by decide +kernel, rfl, by decide +kernel, by decide +kernel⟩
theorem ok_law_random (D : Def K mg "_law_random" sLawRandom ["generator", "bound"]) (B : Bl mg) (C__law_hash : Cal P w K mg base "_law_hash" ["seed", "index"] 1 spHash) : Cal P w K mg base "_law_random" ["generator", "bound"] 2 spRandom := by
  refine cal_mk D sc__law_random (fun vs H Q E h => ?_) (fun f cdv A outer s H vs Q E hr h => ?_)
  · obtain ⟨g, a, s, c, b, rfl, _⟩ := h
    rfl
  obtain ⟨g, a, sd, c, b, rfl, hg, a0, s0, s1, c0, c1, b0, b1, eb, q⟩ := h
  have hr1 : RoomG 1 _ := hr.mono (by decide)
  refine ⟨_, pss_cons (ps_if (pt_cmpR op_gt (pe_ix ix_list (pv 0) pe_int (fun _ _ => rfl)) pe_int (nomark _))
        (pss_cons (ps_set (i := 2) sc__law_random.nd rfl (.inl rfl) (pe_op op_mod (pe_callTy call_int1 (by rfl) B.int (by decide +kernel) (pa_cons (pe_ix ix_list (pv 0) pe_int (fun _ _ => rfl)) pa_nil)) (pv 1)))
        (pss_cons (ps_asg (pe_op op_fdivN (pe_ix ix_list (pv 0) pe_int (fun _ _ => rfl)) (pv 1)) (pg_sub (pv 0) pe_int set_list) )
        (pss_one (ps_ret (pv 2))))) pss_nil)
      (pss_cons (ps_set (i := 2) sc__law_random.nd rfl (.inl rfl) pe_int)
      (pss_cons (ps_for PassesOwn.never rfl (pi_range1 rfl B.range (pa_cons (pe_op op_add pe_int (pe_op op_fdiv (pe_bits (pv 1)) pe_int)) pa_nil)) (pg_name (i := 3) sc__law_random.nd rfl (.inl rfl))
        (pss_cons (ps_asg (pe_op op_add (pe_ix ix_list (pv 0) pe_int (fun _ _ => rfl)) pe_int) (pg_sub (pv 0) pe_int set_list))
        (pss_one (ps_set (i := 2) sc__law_random.nd rfl (.inl rfl) (pe_op op_add (pe_op op_mul (pv 2) pe_int) (pe_callC C__law_hash hr1 (pa_cons (pe_ix ix_list (pv 0) pe_int (fun _ _ => rfl)) (pa_cons (pe_ix ix_list (pv 0) pe_int (fun _ _ => rfl)) pa_nil))))))))
      (pss_one (ps_ret (pe_op op_mod (pe_callTy call_int1 (by rfl) B.int (by decide +kernel) (pa_cons (pv 2) pa_nil)) (pv 1)))))), ?_⟩
  have hS : SqL K H g [.int a, .int sd, .int c] := SqL.of hg
  have bp : (0 : Int) < b := by omega
  refine ⟨_, rfl, g, _, _, _, rfl, rfl, hS, atI_nat (j := 0) rfl, _, _, rfl, rfl, _, rfl, ?_⟩
  refine ite2 (fun _ => ?_) (fun _ => ?_)
  · refine ⟨_, rfl, g, _, _, _, rfl, rfl, hS, atI_nat (j := 0) rfl, .inl ⟨_, rfl, ?_⟩⟩
    refine ⟨_, rfl, _, _, rfl, rfl, bp, ?_⟩
    refine ⟨_, rfl, g, _, _, _, rfl, rfl, hS, atI_nat (j := 0) rfl, _, rfl, _, _, rfl, rfl, ⟨by omega, by omega⟩, ?_⟩
    refine ⟨_, rfl, g, _, _, 0, rfl, rfl, hg, rfl, ?_⟩
    refine ⟨_, rfl, ?_⟩
    exact q _ _ _ (Int.emod_nonneg _ (by omega)) (Int.emod_lt_of_pos _ bp) (by rw [Int.fdiv_eq_ediv_of_nonneg _ (by omega)]; exact Int.ediv_nonneg a0 (by omega)) (by omega) (by omega)
  · refine ⟨_, rfl, b, rfl, _, _, rfl, rfl, ⟨by decide, by decide⟩, _, _, rfl, rfl, ?_⟩
    have ez : (1 : Int) + ((Builtin.Int.intBits b : Nat) : Int) / 30 = 1 := by omega
    refine ⟨1, congrArg (fun z => [V.int z]) ez, by decide, by decide, for_range (lo := 0) (n := 1) (fun i σ H' => ∃ (d c' : Int) (v : Option V), σ = [some (.ref g), some (.int b), some (.int d), v] ∧ H' = upd H g (.lst [.int a, .int sd, .int c']) ∧ 0 ≤ d ∧ (i = 0 → d = 0) ∧ c' = c + i)
      ⟨0, c, none, rfl, ?_, Int.le_refl 0, fun _ => rfl, by simp⟩ ?_ ?_⟩
    · funext x
      by_cases hb : x = g
      · rw [hb, upd_same]; exact hg
      · rw [upd_ne hb]
    · rintro i σ H' hi ⟨d, c', v, rfl, rfl, d0, dz, rfl⟩
      have hS' : ∀ z : Int, SqL K (upd H g (.lst [.int a, .int sd, .int z])) g [.int a, .int sd, .int z] := fun z => SqL.of upd_same
      have z0 := dz (by omega)
      subst z0
      refine ⟨_, rfl, g, _, _, _, rfl, rfl, hS' _, atI_nat (j := 2) rfl, _, _, rfl, rfl, ?_⟩
      refine ⟨_, rfl, g, _, _, 2, rfl, rfl, upd_same, rfl, ?_⟩
      rw [upd_upd]
      refine ⟨_, rfl, _, _, rfl, rfl, .inl ⟨by omega, by omega⟩, ?_⟩
      refine ⟨_, rfl, g, _, _, _, rfl, rfl, hS' _, atI_nat (j := 1) rfl, ?_⟩
      refine ⟨_, rfl, g, _, _, _, rfl, rfl, hS' _, atI_nat (j := 2) rfl, ?_⟩
      refine ⟨sd, c + i + 1, rfl, s0, s1, by omega, by omega, fun z h1 h2 => ?_⟩
      refine ⟨_, _, rfl, rfl, ?_⟩
      exact ⟨_, _, _, rfl, rfl, by omega, fun z => by omega, by omega⟩
    · rintro σ H' ⟨d, c', v, rfl, rfl, d0, dz, rfl⟩
      refine ⟨_, rfl, .inl ⟨_, rfl, ?_⟩⟩
      refine ⟨_, rfl, _, _, rfl, rfl, bp, ?_⟩
      exact q _ _ _ (Int.emod_nonneg _ (by omega)) (Int.emod_lt_of_pos _ bp) a0 (by omega) (by omega)
end
end R3

set_option Elab.async false
set_option linter.all false
set_option maxRecDepth 100000
set_option maxHeartbeats 4000000
namespace R3
open PySem PySem.Spec PyProof.Rows L2 Dv
section
variable {P : Program} {w : World} {K : PySem.W.Frag} {mg : Str → Option Value} {base : Heap}
theorem sm_new {H : Hp} {p : Addr} {o : HO} (h : H p = none) : Same H (upd H p o) := fun b u e => by
  rw [upd_ne (ne_of_none e h)]
  exact e
def spCell (K : PySem.W.Frag) : Sp := fun vs H Q _ => ∃ (a : Addr) (ns : List Int) (n : Nat), vs = [.ref a, .int n] ∧ n ≤ 3 ∧ SqL K H a (ns.map V.int) ∧ ns.length ≤ 63 ∧ ∀ (z : Int) (H' : Hp), Same H H' → Q (.int z) H'
theorem sc__law_cell : FnScope (["script", "index"] : List Str) (["script", "index"] : List Str) (defScope sLawCell) := ⟨rfl, rfl, rfl, by decide +kernel, rfl, by decide +kernel, by decide +kernel⟩
theorem ok_law_cell (D : Def K mg "_law_cell" sLawCell ["script", "index"]) (B : Bl mg) : Cal P w K mg base "_law_cell" ["script", "index"] 1 (spCell K) := by
  refine cal_mk D sc__law_cell (fun vs H Q E h => ?_) (fun f cdv A outer s H vs Q E hr h => ?_)
  · obtain ⟨a, ns, n, rfl, _⟩ := h
    rfl
  obtain ⟨a, ns, n, rfl, hn, hS, hl, q⟩ := h
  refine ⟨_, pss_cons (ps_if (pt_cmpR op_lt (pv 1) (pe_callB call_len_seq (by rfl) B.len PySem.boot_len (pa_cons (pv 0) pa_nil)) (nomark _)) (pss_one (ps_ret (pe_ix ix_list (pv 0) (pv 1) (fun _ _ => rfl)))) pss_nil)
      (pss_one (ps_ret (pe_op op_mod (pe_callB (cr_sum rfl) (by rfl) B.sum (by decide +kernel) (pa_cons (pe_slice sl_list (pv 0) po_none (po_some pe_int)) pa_nil)) pe_int))), ?_⟩
  refine ⟨_, rfl, _, rfl, a, _, rfl, .inl hS, _, _, rfl, rfl, _, rfl, ?_⟩
  refine ite2 (fun h => ?_) (fun h => ?_)
  · rw [List.length_map] at h
    have h' : n < ns.length := by
      have := of_decide_eq_true h
      omega
    obtain ⟨z, hz⟩ : ∃ z, ns[n]? = some z := ⟨ns[n], List.getElem?_eq_getElem h'⟩
    refine ⟨_, rfl, _, rfl, a, _, _, .int z, rfl, rfl, hS, atI_nat (j := n) (by rw [List.getElem?_map, hz]; rfl), ?_⟩
    exact q z H (Same.refl H)
  · refine ⟨_, rfl, _, rfl, a, _, rfl, hS, fun p hp => ?_⟩
    refine ⟨p, ns.take 1, rfl, ?_, ?_⟩
    · have ec : cutV (ns.map V.int) none (some 1) = (ns.take 1).map V.int := by
        cases ns with
        | nil => rfl
        | cons x r =>
          have h1 : HT.sIx (r.length + 1) (r.length + 1) (some 1) = 1 := by
            simp [HT.sIx]
          simp [cutV, h1]
          try rfl
      rw [ec]
      exact SqL.of upd_same
    refine ⟨_, _, rfl, rfl, (by show (0 : Int) < _; decide), ?_⟩
    exact q _ _ (sm_new hp)
def CPowW : Int → Int → Prop := fun i j => 0 ≤ j ∧ (Builtin.Int.intBits i : Int) * j ≤ 2 ^ 27
theorem op_powW {X : Cx} : OpR X (binaryOp .Pow) (rI CPowW fun i j => .int (i ^ j.toNat)) := by
  intro pins s σ H x y v u Q I rx ry h
  obtain ⟨i, j, rfl, rfl, hc, q⟩ := h
  obtain ⟨t, rfl⟩ := rx
  obtain ⟨t', rfl⟩ := ry
  exact pow_int hc.1 hc.2 ⟨.int _, H, I.tok _, ⟨_, rfl⟩, q⟩
def spGen (K : PySem.W.Frag) : Sp := fun vs H Q _ => ∃ (a : Addr) (ns : List Int) (n : Nat), vs = [.ref a, .int n] ∧ n ≤ 3 ∧ SqL K H a (ns.map V.int) ∧ ns.length ≤ 63 ∧
  ∀ (g : Addr) (x s : Int) (H1 : Hp), Same H H1 → H1 g = none → 0 ≤ x → 0 ≤ s → s < 2147483647 → Q (.ref g) (upd H1 g (.lst [.int x, .int s, .int (1000 * (n : Int))]))
theorem sc__law_generator : FnScope (["script", "index", "seed"] : List Str) (["script", "index"] : List Str) (defScope sLawGenerator) := ⟨rfl, rfl, rfl, by decide +kernel, rfl, by decide +kernel, by decide +kernel⟩
theorem ok_law_generator (D : Def K mg "_law_generator" sLawGenerator ["script", "index"]) (B : Bl mg) (C__law_cell : Cal P w K mg base "_law_cell" ["script", "index"] 1 (spCell K)) : Cal P w K mg base "_law_generator" ["script", "index"] 2 (spGen K) := by
  refine cal_mk D sc__law_generator (fun vs H Q E h => ?_) (fun f cdv A outer s H vs Q E hr h => ?_)
  · obtain ⟨a, ns, n, rfl, _⟩ := h
    rfl
  obtain ⟨a, ns, n, rfl, hn, hS, hl, q⟩ := h
  have hr1 : RoomG 1 _ := hr.mono (by decide)
  refine ⟨_, pss_cons (ps_set (i := 2) sc__law_generator.nd rfl (.inl rfl) (pe_callC C__law_cell hr1 (pa_cons (pv 0) (pa_cons (pv 1) pa_nil))))
      (pss_one (ps_ret (pe_lst (pa_cons (pe_op op_modN (pe_callTy call_int1 (by rfl) B.int (by decide +kernel) (pa_cons (pe_callB (call_max2 rfl) (by rfl) B.max (by decide +kernel) (pa_cons (pe_op op_sub (pv 2) (pe_op op_pow pe_int pe_int)) (pa_cons pe_int pa_nil))) pa_nil)) (pe_op op_powW (pe_op op_pow pe_int pe_int) pe_int))
        (pa_cons (pe_op op_mod (pe_callTy call_int1 (by rfl) B.int (by decide +kernel) (pa_cons (pv 2) pa_nil)) pe_int)
        (pa_cons (pe_op op_mul pe_int (pv 1)) pa_nil)))))), ?_⟩
  refine ⟨_, rfl, _, rfl, a, ns, n, rfl, hn, hS, hl, fun z H1 s1 => ?_⟩
  refine ⟨_, rfl, _, _, rfl, rfl, ⟨by decide, by decide, by decide⟩, _, _, rfl, rfl, _, _, rfl, .inl ⟨_, rfl, ?_⟩⟩
  refine ⟨_, _, rfl, rfl, ⟨by decide, by decide, by decide⟩, ?_⟩
  refine ⟨_, _, rfl, rfl, ⟨by decide, by decide +kernel⟩, ?_⟩
  refine ⟨_, _, rfl, rfl, (by show (_ : Int) ≠ 0; decide +kernel), ?_⟩
  refine ⟨_, rfl, .inl ⟨_, rfl, _, _, rfl, rfl, (by show (0 : Int) < _; decide), ?_⟩⟩
  refine ⟨_, rfl, _, _, rfl, rfl, .inl ⟨by decide, by decide⟩, (by show 3 ≤ sizeLine; decide), fun p hp => ?_⟩
  exact q p _ _ _ s1 hp (Int.fmod_nonneg_of_pos _ (by decide +kernel)) (Int.emod_nonneg _ (by decide)) (Int.emod_lt_of_pos _ (by decide))
end
end R3

set_option Elab.async false
set_option linter.all false
set_option maxHeartbeats 400000
namespace Dv
open PySem PySem.Spec PyProof.Rows L2 Evl
/-! ### what grows, one object (the generator) excepted -/
/-- the heap without g -/
def er (g : Addr) (H : Hp) : Hp := fun b => if b = g then none else H b
theorem er_same {g : Addr} {H : Hp} : er g H g = none := by unfold er; rw [if_pos rfl]
theorem er_ne {g a : Addr} {H : Hp} (h : a ≠ g) : er g H a = H a := by unfold er; rw [if_neg h]
theorem er_upd {g : Addr} {H : Hp} {o : HO} : er g (upd H g o) = er g H := by
  funext b
  by_cases h : b = g
  · subst h; rw [er_same, er_same]
  · rw [er_ne h, er_ne h, upd_ne h]
/-- as Gr, g excepted -/
def GrG (g : Addr) (F H F' H' : Hp) : Prop := Gr F (er g H) F' (er g H')
theorem ex_er {g : Addr} {F H : Hp} (e : Ex F H) (f : F g = none) : Ex F (er g H) := fun a u ha => by
  have h : a ≠ g := fun q => by rw [q, f] at ha; exact nomatch ha
  rw [er_ne h]
  exact e a u ha
theorem ex_unerr {g : Addr} {F H : Hp} (e : Ex F (er g H)) : Ex F H ∧ F g = none := by
  constructor
  · intro a u ha
    have h := e a u ha
    by_cases q : a = g
    · rw [q, er_same] at h; exact nomatch h
    · rw [er_ne q] at h; exact h
  · cases h : F g with
    | none => rfl
    | some u =>
      have := e g u h
      rw [er_same] at this
      exact nomatch this
theorem GrG.fg {g : Addr} {F H F' H' : Hp} (x : GrG g F H F' H') : F' g = none := (ex_unerr x.fh).2
theorem GrG.fh {g : Addr} {F H F' H' : Hp} (x : GrG g F H F' H') : Ex F' H' := (ex_unerr (Gr.fh x)).1
theorem GrG.fx {g : Addr} {F H F' H' : Hp} (x : GrG g F H F' H') : Ex F F' := Gr.fx x
theorem GrG.refl {g : Addr} {F H : Hp} (e : Ex F H) (f : F g = none) : GrG g F H F H := Gr.refl (ex_er e f)
theorem GrG.trans {g : Addr} {F H F1 H1 F2 H2 : Hp} (a : GrG g F H F1 H1) (b : GrG g F1 H1 F2 H2) : GrG g F H F2 H2 := Gr.trans a b
/-- the draw itself -/
theorem GrG.draw {g : Addr} {F H F' H' : Hp} {o : HO} (x : GrG g F H F' H') : GrG g F H F' (upd H' g o) := by
  unfold GrG
  rw [er_upd]
  exact x
/-- a step that draws nothing -/
theorem GrG.of {g : Addr} {F H F' H' : Hp} {o : HO} (x : Gr F H F' H') (hg : H g = some o) (f : F g = none) : GrG g F H F' H' ∧ H' g = some o := by
  have k := x.keep hg f
  refine ⟨⟨x.fx, ex_er x.fh k.2, fun a u ha => ?_, fun a h1 h2 => ?_⟩, k.1⟩
  · by_cases q : a = g
    · rw [q, er_same] at ha; exact nomatch ha
    · rw [er_ne q] at ha ⊢; exact x.hx a u ha
  · by_cases q : a = g
    · rw [q, k.2] at h2
      exact absurd rfl h2
    · have := x.fr a h1 h2
      rw [er_ne q]
      exact this
/-- any other object out of F stays as it is -/
theorem GrG.keep {g p : Addr} {F H F' H' : Hp} {o : HO} (x : GrG g F H F' H') (h : H p = some o) (hf : F p = none) (hp : p ≠ g) : H' p = some o ∧ F' p = none := by
  have k := Gr.keep x (p := p) (o := o) (by rw [er_ne hp]; exact h) hf
  rw [er_ne hp] at k
  exact k
end Dv

set_option Elab.async false
set_option linter.all false
set_option maxRecDepth 100000
set_option maxHeartbeats 4000000
namespace R3
open PySem PySem.Spec PyProof.Rows L2 Evl Dv
section
variable {P : Program} {w : World} {K : PySem.W.Frag} {mg : Str → Option Value} {base : Heap}
/-- the generator stands well, its count at most c -/
def GenAt (H : Hp) (g : Addr) (c : Nat) : Prop := ∃ a s n : Int, G3 H g a s n ∧ 0 ≤ a ∧ 0 ≤ s ∧ s < 2147483647 ∧ 0 ≤ n ∧ n ≤ c
/-- te draws at most k times and gives something that stands for a d with Pd d -/
def DrD (K : PySem.W.Frag) (g : Addr) (k : Nat) (te : TE) (σ : L2.St) (F : Hp) (Pd : PyData → Prop) : Prop := ∀ (H : Hp) (c : Nat), Ex F H → F g = none → GenAt H g c → c + k < 999000 → ∀ Q : V → Hp → Prop,
  (∀ v F' H' d, GrG g F H F' H' → GenAt H' g (c + k) → Pd d → Dp K F' v d → Q v H') → te σ H Q
/-- a number is drawn -/
theorem dr_random {g : Addr} {σ : L2.St} {F : Hp} {i : Nat} {b : Int} (hi : σ[i]? = some (some (.ref g))) (b0 : 1 ≤ b) (b1 : b < 1000) (eb : Builtin.Int.intBits b < 30) :
    DrD K g 1 (tCall spRandom [] E0 (tCons (tVar i) (tCons (tC (.int b)) tNil))) σ F fun d => ∃ r : Int, d = .int r ∧ 0 ≤ r ∧ r < b := by
  intro H c e f hg hc Q q
  obtain ⟨a, s, n, h3, a0, s0, s1, n0, n1⟩ := hg
  refine ⟨_, hi, g, a, s, n, b, rfl, h3, a0, s0, s1, n0, by omega, b0, b1, eb, fun r a' c' r0 r1 a0' c0' c1' => ?_⟩
  exact q _ F _ (.int r) (GrG.refl e f).draw ⟨a', s, c', upd_same, a0', s0, s1, by omega, by omega⟩ ⟨r, rfl, r0, r1⟩ (.int r)
/-- what draws nothing -/
theorem dr_of {g : Addr} {te : TE} {σ : L2.St} {F : Hp} {d : PyData} {Pd : PyData → Prop} (h : EvD K te σ F d) (p : Pd d) : DrD K g 0 te σ F Pd := by
  intro H c e f hg hc Q q
  obtain ⟨a, s, n, h3, r⟩ := hg
  refine h H e _ fun v F' H' x hv => ?_
  have k := GrG.of x h3 f
  exact q v F' H' d k.1 ⟨a, s, n, k.2, r⟩ p hv
end
end R3

set_option Elab.async false
set_option linter.all false
set_option maxRecDepth 100000
set_option maxHeartbeats 4000000
namespace R3
open PySem PySem.Spec PyProof.Rows L2 Evl Dv
section
variable {P : Program} {w : World} {K : PySem.W.Frag} {mg : Str → Option Value} {base : Heap}
/-- one of a list, drawn -/
theorem dr_ixL {g : Addr} {k : Nat} {ta tb : TE} {σ : L2.St} {F : Hp} {ds : List PyData} (ha : EvD K ta σ F (.list ds)) (hb : ∀ F', Ex F F' → DrD K g k tb σ F' fun d => ∃ r : Int, d = .int r ∧ 0 ≤ r ∧ r < ds.length) :
    DrD K g k (tOp (rIxL K) ta tb) σ F fun d => d ∈ ds := by
  intro H c e f hg hc Q q
  obtain ⟨a, s, n, h3, rest⟩ := hg
  refine ha H e _ fun v F1 H1 x1 hv => ?_
  have k1 := GrG.of x1 h3 f
  refine hb F1 x1.fx H1 c x1.fh k1.1.fg ⟨a, s, n, k1.2, rest⟩ hc _ fun u F2 H2 d g2 hc2 hd hu => ?_
  obtain ⟨r, rfl, r0, r1⟩ := hd
  cases hu
  cases (dp_ex g2.fx hv) with
  | lst hs hd =>
    obtain ⟨j, rfl⟩ := Int.eq_ofNat_of_zero_le r0
    have hj : j < ds.length := by omega
    obtain ⟨v', hv', hd'⟩ := dps_at hd (List.getElem?_eq_getElem hj)
    exact ⟨_, _, _, v', rfl, rfl, ex_l g2.fh hs, atI_nat hv', q v' F2 H2 ds[j] (k1.1.trans g2) hc2 (List.getElem_mem hj) hd'⟩
/-- `x = (drawn)` -/
theorem sr_asg {g : Addr} {k c : Nat} {te : TE} {σ : L2.St} {F H : Hp} {Pd : PyData → Prop} {i : Nat} {D : Ends} (h : DrD K g k te σ F Pd) (e : Ex F H) (f : F g = none) (hg : GenAt H g c) (hc : c + k < 999000)
    (q : ∀ v F' H' d, GrG g F H F' H' → GenAt H' g (c + k) → Pd d → Dp K F' v d → D.nx (σ.set i (some v)) H') : tAsg te (gName i) D σ H := h H c e f hg hc _ q
end
end R3

set_option Elab.async false
set_option linter.all false
set_option maxHeartbeats 400000
namespace Dv
open PySem PySem.Spec PyProof.Rows L2 Evl
theorem er_upd_ne {g p : Addr} {H : Hp} {o : HO} (h : p ≠ g) : er g (upd H p o) = upd (er g H) p o := by
  funext b
  by_cases q : b = g
  · subst q
    rw [er_same, upd_ne (fun z => h z.symm), er_same]
  · rw [er_ne q]
    by_cases r : b = p
    · rw [r, upd_same, upd_same]
    · rw [upd_ne r, upd_ne r, er_ne q]
/-- an object that is new since H, not of F' and not the generator, may change -/
theorem GrG.mut {g p : Addr} {F H F' H' : Hp} {o : HO} (x : GrG g F H F' H') (h : H p = none) (hf : F' p = none) (hp : p ≠ g) : GrG g F H F' (upd H' p o) := by
  unfold GrG
  rw [er_upd_ne hp]
  exact Gr.mut x (by rw [er_ne hp]; exact h) hf
/-- and be taken into F' as it stands -/
theorem GrG.take {g p : Addr} {F H F' H' : Hp} {o : HO} (x : GrG g F H F' H') (h : H p = none) (hf : F' p = none) (hp : p ≠ g) (ho : H' p = some o) : GrG g F H (upd F' p o) H' :=
  Gr.take x (by rw [er_ne hp]; exact h) hf (by rw [er_ne hp]; exact ho)
end Dv

set_option Elab.async false
set_option linter.all false
set_option maxRecDepth 100000
set_option maxHeartbeats 4000000
namespace R3
open PySem PySem.Spec PyProof.Rows L2 Evl Dv
section
variable {P : Program} {w : World} {K : PySem.W.Frag} {mg : Str → Option Value} {base : Heap}
structure SideOk (names : List Str) (s : List (Str × Int)) : Prop where
  few : s.length ≤ 2
  sub : (s.map (·.1)).Sublist names
  num : ∀ z ∈ s, 1 ≤ z.2 ∧ z.2 ≤ 3
def spSides (K : PySem.W.Frag) : Sp := fun vs H Q _ => ∃ (F : Hp) (g : Addr) (c : Nat) (v : V) (names : List Str), vs = [.ref g, v] ∧ Ex F H ∧ F g = none ∧ GenAt H g c ∧ c + names.length < 999000 ∧ Dp K F v (.list (names.map .str)) ∧
  ∀ x F' H' s, GrG g F H F' H' → GenAt H' g (c + names.length) → SideOk names s → Dp K F' x (.list (s.map encPart)) → Q x H'
theorem sc__law_sides_drawn : FnScope (["generator", "names", "found", "name", "number"] : List Str) (["generator", "names"] : List Str) (defScope sLawSidesDrawn) := ⟨rfl, rfl, rfl, by decide +kernel, rfl, by decide +kernel, by decide +kernel⟩
theorem ok_law_sides_drawn (D : Def K mg "_law_sides_drawn" sLawSidesDrawn ["generator", "names"]) (B : Bl mg) (C__law_random : Cal P w K mg base "_law_random" ["generator", "bound"] 2 spRandom) : Cal P w K mg base "_law_sides_drawn" ["generator", "names"] 3 (spSides K) := by
  refine cal_mk D sc__law_sides_drawn (fun vs H Q E h => ?_) (fun f cdv A outer s H vs Q E hr h => ?_)
  · obtain ⟨F, g, c, v, names, rfl, _⟩ := h
    rfl
  obtain ⟨F, g, c, v, names, rfl, e, fg, hg, hc, hv, q⟩ := h
  refine ⟨_, (pss_cons (ps_set (i := 2) sc__law_sides_drawn.nd rfl (.inl rfl) (pe_lst pa_nil))
      (pss_cons (ps_for PassesOwn.never rfl (pi_list (pv 1)) (pg_name (i := 3) sc__law_sides_drawn.nd rfl (.inl rfl)) (pss_cons (ps_set (i := 4) sc__law_sides_drawn.nd rfl (.inl rfl) (pe_ix ix_list (pe_lst (pa_cons pe_int (pa_cons pe_int (pa_cons pe_int (pa_cons pe_int (pa_cons pe_int (pa_cons pe_int pa_nil))))))) (pe_callC C__law_random hr (pa_cons (pv 0) (pa_cons pe_int pa_nil))) (fun _ _ => rfl)))
      (pss_one (ps_if (PW.pt (pw_and (pt_cmpR op_gt (pv 4) pe_int (nomark _)) (pw_and1 (pt_cmpR op_lt (pe_callB call_len (by rfl) B.len (by decide +kernel) (pa_cons (pv 2) pa_nil)) pe_int (nomark _))))) (pss_one (ps_expr (pe_bm PySem.F.plainAttrs_list PySem.F.slot_list_append PySem.F.type_list_append mt_append (pv 2) (pa_cons (pe_tup (pa_cons (pv 3) (pa_cons (pv 4) pa_nil))) pa_nil)))) pss_nil))))
      (pss_one (ps_ret (pv 2))))), ?_⟩
  have st : start ["generator", "names", "found", "name", "number"] [.ref g, v] = [some (.ref g), some v, none, none, none] := rfl
  rw [st]
  refine Dv.s_asgL (K := K) (Dv.el_lst Dv.ea_nil (by simp)) e fun p vs0 F1 H1 g1 p1 p2 p3 p4 => ?_
  cases p4
  obtain ⟨ga, gs, gn, g3, grest⟩ := hg
  have pg : p ≠ g := fun z => by rw [z, g3] at p1; exact nomatch p1
  have k1 := GrG.of g1 g3 fg
  refine Dv.s_for (K := K) (it_list (Dv.ev_var (i := 1) rfl (dp_ex g1.fx hv))) g1.fh (fun n σ' F' H' => (∃ y z, σ' = [some (.ref g), some v, some (.ref p), y, z]) ∧ GrG g F H F' H' ∧ GenAt H' g (c + n) ∧ F' p = none ∧ ∃ vs s, H' p = some (.lst vs) ∧ SideOk (names.take n) s ∧ DpAll K F' vs (s.map encPart))
    (fun F' H' g2 => ?_) ?_ (fun σ' F' H' e1 e2 pv => ?_)
  · have k2 := GrG.of (g1.trans g2) g3 fg
    have k3 := g2.keep p3 p2
    exact ⟨⟨none, none, rfl⟩, k2.1, ⟨ga, gs, gn, k2.2, grest⟩, k3.2, [], [], k3.1, ⟨by decide, .slnil, fun z hz => nomatch hz⟩, .nil⟩
  · intro Fb eb n σ' F' H' nv d F2 H2 hd' e1 e2 pv g2 hv2
    obtain ⟨⟨y, z, rfl⟩, k2, hg2, fp, vs, s, hp, so, hds⟩ := pv
    obtain ⟨ga', gs', gn', g3', grest'⟩ := hg2
    have k3 := GrG.of g2 g3' k2.fg
    have k4 := k2.trans k3.1
    have kp := g2.keep hp fp
    have hn : n < names.length := by
      have := (List.getElem?_eq_some_iff.mp hd').1
      rwa [List.length_map] at this
    refine sr_asg (K := K) (g := g) (k := 1) (c := c + n) (dr_ixL (ds := [.int 0, .int 0, .int 1, .int 1, .int 2, .int 3]) (EvL.ev (Dv.el_lst (Dv.ea_cons (Dv.ev_int 0) (Dv.ea_cons (Dv.ev_int 0) (Dv.ea_cons (Dv.ev_int 1) (Dv.ea_cons (Dv.ev_int 1) (Dv.ea_cons (Dv.ev_int 2) (Dv.ea_cons (Dv.ev_int 3) Dv.ea_nil)))))) (by simp))) (fun F3 _ => dr_random (i := 0) rfl (by decide) (by decide) (by decide +kernel))) k4.fh k4.fg ⟨ga', gs', gn', k3.2, grest'⟩ (by omega) fun u F3 H3 d3 k5 hg5 hm hu => ?_
    have k6 := k4.trans k5
    have kp5 := k5.keep kp.1 kp.2 pg
    obtain ⟨m, rfl, m0, m3⟩ : ∃ m : Int, d3 = .int m ∧ 0 ≤ m ∧ m ≤ 3 := by
      simp only [List.mem_cons, List.not_mem_nil, or_false] at hm
      rcases hm with rfl | rfl | rfl | rfl | rfl | rfl <;> exact ⟨_, rfl, by decide, by decide⟩
    cases hu
    have en : c + n + 1 = c + (n + 1) := by omega
    rw [en] at hg5
    have en2 : names.take (n + 1) = names.take n ++ [names[n]] := by rw [List.take_succ_eq_append_getElem hn]
    have skip : SideOk (names.take (n + 1)) s := ⟨so.few, so.sub.trans (by rw [en2]; exact List.sublist_append_left _ _), so.num⟩
    refine ⟨_, rfl, _, _, rfl, rfl, _, rfl, ?_⟩
    refine ite2 (fun hpos => ?_) (fun hneg => ?_)
    · refine ⟨_, rfl, _, vs.length, rfl, .inl ⟨_, SqL.of kp5.1, rfl⟩, _, _, rfl, rfl, _, rfl, ?_⟩
      have hlen : vs.length = s.length := by
        have := dps_len hds
        rwa [List.length_map] at this
      have hname : d = .str names[n] := by
        rw [List.getElem?_map, List.getElem?_eq_getElem hn] at hd'
        exact (Option.some.inj hd').symm
      subst hname
      refine ite2 (fun h2 => ?_) (fun h2 => ?_)
      · have h2' : vs.length < 2 := by
          have := of_decide_eq_true h2
          omega
        have hp' : 0 < m := of_decide_eq_true hpos
        obtain ⟨ga5, gs5, gn5, g53, g5rest⟩ := hg5
        refine Dv.s_app (K := K) (F := F3) (l := p) (xs := vs) (i := 2) kp5.1 kp5.2 rfl (Dv.ev_tup (Dv.ea_cons (Dv.ev_var (i := 3) rfl (dp_ex k5.fx hv2)) (Dv.ea_cons (Dv.ev_var (i := 4) rfl (.int m)) Dv.ea_nil)) (by simp)) k5.fh (by omega) fun v2 F4 H4 k7 hv7 p7 h7 => ?_
        have k8 := GrG.of k7 g53 k5.fg
        refine ⟨F4, ((e1.trans g2.fx).trans k5.fx).trans k7.fx, Ex.mut k7.fh p7, ⟨_, _, rfl⟩, (k6.trans k8.1).mut p1 p7 pg, ⟨ga5, gs5, gn5, ?_, g5rest⟩, p7, _, s ++ [(names[n], m)], upd_same, ⟨?_, ?_, ?_⟩, ?_⟩
        · unfold G3
          rw [upd_ne (fun z => pg z.symm)]
          exact k8.2
        · rw [List.length_append]; simp; omega
        · rw [List.map_append, en2]
          exact so.sub.append (List.Sublist.refl _)
        · intro z hz
          rcases List.mem_append.mp hz with h | h
          · exact so.num z h
          · rw [List.mem_singleton.mp h]
            exact ⟨by show 1 ≤ m; omega, m3⟩
        · rw [List.map_append]
          exact dps_app (dps_ex ((g2.fx.trans k5.fx).trans k7.fx) hds) (.cons hv7 .nil)
      · exact ⟨_, (e1.trans g2.fx).trans k5.fx, k5.fh, ⟨_, _, rfl⟩, k6, hg5, kp5.2, vs, s, kp5.1, skip, dps_ex (g2.fx.trans k5.fx) hds⟩
    · exact ⟨_, (e1.trans g2.fx).trans k5.fx, k5.fh, ⟨_, _, rfl⟩, k6, hg5, kp5.2, vs, s, kp5.1, skip, dps_ex (g2.fx.trans k5.fx) hds⟩
  · obtain ⟨⟨y, z, rfl⟩, k2, hg2, fp, vs, s, hp, so, hd⟩ := pv
    rw [List.length_map] at hg2
    rw [List.length_map, List.take_length] at so
    exact ⟨_, rfl, q _ _ _ s (k2.take p1 fp pg hp) hg2 so (.lst (SqL.of upd_same) (dps_ex (Ex.new fp) hd))⟩
end
end R3

set_option Elab.async false
set_option linter.all false
set_option maxRecDepth 100000
set_option maxHeartbeats 4000000
namespace R3
open PySem PySem.Spec PyProof.Rows L2 Evl Dv
section
variable {K : PySem.W.Frag} {σ : L2.St} {F : Hp} {te : TE} {tt : TT}
/-- a comprehension that draws once an item -/
theorem dr_lc {α : Type} {g0 : Addr} {wi : TI} {g : TG} {vs : List Nat} {Pd : PyData → Prop} (xs : List α) (enc : α → PyData) (hi : ItD K wi σ F (xs.map enc)) (hz : xs.length ≤ 40000)
    (hb : ∀ x, x ∈ xs → ∀ v F1, Ex F F1 → Dp K F1 v (enc x) → ∃ σ2, (∀ H, Ex F1 H → ∀ Q : L2.St → Hp → Prop, Q σ2 H → g v (wipe σ vs) H Q) ∧ wipe σ2 vs = wipe σ vs ∧ EtD tt σ2 F1 true ∧ DrD K g0 1 te σ2 F1 Pd)
    {H : Hp} {c : Nat} (eH : Ex F H) (f : F g0 = none) (hg : GenAt H g0 c) (hc : c + xs.length < 999000) {Q : V → Hp → Prop}
    (q : ∀ p ws F' H' ds, GrG g0 F H F' H' → GenAt H' g0 (c + xs.length) → H p = none → F' p = none → p ≠ g0 → H' p = some (.lst ws) → ds.length = xs.length → (∀ d ∈ ds, Pd d) → DpAll K F' ws ds → Q (.ref p) H') :
    tLc wi g tt te vs σ H Q := hi H eH _ fun J F1 H1 g1 wd => by
  obtain ⟨ga, gs, gn, h3, rest⟩ := hg
  have k1 := GrG.of g1 h3 f
  obtain ⟨G, Y, W, hG, hY⟩ := wd
  rw [List.length_map] at W
  intro D hD
  have fD : F1 D = none := ex_none g1.fh hD
  have Dg : D ≠ g0 := fun z => by rw [z, k1.2] at hD; exact nomatch hD
  refine lc_it W (Pv := fun i H' => ∃ F' ws ds, GrG g0 F1 H1 F' H' ∧ GenAt H' g0 (c + i) ∧ F' D = none ∧ H' D = some (.lst ws) ∧ ds.length = i ∧ (∀ d ∈ ds, Pd d) ∧ DpAll K F' ws ds) ⟨F1, [], [], (GrG.refl g1.fh k1.1.fg).mut hD fD Dg, ⟨ga, gs, gn, by unfold G3; rw [upd_ne (fun z => Dg z.symm)]; exact k1.2, rest⟩, fD, upd_same, rfl, (fun d h => nomatch h), .nil⟩
    (fun i H' _ p => ?_) (fun i v H2 H3 hin p y => ?_) (fun H' p => ?_)
  · obtain ⟨F', ws, ds, g2, _⟩ := p
    exact hG _ (g2.fx.trans g2.fh)
  · obtain ⟨F2, ws, ds, g2, hg2, f2, h2, hl, hp, hw⟩ := p
    obtain ⟨F3, d, hd, g3, hv⟩ := hY F2 i H2 v H3 (by rw [List.length_map]; exact hin) g2.fx g2.fh y
    rw [List.getElem?_map, List.getElem?_eq_getElem hin] at hd
    cases hd
    obtain ⟨σ2, hgt, hwp, ht, he⟩ := hb xs[i] (List.getElem_mem hin) v F3 (g1.fx.trans (g2.fx.trans g3.fx)) hv
    refine hgt H3 g3.fh _ ⟨hwp, ht H3 g3.fh _ fun F4 H4 g4 => ?_⟩
    obtain ⟨ga2, gs2, gn2, h32, rest2⟩ := hg2
    have g4' : Gr F3 H3 F3 H4 := ⟨Ex.refl _, g4.fx.trans g4.fh, g4.hx, fun a h1 h2 => absurd h1 h2⟩
    have k34 := GrG.of (g3.trans g4') h32 g2.fg
    have kD := (g3.trans g4').keep h2 f2
    show te σ2 H4 _
    refine he H4 (c + i) (g4.fx.trans g4.fh) k34.1.fg ⟨ga2, gs2, gn2, k34.2, rest2⟩ (by omega) _ fun v' F5 H5 d5 g5 hg5 hp5 hv' => ?_
    have k5 := g5.keep kD.1 kD.2 Dg
    have wl : ws.length ≤ 40000 := by
      rw [dps_len hw, hl]
      omega
    have k6 := ((g2.trans k34.1).trans g5).mut hD k5.2 Dg (o := .lst (ws ++ [v']))
    obtain ⟨ga5, gs5, gn5, h35, rest5⟩ := hg5
    refine ⟨ws, k5.1, sz_lt (by omega), F5, ws ++ [v'], ds ++ [d5], k6, ⟨ga5, gs5, gn5, by unfold G3; rw [upd_ne (fun z => Dg z.symm)]; exact h35, rest5⟩, k5.2, upd_same, by rw [List.length_append, hl]; rfl, fun d h => ?_, dps_app (dps_ex (g3.fx.trans g5.fx) hw) (.cons hv' .nil)⟩
    rcases List.mem_append.mp h with h | h
    · exact hp d h
    · rw [List.mem_singleton.mp h]
      exact hp5
  · obtain ⟨F', ws, ds, g2, hg2, fd, hd, hl, hp, hw⟩ := p
    exact q D ws F' H' ds (k1.1.trans g2) hg2 (ex_none g1.hx hD) fd Dg hd hl hp hw
end
end R3

set_option Elab.async false
set_option linter.all false
set_option maxRecDepth 100000
set_option maxHeartbeats 4000000
namespace R3
open PySem PySem.Spec PyProof.Rows L2 Evl Dv
/-! ### the drawn mill, plain -/
def chr (s : Str) (i : Nat) : Str := ⟨#[(s.cps.toList)[i]?.getD 0]⟩
def stuffsOf (rs : List (Option Int)) : List (Str × Option Int) := (List.range rs.length).map fun i => (chr "cadb" i, rs[i]?.getD none)
theorem rooms_of : ∀ {ds : List PyData}, (∀ d ∈ ds, d ∈ [PyData.none, .none, .int 1, .int 2, .int 3, .int 0]) → ∃ rs : List (Option Int), ds = rs.map encRoom ∧ ∀ r ∈ rs, r ∈ [none, some 1, some 2, some 3, some 0]
  | [], _ => ⟨[], rfl, fun r h => nomatch h⟩
  | d :: ds, h => by
    obtain ⟨rs, e, p⟩ := rooms_of (ds := ds) fun z hz => h z (List.mem_cons_of_mem _ hz)
    have hd := h d (List.mem_cons_self ..)
    simp only [List.mem_cons, List.not_mem_nil, or_false] at hd
    have : ∃ r : Option Int, d = encRoom r ∧ r ∈ [none, some 1, some 2, some 3, some 0] := by
      rcases hd with rfl | rfl | rfl | rfl | rfl | rfl
      · exact ⟨none, rfl, by simp⟩
      · exact ⟨none, rfl, by simp⟩
      · exact ⟨some 1, rfl, by simp⟩
      · exact ⟨some 2, rfl, by simp⟩
      · exact ⟨some 3, rfl, by simp⟩
      · exact ⟨some 0, rfl, by simp⟩
    obtain ⟨r, rfl, hr⟩ := this
    refine ⟨r :: rs, by rw [e]; rfl, fun z hz => ?_⟩
    rcases List.mem_cons.mp hz with h | h
    · rw [h]; exact hr
    · exact p z h
theorem GenAt.mono {H : Hp} {g : Addr} {c d : Nat} (h : GenAt H g c) (l : c ≤ d) : GenAt H g d := by
  obtain ⟨a, s, n, h3, a0, s0, s1, n0, n1⟩ := h
  exact ⟨a, s, n, h3, a0, s0, s1, n0, by omega⟩
end R3

set_option Elab.async false
set_option linter.all false
set_option maxRecDepth 100000
set_option maxHeartbeats 4000000
namespace Dv
open PySem PySem.Spec PyProof.Rows L2 Evl
theorem GrG.weak {g : Addr} {F F1 H F' H' : Hp} (e : Ex F F1) (e1 : Ex F1 H) (f : F1 g = none) (x : GrG g F H F' H') : GrG g F1 H (uni F1 F') H' := Gr.weak e (ex_er e1 f) x
theorem filt_true {α : Type} (xs : List α) : xs.filter (fun _ => true) = xs := List.filter_eq_self.mpr fun _ _ => rfl
/-- back to what was frozen ahead -/
theorem Gr.back {F H F1 H1 F2 H2 : Hp} (a : Gr F H F1 H1) (h : Ex H1 H2) : Gr F H F1 H2 := ⟨a.fx, a.fh.trans h, a.hx.trans h, a.fr⟩
theorem par_of2 {ta tb : TE} {i j : Nat} {D : Ends} {σ : L2.St} {H : Hp} (h : ta σ H fun x H1 => tb σ H1 fun y H2 => ∃ v w, [x, y] = [v, w] ∧ D.nx ((σ.set i (some v)).set j (some w)) H2) : tPar i j (tCons ta (tCons tb tNil)) D σ H := h
theorem seq_of {t u : TS} {D : Ends} {σ : L2.St} {H : Hp} (h : t { D with nx := u D } σ H) : tSeq t u D σ H := h
end Dv
namespace R3
open PySem PySem.Spec PyProof.Rows L2 Evl Dv
/-! ### what draws: arguments, tuples, operators, calls -/
def DaD (K : PySem.W.Frag) (g : Addr) (k : Nat) (ta : TA) (σ : L2.St) (F : Hp) (Pd : List PyData → Prop) : Prop := ∀ (H : Hp) (c : Nat), Ex F H → F g = none → GenAt H g c → c + k < 999000 → ∀ Q : List V → Hp → Prop,
  (∀ vs F' H' ds, GrG g F H F' H' → GenAt H' g (c + k) → Pd ds → DpAll K F' vs ds → Q vs H') → ta σ H Q
section
variable {K : PySem.W.Frag} {g : Addr} {k j : Nat} {te tb : TE} {ta tr : TA} {σ : L2.St} {F F1 : Hp} {Pd Pb : PyData → Prop} {Ps : List PyData → Prop}
theorem DrD.mono (e : Ex F F1) (h : DrD K g k te σ F Pd) : DrD K g k te σ F1 Pd := fun H c eH f hg hc Q q => h H c (e.trans eH) (ex_none e f) hg hc Q fun v F' H' d x hg' p hv => q v _ H' d (x.weak e eH f) hg' p (dp_ex (ex_uni2 (ex_er (eH) f |>.trans (Gr.hx x)) (Gr.fh x)) hv)
theorem DaD.mono (e : Ex F F1) (h : DaD K g k ta σ F Ps) : DaD K g k ta σ F1 Ps := fun H c eH f hg hc Q q => h H c (e.trans eH) (ex_none e f) hg hc Q fun v F' H' d x hg' p hv => q v _ H' d (x.weak e eH f) hg' p (dps_ex (ex_uni2 (ex_er (eH) f |>.trans (Gr.hx x)) (Gr.fh x)) hv)
theorem DrD.imp {Pe : PyData → Prop} (h : DrD K g k te σ F Pd) (i : ∀ d, Pd d → Pe d) : DrD K g k te σ F Pe := fun H c eH f hg hc Q q => h H c eH f hg hc Q fun v F' H' d x hg' p hv => q v F' H' d x hg' (i d p) hv
theorem da_nil : DaD K g 0 tNil σ F (· = []) := fun H c eH f hg hc Q q => q [] F H [] (GrG.refl eH f) hg rfl .nil
theorem da_cons (h : DrD K g k te σ F Pd) (hr : DaD K g j tr σ F Ps) : DaD K g (k + j) (tCons te tr) σ F (fun ds => ∃ d r, ds = d :: r ∧ Pd d ∧ Ps r) := fun H c eH f hg hc Q q =>
  h H c eH f hg (by omega) _ fun v F1 H1 d x1 hg1 p1 hv => (hr.mono x1.fx) H1 (c + k) x1.fh x1.fg hg1 (by omega) _ fun vs F2 H2 r x2 hg2 p2 hvs =>
    q _ F2 H2 (d :: r) (x1.trans x2) (by rw [← Nat.add_assoc]; exact hg2) ⟨d, r, rfl, p1, p2⟩ (.cons (dp_ex x2.fx hv) hvs)
theorem dr_tup (h : DaD K g k ta σ F Ps) (hl : ∀ ds, Ps ds → ds.length ≤ 100000) : DrD K g k (tTup ta) σ F (fun d => ∃ ds, d = .tuple ds ∧ Ps ds) := fun H c eH f hg hc Q q =>
  h H c eH f hg hc _ fun vs F1 H1 ds x1 hg1 p1 hvs => ⟨by rw [dps_len hvs]; exact sz_of (hl _ p1), fun p hp => by
    obtain ⟨ga, gs, gn, g3, grest⟩ := hg1
    have pg : p ≠ g := fun z => by rw [z, g3] at hp; exact nomatch hp
    have x2 : Gr F1 H1 (upd F1 p (.tup vs)) (upd H1 p (.tup vs)) := Gr.new x1.fh hp
    have k2 := GrG.of x2 g3 x1.fg
    exact q _ _ _ (.tuple ds) (x1.trans k2.1) ⟨ga, gs, gn, k2.2, grest⟩ ⟨ds, rfl, p1⟩ (.tup (st_of upd_same) (dps_ex (Ex.new (ex_none x1.fh hp)) hvs))⟩
theorem dr_op {r : R2} {Pe : PyData → Prop} (ha : DrD K g k te σ F Pd) (hb : DrD K g j tb σ F Pb)
    (hr : ∀ v u F1 H1 a b, Ex F F1 → Ex F1 H1 → Pd a → Pb b → Dp K F1 v a → Dp K F1 u b → ∀ Q : VK, (∀ x F' H' d, Gr F1 H1 F' H' → Pe d → Dp K F' x d → Q x H') → r v u H1 Q) : DrD K g (k + j) (tOp r te tb) σ F Pe := fun H c eH f hg hc Q q =>
  ha H c eH f hg (by omega) _ fun v F1 H1 d x1 hg1 p1 hv => (hb.mono x1.fx) H1 (c + k) x1.fh x1.fg hg1 (by omega) _ fun u F2 H2 e x2 hg2 p2 hu =>
    hr v u F2 H2 d e (x1.fx.trans x2.fx) x2.fh p1 p2 (dp_ex x2.fx hv) hu Q fun y F3 H3 dd x3 p3 hy => by
      obtain ⟨ga, gs, gn, g3, grest⟩ := hg2
      have k3 := GrG.of x3 g3 x2.fg
      exact q y F3 H3 dd ((x1.trans x2).trans k3.1) ⟨ga, gs, gn, k3.2, by rw [← Nat.add_assoc]; exact grest⟩ p3 hy
/-- a + b, one or both drawn -/
theorem dr_add {m n m' n' : Int} (ha : DrD K g k te σ F fun d => ∃ i : Int, d = .int i ∧ m ≤ i ∧ i < n) (hb : DrD K g j tb σ F fun d => ∃ i : Int, d = .int i ∧ m' ≤ i ∧ i < n') :
    DrD K g (k + j) (tOp (rI0 fun i j => .int (i + j)) te tb) σ F fun d => ∃ i : Int, d = .int i ∧ m + m' ≤ i ∧ i < n + n' - 1 := dr_op ha hb fun v u F1 H1 a b _ e pa pb hv hu Q q => by
  obtain ⟨i, rfl, i0, i1⟩ := pa
  obtain ⟨j, rfl, j0, j1⟩ := pb
  cases hv
  cases hu
  exact ⟨i, j, rfl, rfl, q _ F1 H1 (.int (i + j)) (Gr.refl e) ⟨i + j, rfl, by omega, by omega⟩ (.int _)⟩
theorem dr_call {f : List PyData → PyData → Prop} {E : XK} {Pe : PyData → Prop} (h : DaD K g k ta σ F Ps) (hf : ∀ ds, Ps ds → ∃ d, f ds d ∧ Pe d) : DrD K g k (tCall (spD K f) [] E ta) σ F Pe := fun H c eH f' hg hc Q q =>
  h H c eH f' hg hc _ fun vs F1 H1 ds x1 hg1 p1 hvs => by
    obtain ⟨d, h1, h2⟩ := hf _ p1
    refine ⟨F1, ds, d, x1.fh, by rw [List.append_nil]; exact hvs, h1, fun v F2 H2 x2 hv => ?_⟩
    obtain ⟨ga, gs, gn, g3, grest⟩ := hg1
    have k2 := GrG.of x2 g3 x1.fg
    exact q v F2 H2 d (x1.trans k2.1) ⟨ga, gs, gn, k2.2, grest⟩ h2 hv
/-- xs.append(e), e drawn, xs a list of H alone -/
theorem sr_app {l : Addr} {xs : List V} {i c : Nat} {D : Ends} {H : Hp} (hl : H l = some (.lst xs)) (fl : F l = none) (lg : l ≠ g) (hi : σ[i]? = some (some (.ref l))) (h : DrD K g k te σ F Pd) (e : Ex F H) (f : F g = none) (hg : GenAt H g c) (hc : c + k < 999000) (hz : xs.length < 100000)
    (q : ∀ v F' H' d, GrG g F H F' H' → GenAt (upd H' l (.lst (xs ++ [v]))) g (c + k) → Pd d → Dp K F' v d → F' l = none → H' l = some (.lst xs) → D.nx σ (upd H' l (.lst (xs ++ [v])))) : tDrop (tBM K "list" rAppend (tVar i) (tCons te tNil)) D σ H :=
  ⟨_, hi, Or.inl ⟨rfl, xs, sq_of hl⟩, h H c e f hg hc _ fun v F' H' d x hg' p hv => ⟨l, xs, v, rfl, rfl, (x.keep hl fl lg).1, sz_lt hz, q v F' H' d x (by
    obtain ⟨ga, gs, gn, g3, grest⟩ := hg'
    exact ⟨ga, gs, gn, by unfold G3; rw [upd_ne (Ne.symm lg)]; exact g3, grest⟩) p hv (x.keep hl fl lg).2 (x.keep hl fl lg).1⟩⟩
/-- the sides of a recipe -/
theorem dr_sides {E : XK} {i j : Nat} {names : List Str} {v : V} (hi : σ[i]? = some (some (.ref g))) (hj : σ[j]? = some (some v)) (hv : Dp K F v (.list (names.map .str))) :
    DrD K g names.length (tCall (spSides K) [] E (tCons (tVar i) (tCons (tVar j) tNil))) σ F fun d => ∃ s, SideOk names s ∧ d = .list (s.map encPart) := fun H c eH f hg hc Q q =>
  ⟨_, hi, _, hj, F, g, c, v, names, rfl, eH, f, hg, hc, hv, fun x F' H' s x1 hg1 so hd => q x F' H' _ x1 hg1 ⟨s, so, rfl⟩ hd⟩
end
end R3

set_option Elab.async false
set_option linter.all false
set_option maxRecDepth 100000
set_option maxHeartbeats 4000000
namespace R3
open PySem PySem.Spec PyProof.Rows L2 Evl Dv
/-- what a drawn mill is like -/
structure Drawn (m : MillD) (wide many : Nat) : Prop where
  st : ∃ rs : List (Option Int), rs.length = wide ∧ (∀ r ∈ rs, r ∈ [none, some 1, some 2, some 3, some 0]) ∧ m.stuffs = stuffsOf rs
  rl : m.recipes.length = many
  rn : m.recipes.map (·.1) = (List.range many).map (chr "srut")
  ro : ∀ r ∈ m.recipes, SideOk m.names r.2.1 ∧ SideOk m.names r.2.2
def spMillDrawn (K : PySem.W.Frag) : Sp := fun vs H Q _ => ∃ (F : Hp) (g : Addr) (c wide many : Nat), vs = [.ref g, .int wide, .int many] ∧ 1 ≤ wide ∧ wide ≤ 3 ∧ many ≤ 3 ∧ Ex F H ∧ F g = none ∧ GenAt H g c ∧ c < 990000 ∧
  ∀ x F' H' m, GrG g F H F' H' → GenAt H' g (c + 21) → Drawn m wide many → Dp K F' x (encParts m) → Q x H'
section
variable {P : Program} {w : World} {K : PySem.W.Frag} {mg : Str → Option Value} {base : Heap}
theorem asg_of {te : TE} {σ : L2.St} {H : Hp} {i : Nat} {D : Ends} (h : te σ H fun v H' => D.nx (σ.set i (some v)) H') : tAsg te (gName i) D σ H := h
theorem sc__law_mill_drawn : FnScope (["generator", "wide", "many", "rooms", "at", "stuffs", "recipes", "names", "name", "room"] : List Str) (["generator", "wide", "many"] : List Str) (defScope sLawMillDrawn) := ⟨rfl, rfl, rfl, by decide +kernel, rfl, by decide +kernel, by decide +kernel⟩
theorem ok_law_mill_drawn (D : Def K mg "_law_mill_drawn" sLawMillDrawn ["generator", "wide", "many"]) (B : Bl mg) (C__law_random : Cal P w K mg base "_law_random" ["generator", "bound"] 2 spRandom) (C__law_sides_drawn : Cal P w K mg base "_law_sides_drawn" ["generator", "names"] 3 (spSides K)) : Cal P w K mg base "_law_mill_drawn" ["generator", "wide", "many"] 4 (spMillDrawn K) := by
  refine cal_mk D sc__law_mill_drawn (fun vs H Q E h => ?_) (fun f cdv A outer s H vs Q E hr h => ?_)
  · obtain ⟨F, g, c, a, b, rfl, _⟩ := h
    rfl
  obtain ⟨F, g, c, wide, many, rfl, w1, w2, m2, e, fg, hg, hc, q⟩ := h
  refine ⟨_, (pss_cons (ps_set (i := 3) sc__law_mill_drawn.nd rfl (.inr rfl) (pe_lc (own := [("at", 4)]) (g := gName 4) rfl sc__law_mill_drawn.nd (pi_range1 rfl B.range (pa_cons (pv 1) pa_nil)) (blkOk_by (own := [("at", 4)]) (N := ["generator", "wide", "many", "rooms", "at", "stuffs", "recipes", "names", "name", "room"]) (sc := defScope sLawMillDrawn) (by decide +kernel)) (fun _ _ _ _ _ => (pg_name (i := 4) sc__law_mill_drawn.nd rfl (.inl rfl)))  (fun _ _ _ _ _ => pts_nil) (fun _ _ _ _ _ => (pe_ix (r := rIxL K) ix_list (pe_lst (pa_cons pe_non (pa_cons pe_non (pa_cons pe_int (pa_cons pe_int (pa_cons pe_int (pa_cons pe_int pa_nil))))))) (pe_callC C__law_random hr (pa_cons (pv 0) (pa_cons pe_int pa_nil))) (fun _ _ => rfl)))))
      (pss_cons (ps_par (i := 5) (j := 6) (by rfl) sc__law_mill_drawn.nd rfl rfl (by decide) rfl rfl (pa_cons (pe_lc (own := [("at", 4)]) (g := gName 4) rfl sc__law_mill_drawn.nd (pi_range1 rfl B.range (pa_cons (pv 1) pa_nil)) (blkOk_by (own := [("at", 4)]) (N := ["generator", "wide", "many", "rooms", "at", "stuffs", "recipes", "names", "name", "room"]) (sc := defScope sLawMillDrawn) (by decide +kernel)) (fun _ _ _ _ _ => (pg_name (i := 4) sc__law_mill_drawn.nd rfl (.inl rfl)))  (fun _ _ _ _ _ => pts_nil) (fun _ _ _ _ _ => (pe_tup (pa_cons (pe_ix ix_str pe_str (pv 4) (fun _ _ => rfl)) (pa_cons (pe_ix (r := rIxL K) ix_list (pv 3) (pv 4) (fun _ _ => rfl)) pa_nil))))) (pa_cons (pe_lst pa_nil) pa_nil)) (by rfl))
      (pss_cons (ps_setLc (i := 7) (own := [("name", 8), ("room", 9)]) (g := gTup K 2 (gCons (gName 8) (gCons (gName 9) gNil))) rfl sc__law_mill_drawn.nd rfl rfl rfl (pi_list (pv 5)) (blkOk_by (own := [("name", 8), ("room", 9)]) (N := ["generator", "wide", "many", "rooms", "at", "stuffs", "recipes", "names", "name", "room"]) (sc := defScope sLawMillDrawn) (by decide +kernel)) (fun _ _ _ _ _ => (pg_tup (by rfl) (pgs_cons (pg_name (i := 8) sc__law_mill_drawn.nd rfl (.inl rfl)) (pgs_cons (pg_name (i := 9) sc__law_mill_drawn.nd rfl (.inl rfl)) pgs_nil))))  (fun _ _ _ _ _ => pts_nil) (fun _ _ _ _ _ => (pv 8)))
      (pss_cons (ps_for PassesOwn.never rfl (pi_range1 rfl B.range (pa_cons (pv 2) pa_nil)) (pg_name (i := 4) sc__law_mill_drawn.nd rfl (.inl rfl)) (pss_one (ps_expr (pe_bm PySem.F.plainAttrs_list PySem.F.slot_list_append PySem.F.type_list_append mt_append (pv 6) (pa_cons (pe_tup (pa_cons (pe_ix ix_str pe_str (pv 4) (fun _ _ => rfl)) (pa_cons (pe_callC C__law_sides_drawn hr (pa_cons (pv 0) (pa_cons (pv 7) pa_nil))) (pa_cons (pe_callC C__law_sides_drawn hr (pa_cons (pv 0) (pa_cons (pv 7) pa_nil))) pa_nil)))) pa_nil)))))
      (pss_one (ps_ret (pe_lst (pa_cons (pv 5) (pa_cons (pv 6) pa_nil))))))))), ?_⟩
  have st : start ["generator", "wide", "many", "rooms", "at", "stuffs", "recipes", "names", "name", "room"] [.ref g, .int wide, .int many] = [some (.ref g), some (.int wide), some (.int many), none, none, none, none, none, none, none] := rfl
  rw [st]
  have rl : (List.range ((wide : Int)).toNat).length = wide := by rw [List.length_range]; rfl
  refine asg_of (dr_lc (K := K) (F := F) (g0 := g) (c := c) (Pd := fun d => d ∈ [PyData.none, .none, .int 1, .int 2, .int 3, .int 0]) (List.range ((wide : Int)).toNat) (fun i : Nat => PyData.int (i : Int)) (it_rng1 (σ := [some (.ref g), some (.int wide), some (.int many), none, none, none, none, none, none, none]) (Dv.ea_cons (Dv.ev_var (i := 1) rfl (.int (wide : Int))) Dv.ea_nil) (by omega) (by omega)) (by omega) (fun x hx v F1 e1 hv => ?_) e fg hg (by omega) (fun p1 ws1 F1 H1 ds1 k1 hg1 hp1 f1 n1 h1 l1 a1 d1 => ?_))
  · exact ⟨[some (.ref g), some (.int wide), some (.int many), none, some v, none, none, none, none, none], fun H e Q q => q, rfl, fun H e Q q => q F1 H (Gr.refl e), dr_ixL (ds := [.none, .none, .int 1, .int 2, .int 3, .int 0]) (EvL.ev (Dv.el_lst (Dv.ea_cons Dv.ev_non (Dv.ea_cons Dv.ev_non (Dv.ea_cons (Dv.ev_int 1) (Dv.ea_cons (Dv.ev_int 2) (Dv.ea_cons (Dv.ev_int 3) (Dv.ea_cons (Dv.ev_int 0) Dv.ea_nil)))))) (by simp))) (fun F3 _ => dr_random (i := 0) rfl (by decide) (by decide) (by decide +kernel))⟩
  rw [rl] at l1 hg1
  obtain ⟨rs, rfl, hrs⟩ := rooms_of a1
  rw [List.length_map] at l1
  have k1' := k1.take hp1 f1 n1 h1
  have dr : Dp K (upd F1 p1 (.lst ws1)) (.ref p1) (.list (rs.map encRoom)) := .lst (SqL.of upd_same) (dps_ex (Ex.new f1) d1)
  -- the stuffs
  have ew : ∀ rs : List (Option Int), rs.length = wide → (((List.range ((wide : Int)).toNat).filter fun _ => true).map fun i : Nat => encStuff (chr "cadb" i, rs[i]?.getD none)) = (stuffsOf rs).map encStuff := fun rs h => by
    rw [filt_true]
    unfold stuffsOf
    rw [h, List.map_map] <;> rfl
  have lcS := fun (F9 : Hp) (hd9 : Dp K F9 (.ref p1) (.list (rs.map encRoom))) => lc_rule (K := K) (F := F9) (wi := iRng1 (tCons (tVar 1) tNil)) (g := gName 4) (tt := tYes) (te := tTup (tCons (tOp rIxS (tC (.str "cadb")) (tVar 4)) (tCons (tOp (rIxL K) (tVar 3) (tVar 4)) tNil))) (vs := [4]) (σ := [some (.ref g), some (.int wide), some (.int many), some (.ref p1), none, none, none, none, none, none])
    (List.range ((wide : Int)).toNat) (fun i : Nat => PyData.int (i : Int)) (fun i : Nat => encStuff (chr "cadb" i, rs[i]?.getD none)) (fun _ => true) (it_rng1 (Dv.ea_cons (Dv.ev_var (i := 1) rfl (.int (wide : Int))) Dv.ea_nil) (by omega) (by omega)) (by omega) (fun x hx v F1 e1 hv => by
      have hx3 : x < wide := by
        have := List.mem_range.mp hx
        omega
      refine ⟨[some (.ref g), some (.int wide), some (.int many), some (.ref p1), some v, none, none, none, none, none], fun H e Q q => q, rfl, fun H e Q q => q F1 H (Gr.refl e), fun _ => ?_⟩
      have hr : (rs.map encRoom)[x]? = some (encRoom (rs[x]?.getD none)) := by
        rw [List.getElem?_map, List.getElem?_eq_getElem (by omega)] <;> rfl
      refine Dv.ev_tup (Dv.ea_cons (Dv.ev_ixS (c := (("cadb" : Str).cps.toList)[x]?.getD 0) (Dv.ev_str _) (Dv.ev_var rfl hv) (by decide +kernel) ?_) (Dv.ea_cons (Dv.ev_ixL (Dv.ev_var (i := 3) rfl (dp_ex e1 hd9)) (Dv.ev_var rfl hv) (atI_nat hr)) Dv.ea_nil)) (by simp)
      have h4 : x < (("cadb" : Str).cps.toList).length := Nat.lt_of_lt_of_le (show x < 4 by omega) (by decide +kernel)
      exact atI_nat (by rw [List.getElem?_eq_getElem h4] <;> rfl))
  show tSeq _ _ _ [some (.ref g), some (.int wide), some (.int many), some (.ref p1), none, none, none, none, none, none] H1
  have x1 := k1'
  refine par_of2 ((EvL.ev (lcS _ dr)) H1 x1.fh _ fun sv F2 H2 g2 hsv => ?_)
  rw [ew rs l1] at hsv
  obtain ⟨ga, gs, gn, g3, grest⟩ := hg1
  have k2 := GrG.of g2 g3 x1.fg
  refine (Dv.el_lst (K := K) Dv.ea_nil (by simp)) H2 g2.fh _ fun p vs0 F3 H3 g3' p1n p2 p3 p4 => ?_
  cases p4
  have k3 := GrG.of g3' k2.2 k2.1.fg
  have pg : p ≠ g := fun z => by rw [z, k2.2] at p1n; exact nomatch p1n
  refine ⟨_, _, rfl, ?_⟩
  show tSeq _ _ _ [some (.ref g), some (.int wide), some (.int many), some (.ref p1), none, some sv, some (.ref p), none, none, none] H3
  have ln : (stuffsOf rs).length = wide := by unfold stuffsOf; rw [List.length_map, List.length_range, l1]
  have lcN := lc_rule (K := K) (F := F3) (te := tVar 8) (vs := [8, 9]) (tt := tYes) (g := gTup K 2 (gCons (gName 8) (gCons (gName 9) gNil))) (σ := [some (.ref g), some (.int wide), some (.int many), some (.ref p1), none, some sv, some (.ref p), none, none, none]) (stuffsOf rs) encStuff (fun z => PyData.str z.1) (fun _ => true) (it_list (Dv.ev_var (i := 5) rfl (dp_ex g3'.fx hsv))) (by omega)
    (fun z hz v F4 e4 hv4 => by
      obtain ⟨y1, y2, hy1, hy2, ht⟩ := tup2 hv4
      exact ⟨[some (.ref g), some (.int wide), some (.int many), some (.ref p1), none, some sv, some (.ref p), none, some y1, some y2], fun H e Q q => ht 8 9 _ H e _ q, rfl, fun H e Q q => q F4 H (Gr.refl e), fun _ => Dv.ev_var (i := 8) rfl hy1⟩)
  rw [filt_true] at lcN
  refine Dv.s_asg (K := K) (EvL.ev lcN) g3'.fh fun nv F4 H4 g4 hnv => ?_
  show tSeq _ _ _ [some (.ref g), some (.int wide), some (.int many), some (.ref p1), none, some sv, some (.ref p), some nv, none, none] H4
  have k4 := GrG.of g4 k3.2 k3.1.fg
  have kp4 := g4.keep p3 p2
  have pH : H p = none := er_ne (H := H) pg ▸ ex_none (Gr.hx (x1.trans k2.1)) (by rw [er_ne pg]; exact p1n)
  obtain ⟨names, hnames⟩ : ∃ names, names = (stuffsOf rs).map (·.1) := ⟨_, rfl⟩
  have hnv' : Dp K F4 nv (.list (names.map .str)) := by rw [hnames, List.map_map]; exact hnv
  have lnm : names.length = wide := by rw [hnames, List.length_map, ln]
  have k14 := ((x1.trans k2.1).trans k3.1).trans k4.1
  refine Dv.s_for (K := K) (F := F4) (it_rng1 (σ := [some (.ref g), some (.int wide), some (.int many), some (.ref p1), none, some sv, some (.ref p), some nv, none, none]) (Dv.ea_cons (Dv.ev_var (i := 2) rfl (.int (many : Int))) Dv.ea_nil) (by omega) (by omega)) g4.fh
    (fun n σ' F' H' => (∃ y, σ' = [some (.ref g), some (.int wide), some (.int many), some (.ref p1), y, some sv, some (.ref p), some nv, none, none]) ∧ GrG g F H F' H' ∧ Ex F4 F' ∧ GenAt H' g (c + 3 + 6 * n) ∧ F' p = none ∧ ∃ (vs : List V) (rc : List RecD), H' p = some (.lst vs) ∧ DpAll K F' vs (rc.map encRecipe) ∧ rc.map (·.1) = (List.range n).map (chr "srut") ∧ ∀ r ∈ rc, SideOk names r.2.1 ∧ SideOk names r.2.2)
    (fun F' H' g5 => ?_) ?_ (fun σ' F' H' e1 e2 pv => ?_)
  · have k5 := GrG.of g5 k4.2 k4.1.fg
    have kp5 := g5.keep kp4.1 kp4.2
    exact ⟨⟨none, rfl⟩, k14.trans k5.1, g5.fx, GenAt.mono ⟨ga, gs, gn, k5.2, grest⟩ (by omega), kp5.2, [], [], kp5.1, .nil, rfl, fun r hr => nomatch hr⟩
  · intro Fb eb n σ' F' H' av d F5 H5 hd' e1 e2 pv g5 hav
    obtain ⟨⟨y, rfl⟩, kk, e4', hg5, fp, vs, rc, hp, hds, hrn, hso⟩ := pv
    obtain ⟨ga5, gs5, gn5, g53, g5rest⟩ := hg5
    have k5 := GrG.of g5 g53 kk.fg
    have kp5 := g5.keep hp fp
    obtain ⟨hn, hdn⟩ := List.getElem?_eq_some_iff.mp hd'
    rw [List.length_map, List.length_range] at hn
    have hdn' : d = .int (n : Int) := by rw [← hdn, List.getElem_map, List.getElem_range]
    subst hdn'
    have hn3 : n < many := by omega
    have rl2 : rc.length = n := by
      have := congrArg List.length hrn
      rwa [List.length_map, List.length_map, List.length_range] at this
    have vl : vs.length = n := by rw [dps_len hds, List.length_map, rl2]
    have h4 : n < (("srut" : Str).cps.toList).length := Nat.lt_of_lt_of_le (show n < 4 by omega) (by decide +kernel)
    have nv5 := dp_ex (e4'.trans g5.fx) hnv'
    have t1 := Dv.ev_ixS (K := K) (F := F5) (σ := [some (.ref g), some (.int wide), some (.int many), some (.ref p1), some av, some sv, some (.ref p), some nv, none, none]) (x := ("srut" : Str)) (c := (("srut" : Str).cps.toList)[n]?.getD 0) (Dv.ev_str _) (Dv.ev_var (i := 4) rfl hav) (by decide +kernel) (atI_nat (by rw [List.getElem?_eq_getElem h4] <;> rfl))
    refine sr_app (K := K) (F := F5) (g := g) (k := 0 + (names.length + (names.length + 0))) (l := p) (i := 6) (c := c + 3 + 6 * n) (xs := vs) kp5.1 kp5.2 pg rfl (dr_tup (da_cons (dr_of (Pd := fun d => d = .str (chr "srut" n)) t1 rfl) (da_cons (dr_sides (i := 0) (j := 7) rfl rfl nv5) (da_cons (dr_sides (i := 0) (j := 7) rfl rfl nv5) da_nil))) (fun ds h => by
      obtain ⟨d1, r1, rfl, _, d2, r2, rfl, _, d3, r3, rfl, _, rfl⟩ := h
      simp)) g5.fh k5.1.fg ⟨ga5, gs5, gn5, k5.2, g5rest⟩ (by omega) (by omega) fun v2 F6 H6 d6 k6 hg6 p6 hv6 fp6 hp6 => ?_
    obtain ⟨ds, rfl, d1, r1, rfl, rfl, d2, r2, rfl, ⟨s1, so1, rfl⟩, d3, r3, rfl, ⟨s2, so2, rfl⟩, rfl⟩ := p6
    refine ⟨F6, (e1.trans g5.fx).trans k6.fx, Ex.mut k6.fh fp6, ⟨_, rfl⟩, ((kk.trans k5.1).trans k6).mut pH fp6 pg, (e4'.trans g5.fx).trans k6.fx, GenAt.mono hg6 (by omega), fp6, _, rc ++ [(chr "srut" n, s1, s2)], upd_same, ?_, ?_, fun r hr => ?_⟩
    · rw [List.map_append]
      exact dps_app (dps_ex (g5.fx.trans k6.fx) hds) (.cons hv6 .nil)
    · rw [List.map_append, hrn, List.range_succ, List.map_append] <;> rfl
    · rcases List.mem_append.mp hr with h | h
      · exact hso r h
      · rw [List.mem_singleton.mp h]
        exact ⟨so1, so2⟩
  · obtain ⟨⟨y, rfl⟩, kk, e4', hg5, fp, vs, rc, hp, hds, hrn, hso⟩ := pv
    rw [List.length_map, List.length_range] at hg5 hrn
    have em : ((many : Int)).toNat = many := rfl
    rw [em] at hg5 hrn
    have kt := kk.take pH fp pg hp
    have lr : rc.length = many := by
      have := congrArg List.length hrn
      rwa [List.length_map, List.length_map, List.length_range] at this
    have hrec : Dp K (upd F' p (.lst vs)) (.ref p) (.list (rc.map encRecipe)) := .lst (SqL.of upd_same) (dps_ex (Ex.new fp) hds)
    obtain ⟨ga5, gs5, gn5, g53, g5rest⟩ := hg5
    refine Dv.s_ret (K := K) (F := upd F' p (.lst vs)) (EvL.ev (Dv.el_lst (Dv.ea_cons (Dv.ev_var (i := 5) rfl (dp_ex ((g3'.fx.trans g4.fx).trans (e4'.trans (Ex.new fp))) hsv)) (Dv.ea_cons (Dv.ev_var (i := 6) rfl hrec) Dv.ea_nil)) (by simp))) kt.fh fun x F7 H7 g7 hx => ?_
    have k7 := GrG.of g7 g53 kt.fg
    exact q x F7 H7 ⟨stuffsOf rs, rc⟩ (kt.trans k7.1) (GenAt.mono ⟨ga5, gs5, gn5, k7.2, g5rest⟩ (by omega)) ⟨⟨rs, l1, hrs, rfl⟩, lr, hrn, fun r hr => by
      have := hso r hr
      rw [hnames] at this
      exact this⟩ hx
end
end R3

set_option Elab.async false
set_option linter.all false
set_option maxRecDepth 100000
set_option maxHeartbeats 4000000
namespace R3
open PySem PySem.Spec PyProof.Rows L2 Evl Dv
/-- an amount as it is drawn -/
def AmtOk (x : Fr) : Prop := ∃ t u : Int, x = frac t u ∧ 1 ≤ t ∧ t ≤ 5 ∧ 1 ≤ u ∧ u ≤ 3
structure BrewD (names : List Str) (brew : List (Str × Fr)) : Prop where
  sub : (brew.map (·.1)).Sublist names
  amt : ∀ z ∈ brew, AmtOk z.2
def spBrewDrawn (K : PySem.W.Frag) : Sp := fun vs H Q _ => ∃ (F : Hp) (g : Addr) (c : Nat) (v : V) (m : MillD), vs = [.ref g, v] ∧ Ex F H ∧ F g = none ∧ GenAt H g c ∧ c < 990000 ∧ Dp K F v (encParts m) ∧ m.recipes.length ≤ 3 ∧
  ∀ p ws F' H' brew, GrG g F H F' H' → GenAt H' g (c + 9) → BrewD (m.recipes.map (·.1)) brew → F' p = some (.lst ws) → DpAll K F' ws (brew.map encBrew) → Q (.ref p) H'
section
variable {P : Program} {w : World} {K : PySem.W.Frag} {mg : Str → Option Value} {base : Heap}
theorem sr_if {g : Addr} {k c : Nat} {te : TE} {σ : L2.St} {F H : Hp} {D : Ends} {ts tw : TS} (h : DrD K g k te σ F fun d => ∃ b, d = .bool b) (e : Ex F H) (f : F g = none) (hg : GenAt H g c) (hc : c + k < 999000)
    (q : ∀ (b : Bool) F' H', GrG g F H F' H' → GenAt H' g (c + k) → if b = true then ts D σ H' else tw D σ H') : tIfS (tTest te) ts tw D σ H := h H c e f hg hc _ fun v F' H' d x hg' p hv => by
  obtain ⟨b, rfl⟩ := p
  cases hv
  exact ⟨b, rfl, q b F' H' x hg'⟩
theorem GenAt.upd {H : Hp} {g p : Addr} {c : Nat} {o : HO} (h : GenAt H g c) (n : p ≠ g) : GenAt (upd H p o) g c := by
  obtain ⟨a, s, k, h3, r⟩ := h
  exact ⟨a, s, k, by unfold G3; rw [upd_ne (Ne.symm n)]; exact h3, r⟩
theorem GenAt.of {H H' F F' : Hp} {g : Addr} {c : Nat} (h : GenAt H g c) (x : Gr F H F' H') (f : F g = none) : GrG g F H F' H' ∧ GenAt H' g c := by
  obtain ⟨a, s, k, h3, r⟩ := h
  have z := GrG.of x h3 f
  exact ⟨z.1, a, s, k, z.2, r⟩
theorem GenAt.ne {H : Hp} {g p : Addr} {c : Nat} (h : GenAt H g c) (hp : H p = none) : p ≠ g := by
  obtain ⟨a, s, k, h3, r⟩ := h
  exact fun z => by rw [z, h3] at hp; exact nomatch hp
theorem sc__law_brew_drawn : FnScope (["generator", "parts", "found", "recipe"] : List Str) (["generator", "parts"] : List Str) (defScope sLawBrewDrawn) := ⟨rfl, rfl, rfl, by decide +kernel, rfl, by decide +kernel, by decide +kernel⟩
theorem ok_law_brew_drawn (D : Def K mg "_law_brew_drawn" sLawBrewDrawn ["generator", "parts"]) (B : Bl mg) (C__law_random : Cal P w K mg base "_law_random" ["generator", "bound"] 2 spRandom) (C__law_fraction : Cal P w K mg base "_law_fraction" ["top", "under"] 1 (spD K fFrac)) : Cal P w K mg base "_law_brew_drawn" ["generator", "parts"] 4 (spBrewDrawn K) := by
  refine cal_mk D sc__law_brew_drawn (fun vs H Q E h => ?_) (fun f cdv A outer s H vs Q E hr h => ?_)
  · obtain ⟨F, g, c, v, m, rfl, _⟩ := h
    rfl
  obtain ⟨F, g, c, v, m, rfl, e, fg, hg, hc, hv, m3, q⟩ := h
  refine ⟨_, (pss_cons (ps_set (i := 2) sc__law_brew_drawn.nd rfl (.inl rfl) (pe_lst pa_nil))
      (pss_cons (ps_for PassesOwn.never rfl (pi_list (pe_ix ix_list (pv 1) pe_int (fun _ _ => rfl))) (pg_name (i := 3) sc__law_brew_drawn.nd rfl (.inl rfl)) (pss_one (ps_if (pt_cmpR op_gt (pe_callC C__law_random hr (pa_cons (pv 0) (pa_cons pe_int pa_nil))) pe_int (nomark _)) (pss_one (ps_expr (pe_bm PySem.F.plainAttrs_list PySem.F.slot_list_append PySem.F.type_list_append mt_append (pv 2) (pa_cons (pe_tup (pa_cons (pe_ix ix_tup (pv 3) pe_int (fun _ _ => rfl)) (pa_cons (pe_callC C__law_fraction hr (pa_cons (pe_op op_add pe_int (pe_callC C__law_random hr (pa_cons (pv 0) (pa_cons pe_int pa_nil)))) (pa_cons (pe_op op_add pe_int (pe_callC C__law_random hr (pa_cons (pv 0) (pa_cons pe_int pa_nil)))) pa_nil))) pa_nil))) pa_nil)))) pss_nil)))
      (pss_one (ps_ret (pv 2))))), ?_⟩
  have st : start ["generator", "parts", "found", "recipe"] [.ref g, v] = [some (.ref g), some v, none, none] := rfl
  rw [st]
  refine Dv.s_asgL (K := K) (Dv.el_lst Dv.ea_nil (by simp)) e fun p vs0 F1 H1 g1 p1 p2 p3 p4 => ?_
  cases p4
  have k1 := hg.of g1 fg
  have pg := hg.ne p1
  have v1 := dp_ex g1.fx hv
  refine Dv.s_for (K := K) (F := F1) (it_list (Dv.ev_ixL (d := .list (m.recipes.map encRecipe)) (Dv.ev_var (i := 1) rfl v1) (Dv.ev_int 1) rfl)) g1.fh
    (fun n σ' F' H' => (∃ y, σ' = [some (.ref g), some v, some (.ref p), y]) ∧ GrG g F H F' H' ∧ GenAt H' g (c + 3 * n) ∧ F' p = none ∧ ∃ (vs : List V) (brew : List (Str × Fr)), H' p = some (.lst vs) ∧ DpAll K F' vs (brew.map encBrew) ∧ brew.length ≤ n ∧ BrewD ((m.recipes.take n).map (·.1)) brew)
    (fun F' H' g2 => ?_) ?_ (fun σ' F' H' e1 e2 pv => ?_)
  · have k2 := k1.2.of g2 k1.1.fg
    have kp := g2.keep p3 p2
    exact ⟨⟨none, rfl⟩, k1.1.trans k2.1, k2.2, kp.2, [], [], kp.1, .nil, Nat.le_refl _, ⟨List.nil_sublist _, fun z hz => nomatch hz⟩⟩
  · intro Fb eb n σ' F' H' rv d F2 H2 hd' e1 e2 pv g2 hrv
    obtain ⟨⟨y, rfl⟩, kk, hg2, fp, vs, brew, hp, hds, hlen, bd⟩ := pv
    obtain ⟨hn, hdn⟩ := List.getElem?_eq_some_iff.mp hd'
    rw [List.length_map] at hn
    have hdn' : d = encRecipe m.recipes[n] := by rw [← hdn, List.getElem_map]
    subst hdn'
    have k2 := hg2.of g2 kk.fg
    have kp := g2.keep hp fp
    have tk : (m.recipes.take (n + 1)).map (·.1) = (m.recipes.take n).map (·.1) ++ [m.recipes[n].1] := by rw [List.take_succ_eq_append_getElem hn, List.map_append] <;> rfl
    have skip : BrewD ((m.recipes.take (n + 1)).map (·.1)) brew := ⟨bd.sub.trans (by rw [tk]; exact List.sublist_append_left _ _), bd.amt⟩
    have vl : vs.length = brew.length := by
      have := dps_len hds
      rwa [List.length_map] at this
    show tIfS _ _ _ _ [some (.ref g), some v, some (.ref p), some rv] H2
    refine sr_if (K := K) (F := F2) (g := g) (k := 1 + 0) (c := c + 3 * n) (dr_op (dr_random (i := 0) rfl (by decide) (by decide) (by decide +kernel)) (dr_of (Pd := fun d => d = .int 0) (Dv.ev_int 0) rfl) fun a b F3 H3 x y _ e3 px py hx hy Q q => ?_) g2.fh k2.1.fg k2.2 (by omega) fun b F3 H3 k3 hg3 => ?_
    · obtain ⟨r, rfl, _⟩ := px
      subst py
      cases hx
      cases hy
      exact ⟨r, 0, rfl, rfl, q _ F3 H3 _ (Gr.refl e3) ⟨_, rfl⟩ (.bl _)⟩
    have kp3 := k3.keep kp.1 kp.2 pg
    have k13 := (kk.trans k2.1).trans k3
    cases b with
    | false => exact ⟨F3, (e1.trans g2.fx).trans k3.fx, k3.fh, ⟨_, rfl⟩, k13, hg3.mono (by omega), kp3.2, vs, brew, kp3.1, dps_ex (g2.fx.trans k3.fx) hds, by omega, skip⟩
    | true =>
      have hr3 := dp_ex k3.fx hrv
      refine sr_app (K := K) (F := F3) (g := g) (k := 0 + (((0 + 1) + ((0 + 1) + 0)) + 0)) (l := p) (i := 2) (c := c + 3 * n + (1 + 0)) (xs := vs) (Pd := fun d => ∃ x : Fr, d = encBrew (m.recipes[n].1, x) ∧ AmtOk x) kp3.1 kp3.2 pg rfl (DrD.imp (dr_tup (da_cons (dr_of (Pd := fun d => d = .str m.recipes[n].1) (Dv.ev_ixT (Dv.ev_var (i := 3) rfl hr3) (Dv.ev_int 0) rfl) rfl) (da_cons (dr_call (f := fFrac) (Pe := fun d => ∃ x, d = encF x ∧ AmtOk x)
          (da_cons (dr_add (m := 1) (n := 2) (m' := 0) (n' := 5) (dr_of (Dv.ev_int 1) ⟨1, rfl, by decide, by decide⟩) (dr_random (i := 0) rfl (by decide) (by decide) (by decide +kernel))) (da_cons (dr_add (m := 1) (n := 2) (m' := 0) (n' := 3) (dr_of (Dv.ev_int 1) ⟨1, rfl, by decide, by decide⟩) (dr_random (i := 0) rfl (by decide) (by decide) (by decide +kernel))) da_nil)) (fun ds h => ?_)) da_nil)) (fun ds h => ?_)) fun d h => ?_) k3.fh k3.fg hg3 (by omega) (by omega) fun v2 F6 H6 d6 k6 hg6 p6 hv6 fp6 hp6 => ?_
      · obtain ⟨d1, r1, rfl, ⟨t, rfl, t0, t1⟩, d2, r2, rfl, ⟨u, rfl, u0, u1⟩, rfl⟩ := h
        exact ⟨_, ⟨t, u, rfl, by omega, by omega, rfl⟩, frac t u, rfl, t, u, rfl, by omega, by omega, by omega, by omega⟩
      · obtain ⟨d1, r1, rfl, _, d2, r2, rfl, _, rfl⟩ := h
        simp
      · obtain ⟨ds, rfl, d1, r1, rfl, rfl, d2, r2, rfl, ⟨x, rfl, hx⟩, rfl⟩ := h
        exact ⟨x, rfl, hx⟩
      obtain ⟨x, rfl, hx⟩ := p6
      have pH : H p = none := p1
      refine ⟨F6, ((e1.trans g2.fx).trans k3.fx).trans k6.fx, Ex.mut k6.fh fp6, ⟨_, rfl⟩, (k13.trans k6).mut pH fp6 pg, hg6.mono (by omega), fp6, _, brew ++ [(m.recipes[n].1, x)], upd_same, ?_, by rw [List.length_append]; simp; omega, ?_, fun z hz => ?_⟩
      · rw [List.map_append]
        exact dps_app (dps_ex ((g2.fx.trans k3.fx).trans k6.fx) hds) (.cons hv6 .nil)
      · rw [List.map_append, tk]
        exact bd.sub.append (List.Sublist.refl _)
      · rcases List.mem_append.mp hz with h | h
        · exact bd.amt z h
        · rw [List.mem_singleton.mp h]
          exact hx
  · obtain ⟨⟨y, rfl⟩, kk, hg2, fp, vs, brew, hp, hds, hlen, bd⟩ := pv
    rw [List.length_map] at hg2 bd
    rw [List.take_length] at bd
    exact ⟨_, rfl, q _ _ _ _ brew (kk.take p1 fp pg hp) (hg2.mono (by omega)) bd upd_same (dps_ex (Ex.new fp) hds)⟩
end
end R3

set_option Elab.async false
set_option linter.all false
set_option maxRecDepth 100000
set_option maxHeartbeats 4000000
namespace R3
open PySem PySem.Spec PyProof.Rows L2 Evl Dv
/-! ### plain: rows of the law and of the program -/
theorem idx_ne {a n : Str} {r : List Str} (e : ¬ a = n) : (a :: r).idxOf n = r.idxOf n + 1 := by
  rw [List.idxOf_cons, show (a == n) = false from beq_eq_false_iff_ne.mpr e]
  rfl
theorem set_map : ∀ {names : List Str} {f : Str → Int} {n : Str} {v : Int}, names.Nodup → n ∈ names → (names.map f).set (names.idxOf n) v = names.map fun s => if n = s then v else f s
  | [], _, _, _, _, h => nomatch h
  | a :: r, f, n, v, nd, h => by
    have nd' := List.nodup_cons.mp nd
    by_cases e : a = n
    · subst e
      rw [List.idxOf_cons_self, List.map_cons, List.set_cons_zero, List.map_cons, if_pos rfl]
      congr 1
      refine List.map_congr_left fun s hs => ?_
      rw [if_neg (fun q => nd'.1 (by rw [q]; exact hs))]
    · have hr : n ∈ r := by
        rcases List.mem_cons.mp h with q | q
        · exact absurd q.symm e
        · exact q
      rw [idx_ne e, List.map_cons, List.set_cons_succ, set_map nd'.2 hr, List.map_cons, if_neg (fun q => e q.symm)]
theorem numbers_go {names : List Str} (nd : names.Nodup) : ∀ (ps : List (Str × Int)) (f : Str → Int), (∀ p ∈ ps, p.1 ∈ names) →
    ps.foldl (fun acc p => acc.set (names.idxOf p.1) p.2) (names.map f) = names.map fun s => ps.foldl (fun acc z => if z.1 = s then z.2 else acc) (f s)
  | [], f, _ => rfl
  | p :: r, f, h => by
    rw [List.foldl_cons, set_map nd (h p (List.mem_cons_self ..)), numbers_go nd r _ fun q hq => h q (List.mem_cons_of_mem _ hq)]
    rfl
theorem numbers_side {m : MillD} (nd : m.names.Nodup) {ps : List (Str × Int)} (h : ∀ p ∈ ps, p.1 ∈ m.names) : numbersOf m.names ps = sideL m.stuffs ps := by
  unfold numbersOf sideL
  have e : List.replicate m.names.length (0 : Int) = m.names.map fun _ => 0 := by
    rw [List.map_const']
  rw [e, numbers_go nd ps _ h]
  unfold MillD.names
  rw [List.map_map]
  rfl
theorem recipe_parts {m : MillD} (ok : m.Ok) {r : RecD} (h : r ∈ m.recipes) : (∀ p ∈ r.2.1, p.1 ∈ m.names) ∧ ∀ p ∈ r.2.2, p.1 ∈ m.names := by
  have := (ok.rs r h).2
  unfold encRecipe isRecipe at this
  rw [Bool.and_eq_true, Bool.and_eq_true] at this
  exact ⟨parts_in this.1.2, parts_in this.2⟩
theorem gains_side {m : MillD} (ok : m.Ok) {r : RecD} (h : r ∈ m.recipes) : gainsOf m.names r = gainsL m.stuffs r := by
  unfold gainsOf gainsL
  rw [numbers_side ok.sn (recipe_parts ok h).1, numbers_side ok.sn (recipe_parts ok h).2]
theorem filter_first : ∀ {rs : List RecD} {n : Str}, n ∈ rs.map (·.1) → (rs.filter fun r => decide (r.1 = n))[0]? = rs[(rs.map (·.1)).idxOf n]?
  | [], _, h => nomatch h
  | a :: r, n, h => by
    by_cases e : a.1 = n
    · rw [List.map_cons, e, List.idxOf_cons_self, List.filter_cons, if_pos (by rw [e]; exact decide_eq_true rfl)]
      rfl
    · have hr : n ∈ r.map (·.1) := by
        rcases List.mem_cons.mp h with q | q
        · exact absurd q.symm e
        · exact q
      rw [List.map_cons, idx_ne e, List.filter_cons, if_neg (by rw [decide_eq_true_iff]; exact e), filter_first hr, List.getElem?_cons_succ]
theorem recipe_at {m : MillD} {n : Str} (h : n ∈ m.titles) : ∃ r, m.recipes[m.titles.idxOf n]? = some r ∧ r ∈ m.recipes ∧ (m.recipes.filter fun r => decide (r.1 = n))[0]? = some r := by
  have hl : m.titles.idxOf n < m.recipes.length := by
    have := List.idxOf_lt_length_of_mem h
    unfold MillD.titles at this ⊢
    rwa [List.length_map] at this
  refine ⟨m.recipes[m.titles.idxOf n], List.getElem?_eq_getElem hl, List.getElem_mem hl, ?_⟩
  rw [filter_first h]
  exact List.getElem?_eq_getElem hl
theorem row_side {m : MillD} (ok : m.Ok) {n : Str} (h : n ∈ m.titles) : rowOf m n = rowL m.stuffs m.recipes n := by
  obtain ⟨r, h1, h2, h3⟩ := recipe_at h
  unfold rowOf rowL
  rw [h1, h3]
  exact gains_side ok h2
theorem fold_side {m : MillD} (ok : m.Ok) : ∀ (brew : List (Str × Fr)) (acc : List Fr), (∀ z ∈ brew, z.1 ∈ m.titles) → brew.foldl (fun f z => gstep f z.2 (rowOf m z.1)) acc = brew.foldl (fun f z => gstep f z.2 (rowL m.stuffs m.recipes z.1)) acc
  | [], _, _ => rfl
  | z :: r, acc, h => by
    rw [List.foldl_cons, List.foldl_cons, row_side ok (h z (List.mem_cons_self ..)), fold_side ok r _ fun q hq => h q (List.mem_cons_of_mem _ hq)]
theorem gains_law {m : MillD} (ok : m.Ok) {brew : List (Str × Fr)} (h : ∀ z ∈ brew, z.1 ∈ m.titles) : gainsM m brew = lawAll m.stuffs m.recipes brew := fold_side ok brew _ h
/-! ### bounds -/
theorem frac_bd {t u : Int} (h : 0 < u) : 0 < (frac t u).2 ∧ (frac t u).2 ≤ u ∧ (frac t u).1.natAbs ≤ t.natAbs := by
  have g0 : 0 < Nat.gcd t.natAbs u.natAbs := Nat.gcd_pos_of_pos_right _ (by omega)
  have gu : (Nat.gcd t.natAbs u.natAbs) ∣ u.natAbs := Nat.gcd_dvd_right _ _
  have gt : (Nat.gcd t.natAbs u.natAbs) ∣ t.natAbs := Nat.gcd_dvd_left _ _
  obtain ⟨q, hq⟩ := gu
  obtain ⟨r, hr⟩ := gt
  unfold frac
  dsimp only
  generalize hg : Nat.gcd t.natAbs u.natAbs = g at *
  have eu : u = (g : Int) * (q : Int) := by
    have : u = (u.natAbs : Int) := by omega
    rw [this, hq]
    exact Int.natCast_mul _ _
  have e2 : u / (g : Int) = (q : Int) := by rw [eu]; exact Int.mul_ediv_cancel_left _ (by omega)
  have qpos : 0 < q := by
    rcases Nat.eq_zero_or_pos q with z | z
    · rw [z] at hq
      omega
    · exact z
  rw [e2]
  refine ⟨by omega, ?_, ?_⟩
  · have : q ≤ g * q := Nat.le_mul_of_pos_left q g0
    have : (q : Int) ≤ (g : Int) * (q : Int) := by
      rw [← Int.natCast_mul]
      omega
    omega
  · have hd : (g : Int) ∣ t := Int.ofNat_dvd_left.mpr ⟨r, hr⟩
    obtain ⟨s, hs⟩ := hd
    have e3 : t / (g : Int) = s := by rw [hs]; exact Int.mul_ediv_cancel_left _ (by omega)
    rw [e3, hs, Int.natAbs_mul]
    exact Nat.le_mul_of_pos_left _ (by omega)
/-- the bound behind n steps -/
def Bd (n : Nat) (z : Fr) : Prop := 0 < z.2 ∧ z.2 ≤ ((3 ^ n : Nat) : Int) ∧ z.1.natAbs ≤ 15 * 4 ^ n
/-- the bound of one addend -/
def Ad (z : Fr) : Prop := 0 < z.2 ∧ z.2 ≤ 3 ∧ z.1.natAbs ≤ 15
theorem Bd.zero : Bd 0 (0, 1) := ⟨by decide, by decide, by decide⟩
theorem Bd.step {n : Nat} {z x : Fr} (h : Bd n z) (a : Ad x) : Bd (n + 1) (fplus z x) := by
  obtain ⟨z0, z1, z2⟩ := h
  obtain ⟨x0, x1, x2⟩ := a
  have pos : 0 < z.2 * x.2 := Int.mul_pos z0 x0
  obtain ⟨f0, f1, f2⟩ := frac_bd (t := z.1 * x.2 + x.1 * z.2) pos
  unfold fplus
  refine ⟨f0, Int.le_trans f1 ?_, Nat.le_trans f2 ?_⟩
  · have h1 : z.2 * x.2 ≤ ((3 ^ n : Nat) : Int) * 3 := Int.mul_le_mul z1 x1 (Int.le_of_lt x0) (by omega)
    rw [Nat.pow_succ, Int.natCast_mul]
    exact h1
  · have e1 : (z.1 * x.2 + x.1 * z.2).natAbs ≤ z.1.natAbs * x.2.natAbs + x.1.natAbs * z.2.natAbs := by
      rw [← Int.natAbs_mul, ← Int.natAbs_mul]
      exact Int.natAbs_add_le _ _
    have e2 : z.1.natAbs * x.2.natAbs ≤ (15 * 4 ^ n) * 3 := Nat.mul_le_mul z2 (by omega)
    have e3 : x.1.natAbs * z.2.natAbs ≤ 15 * 3 ^ n := Nat.mul_le_mul x2 (by omega)
    have e4 : 3 ^ n ≤ 4 ^ n := Nat.pow_le_pow_left (by decide) n
    rw [Nat.pow_succ]
    omega
theorem Bd.sm {n : Nat} {z : Fr} (h : Bd n z) (hn : n ≤ 8) : Sm z := by
  obtain ⟨z0, z1, z2⟩ := h
  have e3 : 3 ^ n ≤ 3 ^ 8 := Nat.pow_le_pow_right (by decide) hn
  have e4 : 4 ^ n ≤ 4 ^ 8 := Nat.pow_le_pow_right (by decide) hn
  have q3 : (3 ^ 8 : Nat) = 6561 := by decide
  have q4 : (4 ^ 8 : Nat) = 65536 := by decide
  exact ⟨z0, by omega, by omega, by omega⟩
theorem Ad.sm {z : Fr} (h : Ad z) : Sm z := by
  obtain ⟨z0, z1, z2⟩ := h
  exact ⟨z0, by omega, by omega, by omega⟩
theorem amt_bd {x : Fr} (h : AmtOk x) : 0 < x.2 ∧ x.2 ≤ 3 ∧ x.1.natAbs ≤ 5 := by
  obtain ⟨t, u, rfl, t0, t1, u0, u1⟩ := h
  obtain ⟨f0, f1, f2⟩ := frac_bd (t := t) (u := u) (by omega)
  exact ⟨f0, by omega, by omega⟩
theorem ad_scaled {x : Fr} {k : Int} (h : AmtOk x) (hk : k.natAbs ≤ 3) : Ad (fscaled x k) := by
  obtain ⟨x0, x1, x2⟩ := amt_bd h
  obtain ⟨f0, f1, f2⟩ := frac_bd (t := x.1 * k) (u := x.2) x0
  unfold fscaled
  refine ⟨f0, by omega, Nat.le_trans f2 ?_⟩
  rw [Int.natAbs_mul]
  have := Nat.mul_le_mul x2 hk
  omega
theorem last_bd {s : Str} : ∀ (ps : List (Str × Int)) (i : Int), (∀ p ∈ ps, 1 ≤ p.2 ∧ p.2 ≤ 3) → 0 ≤ i → i ≤ 3 → 0 ≤ ps.foldl (fun acc z => if z.1 = s then z.2 else acc) i ∧ ps.foldl (fun acc z => if z.1 = s then z.2 else acc) i ≤ 3
  | [], i, _, a, b => ⟨a, b⟩
  | p :: r, i, h, a, b => by
    rw [List.foldl_cons]
    have hp := h p (List.mem_cons_self ..)
    refine last_bd r _ (fun q hq => h q (List.mem_cons_of_mem _ hq)) ?_ ?_
    · split
      · omega
      · exact a
    · split
      · omega
      · exact b
theorem row_bd {stuffs : List (Str × Option Int)} {r : RecD} {names : List Str} (h1 : SideOk names r.2.1) (h2 : SideOk names r.2.2) : ∀ k ∈ gainsL stuffs r, k.natAbs ≤ 3 := by
  intro k hk
  unfold gainsL at hk
  obtain ⟨w, hw, rfl⟩ := List.mem_map.mp hk
  have a1 := (List.of_mem_zip hw).1
  have a2 := (List.of_mem_zip hw).2
  unfold sideL at a1 a2
  obtain ⟨s1, _, e1⟩ := List.mem_map.mp a1
  obtain ⟨s2, _, e2⟩ := List.mem_map.mp a2
  have b1 := last_bd (s := s1.1) r.2.1 0 h1.num (by decide) (by decide)
  have b2 := last_bd (s := s2.1) r.2.2 0 h2.num (by decide) (by decide)
  unfold lastOf at e1 e2
  rw [e1] at b1
  rw [e2] at b2
  omega
end R3

set_option Elab.async false
set_option linter.all false
set_option maxRecDepth 100000
set_option maxHeartbeats 4000000
namespace R3
open PySem PySem.Spec PyProof.Rows L2 Evl Dv
/-! ### plain: a drawn mill is a mill, a drawn brew a brew -/
theorem frac_nat {t u : Nat} : frac (t : Int) (u : Int) = (((t / Nat.gcd t u : Nat) : Int), ((u / Nat.gcd t u : Nat) : Int)) := by
  unfold frac
  rw [Int.natAbs_natCast, Int.natAbs_natCast, Int.natCast_ediv, Int.natCast_ediv]
theorem amt_nat {x : Fr} (h : AmtOk x) : ∃ a b : Nat, x = ((a : Int), (b : Int)) ∧ 0 < a ∧ 0 < b ∧ Nat.gcd a b = 1 := by
  obtain ⟨t, u, rfl, t0, t1, u0, u1⟩ := h
  obtain ⟨t, rfl⟩ := Int.eq_ofNat_of_zero_le (show 0 ≤ t by omega)
  obtain ⟨u, rfl⟩ := Int.eq_ofNat_of_zero_le (show 0 ≤ u by omega)
  have g0 : 0 < Nat.gcd t u := Nat.gcd_pos_of_pos_right _ (by omega)
  refine ⟨_, _, frac_nat, ?_, ?_, ?_⟩
  · exact Nat.div_pos (Nat.le_of_dvd (by omega) (Nat.gcd_dvd_left _ _)) g0
  · exact Nat.div_pos (Nat.le_of_dvd (by omega) (Nat.gcd_dvd_right _ _)) g0
  · rw [Nat.gcd_div (Nat.gcd_dvd_left _ _) (Nat.gcd_dvd_right _ _), Nat.div_self g0]
theorem amt_is {x : Fr} (h : AmtOk x) : isAmt (encF x) = true ∧ PyData.eqv (encF x) (.tuple [.int 0, .int 1]) = false := by
  obtain ⟨a, b, rfl, a0, b0, hg⟩ := amt_nat h
  constructor
  · show (isFrac (.tuple [.int a, .int b]) && decide (0 ≤ (a : Int))) = true
    rw [Bool.and_eq_true]
    refine ⟨?_, decide_eq_true (by omega)⟩
    show (decide (1 ≤ (b : Int)) && (Nat.gcd (a : Int).natAbs (b : Int).natAbs == 1)) = true
    rw [Int.natAbs_natCast, Int.natAbs_natCast, hg, Bool.and_eq_true]
    exact ⟨decide_eq_true (by omega), rfl⟩
  · have : ¬ ((a : Int) = 0) := by omega
    simp [encF, PyData.eqv, PyData.eqvAll, this]
    omega
theorem sub_drop {x : Str} {r : List Str} : ∀ {ts : List Str}, (x :: r).Sublist ts → x ∈ ts ∧ r.Sublist (ts.drop (ts.idxOf x + 1))
  | [], h => nomatch h
  | a :: ts, h => by
    by_cases e : a = x
    · subst e
      rw [List.idxOf_cons_self]
      refine ⟨List.mem_cons_self .., ?_⟩
      show r.Sublist ts
      cases h with
      | cons _ h => exact (List.sublist_cons_self _ _).trans h
      | cons_cons _ h => exact h
    · rw [idx_ne e]
      show x ∈ a :: ts ∧ r.Sublist (ts.drop (ts.idxOf x + 1))
      cases h with
      | cons _ h =>
        have := sub_drop h
        exact ⟨List.mem_cons_of_mem _ this.1, this.2⟩
      | cons_cons _ h => exact absurd rfl e
theorem brew_go : ∀ {brew : List (Str × Fr)} {ts : List Str}, (brew.map (·.1)).Sublist ts → (∀ z ∈ brew, AmtOk z.2) → brewGo ts (brew.map encBrew) = true
  | [], _, _, _ => rfl
  | z :: r, ts, h, ha => by
    have s := sub_drop h
    have hz := amt_is (ha z (List.mem_cons_self ..))
    show (isPair2 (encBrew z) && decide (z.1 ∈ ts) && isAmt (encF z.2) && !PyData.eqv (encF z.2) (.tuple [.int 0, .int 1]) && brewGo (ts.drop (ts.idxOf z.1 + 1)) (r.map encBrew)) = true
    rw [brew_go s.2 fun q hq => ha q (List.mem_cons_of_mem _ hq), hz.1, hz.2, decide_eq_true s.1]
    rfl
/-! #### the mill -/
theorem chr_cad {i : Nat} (h : i < 3) : chr "cadb" i = "c" ∨ chr "cadb" i = "a" ∨ chr "cadb" i = "d" := by
  match i, h with
  | 0, _ => exact .inl (by decide +kernel)
  | 1, _ => exact .inr (.inl (by decide +kernel))
  | 2, _ => exact .inr (.inr (by decide +kernel))
theorem chr_sru {i : Nat} (h : i < 3) : chr "srut" i = "s" ∨ chr "srut" i = "r" ∨ chr "srut" i = "u" := by
  match i, h with
  | 0, _ => exact .inl (by decide +kernel)
  | 1, _ => exact .inr (.inl (by decide +kernel))
  | 2, _ => exact .inr (.inr (by decide +kernel))
theorem range_names {s : Str} {n : Nat} {x : Str} (h : x ∈ (List.range n).map (chr s)) : ∃ i, i < n ∧ x = chr s i := by
  obtain ⟨i, hi, rfl⟩ := List.mem_map.mp h
  exact ⟨i, List.mem_range.mp hi, rfl⟩
theorem nd_cad {n : Nat} (h : n ≤ 3) : ((List.range n).map (chr "cadb")).Nodup := by
  match n, h with
  | 0, _ => decide +kernel
  | 1, _ => decide +kernel
  | 2, _ => decide +kernel
  | 3, _ => decide +kernel
theorem nd_sru {n : Nat} (h : n ≤ 3) : ((List.range n).map (chr "srut")).Nodup := by
  match n, h with
  | 0, _ => decide +kernel
  | 1, _ => decide +kernel
  | 2, _ => decide +kernel
  | 3, _ => decide +kernel
theorem Drawn.names {m : MillD} {wide many : Nat} (d : Drawn m wide many) : m.names = (List.range wide).map (chr "cadb") := by
  obtain ⟨rs, h1, h2, h3⟩ := d.st
  unfold MillD.names
  rw [h3]
  unfold stuffsOf
  rw [List.map_map, h1]
  rfl
theorem Drawn.slen {m : MillD} {wide many : Nat} (d : Drawn m wide many) : m.stuffs.length = wide := by
  have := congrArg List.length d.names
  unfold MillD.names at this
  rwa [List.length_map, List.length_map, List.length_range] at this
theorem name_ok {x : Str} (h : x = "c" ∨ x = "a" ∨ x = "d" ∨ x = "s" ∨ x = "r" ∨ x = "u") : nameS x = true ∧ gd (.str x) = true := by
  rcases h with rfl | rfl | rfl | rfl | rfl | rfl <;> exact ⟨by decide +kernel, by decide +kernel⟩
theorem in_names {m : MillD} {wide many : Nat} (d : Drawn m wide many) (w : wide ≤ 3) {x : Str} (h : x ∈ m.names) : nameS x = true ∧ gd (.str x) = true := by
  rw [d.names] at h
  obtain ⟨i, hi, rfl⟩ := range_names h
  rcases chr_cad (i := i) (by omega) with e | e | e <;> rw [e] <;> exact name_ok (by simp)
theorem gds_nil : gds [] = true := by rw [gds]
theorem gds_cons (x : PyData) (xs : List PyData) : gds (x :: xs) = (gd x && gds xs) := by rw [gds]
theorem gd_int (k : Int) : gd (.int k) = true := by simp [gd]
theorem gd_tuple (xs : List PyData) : gd (.tuple xs) = (decide (xs.length ≤ 30000) && gds xs) := by rw [gd]
theorem gd_lst (xs : List PyData) : gd (.list xs) = (decide (xs.length ≤ 30000) && gds xs) := by rw [gd]
theorem part_is {x : Str} {k : Int} (h : nameS x = true ∧ gd (.str x) = true) (h1 : 1 ≤ k) (h3 : k ≤ 3) : partOk (encPart (x, k)) = true ∧ gd (encPart (x, k)) = true := by
  constructor
  · show (nameS x && isNum (.int k) 1) = true
    rw [h.1]
    show (true && (isWhole (.int k) && (decide (1 ≤ k) && decide (k ≤ 1000000)))) = true
    rw [decide_eq_true h1, decide_eq_true (show k ≤ 1000000 by omega)]
    rfl
  · show gd (.tuple [PyData.str x, PyData.int k]) = true
    rw [gd_tuple, gds_cons, gds_cons, gds_nil, gd_int, h.2]
    rfl
theorem side_is {m : MillD} {wide many : Nat} (d : Drawn m wide many) (w : wide ≤ 3) {s : List (Str × Int)} (h : SideOk m.names s) : areParts m.names (.list (s.map encPart)) = true ∧ gd (.list (s.map encPart)) = true := by
  have hin : ∀ p ∈ s, p.1 ∈ m.names := fun p hp => h.sub.subset (List.mem_map.mpr ⟨p, hp, rfl⟩)
  have hp : ∀ p ∈ s, partOk (encPart p) = true ∧ gd (encPart p) = true := fun p hp => part_is (in_names d w (hin p hp)) (h.num p hp).1 (h.num p hp).2
  have nd : (s.map (·.1)).Nodup := h.sub.nodup (by rw [d.names]; exact nd_cad w)
  match s, h.few, hin, hp, nd with
  | [], _, _, _, _ => exact ⟨rfl, by decide +kernel⟩
  | [a], _, hin, hp, nd =>
    have ha := hp a (List.mem_singleton.mpr rfl)
    constructor
    · show (partOk (encPart a) && decide (a.1 ∈ m.names) && !decide (a.1 ∈ ([] : List Str)) && true) = true
      rw [ha.1, decide_eq_true (hin a (List.mem_singleton.mpr rfl))]
      rfl
    · show gd (.list [encPart a]) = true
      rw [gd_lst, gds_cons, gds_nil, ha.2]
      rfl
  | [a, b], _, hin, hp, nd =>
    have ma : a ∈ [a, b] := List.mem_cons_self ..
    have mb : b ∈ [a, b] := List.mem_cons_of_mem _ (List.mem_cons_self ..)
    have ha := hp a ma
    have hb := hp b mb
    have ne : ¬ b.1 ∈ [a.1] := fun e => (List.nodup_cons.mp nd).1 (List.mem_cons.mpr (.inl (List.mem_singleton.mp e).symm))
    constructor
    · show (partOk (encPart a) && decide (a.1 ∈ m.names) && !decide (a.1 ∈ ([] : List Str)) && (partOk (encPart b) && decide (b.1 ∈ m.names) && !decide (b.1 ∈ [a.1]) && true)) = true
      rw [ha.1, hb.1, decide_eq_true (hin a ma), decide_eq_true (hin b mb), decide_eq_false ne]
      rfl
    · show gd (.list [encPart a, encPart b]) = true
      rw [gd_lst, gds_cons, gds_cons, gds_nil, ha.2, hb.2]
      rfl
theorem Drawn.ok {m : MillD} {wide many : Nat} (d : Drawn m wide many) (w1 : 1 ≤ wide) (w : wide ≤ 3) (mm : many ≤ 3) : m.Ok := by
  refine ⟨by rw [d.slen]; exact w1, by rw [d.slen]; omega, by rw [d.names]; exact nd_cad w, fun z hz => ?_, by rw [d.rl]; omega, by rw [d.rn]; exact nd_sru mm, fun z hz => ?_⟩
  · have hn := in_names d w (List.mem_map.mpr ⟨z, hz, rfl⟩ : z.1 ∈ m.names)
    obtain ⟨rs, h1, h2, h3⟩ := d.st
    have hr : z.2 ∈ [none, some 1, some 2, some 3, some 0] := by
      rw [h3] at hz
      unfold stuffsOf at hz
      obtain ⟨i, hi, rfl⟩ := List.mem_map.mp hz
      have hi' := List.mem_range.mp hi
      show rs[i]?.getD none ∈ _
      rw [List.getElem?_eq_getElem hi']
      exact h2 _ (List.getElem_mem hi')
    obtain ⟨x, r⟩ := z
    have hr' : gd (encRoom r) = true ∧ (nonB (encRoom r) || isNum (encRoom r) 0) = true := by
      simp only [List.mem_cons, List.not_mem_nil, or_false] at hr
      rcases hr with rfl | rfl | rfl | rfl | rfl <;> exact ⟨by decide +kernel, by decide +kernel⟩
    constructor
    · show gd (.tuple [.str x, encRoom r]) = true
      rw [gd_tuple, gds_cons, gds_cons, gds_nil, hr'.1, hn.2]
      rfl
    · show (nameS x && (nonB (encRoom r) || isNum (encRoom r) 0)) = true
      rw [hn.1, hr'.2]
      rfl
  · obtain ⟨s1, s2⟩ := d.ro z hz
    have a1 := side_is d w s1
    have a2 := side_is d w s2
    have hn : nameS z.1 = true ∧ gd (.str z.1) = true := by
      have : z.1 ∈ m.recipes.map (·.1) := List.mem_map.mpr ⟨z, hz, rfl⟩
      rw [d.rn] at this
      obtain ⟨i, hi, e⟩ := range_names this
      rw [e]
      rcases chr_sru (i := i) (by omega) with e | e | e <;> rw [e] <;> exact name_ok (by simp)
    constructor
    · show gd (.tuple [.str z.1, .list (z.2.1.map encPart), .list (z.2.2.map encPart)]) = true
      rw [gd_tuple, gds_cons, gds_cons, gds_cons, gds_nil, a1.2, a2.2, hn.2]
      rfl
    · show (nameS z.1 && areParts m.names (.list (z.2.1.map encPart)) && areParts m.names (.list (z.2.2.map encPart))) = true
      rw [hn.1, a1.1, a2.1]
      rfl
end R3

set_option Elab.async false
set_option linter.all false
set_option maxRecDepth 100000
set_option maxHeartbeats 4000000
namespace R3
open PySem PySem.Spec PyProof.Rows L2 Evl Dv
/-! ### plain: a drawn brew, drawn prices -/
theorem gd_encF (x : Fr) : gd (encF x) = true := by
  show gd (.tuple [.int x.1, .int x.2]) = true
  rw [gd_tuple, gds_cons, gds_cons, gds_nil, gd_int, gd_int]
  rfl
theorem gds_map {α : Type} (f : α → PyData) : ∀ xs : List α, (∀ x ∈ xs, gd (f x) = true) → gds (xs.map f) = true
  | [], _ => gds_nil
  | x :: r, h => by
    rw [List.map_cons, gds_cons, h x (List.mem_cons_self ..), gds_map f r fun y hy => h y (List.mem_cons_of_mem _ hy)]
    rfl
theorem gd_listMap {α : Type} (f : α → PyData) (xs : List α) (hl : xs.length ≤ 30000) (h : ∀ x ∈ xs, gd (f x) = true) : gd (.list (xs.map f)) = true := by
  rw [gd_lst, gds_map f xs h, List.length_map, decide_eq_true hl]
  rfl
theorem gains_bd {stuffs : List (Str × Option Int)} {rs : List RecD} : ∀ (brew : List (Str × Fr)) (acc : List Fr) (k : Nat), (∀ z ∈ acc, Bd k z) → (∀ z ∈ brew, AmtOk z.2 ∧ ∀ e ∈ rowL stuffs rs z.1, e.natAbs ≤ 3) →
    ∀ z ∈ brew.foldl (fun f z => gstep f z.2 (rowL stuffs rs z.1)) acc, Bd (k + brew.length) z
  | [], acc, k, h, _ => h
  | b :: r, acc, k, h, hb => by
    rw [List.foldl_cons]
    have e : k + (b :: r).length = (k + 1) + r.length := by rw [List.length_cons]; omega
    rw [e]
    refine gains_bd r _ (k + 1) (fun z hz => ?_) fun z hz => hb z (List.mem_cons_of_mem _ hz)
    unfold gstep at hz
    obtain ⟨y, hy, rfl⟩ := List.mem_map.mp hz
    have hm := List.of_mem_zip hy
    have h0 := hb b (List.mem_cons_self ..)
    exact (h _ hm.1).step (ad_scaled h0.1 (h0.2 _ hm.2))
theorem worth_bd : ∀ (l : List (Fr × Int)) (acc : Fr) (k : Nat), Bd k acc → (∀ z ∈ l, AmtOk z.1 ∧ z.2.natAbs ≤ 3) → Bd (k + l.length) (l.foldl (fun t z => fplus t (fscaled z.1 z.2)) acc)
  | [], _, _, h, _ => h
  | z :: r, acc, k, h, hb => by
    rw [List.foldl_cons]
    have e : k + (z :: r).length = (k + 1) + r.length := by rw [List.length_cons]; omega
    rw [e]
    have h0 := hb z (List.mem_cons_self ..)
    exact worth_bd r _ (k + 1) (h.step (ad_scaled h0.1 h0.2)) fun y hy => hb y (List.mem_cons_of_mem _ hy)
section
variable {m : MillD} {wide many : Nat}
theorem Drawn.tlen (d : Drawn m wide many) : m.titles.length = many := by
  unfold MillD.titles
  rw [List.length_map]
  exact d.rl
theorem Drawn.row (d : Drawn m wide many) {n : Str} (h : n ∈ m.titles) : ∃ r, r ∈ m.recipes ∧ (m.recipes.filter fun r => decide (r.1 = n))[0]? = some r ∧ rowL m.stuffs m.recipes n = gainsL m.stuffs r ∧ ∀ e ∈ gainsL m.stuffs r, e.natAbs ≤ 3 := by
  obtain ⟨r, h1, h2, h3⟩ := recipe_at h
  refine ⟨r, h2, h3, ?_, row_bd (d.ro r h2).1 (d.ro r h2).2⟩
  unfold rowL
  rw [h3]
theorem BrewD.inn {brew : List (Str × Fr)} (b : BrewD m.titles brew) : ∀ z ∈ brew, z.1 ∈ m.titles := fun z hz => b.sub.subset (List.mem_map.mpr ⟨z, hz, rfl⟩)
theorem BrewD.len {brew : List (Str × Fr)} (b : BrewD m.titles brew) (d : Drawn m wide many) : brew.length ≤ many := by
  have := b.sub.length_le
  rwa [List.length_map, d.tlen] at this
/-- the steps of the law's own sums -/
theorem BrewD.stepsL {brew : List (Str × Fr)} (b : BrewD m.titles brew) (d : Drawn m wide many) (mm : many ≤ 3) : ∀ n (h : n < brew.length), (∃ z, (m.recipes.filter fun r => decide (r.1 = brew[n].1))[0]? = some z) ∧ 0 < brew[n].2.2 ∧ brew[n].2.2 < 1073741824 ∧
    ∀ z ∈ (lawAll m.stuffs m.recipes (brew.take n)).zip (rowL m.stuffs m.recipes brew[n].1), Sm z.1 ∧ (-1000000000000 < z.2 ∧ z.2 < 1000000000000) ∧ Sm (fscaled brew[n].2 z.2) := by
  intro n h
  have hm : brew[n] ∈ brew := List.getElem_mem h
  obtain ⟨r, h1, h2, h3, h4⟩ := d.row (b.inn _ hm)
  have ha := b.amt _ hm
  have ab := amt_bd ha
  refine ⟨⟨r, h2⟩, ab.1, by omega, fun z hz => ?_⟩
  have hz' := List.of_mem_zip hz
  have hrow : z.2.natAbs ≤ 3 := h4 _ (by rw [← h3]; exact hz'.2)
  have bd := gains_bd (stuffs := m.stuffs) (rs := m.recipes) (brew.take n) (List.replicate m.stuffs.length (0, 1)) 0 (fun z hz => by
    rw [List.eq_of_mem_replicate hz]
    exact Bd.zero) (fun z hz => by
    have hz2 := List.mem_of_mem_take hz
    obtain ⟨r', _, _, e3, e4⟩ := d.row (b.inn _ hz2)
    exact ⟨b.amt _ hz2, by rw [e3]; exact e4⟩) z.1 hz'.1
  have bl := b.len d
  refine ⟨bd.sm (by rw [List.length_take]; omega), by omega, (ad_scaled ha hrow).sm⟩
theorem BrewD.ok {brew : List (Str × Fr)} (b : BrewD m.titles brew) (d : Drawn m wide many) (ok : m.Ok) (mm : many ≤ 3) : BrewOk m brew := by
  have bl := b.len d
  refine ⟨by omega, b.inn, fun n h => ?_, gd_listMap _ _ (by omega) fun z hz => ?_, brew_go b.sub b.amt⟩
  · obtain ⟨_, h1, h2, h3⟩ := b.stepsL d mm n h
    refine ⟨h1, h2, ?_⟩
    have e1 : gainsM m (brew.take n) = lawAll m.stuffs m.recipes (brew.take n) := gains_law ok fun z hz => b.inn z (List.mem_of_mem_take hz)
    rw [e1, row_side ok (b.inn _ (List.getElem_mem h))]
    exact h3
  · show gd (.tuple [.str z.1, encF z.2]) = true
    have hn : z.1 ∈ m.titles := b.inn z hz
    have hg : gd (.str z.1) = true := by
      unfold MillD.titles at hn
      rw [d.rn] at hn
      obtain ⟨i, hi, e⟩ := range_names hn
      rw [e]
      rcases chr_sru (i := i) (by omega) with e | e | e <;> rw [e] <;> exact (name_ok (by simp)).2
    rw [gd_tuple, gds_cons, gds_cons, gds_nil, gd_encF, hg]
    rfl
/-! #### prices -/
theorem price_ok {x : Fr} (h : AmtOk x) : priceBad (encF x) = false := by
  unfold priceBad nothD
  rw [(amt_is h).1, (amt_is h).2]
  rfl
theorem prices_ok {ps : List Fr} (h : ∀ x ∈ ps, AmtOk x) : ((ps.map encF).any priceBad) = false := by
  rw [List.any_map, List.any_eq_false]
  intro x hx
  show ¬ priceBad (encF x) = true
  rw [price_ok (h x hx)]
  decide
theorem row_okL (d : Drawn m wide many) (w : wide ≤ 3) {ps : List Fr} (hl : ps.length = wide) (h : ∀ x ∈ ps, AmtOk x) {r : RecD} (hr : r ∈ m.recipes) : RowOk ps (gainsL m.stuffs r) := by
  intro n hn
  have hz : ∀ z ∈ ps.zip (gainsL m.stuffs r), AmtOk z.1 ∧ z.2.natAbs ≤ 3 := fun z hz => ⟨h _ (List.of_mem_zip hz).1, row_bd (d.ro r hr).1 (d.ro r hr).2 _ (List.of_mem_zip hz).2⟩
  have hn' := hn
  rw [List.length_zip] at hn'
  have bd := worth_bd ((ps.zip (gainsL m.stuffs r)).take n) (0, 1) 0 Bd.zero fun z q => hz z (List.mem_of_mem_take q)
  have hq := hz _ (List.getElem_mem hn)
  have ab := amt_bd hq.1
  refine ⟨bd.sm (by rw [List.length_take]; omega), ab.1, by omega, by omega, (ad_scaled hq.1 hq.2).sm⟩
theorem worth_ok (d : Drawn m wide many) (w : wide ≤ 3) (ok : m.Ok) {ps : List Fr} (hl : ps.length = wide) (h : ∀ x ∈ ps, AmtOk x) : WorthOk m ps := by
  intro r hr
  rw [gains_side ok hr]
  exact row_okL d w hl h hr
theorem fair_law (d : Drawn m wide many) (ok : m.Ok) {ps : List Fr} (h : ∀ x ∈ ps, AmtOk x) : fairOf m ps = lawFair m.stuffs m.recipes ps := by
  unfold fairOf lawFair
  have e : (ps.filter fun x => decide (x.1 ≤ 0)).isEmpty = true := by
    rw [List.isEmpty_iff, List.filter_eq_nil_iff]
    intro x hx
    obtain ⟨a, b, rfl, a0, b0, _⟩ := amt_nat (h x hx)
    rw [decide_eq_true_iff]
    show ¬ (a : Int) ≤ 0
    omega
  rw [e, Bool.and_true, Bool.eq_iff_iff, List.all_eq_true, List.all_eq_true]
  constructor
  · intro q r hr
    have := q r hr
    rwa [gains_side ok hr] at this
  · intro q r hr
    have := q r hr
    rwa [gains_side ok hr]
theorem fair_says (d : Drawn m wide many) (w : wide ≤ 3) (ok : m.Ok) {ps : List Fr} (hl : ps.length = wide) (h : ∀ x ∈ ps, AmtOk x) : FairSays m (.list (ps.map encF)) (lawFair m.stuffs m.recipes ps) := by
  rw [← fair_law d ok h]
  exact .good (by rw [hl, d.slen]) (prices_ok h) (worth_ok d w ok hl h)
end
/-! #### what is no brew -/
theorem sub_of_drop {x : Str} {r : List Str} : ∀ {ts : List Str}, x ∈ ts → r.Sublist (ts.drop (ts.idxOf x + 1)) → (x :: r).Sublist ts
  | [], h, _ => nomatch h
  | a :: ts, h, hs => by
    by_cases e : a = x
    · subst e
      rw [List.idxOf_cons_self] at hs
      exact hs.cons_cons a
    · rw [idx_ne e] at hs
      have hx : x ∈ ts := by
        rcases List.mem_cons.mp h with q | q
        · exact absurd q.symm e
        · exact q
      exact (sub_of_drop hx hs).cons a
def itemOk (ts : List Str) (d : PyData) : Bool := isPair2 d && decide (brewNm d ∈ ts) && isAmt (brewAm d) && !PyData.eqv (brewAm d) (.tuple [.int 0, .int 1])
theorem brew_says : ∀ {xs : List PyData} {ts : List Str}, brewGo ts xs = true → (xs.map brewNm).Sublist ts ∧ ∀ d ∈ xs, itemOk ts d = true
  | [], _, _ => ⟨List.nil_sublist _, fun d h => nomatch h⟩
  | d :: r, ts, h => by
    have h : (itemOk ts d && brewGo (ts.drop (ts.idxOf (brewNm d) + 1)) r) = true := h
    rw [Bool.and_eq_true] at h
    have ih := brew_says h.2
    have hin : brewNm d ∈ ts := by
      have := h.1
      unfold itemOk at this
      rw [Bool.and_eq_true, Bool.and_eq_true, Bool.and_eq_true] at this
      exact of_decide_eq_true this.1.1.2
    refine ⟨sub_of_drop hin ih.1, fun e he => ?_⟩
    rcases List.mem_cons.mp he with q | q
    · rw [q]; exact h.1
    · have := ih.2 e q
      unfold itemOk at this ⊢
      rw [Bool.and_eq_true, Bool.and_eq_true, Bool.and_eq_true] at this ⊢
      exact ⟨⟨⟨this.1.1.1, decide_eq_true (List.mem_of_mem_drop (of_decide_eq_true this.1.1.2))⟩, this.1.2⟩, this.2⟩
theorem no_brew {ts : List Str} {xs : List PyData} {d : PyData} (h : d ∈ xs) (hd : itemOk ts d = false) : isBrew ts (.list xs) = false := by
  cases q : isBrew ts (.list xs) with
  | false => rfl
  | true =>
    have := (brew_says (show brewGo ts xs = true from q)).2 d h
    rw [hd] at this
    exact nomatch this
end R3

set_option Elab.async false
set_option linter.all false
set_option maxRecDepth 100000
set_option maxHeartbeats 4000000
/-! GENERAL: try: .. except X as n: suite, where the suite keeps the error (caught = n): behind it the error stands in H. -/
namespace L2
open PySem PySem.Spec PyProof.Rows
/-- an exception object of the class at C, its own dict at d, at a, raised or not -/
def ExJ (C d a : Addr) : HO := .ext fun h => ∃ oe vs, h.get? a = some oe ∧ oe.cls = .ref C ∧ oe.dict = some d ∧ oe.data = .fields vs
theorem exJ_ok {P : Program} {w : World} {H : Hp} {h : Heap} {C d a : Addr} {oe : Obj} {vs : Array Value} (e : h.get? a = some oe) (hz : Zc (.ref C) (some d) oe) (hd : oe.data = .fields vs) : ObjOk P w H h a (ExJ C d a) :=
  ⟨⟨oe, vs, e, hz.1, hz.2, hd⟩, ⟨_, e⟩, fun _ _ ⟨o, v, q, r⟩ k => ⟨o, v, k _ q, r⟩⟩
theorem Un.lay {fs ex : List Addr} {H H' : Hp} {h h' : Heap} {a : Addr} {o : HO} (u : Un fs ex H H' h h') (h0 : h.get? a = none) (hn : H' a = none) : Un fs ex H (upd H' a o) h h' where
  keep := u.keep
  slot := u.slot
  free := fun b ob e n hx => by
    rw [upd_ne (fun z => by rw [z, h0] at e; exact nomatch e)]
    exact u.free b ob e n hx
  there := u.there
  tups := fun b xs e => by
    have := u.tups b xs e
    rw [upd_ne (ne_of_none this hn)]
    exact this
  frzs := fun b ob x e => by
    have := u.frzs b ob x e
    rw [upd_ne (ne_of_none this hn)]
    exact this
  tbls := fun b ps e => by
    obtain ⟨m, this⟩ := u.tbls b ps e
    exact ⟨m, by
      rw [upd_ne (ne_of_none this hn)]
      exact this⟩
section
variable {X : Cx} {pins : List (Addr × Obj)} {σ : St} {H : Hp} {s : Shared} {a : Addr} {oe : Obj} {o : HO}
theorem Inv.layPin (I : Inv X ((a, oe) :: pins) σ H s) (h0 : X.s_0.heap.get? a = none) (hp : ∀ p ∈ X.pn ++ pins, p.1 ≠ a) (new : ObjOk X.prog X.w (upd H a o) s.heap a o) : Inv X pins σ (upd H a o) s := by
  obtain ⟨e, n, nl, nf, nc⟩ := I.pin (a, oe) (List.mem_append_right _ (List.mem_cons_self ..))
  refine ⟨I.ok, I.os, I.bare, I.base.lay h0 n, I.loc, I.cell, ?_, fun x c hc => ?_, fun p hp' => ?_, I.hok.laidN (fun _ _ z => z) n new, I.len⟩
  · rw [upd_ne (fun z => nl z.symm)]
    exact I.free
  · rw [upd_ne (fun z => ?_)]
    · exact I.freeC x c hc
    · obtain ⟨v, d, hv, hd⟩ := I.cell x c hc
      rw [z] at hv
      have e' : s.heap.get? a = some oe := e
      rw [e'] at hv
      cases hv
      exact nc v hd
  · have := I.pin p (by
      rcases List.mem_append.mp hp' with h | h
      · exact List.mem_append_left _ h
      · exact List.mem_append_right _ (List.mem_cons_of_mem _ h))
    exact ⟨this.1, by rw [upd_ne (hp p hp')]; exact this.2.1, this.2.2⟩
theorem Inv.unsuiteP {q : Addr × Obj} {pn' : List (Addr × Obj)} (I : Inv (X.suite a (q :: (X.pn ++ pins))) pn' σ H s) (ok : X.Ok) : Inv X (q :: pins) σ H s :=
  ⟨ok, I.os, I.bare, I.base, I.loc, I.cell, I.free, I.freeC, fun p hp => I.pin p (List.mem_append_left _ (by
    rcases List.mem_append.mp hp with h | h
    · exact List.mem_cons_of_mem _ (List.mem_append_left _ h)
    · rcases List.mem_cons.mp h with h | h
      · rw [h]; exact List.mem_cons_self ..
      · exact List.mem_cons_of_mem _ (List.mem_append_right _ h))), I.hok, I.len⟩
end
/-- what the clause 'except x as n' wishes, where the error is kept -/
def wKeep (K : PySem.W.Frag) (c : Value) (i : Nat) (ts : Addr → Value → Option Addr → TS) (Wout : WX) (D : Ends) : WX := fun cls d σ H =>
  ∃ b, PySem.W.exmOne K cls c = some b ∧ (b = true → ∀ a, H a = none → ts a cls d { nx := fun σ' H' => ∃ C dd, cls = .ref C ∧ d = some dd ∧ (H' a = none → D.nx (σ'.set i none) (upd H' a (ExJ C dd a))), rt := fun _ _ => False } (σ.set i (some (.ref a))) H) ∧
    (b = false → Wout cls d σ H)
section
variable {X : Cx} {x n : Str} {c : Value} {i : Nat} {body suite : List Stmt} {b₀ : Stmt} {np pos pos' : Pos} {tb : WX → TS} {ts : Addr → Value → Option Addr → TS} {Wout : WX}
theorem ps_try_keep (hs : X.stack = X.env :: X.outer) (hf : X.env.frame = some X.env.locals) (hex : X.ex = []) (hN : X.N.Nodup) (hi : X.N[i]? = some n) (hln : X.env.kindOf n = some .local) (hc : Names X x c) (tk : Takes X Wout)
    (hb : ∀ (W : WX) (pn : List (Addr × Obj)) (xe : Value → Shared → Prop), Takes (X.tr pn xe) W → PassesOwn (model X.prog X.w) X.A X.env xe → PSs (X.tr pn xe) body (tb W))
    (hsu : ∀ (a : Addr) (oe : Obj) (cls : Value) (d : Option Addr) (pn : List (Addr × Obj)), Zc cls d oe → (∃ vs, oe.data = .fields vs) → PSs (X.suite a ((a, oe) :: pn)) (b₀ :: suite) (ts a cls d)) :
    PS X (.Try body [.ExceptHandler (some (.Name x np)) (some n) (b₀ :: suite) pos'] [] [] pos) (fun D σ H => tb (wKeep X.K c i ts Wout D) D σ H) := by
  refine ⟨fun pins s σ H D I h => ?_⟩
  have ok := I.ok
  have hfr : X.A.frames = some (X.env :: X.outer) := by rw [ok.frames, hs]
  have hloc : Loc X.env.scope n := .inl hln
  refine wpAny_Try_except ?_
  refine wpAny_mono ((hb (wKeep X.K c i ts Wout D) (X.pn ++ pins) (fun e s₁ => wpAny (model X.prog X.w) X.A (noteFrame e X.env) (fun _ s₂ => wpAny (model X.prog X.w) X.A (setFlight e none) (fun _ s₃ =>
    wpAny (model X.prog X.w) X.A (handleBy e X.env [.ExceptHandler (some (.Name x np)) (some n) (b₀ :: suite) pos']) (SP X pins D) X.xe s₃) X.xe s₂) X.xe s₁) (fun u s' xx => ?_) PassesOwn.looking).run [] s σ H D (I.toTry _) h) (fun f s1 hsp => ?_) (fun e s1 he => he)
  · -- the catch
    obtain ⟨a, B, sI, pins', σ', H', cls, d, rfl, J', nb, up, sky, na, os, ag, b, hb1, hyes, hno⟩ := xx
    have J : Inv X pins σ' H' sI := J'.ofTry ok
    have sky' : Sky B (X.env :: X.outer) a (Zc cls d) X.env.locals s'.heap := by rw [← hs]; exact sky
    show wpAny (model X.prog X.w) X.A (noteFrame (.ref a) X.env) _ _ _
    refine Sky.land Zc.steady hfr hf sky' fun h3 fl3 up3 => ?_
    have J3 : Inv X pins σ' H' { s' with heap := h3 } := J.landed nb fl3.1 (up.trans up3) os ag
    obtain ⟨oe3, vs3, he3, hz3, hd3⟩ := fl3.there
    have notFr : ∀ {h : Heap} {o : Obj} {vs : Array Value}, h.FunFrames B (X.env :: X.outer) → h.get? a = some o → o.data = .fields vs → a ∉ frs (X.env :: X.outer) := fun {h o vs} ff e dd hm => by
      obtain ⟨_, o', e', hnf⟩ := ff.mem hm
      rw [e] at e'; cases e'
      exact hnf _ dd
    have nfr := notFr fl3.2.2.1 he3 hd3
    have nL : a ≠ X.env.locals := fun z => nfr (List.mem_filterMap.mpr ⟨X.env, List.mem_cons_self, by rw [hf, z]⟩)
    have nF : a ∉ X.fs := fun hm => by
      obtain ⟨e, he, q⟩ := List.mem_filterMap.mp hm
      exact nfr (List.mem_filterMap.mpr ⟨e, List.mem_cons_of_mem _ he, q⟩)
    have nI : sI.heap.get? a = none := by
      cases q : sI.heap.get? a with
      | none => rfl
      | some o =>
        have z := nb a o q (by rw [hs]; exact nfr)
        rw [fl3.2.1] at z
        cases z
    have n0 : X.s_0.heap.get? a = none := by
      cases q : X.s_0.heap.get? a with
      | none => rfl
      | some o =>
        obtain ⟨o', z⟩ := J.base.there a o q (by rw [hex]; exact fun z => nomatch z)
        rw [nI] at z
        cases z
    have nP : ∀ p ∈ X.pn ++ pins, p.1 ≠ a := fun p hp z => by
      have := (J.pin p hp).1
      rw [z, nI] at this
      cases this
    have S3 := J3.suite he3 hd3 na nL nF
    refine wpAny_handleBy_cons (codeAny_handlers_test ?_) (by intro q; cases q)
    have LT : PySem.W.Looks (model X.prog X.w) h3 (typeOf (.ref a)) cls := fun A Q E s k q => wpAny_typeOf_ref (k _ _ he3) (by rw [hz3.1]; exact q)
    have LM := PySem.W.exm_one (M := model X.prog X.w) (J3.kIn) LT hb1
    have test : ∀ {Q : Value → Shared → Prop} {E : Value → Shared → Prop}, Q c { s' with heap := h3 } → wpAny (model X.prog X.w) (X.A.mark (some (.ref a))) (eval (.Name x np) X.env) Q E { s' with heap := h3 } := fun {Q E} q => by
      obtain ⟨hg, hdbg, hm | ⟨hm, hv, hnn⟩⟩ := hc
      · exact ld_glob (X := X.suite a ((a, oe3) :: (X.pn ++ pins))) S3 hg hm q hdbg
      · exact ld_blt (X := X.suite a ((a, oe3) :: (X.pn ++ pins))) S3 hg hm hv q hnn hdbg
    refine test (LM.here ?_)
    cases b with
    | true =>
      refine codeAny_handlers_suite_as ?_
      refine HandSPX.lands_againZ fl3 fun h4 fl4 up4 => ?_
      have J4 : Inv X pins σ' H' { s' with heap := h4 } := J.landed nb fl4.1 ((up.trans up3).trans up4) os ag
      obtain ⟨oe4, vs4, he4, hz4, hd4⟩ := fl4.there
      have S4 := J4.suite he4 hd4 na nL nF
      refine store_ok (X := X.suite a ((a, oe4) :: (X.pn ++ pins))) (v := .ref a) S4 hN hi hloc rfl (fun s5 S5 => ?_) (.inr hln)
      refine wpAny_mono ((hsu a oe4 cls d (X.pn ++ pins) hz4 ⟨_, hd4⟩).run [] s5 _ H' _ S5 (hyes rfl a na)) (fun f s6 hsp => ?_) (fun _ _ z => False.elim z)
      cases f with
      | next =>
        obtain ⟨σ6, H6, S6, C, dd, rfl, rfl, q6⟩ := hsp
        refine gone_ok (S6.unsuiteP ok) hN hi hln fun s7 J7 => ?_
        obtain ⟨e7, n7, _⟩ := J7.pin (a, oe4) (List.mem_append_right _ (List.mem_cons_self ..))
        exact ⟨_, _, J7.layPin (o := ExJ C dd a) n0 nP (exJ_ok e7 hz4 hd4), q6 n7⟩
      | brk =>
        obtain ⟨σ6, H6, S6, q6⟩ := hsp
        exact q6.elim
      | cont =>
        obtain ⟨σ6, H6, S6, q6⟩ := hsp
        exact q6.elim
      | ret u =>
        obtain ⟨v6, σ6, H6, S6, r6, q6⟩ := hsp
        exact q6.elim
    | false =>
      show wpAny _ X.A (handleBy (.ref a) X.env []) _ _ _
      refine wpAny_handleBy_nil ?_
      obtain ⟨k1, k2, k3, oe, vs, T, oT, ts', he, hz, hd, h1, hr⟩ := id fl3
      unfold PySem.passOn
      refine wpAny_bind (wpAny_field he hd h1 ?_)
      rw [if_neg (show ¬ ((Value.ref T == Value.none) = true) from by simp)]
      have fin : wpAny (model X.prog X.w) X.A (setFlight (.ref a) X.env.frame) (fun _ s4 => wpAny (model X.prog X.w) X.A (throw (.ref a) : Sem Flow) (SP X pins D) X.xe s4) X.xe { s' with heap := h3 } := by
        rw [hf]
        refine HandSPX.setFlight_upZ fl3 fun h4 hh4 up4 => wpAny_throw (tk _ _ ?_)
        exact ⟨a, B, sI, pins, σ', H', cls, d, rfl, J, nb, (up.trans up3).trans up4, .inr (.inr (by rw [hs]; exact hh4)), na, os, ag, hno rfl⟩
      first
        | exact wpAny_bind (wpAny_pure (wpAny_bind fin))
        | exact wpAny_bind fin
  · cases f with
    | next =>
      obtain ⟨σ', H', J', q⟩ := hsp
      exact wpAny_execs_nil ⟨σ', H', J'.ofTry ok, q⟩
    | brk =>
      obtain ⟨σ', H', J', q⟩ := hsp
      exact ⟨σ', H', J'.ofTry ok, q⟩
    | cont =>
      obtain ⟨σ', H', J', q⟩ := hsp
      exact ⟨σ', H', J'.ofTry ok, q⟩
    | ret u =>
      obtain ⟨v, σ', H', J', r, q⟩ := hsp
      exact ⟨v, σ', H', J'.ofTry ok, r, q⟩
end
/-! ### e.f and isinstance of a kept error -/
def tXjF (K : PySem.W.Frag) (f : Str) (te : TE) : TE := fun σ H Q => te σ H fun x H1 => ∃ (a C d : Addr) (fs : List (Str × V)) (v : V), x = .ref a ∧ H1 a = some (ExJ C d a) ∧ H1 d = some (.xd fs) ∧ fs.lookup f = some v ∧ XfC K C ∧ PySem.W.findIn K (.ref C) f = some none ∧ Q v H1
theorem pe_xjF {X : Cx} {e : Expr} {te : TE} {pos : Pos} {n : Str} (he : PE X e te) (hb : attributeBase e n X.env (eval e X.env) = eval e X.env := by rfl) : PE X (.Attribute e n pos) (tXjF X.K n te) := by
  refine ⟨fun pins s σ H Q I h => ?_⟩
  refine attr_of hb (thn (he.run pins s σ H _ I h) fun u s1 hh => ?_)
  obtain ⟨x, H1, I1, rx, a, C, dd, fs, v, ex, ha, ea, l, T, hno, q⟩ := hh
  subst ex
  obtain rfl : u = Value.ref a := rx
  obtain ⟨⟨oe, vs, hoa, hc, hdi, hda⟩, _, _⟩ := I1.hok a _ ha
  have hx : ObjOk X.prog X.w H1 s1.heap dd (.xd fs) := I1.hok dd _ ea
  obtain ⟨mA, hns, hr⟩ := hx
  obtain ⟨od, ho, hl⟩ := lookIn_ns hns
  obtain ⟨u, hu, ru⟩ := RelO.some_of (v := v) (o := mA n) (by rw [← l]; exact hr n)
  have J : PySem.W.InstAt s1.heap a oe C (some od) := ⟨hoa, hc, by unfold PySem.W.notCls; rw [hda] <;> rfl, by rw [hdi]; exact ho⟩
  exact HandSPX.exc_get I1.kIn J T.ga T.gg T.exC (PySem.W.findObj_own T.hdC hno rfl (by rw [hl, hu])) (handed_of ru) ⟨v, H1, I1.tok _, ru, q⟩
def rIsJ (K : PySem.W.Frag) : List V → Hp → VK → Prop := fun xs H Q => ∃ (a C d : Addr) (c : V) (cv : Value) (b : Bool), xs = [.ref a, c] ∧ H a = some (ExJ C d a) ∧ (∃ fs, H d = some (.xd fs)) ∧ ClsV c cv ∧ ExC K C ∧ PySem.W.kitOne K (.ref C) cv = some b ∧ Q (.bl b) H
theorem call_isJ {X : Cx} : CallR X (.builtin "isinstance") (rIsJ X.K) := by
  intro pins s σ H xs us Q I r h
  obtain ⟨a, C, d, c, cv, b, rfl, ha, ⟨fs, hd⟩, hcv, T, e, q⟩ := h
  obtain ⟨u1, u2, rfl, r1, r2⟩ := vals2 r
  have e2 := hcv.eq r2
  subst e2
  obtain rfl : u1 = Value.ref a := r1
  obtain ⟨⟨oe, vs, hoa, hc, hdi, hda⟩, _, _⟩ := I.hok a _ ha
  obtain ⟨mA, hns, _⟩ : ObjOk X.prog X.w H s.heap d (.xd fs) := I.hok d _ hd
  obtain ⟨od, hod, _⟩ := lookIn_ns hns
  have J : PySem.W.InstAt s.heap a oe C (some od) := ⟨hoa, hc, by unfold PySem.W.notCls; rw [hda] <;> rfl, by rw [hdi]; exact hod⟩
  exact PySem.W.kia_one (PySem.W.kitx_exc T.hcl T.hg T.hk T.hs T.ha T.hn T.ht T.hm) I.kIn J e (fun z => nomatch z) fun tk => ⟨.bl b, H, I.tok tk, rfl, q⟩
/-! ### C(e), to be raised -/
section
variable {X : Cx} {cn fld : Str} {C fI : Addr} {k : Nat}
theorem xn_mk (T : PySem.Xn.ExT X.prog X.K X.mg cn fld C fI) (hR : Raises X (.ref C)) {pins : List (Addr × Obj)} {σ : St} {H : Hp} {s : Shared} {Q : XK} {v : V} {v' : Value} {h' : Heap} {tk : Nat} {e d : Addr} (I : Inv X pins σ H s) (rv : RelV v v') (M : PySem.Xn.OwnMade s.heap h' e C d fld v')
    (q : ∀ d, H d = none → Q (.ref C) (some d) (upd H d (.xd [(fld, v)]))) : MkP X pins σ Q (.ref e) { s with heap := h', toks := tk } := by
  obtain ⟨t1, hoe⟩ := M.obj
  have hns := M.ns
  obtain ⟨hp, g, dr, tk0, os⟩ := s
  obtain ⟨G', g1, g2⟩ := restrict h' fun b => decide (b ≠ e)
  have gk : ∀ b, b ≠ e → G'.get? b = h'.get? b := fun b hb => g1 b (decide_eq_true hb)
  have ge : G'.get? e = none := g2 e (by simp)
  have old : ∀ b o, hp.get? b = some o → G'.get? b = some o := fun b o q => (gk b (Nat.ne_of_lt (Nat.lt_of_lt_of_le (Heap.lt_size q) M.new))).trans (M.keep b o q)
  have ob : ObjOk X.prog X.w (upd H d (.xd [(fld, v)])) G' d (.xd [(fld, v)]) :=
    ⟨_, hns.at (fun o q => (gk d M.dne).trans q), fun f => relO_one rv f⟩
  have J : Inv X pins σ (upd H d (.xd [(fld, v)])) ⟨G', g, dr, tk, os⟩ := I.laid (t' := tk) old M.dbig ob
  have hne : (upd H d (.xd [(fld, v)])) e = none := by
    rw [upd_ne (Ne.symm M.dne)]
    exact I.hok.fresh M.new
  exact ⟨e, _, _, ⟨G', g, dr, tk, os⟩, _, .ref C, some d, rfl, J, fun b o qq => by
    by_cases hb : b = e
    · have q' : G'.get? b = some o := qq
      rw [hb, ge] at q'; cases q'
    · exact (gk b hb).symm.trans qq, ge, hoe, ⟨rfl, rfl⟩, rfl, rfl, hne, rfl, I.bare, hR, q d (I.hok.fresh M.dbig)⟩
/-- C(e) -/
def tMkX (C : Addr) (fld : Str) (ta : TA) : St → Hp → XK → Prop := fun σ H Q => ta σ H fun vs H1 => ∃ v, vs = [v] ∧ ∀ d, H1 d = none → Q (.ref C) (some d) (upd H1 d (.xd [(fld, v)]))
theorem pmk_xn1 {a : Expr} {ta : TA} {p pos : Pos} (T : PySem.Xn.ExT X.prog X.K X.mg cn fld C fI) (hR : Raises X (.ref C)) (hr : RoomG k X.A) (ht : (X.prog.main.scope.names.lookup ("super" : Str)).isSome = false) (ha : PA X [a] ta) (hg : Gl X cn := by rfl) (hdb : (cn == ("__debug__" : Str)) = false := by decide)
    (he : starEach (a :: []) X.env = (false, eval a X.env) :: starEach [] X.env := by rfl) (hpl : (backTo pos (starEach [] X.env)).any (·.1) = false := by rfl) :
    PMk X (.Call (.Name cn p) [a] [] pos) (tMkX C fld ta) := by
  intro pins s σ H Q I h
  refine wpAny_Call_Name_kw (ld_glob I hg T.gC ?_ hdb)
  refine PySem.W.callWith_K (h₀ := X.base) I.ok.mod.kin T.kC (thn (ha.run pos pins s σ H _ I h) fun us s1 hh => ?_) he hpl
  obtain ⟨vs, H1, I1, r1, v, ev, q1⟩ := hh
  subst ev
  refine ⟨I1.kIn, ?_⟩
  cases r1 with
  | cons rv rn =>
    rename_i v' us'
    cases rn
    show wpAny _ _ (call (.ref C) [v']) _ _ _
    exact wpAny_call (PySem.Xn.xn_made T (.inl ⟨rfl, rfl⟩) I1.kIn I1.nms I1.nolimit (by have := hr.1.dp; omega) ht fun h' tk' e d M => xn_mk T hR I1 rv M q1)
end
/-! ### calls of defs that may raise -/
section
variable {X : Cx} {CX : CXT} {k : Nat} {f : Addr} {fd : FuncData} {ps : List Str} {sp : Sp} {dvs : List V} {ds : List Value} {E : St → XK} {x : Str} {p pos : Pos} {e : Expr} {es : List Expr} {t : TA}
theorem run_fnSG {pins : List (Addr × Obj)} {σ : St} {H : Hp} {s : Shared} {Q : VK} {us : List Value} {vs : List V} (F : FnOkG X.prog X.w X.K X.mg X.base CX k f fd ps sp) (hr : RoomG k X.A) (hb : Binds X.K fd ps ds) (hd : Vals dvs ds) (hx : PassesAt CX X σ (E σ))
    (I : Inv X pins σ H s) (r : Vals vs us) (h : sp (vs ++ dvs) H Q (E σ)) : wpAny (model X.prog X.w) X.A (call (.ref f) us) (EP X pins σ Q) X.xe s := by
  have r2 : Vals (vs ++ dvs) (us ++ ds) := r.append hd
  have hl : (us ++ ds).length = ps.length := by rw [← r2.length]; exact F.len _ _ _ _ h
  refine wpAny_call (codeAny_mono (F.run X.A X.stack s H ⟨us, []⟩ (us ++ ds) (vs ++ dvs) Q (E σ) hr I.env0 (hb s us I.kIn hl) r2 h) fun r s' hq => ?_)
  cases r with
  | error e => exact hx pins H s e s' I hq
  | ok fl =>
    cases fl with
    | ret u => exact I.after hq
    | next => exact False.elim hq
    | brk => exact False.elim hq
    | cont => exact False.elim hq
theorem pe_callSG (F : FnOkG X.prog X.w X.K X.mg X.base CX k f fd ps sp) (hr : RoomG k X.A) (hg : Gl X x) (hm : X.mg x = some (.ref f)) (hk : PySem.W.keepIn X.K (.ref f) = true) (hb : Binds X.K fd ps ds) (hd : Vals dvs ds) (hx : ∀ σ, PassesAt CX X σ (E σ))
    (ha : PA X (e :: es) t) (hdb : (x == ("__debug__" : Str)) = false := by decide) (he : starEach (e :: es) X.env = (false, eval e X.env) :: starEach es X.env := by rfl) (hpl : (backTo pos (starEach es X.env)).any (·.1) = false := by rfl) :
    PE X (.Call (.Name x p) (e :: es) [] pos) (tCallSD sp dvs E t) := by
  refine ⟨fun pins s σ H Q I h => ?_⟩
  refine wpAny_Call_Name_kw (ld_glob I hg hm ?_ hdb)
  refine PySem.W.callWith_K (h₀ := X.base) I.ok.mod.kin hk (thn (ha.run pos pins s σ H _ I h) fun us s1 ⟨vs, H1, I1, r, q⟩ => ⟨I1.kIn, ?_⟩) he hpl
  exact run_fnSG F hr hb hd (hx σ) I1 r q
end
end L2

set_option Elab.async false
set_option linter.all false
set_option maxRecDepth 100000
set_option maxHeartbeats 4000000
namespace L2
open PySem PySem.Spec PyProof.Rows
section
variable {P : Program} {w : World} {K : PySem.W.Frag} {mg : Str → Option Value} {base : Heap} {CX : CXT} {k j : Nat} {f : Addr} {fd : FuncData} {ps : List Str} {sp sp' : Sp}
theorem FnOkG.or (A : FnOkG P w K mg base CX k f fd ps sp) (B : FnOkG P w K mg base CX j f fd ps sp') : FnOkG P w K mg base CX (max k j) f fd ps (fun vs H Q E => sp vs H Q E ∨ sp' vs H Q E) :=
  ⟨fun vs H Q E h => h.elim (A.len vs H Q E) (B.len vs H Q E), fun A' outer s H args us vs Q E hr e0 hb r h => h.elim (A.run A' outer s H args us vs Q E (hr.mono (Nat.le_max_left _ _)) e0 hb r) (B.run A' outer s H args us vs Q E (hr.mono (Nat.le_max_right _ _)) e0 hb r)⟩
/-- what lets nothing out may be called where things are let out -/
theorem FnOkG.up (A : FnOkG P w K mg base CX0 k f fd ps sp) : FnOkG P w K mg base CX k f fd ps sp :=
  ⟨A.len, fun A' outer s H args us vs Q E hr e0 hb r h => codeAny_mono (A.run A' outer s H args us vs Q E hr e0 hb r h) fun x s' hx => by
    cases x with
    | ok fl => cases fl <;> exact hx
    | error e => exact False.elim hx⟩
end
end L2
namespace Dv
open PySem PySem.Spec PyProof.Rows L2 Evl
/-! ### defs that may raise -/
structure CalX (P : Program) (w : World) (K : PySem.W.Frag) (mg : Str → Option Value) (base : Heap) (nm : Str) (ps : List Str) (k : Nat) (sp : Sp) : Prop where
  ex : ∃ f fd, mg nm = some (.ref f) ∧ PySem.W.keepIn K (.ref f) = true ∧ Binds K fd ps [] ∧ FnOkG P w K mg base (L2.CX P w) k f fd ps sp ∧ ∃ oc od osl, K.lookup f = some ⟨oc, od, .func fd, osl⟩
section
variable {P : Program} {w : World} {K : PySem.W.Frag} {mg : Str → Option Value} {base : Heap} {nm : Str} {st : Stmt} {N ps : List Str} {k j : Nat} {sp sp' : Sp}
theorem calX_mk (D : Def K mg nm st ps) (S : FnScope N ps (defScope st)) (len : ∀ vs H Q E, sp vs H Q E → vs.length = ps.length)
    (hbody : ∀ (f : Addr) (cdv : Value) (A : Around) (outer : List Env) (s : Shared) (H : Hp) (vs : List V) (Q : VK) (E : XK), RoomG k (A.deeper (envOfC nm (defScope st) s.heap.objs.size f cdv)) → sp vs H Q E →
      ∃ t, PSs (cxOf (L2.CX P w) P w K mg base N nm (defScope st) f cdv A outer s H E) (defBody st) t ∧ t { nx := fun _ H' => Q .non H', rt := Q } (start N vs) H) : CalX P w K mg base nm ps (k + 1) sp := by
  obtain ⟨f, fd, g, F, b⟩ := D.ex
  obtain ⟨oc, od, kV, doc, pm, an, cdv, ct, osl, e, lk, hcd⟩ := F.ex
  exact ⟨f, fd, g, F.kp, b, F.okXG S len (hbody f), oc, od, osl, lk⟩
theorem Cal.imp (A : Cal P w K mg base nm ps k sp) (h : ∀ vs H Q E, sp' vs H Q E → sp vs H Q E) : Cal P w K mg base nm ps k sp' := by
  obtain ⟨f, fd, g, kp, b, G, l⟩ := A.ex
  exact ⟨f, fd, g, kp, b, G.imp h, l⟩
theorem CalX.imp (A : CalX P w K mg base nm ps k sp) (h : ∀ vs H Q E, sp' vs H Q E → sp vs H Q E) : CalX P w K mg base nm ps k sp' := by
  obtain ⟨f, fd, g, kp, b, G, l⟩ := A.ex
  exact ⟨f, fd, g, kp, b, G.imp h, l⟩
theorem Cal.up (A : Cal P w K mg base nm ps k sp) : CalX P w K mg base nm ps k sp := by
  obtain ⟨f, fd, g, kp, b, G, l⟩ := A.ex
  exact ⟨f, fd, g, kp, b, G.up, l⟩
theorem Cal.or (A : Cal P w K mg base nm ps k sp) (B : Cal P w K mg base nm ps j sp') : Cal P w K mg base nm ps (max k j) (fun vs H Q E => sp vs H Q E ∨ sp' vs H Q E) := by
  obtain ⟨f, fd, g, kp, b, G, oc, od, osl, l⟩ := A.ex
  obtain ⟨f', fd', g', kp', b', G', oc', od', osl', l'⟩ := B.ex
  rw [g] at g'
  cases g'
  rw [l] at l'
  cases l'
  exact ⟨f, fd, g, kp, b, G.or G', oc, od, osl, l⟩
theorem CalX.or (A : CalX P w K mg base nm ps k sp) (B : CalX P w K mg base nm ps j sp') : CalX P w K mg base nm ps (max k j) (fun vs H Q E => sp vs H Q E ∨ sp' vs H Q E) := by
  obtain ⟨f, fd, g, kp, b, G, oc, od, osl, l⟩ := A.ex
  obtain ⟨f', fd', g', kp', b', G', oc', od', osl', l'⟩ := B.ex
  rw [g] at g'
  cases g'
  rw [l] at l'
  cases l'
  exact ⟨f, fd, g, kp, b, G.or G', oc, od, osl, l⟩
end
section
variable {X : Cx} {W : WX} {x : Str} {p pos : Pos} {e : Expr} {es : List Expr} {t : TA} {k j : Nat} {ps : List Str} {sp : Sp}
theorem pe_callXC (C : CalX X.prog X.w X.K X.mg X.base x ps k sp) (hr : RoomG j X.A) (tk : Takes X W) (ha : PA X (e :: es) t) (hg : Gl X x := by rfl) (hj : k ≤ j := by decide) (hdb : (x == ("__debug__" : Str)) = false := by decide)
    (he : starEach (e :: es) X.env = (false, eval e X.env) :: starEach es X.env := by rfl) (hpl : (backTo pos (starEach es X.env)).any (·.1) = false := by rfl) : PE X (.Call (.Name x p) (e :: es) [] pos) (tCallSD sp [] (WE W) t) := by
  obtain ⟨f, fd, g, kp, b, G, _⟩ := C.ex
  exact pe_callSG G (hr.mono hj) hg g kp b .nil (fun σ => passAt tk σ) ha hdb he hpl
end
/-! ### data, or an empty dict -/
inductive Dq (K : PySem.W.Frag) (F : Hp) : V → PyData → Prop
  | dat {v : V} {d : PyData} (h : Dp K F v d) : Dq K F v d
  | mt {p : Addr} (h : F p = some (.dK [])) : Dq K F (.ref p) (.dict [])
inductive DqAll (K : PySem.W.Frag) (F : Hp) : List V → List PyData → Prop
  | nil : DqAll K F [] []
  | cons {v : V} {d : PyData} {vs : List V} {ds : List PyData} (h : Dq K F v d) (t : DqAll K F vs ds) : DqAll K F (v :: vs) (d :: ds)
section
variable {K : PySem.W.Frag} {σ : L2.St} {F F1 H H1 : Hp} {te ta tb : TE} {d a b : PyData} {ds es : List PyData}
theorem dq_ex (e : Ex F F1) {v : V} (h : Dq K F v d) : Dq K F1 v d := by
  cases h with
  | dat h => exact .dat (dp_ex e h)
  | mt h => exact .mt (e _ _ h)
theorem dqs_ex (e : Ex F F1) : ∀ {ds : List PyData} {vs : List V}, DqAll K F vs ds → DqAll K F1 vs ds
  | _, _, .nil => .nil
  | _, _, .cons h t => .cons (dq_ex e h) (dqs_ex e t)
theorem dqs_of : ∀ {ds : List PyData} {vs : List V}, DpAll K F vs ds → DqAll K F vs ds
  | _, _, .nil => .nil
  | _, _, .cons h t => .cons (.dat h) (dqs_of t)
theorem dqs_len : ∀ {ds : List PyData} {vs : List V}, DqAll K F vs ds → vs.length = ds.length
  | _, _, .nil => rfl
  | _, _, .cons _ t => by rw [List.length_cons, List.length_cons, dqs_len t]
theorem dqs_app : ∀ {ds es : List PyData} {vs ws : List V}, DqAll K F vs ds → DqAll K F ws es → DqAll K F (vs ++ ws) (ds ++ es)
  | _, _, _, _, .nil, h => h
  | _, _, _, _, .cons h t, h' => .cons h (dqs_app t h')
theorem dqs_get : ∀ {ds : List PyData} {vs : List V} {i : Nat} {v : V}, DqAll K F vs ds → vs[i]? = some v → ∃ d, ds[i]? = some d ∧ Dq K F v d
  | _, _, _, _, .nil, e => by cases e
  | _, _, 0, _, .cons h t, e => by cases e; exact ⟨_, rfl, h⟩
  | _, _, i + 1, _, .cons h t, e => dqs_get (i := i) t e
theorem tyq_of {v : V} (h : Dq K H v d) : TyX K H v (.type (tyD d)) := by
  cases h with
  | dat h => exact tyx_of h
  | mt h => exact .base (.dK h)
theorem dq_int {v : V} {i : Int} (h : Dq K F v (.int i)) : v = .int i := by
  cases h with
  | dat h => cases h; rfl
variable (K) in
def EvQ (te : TE) (σ : L2.St) (F : Hp) (d : PyData) : Prop := ∀ H, Ex F H → ∀ Q : VK, (∀ v F' H', Gr F H F' H' → Dq K F' v d → Q v H') → te σ H Q
variable (K) in
/-- a new list of such, not yet of F' -/
def ElQ (te : TE) (σ : L2.St) (F : Hp) (ds : List PyData) : Prop := ∀ H, Ex F H → ∀ Q : VK, (∀ p vs F' H', Gr F H F' H' → H p = none → F' p = none → H' p = some (.lst vs) → DqAll K F' vs ds → Q (.ref p) H') → te σ H Q
variable (K) in
def EaQ (ta : TA) (σ : L2.St) (F : Hp) (ds : List PyData) : Prop := ∀ H, Ex F H → ∀ Q : List V → Hp → Prop, (∀ vs F' H', Gr F H F' H' → DqAll K F' vs ds → Q vs H') → ta σ H Q
theorem EvD.q (h : EvD K te σ F d) : EvQ K te σ F d := fun H e Q q => h H e Q fun v F' H' g hv => q v F' H' g (.dat hv)
theorem EvL.q (h : EvL K te σ F ds) : ElQ K te σ F ds := fun H e Q q => h H e Q fun p vs F' H' g h1 h2 h3 h4 => q p vs F' H' g h1 h2 h3 (dqs_of h4)
theorem EvQ.mono (e : Ex F F1) (h : EvQ K te σ F d) : EvQ K te σ F1 d := fun H eH Q q => h H (e.trans eH) Q fun v F' H' g hv => q v _ H' (g.weak e eH) (dq_ex (ex_uni2 (eH.trans g.hx) g.fh) hv)
theorem EaQ.mono {ta : TA} (e : Ex F F1) (h : EaQ K ta σ F ds) : EaQ K ta σ F1 ds := fun H eH Q q => h H (e.trans eH) Q fun v F' H' g hv => q v _ H' (g.weak e eH) (dqs_ex (ex_uni2 (eH.trans g.hx) g.fh) hv)
theorem ElQ.mono (e : Ex F F1) (h : ElQ K te σ F ds) : ElQ K te σ F1 ds := fun H eH Q q => h H (e.trans eH) Q fun p vs F' H' g h1 h2 h3 h4 => q p vs _ H' (g.weak e eH) h1 (by
  unfold uni
  rw [ex_none eH h1]
  exact h2) h3 (dqs_ex (ex_uni2 (eH.trans g.hx) g.fh) h4)
theorem eq_var {i : Nat} {v : V} (h : σ[i]? = some (some v)) (hv : Dq K F v d) : EvQ K (tVar i) σ F d := fun H eH Q q => ⟨v, h, q v F H (Gr.refl eH) hv⟩
/-- {} -/
theorem eq_mt : EvQ K tDNewK σ F (.dict []) := fun H e Q q d hd => q _ _ _ (Gr.new e hd) (.mt upd_same)
theorem eaq_nil : EaQ K tNil σ F [] := fun H eH Q q => q [] F H (Gr.refl eH) .nil
theorem eaq_cons {tr : TA} (ha : EvQ K ta σ F a) (hr : EaQ K tr σ F ds) : EaQ K (tCons ta tr) σ F (a :: ds) := fun H eH Q q =>
  ha H eH _ fun v F1 H1 g1 hv => (hr.mono g1.fx) H1 g1.fh _ fun vs F2 H2 g2 hvs => q _ F2 H2 (g1.trans g2) (.cons (dq_ex g2.fx hv) hvs)
theorem elq_lst {ta : TA} (h : EaQ K ta σ F ds) (hl : ds.length ≤ 100000) : ElQ K (tLst ta) σ F ds := fun H eH Q q =>
  h H eH _ fun vs F1 H1 g1 hv => ⟨by rw [dqs_len hv]; exact sz_of hl, fun p hp => q p vs F1 _ (g1.trans (Gr.only g1.fh hp)) (ex_none g1.hx hp) (ex_none g1.fh hp) upd_same hv⟩
/-- isinstance for the built-in types -/
theorem kitq_ty {v : V} {T : String} (hT : T ∈ tys) (hd : Dq K H v d) : PySem.W.kitOne K (.type (tyD d)) (.type T) = some (isD d T) := by
  cases hd with
  | dat h => exact kit_ty hT (dp_nodict h)
  | mt h =>
    have e : ∀ T ∈ tys, PySem.W.kitOne ([] : PySem.W.Frag) (.type "dict") (.type T) = some ("dict" == T || (T == "int" && "dict" == "bool")) := by decide +kernel
    exact e T hT
theorem eq_isi {T : String} (h : EvQ K ta σ F d) (hT : T ∈ tys) : EvD K (tCB (rIsi K) (tCons ta (tCons (tC (.ty T)) tNil))) σ F (.bool (isD d T)) := fun H e Q q =>
  h H e _ fun v F' H' g hv => ⟨v, .ty T, _, _, _, rfl, .ty T, tyq_of (dq_ex g.fh hv), kitq_ty hT (dq_ex g.fh hv), q _ F' H' g (.bl _)⟩
/-! walks over lists of such -/
variable (K) in
def WQ (J : It) (F : Hp) (ds : List PyData) : Prop := ∃ G Y, Walk J ds.length G Y ∧ (∀ H, Ex F H → G H) ∧ ∀ F1 i H x H', i < ds.length → Ex F F1 → Ex F1 H → Y i H x H' → ∃ F2 d, ds[i]? = some d ∧ Gr F1 H F2 H' ∧ Dq K F2 x d
variable (K) in
def ItQ (wi : TI) (σ : L2.St) (F : Hp) (ds : List PyData) : Prop := ∀ H, Ex F H → ∀ R : It → Hp → Prop, (∀ J F' H', Gr F H F' H' → WQ K J F' ds → R J H') → wi σ H R
theorem ItD.q {wi : TI} (h : ItD K wi σ F ds) : ItQ K wi σ F ds := fun H e R r => h H e R fun J F' H' g ⟨G, Y, w, hG, hY⟩ => r J F' H' g ⟨G, Y, w, hG, fun F1 i H x H' hi e1 e2 y => by
  obtain ⟨F2, d, h1, h2, h3⟩ := hY F1 i H x H' hi e1 e2 y
  exact ⟨F2, d, h1, h2, .dat h3⟩⟩
/-- a list that is new: taken as it stands -/
theorem itq_list (h : ElQ K te σ F ds) : ItQ K (iList K te) σ F ds := fun H eH R q => h H eH _ fun p vs F1 H1 g1 h1 h2 h3 h4 => by
  have g2 := g1.take h1 h2 h3
  refine ⟨p, rfl, ⟨vs, sq_of h3⟩, q _ _ H1 g2 ⟨_, _, by rw [← dqs_len h4]; exact walk_list (xs := vs), fun H e => sq_of (e _ _ upd_same), fun F2 i H2 x H3 _ e1 e2 y => ?_⟩⟩
  obtain ⟨rfl, hx⟩ := y
  obtain ⟨d, h1, h2⟩ := dqs_get h4 hx
  exact ⟨F2, d, h1, Gr.refl e2, dq_ex ((Ex.new (by assumption)).trans e1) h2⟩
variable {D : Ends} {ts : TS} {g : TG}
theorem s_forQ {wi : TI} (h : ItQ K wi σ F ds) (e : Ex F H) (Pv : Nat → L2.St → Hp → Hp → Prop) (h0 : ∀ F' H', Gr F H F' H' → Pv 0 σ F' H')
    (hs : ∀ Fb, Ex F Fb → ∀ n σ' F' H' v d F2 H2, ds[n]? = some d → Ex Fb F' → Ex F' H' → Pv n σ' F' H' → Gr F' H' F2 H2 → Dq K F2 v d →
      g v σ' H2 fun σ2 H3 => ts { D with nx := NxP Fb (Pv (n + 1)), ct := NxP Fb (Pv (n + 1)), bk := D.nx } σ2 H3)
    (hd : ∀ σ' F' H', Ex F F' → Ex F' H' → Pv ds.length σ' F' H' → D.nx σ' H') : tFor wi g ts D σ H := h H e _ fun J F1 H1 g1 wd => by
  obtain ⟨G, Y, W, hG, hY⟩ := wd
  exact for_it W (fun n => NxP F1 (Pv n)) ⟨F1, Ex.refl _, g1.fh, h0 F1 H1 g1⟩ (fun n σ' H' _ p => by
    obtain ⟨F', e1, e2, p⟩ := p
    exact hG _ (e1.trans e2)) (fun n v σ' H' H2 hn p y => by
    obtain ⟨F', e1, e3, p⟩ := p
    obtain ⟨F2, d, hd, g2, hv⟩ := hY F' n H' v H2 hn e1 e3 y
    exact hs F1 g1.fx n σ' F' H' v d F2 H2 hd e1 e3 p g2 hv) (fun σ' H' p => by
    obtain ⟨F', e1, e2, p⟩ := p
    exact hd σ' F' H' (g1.fx.trans e1) e2 p)
theorem s_asgLQ {i : Nat} (h : ElQ K te σ F ds) (e : Ex F H) (k : ∀ p vs F' H', Gr F H F' H' → H p = none → F' p = none → H' p = some (.lst vs) → DqAll K F' vs ds → D.nx (σ.set i (some (.ref p))) H') : tAsg te (gName i) D σ H :=
  h H e _ fun p vs F' H' g h1 h2 h3 h4 => k p vs F' H' g h1 h2 h3 h4
end
end Dv

set_option Elab.async false
set_option linter.all false
set_option maxRecDepth 100000
set_option maxHeartbeats 4000000
namespace R3
open PySem PySem.Spec PyProof.Rows L2 Evl Dv
section
variable {P : Program} {w : World} {K : PySem.W.Frag} {mg : Str → Option Value} {base : Heap}
/-! ### what is refused -/
/-- an error class with the field value -/
structure ErrC (P : Program) (K : PySem.W.Frag) (mg : Str → Option Value) (cn : Str) (C : Addr) : Prop where
  ex : ∃ fI, PySem.Xn.ExT P K mg cn "value" C fI
  hs : (P.main.scope.names.lookup ("super" : Str)).isSome = false
/-- what has another type is no mill -/
structure MillN (K : PySem.W.Frag) (C : Addr) : Prop where
  no : ∀ t ∈ ["NoneType", "bool", "int", "str", "list", "tuple", "dict"], PySem.W.kitOne K (.type t) (.ref C) = some false
theorem tyD_in (d : PyData) : tyD d ∈ ["NoneType", "bool", "int", "str", "list", "tuple", "dict"] := by
  cases d <;> simp [tyD]
/-- v is refused with the error at C -/
def Bad (C : Addr) (F H : Hp) (v : V) (E : XK) : Prop := ∀ F' H' dd, Gr F H F' H' → H' dd = none → E (.ref C) (some dd) (upd H' dd (.xd [("value", v)]))
def spCheckX (K : PySem.W.Frag) (C CM : Addr) : Sp := fun vs H Q E => ∃ v, vs = [v] ∧ ((∃ x dx fs, v = .ref x ∧ H x = some (.ins C dx fs) ∧ Q .non H) ∨ ∃ F d, Ex F H ∧ Dq K F v d ∧ Bad CM F H v E)
theorem ok_check_millX (D : Def K mg "check_mill" sCheckMill ["value"]) (B : Bl mg) {C CM : Addr} (gC : mg "Mill" = some (.ref C)) (IC : C8.InsC K C) (NC : MillN K C) (EM : ErrC P K mg "InvalidMill" CM) : CalX P w K mg base "check_mill" ["value"] 1 (spCheckX K C CM) := by
  refine calX_mk D sc_check_mill (fun vs H Q E h => ?_) (fun f cdv A outer s H vs Q E hr h => ?_)
  · obtain ⟨v, rfl, _⟩ := h
    rfl
  obtain ⟨v, rfl, h⟩ := h
  obtain ⟨fI, TM⟩ := EM.ex
  refine ⟨_, (pss_one (ps_if (pt_not (pt_val (pe_callB call_isi (by rfl) B.isi (by decide +kernel) (pa_cons (pv 0) (pa_cons (pe_glob (v := .ref C) rfl gC rfl) pa_nil))))) (pss_one (ps_raise rfl (takes_of rfl rfl rfl rfl) (pmk_xn1 TM (raises_own TM.exC TM.tyC) hr EM.hs (pa_cons (pv 0) pa_nil)))) pss_nil)), ?_⟩
  rcases h with ⟨x, dx, fs, rfl, hx, q⟩ | ⟨F, d, e, hd, q⟩
  · exact ⟨_, rfl, _, .ref C, _, .ref C, true, rfl, .own C, .base (.ins hx IC.cl IC.ha IC.hn IC.htk IC.hm), IC.me, _, rfl, q⟩
  · exact ⟨_, rfl, _, .ref C, _, .ref C, false, rfl, .own C, tyq_of (dq_ex e hd), NC.no _ (tyD_in d), _, rfl, _, rfl, v, rfl, fun dd hdd => q F H dd (Gr.refl e) hdd⟩
/-- check_mill(m), a statement, where it may raise -/
theorem sx_check {σ : L2.St} {F H : Hp} {C CM x : Addr} {m : MillD} {i : Nat} {W : WX} {D : Ends} (hi : σ[i]? = some (some (.ref x))) (hm : MillAt K F C x m) (e : Ex F H) (k : D.nx σ H) : tDrop (tCallSD (spCheckX K C CM) [] (WE W) (tCons (tVar i) tNil)) D σ H := by
  obtain ⟨dx, ro, sp, ru, v1, v2, v3, h1, _⟩ := hm.ex
  exact ⟨_, hi, .ref x, rfl, .inl ⟨x, dx, _, rfl, e _ _ h1, k⟩⟩
theorem sx_bad {σ : L2.St} {F H : Hp} {C CM : Addr} {d : PyData} {v : V} {i : Nat} {W : WX} {D : Ends} (hi : σ[i]? = some (some v)) (hd : Dq K F v d) (e : Ex F H) (k : Bad CM F H v (WE W σ)) : tDrop (tCallSD (spCheckX K C CM) [] (WE W) (tCons (tVar i) tNil)) D σ H :=
  ⟨_, hi, v, rfl, .inr ⟨F, d, e, hd, k⟩⟩
/-! is_brew of data or of an empty dict -/
def spIsBrewM (K : PySem.W.Frag) (C : Addr) : Sp := fun vs H Q _ => ∃ (F : Hp) (ml : Addr) (v : V), vs = [.ref ml, v] ∧ Ex F H ∧ Dq K F v (.dict []) ∧ ∀ F' H', Gr F H F' H' → Q (.bl false) H'
theorem ok_is_brewM (D : Def K mg "is_brew" sIsBrew ["mill", "value"]) (B : Bl mg) {C : Addr} : Cal P w K mg base "is_brew" ["mill", "value"] 1 (spIsBrewM K C) := by
  refine cal_mk D sc_is_brew (fun vs H Q E h => ?_) (fun f cdv A outer s H vs Q E hr h => ?_)
  · obtain ⟨F, ml, v, rfl, _⟩ := h
    rfl
  obtain ⟨F, ml, v, rfl, e, hv, q⟩ := h
  refine ⟨_, (pss_cons (ps_if (pt_not (pt_val (pe_callB call_isi (by rfl) B.isi (by decide +kernel) (pa_cons (pv 1) (pa_cons (pe_bltn (v := .ty "list") (by rfl) B.list (by decide +kernel) rfl) pa_nil))))) (pss_one (ps_ret pe_bl)) pss_nil)
      pss_never), ?_⟩
  have st : start ["mill", "value", "names", "item"] [V.ref ml, v] = [some (.ref ml), some v, none, none] := rfl
  rw [st]
  exact s_ifT (et_notF (et_v (eq_isi (eq_var (i := 1) rfl hv) (by decide)) rfl)) e fun F1 H1 g1 => q F1 H1 g1
def spIsBrewQ (K : PySem.W.Frag) (C : Addr) : Sp := fun vs H Q _ => ∃ (F : Hp) (ml : Addr) (m : MillD) (v : V) (d : PyData), vs = [.ref ml, v] ∧ Ex F H ∧ MillAt K F C ml m ∧ Dq K F v d ∧ gd d = true ∧ m.recipes.length ≤ 8 ∧ ∀ F' H', Gr F H F' H' → Q (.bl (isBrew m.titles d)) H'
theorem brewQ {C : Addr} (a : Cal P w K mg base "is_brew" ["mill", "value"] 4 (spIsBrew K C)) (b : Cal P w K mg base "is_brew" ["mill", "value"] 1 (spIsBrewM K C)) : Cal P w K mg base "is_brew" ["mill", "value"] 4 (spIsBrewQ K C) :=
  (a.or b).imp fun vs H Q E h => by
    obtain ⟨F, ml, m, v, d, rfl, e, hm, hv, hg, h8, q⟩ := h
    cases hv with
    | dat hv => exact .inl ⟨F, ml, m, v, d, rfl, e, hm, hv, hg, h8, q⟩
    | mt h => exact .inr ⟨F, ml, _, rfl, e, .mt h, q⟩
theorem eq_isBrew {σ : L2.St} {F : Hp} {te : TE} {C ml : Addr} {m : MillD} {d : PyData} {i : Nat} {E : XK} (hi : σ[i]? = some (some (.ref ml))) (hm : MillAt K F C ml m) (h8 : m.recipes.length ≤ 8) (h : EvQ K te σ F d) (hg : gd d = true) :
    EvD K (tCall (spIsBrewQ K C) [] E (tCons (tVar i) (tCons te tNil))) σ F (.bool (isBrew m.titles d)) := fun H e Q q =>
  ⟨_, hi, h H e _ fun v F1 H1 g1 hv => ⟨F1, ml, m, v, d, rfl, g1.fh, hm.mono g1.fx, hv, hg, h8, fun F' H' g => q _ F' H' (g1.trans g) (.bl _)⟩⟩
/-! gain refuses -/
def spGainB (K : PySem.W.Frag) (C CB : Addr) : Sp := fun vs H Q E => ∃ (F : Hp) (ml : Addr) (m : MillD) (v : V) (d : PyData), vs = [.ref ml, v] ∧ Ex F H ∧ MillAt K F C ml m ∧ m.Ok ∧ Dq K F v d ∧ gd d = true ∧ isBrew m.titles d = false ∧ Bad CB F H v E
theorem ok_gainB (D : Def K mg "gain" sGain ["mill", "brew"]) {C CM CB : Addr} (EB : ErrC P K mg "InvalidBrew" CB) (C_check_mill : CalX P w K mg base "check_mill" ["value"] 1 (spCheckX K C CM)) (C_is_brew : Cal P w K mg base "is_brew" ["mill", "value"] 4 (spIsBrewQ K C)) :
    CalX P w K mg base "gain" ["mill", "brew"] 5 (spGainB K C CB) := by
  refine calX_mk D sc_gain (fun vs H Q E h => ?_) (fun f cdv A outer s H vs Q E hr h => ?_)
  · obtain ⟨F, ml, m, v, d, rfl, _⟩ := h
    rfl
  obtain ⟨F, ml, m, v, d, rfl, e, hm, ok, hv, hg, hb, q⟩ := h
  obtain ⟨fI, TB⟩ := EB.ex
  refine ⟨_, (pss_cons (ps_expr (pe_callXC C_check_mill hr (takes_of rfl rfl rfl rfl) (pa_cons (pv 0) pa_nil)))
      (pss_cons (ps_if (pt_not (pt_val (pe_callC C_is_brew hr (pa_cons (pv 0) (pa_cons (pv 1) pa_nil))))) (pss_one (ps_raise rfl (takes_of rfl rfl rfl rfl) (pmk_xn1 TB (raises_own TB.exC TB.tyC) hr EB.hs (pa_cons (pv 1) pa_nil)))) pss_nil)
      pss_never)), ?_⟩
  have st : start ["mill", "brew"] [V.ref ml, v] = [some (.ref ml), some v] := rfl
  rw [st]
  refine sx_check (i := 0) rfl hm e ?_
  dsimp only [tSeq]
  refine s_ifT (et_notF (et_v (eq_isBrew (i := 0) (σ := [some (.ref ml), some v]) rfl hm ok.r2 (eq_var (i := 1) rfl hv) hg) (by rw [hb]))) e fun F1 H1 g1 => ?_
  exact ⟨_, rfl, v, rfl, fun dd hdd => q F1 H1 dd g1 hdd⟩
/-! no mill -/
def spNoMill (K : PySem.W.Frag) (CM : Addr) : Sp := fun vs H Q E => ∃ (F : Hp) (v u : V) (d : PyData), vs = [v, u] ∧ Ex F H ∧ Dq K F v d ∧ Bad CM F H v E
theorem ok_gainM (D : Def K mg "gain" sGain ["mill", "brew"]) {C CM : Addr} (C_check_mill : CalX P w K mg base "check_mill" ["value"] 1 (spCheckX K C CM)) : CalX P w K mg base "gain" ["mill", "brew"] 2 (spNoMill K CM) := by
  refine calX_mk D sc_gain (fun vs H Q E h => ?_) (fun f cdv A outer s H vs Q E hr h => ?_)
  · obtain ⟨F, v, u, d, rfl, _⟩ := h
    rfl
  obtain ⟨F, v, u, d, rfl, e, hv, q⟩ := h
  refine ⟨_, (pss_cons (ps_expr (pe_callXC C_check_mill hr (takes_of rfl rfl rfl rfl) (pa_cons (pv 0) pa_nil)))
      pss_never), ?_⟩
  exact sx_bad (i := 0) rfl hv e q
theorem ok_is_fairM (D : Def K mg "is_fair" sIsFair ["mill", "value"]) {C CM : Addr} (C_check_mill : CalX P w K mg base "check_mill" ["value"] 1 (spCheckX K C CM)) : CalX P w K mg base "is_fair" ["mill", "value"] 2 (spNoMill K CM) := by
  refine calX_mk D sc_is_fair (fun vs H Q E h => ?_) (fun f cdv A outer s H vs Q E hr h => ?_)
  · obtain ⟨F, v, u, d, rfl, _⟩ := h
    rfl
  obtain ⟨F, v, u, d, rfl, e, hv, q⟩ := h
  refine ⟨_, (pss_cons (ps_expr (pe_callXC C_check_mill hr (takes_of rfl rfl rfl rfl) (pa_cons (pv 0) pa_nil)))
      pss_never), ?_⟩
  exact sx_bad (i := 0) rfl hv e q
theorem ok_is_loopM (D : Def K mg "is_loop" sIsLoop ["mill", "value"]) {C CM : Addr} (C_check_mill : CalX P w K mg base "check_mill" ["value"] 1 (spCheckX K C CM)) : CalX P w K mg base "is_loop" ["mill", "value"] 2 (spNoMill K CM) := by
  refine calX_mk D sc_is_loop (fun vs H Q E h => ?_) (fun f cdv A outer s H vs Q E hr h => ?_)
  · obtain ⟨F, v, u, d, rfl, _⟩ := h
    rfl
  obtain ⟨F, v, u, d, rfl, e, hv, q⟩ := h
  refine ⟨_, (pss_cons (ps_expr (pe_callXC C_check_mill hr (takes_of rfl rfl rfl rfl) (pa_cons (pv 0) pa_nil)))
      pss_never), ?_⟩
  exact sx_bad (i := 0) rfl hv e q
/-! is_loop, is_fair of an empty dict -/
def spFalse (K : PySem.W.Frag) (C : Addr) : Sp := fun vs H Q _ => ∃ (F : Hp) (ml : Addr) (m : MillD) (v : V), vs = [.ref ml, v] ∧ Ex F H ∧ MillAt K F C ml m ∧ m.Ok ∧ Dq K F v (.dict []) ∧ ∀ F' H', Gr F H F' H' → Q (.bl false) H'
theorem ok_is_loopE (D : Def K mg "is_loop" sIsLoop ["mill", "value"]) {C : Addr} (C_check_mill : Cal P w K mg base "check_mill" ["value"] 1 (spCheckMill C)) (C_is_brew : Cal P w K mg base "is_brew" ["mill", "value"] 4 (spIsBrewQ K C)) :
    Cal P w K mg base "is_loop" ["mill", "value"] 5 (spFalse K C) := by
  refine cal_mk D sc_is_loop (fun vs H Q E h => ?_) (fun f cdv A outer s H vs Q E hr h => ?_)
  · obtain ⟨F, ml, m, v, rfl, _⟩ := h
    rfl
  obtain ⟨F, ml, m, v, rfl, e, hm, ok, hv, q⟩ := h
  refine ⟨_, (pss_cons (ps_expr (pe_callC C_check_mill hr (pa_cons (pv 0) pa_nil)))
      (pss_cons (ps_if (pt_not (pt_val (pe_callC C_is_brew hr (pa_cons (pv 0) (pa_cons (pv 1) pa_nil))))) (pss_one (ps_ret pe_bl)) pss_nil)
      pss_never)), ?_⟩
  have st : start ["mill", "value", "gains", "one"] [V.ref ml, v] = [some (.ref ml), some v, none, none] := rfl
  rw [st]
  refine s_check (i := 0) rfl hm e ?_
  exact s_ifT (et_notF (et_v (eq_isBrew (i := 0) (σ := [some (.ref ml), some v, none, none]) rfl hm ok.r2 (eq_var (i := 1) rfl hv) (by decide +kernel)) rfl)) e fun F1 H1 g1 => q F1 H1 g1
theorem ok_is_fairE (D : Def K mg "is_fair" sIsFair ["mill", "value"]) (B : Bl mg) {C G : Addr} (M_Ground : Mak P w K mg base "Ground" G ["mill"] 2 (spGround K C G)) (C_check_mill : Cal P w K mg base "check_mill" ["value"] 1 (spCheckMill C)) :
    Cal P w K mg base "is_fair" ["mill", "value"] 4 (spFalse K C) := by
  refine cal_mk D sc_is_fair (fun vs H Q E h => ?_) (fun f cdv A outer s H vs Q E hr h => ?_)
  · obtain ⟨F, ml, m, v, rfl, _⟩ := h
    rfl
  obtain ⟨F, ml, m, v, rfl, e, hm, ok, hv, q⟩ := h
  refine ⟨_, (pss_cons (ps_expr (pe_callC C_check_mill hr (pa_cons (pv 0) pa_nil)))
      (pss_cons (ps_set (i := 2) sc_is_fair.nd rfl (.inl rfl) (pe_makC M_Ground hr (pa_cons (pv 0) pa_nil)))
      (pss_cons (ps_if (PW.pt (pw_or (pt_not (pt_val (pe_callB call_isi (by rfl) B.isi (by decide +kernel) (pa_cons (pv 1) (pa_cons (pe_bltn (v := .ty "list") (by rfl) B.list (by decide +kernel) rfl) pa_nil))))) (pw_or1 (pt_cmpR op_ne (pe_callB call_len (by rfl) B.len (by decide +kernel) (pa_cons (pv 1) pa_nil)) (pe_fld (pv 2) rfl) (nomark _))))) (pss_one (ps_ret pe_bl)) pss_nil)
      pss_never))), ?_⟩
  have st : start ["mill", "value", "ground", "one", "row", "total", "price", "number"] [V.ref ml, v] = [some (.ref ml), some v, none, none, none, none, none, none] := rfl
  rw [st]
  refine s_check (i := 0) rfl hm e ?_
  refine s_asgO (ev_ground (i := 0) (σ := [some (.ref ml), some v, none, none, none, none, none, none]) rfl hm ok) e fun x F1 H1 g1 hx => ?_
  show tSeq _ _ _ [some (.ref ml), some v, some (.ref x), none, none, none, none, none] H1
  exact s_ifT (et_orT (et_notF (et_v (eq_isi (eq_var (i := 1) rfl (dq_ex g1.fx hv)) (by decide)) rfl))) g1.fh fun F2 H2 g2 => q F2 H2 (g1.trans g2)
end
end R3

set_option Elab.async false
set_option linter.all false
set_option maxRecDepth 100000
set_option maxHeartbeats 4000000
namespace R3
open PySem PySem.Spec PyProof.Rows L2 Evl Dv
section
variable {P : Program} {w : World} {K : PySem.W.Frag} {mg : Str → Option Value} {base : Heap}
/-- what is asked of the two errors and their base -/
structure ErrsC (K : PySem.W.Frag) (mg : Str → Option Value) (CM CB CE : Addr) : Prop where
  gE : mg "MillError" = some (.ref CE)
  gM : mg "InvalidMill" = some (.ref CM)
  gB : mg "InvalidBrew" = some (.ref CB)
  xM : PySem.W.exmOne K (.ref CM) (.ref CE) = some true
  xB : PySem.W.exmOne K (.ref CB) (.ref CE) = some true
  eM : ExC K CM
  eB : ExC K CB
  mm : PySem.W.kitOne K (.ref CM) (.ref CM) = some true
  mb : PySem.W.kitOne K (.ref CM) (.ref CB) = some false
  bm : PySem.W.kitOne K (.ref CB) (.ref CM) = some false
  bb : PySem.W.kitOne K (.ref CB) (.ref CB) = some true
  fM : XfC K CM
  fB : XfC K CB
  nM : PySem.W.findIn K (.ref CM) "value" = some none
  nB : PySem.W.findIn K (.ref CB) "value" = some none
def spGainX (K : PySem.W.Frag) (C CM CB : Addr) : Sp := fun vs H Q E => spGainB K C CB vs H Q E ∨ spNoMill K CM vs H Q E
def spCaught (K : PySem.W.Frag) (C CM CB : Addr) : Sp := fun vs H Q _ => ∃ (door : Int) (mv v u : V) (F : Hp) (C0 : Addr) (k : Int), vs = [.int door, mv, v] ∧ Ex F H ∧
  ((door = 0 ∧ ∀ E Q', Bad C0 F H u E → spGainX K C CM CB [mv, v] H Q' E) ∨ (door = 1 ∧ ∀ E Q', Bad C0 F H u E → spNoMill K CM [mv, v] H Q' E) ∨ (door = 2 ∧ ∀ E Q', Bad C0 F H u E → spNoMill K CM [mv, v] H Q' E)) ∧
  ((C0 = CM ∧ k = 0) ∨ (C0 = CB ∧ k = 1)) ∧ ∀ p F' H', Gr F H F' H' → H p = none → F' p = none → H' p = some (.lst [.int k, u]) → Q (.ref p) H'
theorem sc__law_caught : FnScope (["door", "mill", "value", "caught", "error", "kinds"] : List Str) (["door", "mill", "value"] : List Str) (defScope sLawCaught) := ⟨rfl, rfl, rfl, by decide +kernel, rfl, by decide +kernel, by decide +kernel⟩
theorem ok_law_caught (D : Def K mg "_law_caught" sLawCaught ["door", "mill", "value"]) (B : Bl mg) {C CM CB CE : Addr} (ER : ErrsC K mg CM CB CE) (C_gain : CalX P w K mg base "gain" ["mill", "brew"] 5 (spGainX K C CM CB)) (C_is_fair : CalX P w K mg base "is_fair" ["mill", "value"] 2 (spNoMill K CM))
    (C_is_loop : CalX P w K mg base "is_loop" ["mill", "value"] 2 (spNoMill K CM)) : Cal P w K mg base "_law_caught" ["door", "mill", "value"] 6 (spCaught K C CM CB) := by
  refine cal_mk D sc__law_caught (fun vs H Q E h => ?_) (fun f cdv A outer s H vs Q E hr h => ?_)
  · obtain ⟨door, mv, v, u, F, C0, k, rfl, _⟩ := h
    rfl
  obtain ⟨door, mv, v, u, F, C0, k, rfl, e, hdoor, hk, q⟩ := h
  have gM := ER.gM
  have gB := ER.gB
  refine ⟨_, (pss_cons (ps_set (i := 3) sc__law_caught.nd rfl (.inl rfl) pe_non)
      (pss_cons (ps_try_keep (i := 4) rfl rfl rfl sc__law_caught.nd rfl rfl ⟨rfl, by decide, .inl ER.gE⟩ takes0 (fun W pn xe tk _ => (pss_one (ps_if (pt_cmpR op_eq (pv 0) pe_int (nomark _)) (pss_one (ps_expr (pe_callXC C_gain hr tk (pa_cons (pv 1) (pa_cons (pv 2) pa_nil))))) (pss_one (ps_if (pt_cmpR op_eq (pv 0) pe_int (nomark _)) (pss_one (ps_expr (pe_callXC C_is_fair hr tk (pa_cons (pv 1) (pa_cons (pv 2) pa_nil))))) (pss_one (ps_expr (pe_callXC C_is_loop hr tk (pa_cons (pv 1) (pa_cons (pv 2) pa_nil)))))))))) (fun a oe cls d pn hz hf => pss_one (ps_set (i := 3) sc__law_caught.nd rfl (.inl rfl) (pv 4))))
      (pss_cons (ps_set (i := 5) sc__law_caught.nd rfl (.inl rfl) (pe_lst (pa_cons (pe_callB call_isJ (by rfl) B.isi (by decide +kernel) (pa_cons (pv 3) (pa_cons (pe_glob (v := .ref CM) rfl gM rfl) pa_nil))) (pa_cons (pe_callB call_isJ (by rfl) B.isi (by decide +kernel) (pa_cons (pv 3) (pa_cons (pe_glob (v := .ref CB) rfl gB rfl) pa_nil))) (pa_cons pe_bl pa_nil)))))
      (pss_one (ps_ret (pe_lst (pa_cons (pe_bm PySem.F.plainAttrs_list PySem.F.slot_list_index PySem.F.type_list_index mt_index (pv 5) (pa_cons pe_bl pa_nil)) (pa_cons (pe_ifExp (pt_cmpR op_isN (pv 3) pe_non (nomark _)) pe_non (pe_xjF (pv 3))) pa_nil)))))))), ?_⟩
  have st : start ["door", "mill", "value", "caught", "error", "kinds"] [.int door, mv, v] = [some (.int door), some mv, some v, none, none, none] := rfl
  rw [st]
  have fin : ∀ (F1 Ha : Hp) (a dd : Addr), Gr F H F1 Ha → Ha a = some (ExJ C0 dd a) → Ha dd = some (.xd [("value", u)]) →
      tSeq (tAsg (tLst (tCons (tCB (rIsJ K) (tCons (tVar 3) (tCons (tC (.ref CM)) tNil))) (tCons (tCB (rIsJ K) (tCons (tVar 3) (tCons (tC (.ref CB)) tNil))) (tCons (tC (.bl true)) tNil)))) (gName 5))
        (tRet (tLst (tCons (tBM K "list" (rIndex K) (tVar 5) (tCons (tC (.bl true)) tNil)) (tCons (tIf (tTest (tOp rIsN (tVar 3) (tC .non))) (tC .non) (tXjF K "value" (tVar 3))) tNil))))
        { nx := fun _ H' => Q .non H', rt := Q } [some (.int door), some mv, some v, some (.ref a), none, none] Ha := fun F1 Ha a dd g1 h1 h2 => by
    have ex : ExC K C0 ∧ XfC K C0 ∧ PySem.W.findIn K (.ref C0) "value" = some none := by
      rcases hk with ⟨rfl, _⟩ | ⟨rfl, _⟩
      · exact ⟨ER.eM, ER.fM, ER.nM⟩
      · exact ⟨ER.eB, ER.fB, ER.nB⟩
    obtain ⟨b1, b2, k1, k2, hb⟩ : ∃ b1 b2 : Bool, PySem.W.kitOne K (.ref C0) (.ref CM) = some b1 ∧ PySem.W.kitOne K (.ref C0) (.ref CB) = some b2 ∧ ((b1 = true ∧ k = 0) ∨ (b1 = false ∧ b2 = true ∧ k = 1)) := by
      rcases hk with ⟨rfl, rfl⟩ | ⟨rfl, rfl⟩
      · exact ⟨true, false, ER.mm, ER.mb, .inl ⟨rfl, rfl⟩⟩
      · exact ⟨false, true, ER.bm, ER.bb, .inr ⟨rfl, rfl, rfl⟩⟩
    refine ⟨_, rfl, a, C0, dd, _, _, b1, rfl, h1, ⟨_, h2⟩, .own CM, ex.1, k1, ?_⟩
    refine ⟨_, rfl, a, C0, dd, _, _, b2, rfl, h1, ⟨_, h2⟩, .own CB, ex.1, k2, ?_⟩
    refine ⟨sz_of (by simp), fun p hp => ?_⟩
    have g2 : Gr F1 Ha F1 (upd Ha p (.lst [.bl b1, .bl b2, .bl true])) := Gr.only g1.fh hp
    have h1' : (upd Ha p (.lst [.bl b1, .bl b2, .bl true])) a = some (ExJ C0 dd a) := g2.hx _ _ h1
    have h2' : (upd Ha p (.lst [.bl b1, .bl b2, .bl true])) dd = some (.xd [("value", u)]) := g2.hx _ _ h2
    refine ⟨_, rfl, .inl ⟨rfl, _, SqL.of upd_same⟩, ?_⟩
    have idx : ∃ j : Nat, k = (j : Int) ∧ ∃ z, ([V.bl b1, .bl b2, .bl true] : List V)[j]? = some z ∧ eqV z (.bl true) = true ∧ ∀ (m : Nat) (z' : V), m < j → ([V.bl b1, .bl b2, .bl true] : List V)[m]? = some z' → eqV z' (.bl true) = false := by
      rcases hb with ⟨rfl, rfl⟩ | ⟨rfl, rfl, rfl⟩
      · exact ⟨0, rfl, _, rfl, rfl, fun m z' hm => absurd hm (by omega)⟩
      · refine ⟨1, rfl, _, rfl, rfl, fun m z' hm hz => ?_⟩
        obtain rfl : m = 0 := by omega
        cases hz
        rfl
    obtain ⟨j, rfl, z, hz, hz2, hz3⟩ := idx
    refine ⟨p, _, .bl true, j, z, rfl, rfl, SqL.of upd_same, rfl, by rfl, hz, hz2, hz3, ?_⟩
    refine ⟨_, rfl, rfl, _, rfl, iteF ?_⟩
    refine ⟨_, rfl, a, C0, dd, _, u, rfl, h1', h2', by simp [List.lookup], ex.2.1, ex.2.2, ?_⟩
    refine ⟨sz_of (by simp), fun p2 hp2 => ?_⟩
    have g3 := (g1.trans g2).trans (Gr.only (g1.trans g2).fh hp2 (o := .lst [.int j, u]))
    exact q p2 F1 _ g3 (ex_none (g1.trans g2).hx hp2) (ex_none (g1.trans g2).fh hp2) upd_same
  have xm : PySem.W.exmOne K (.ref C0) (.ref CE) = some true := by
    rcases hk with ⟨rfl, _⟩ | ⟨rfl, _⟩
    · exact ER.xM
    · exact ER.xB
  have tail : ∀ (F' H' : Hp) (dd : Addr), Gr F H F' H' → H' dd = none → ∀ a, (upd H' dd (.xd [("value", u)])) a = none →
      Gr F H F' (upd (upd H' dd (.xd [("value", u)])) a (ExJ C0 dd a)) ∧ (upd (upd H' dd (.xd [("value", u)])) a (ExJ C0 dd a)) dd = some (.xd [("value", u)]) := fun F' H' dd g hdd a ha => by
    have g1 := g.trans (Gr.only g.fh hdd (o := .xd [("value", u)]))
    have g2 := g1.trans (Gr.only g1.fh ha (o := ExJ C0 dd a))
    refine ⟨g2, ?_⟩
    rw [upd_ne (fun z => by rw [← z, upd_same] at ha; exact nomatch ha), upd_same]
  rcases hdoor with ⟨rfl, hc⟩ | ⟨rfl, hc⟩ | ⟨rfl, hc⟩
  · refine ⟨_, rfl, rfl, _, rfl, iteT ?_⟩
    refine ⟨_, rfl, _, rfl, hc _ (fun _ _ => False) fun F' H' dd g hdd => ?_⟩
    refine ⟨true, xm, fun _ a ha => ⟨_, rfl, C0, dd, rfl, rfl, fun na => ?_⟩, fun z => nomatch z⟩
    obtain ⟨t1, t2⟩ := tail F' H' dd g hdd a ha
    exact fin F' _ a dd t1 upd_same t2
  · refine ⟨_, rfl, rfl, _, rfl, iteF ?_⟩
    refine ⟨_, rfl, rfl, _, rfl, iteT ?_⟩
    refine ⟨_, rfl, _, rfl, hc _ (fun _ _ => False) fun F' H' dd g hdd => ?_⟩
    refine ⟨true, xm, fun _ a ha => ⟨_, rfl, C0, dd, rfl, rfl, fun na => ?_⟩, fun z => nomatch z⟩
    obtain ⟨t1, t2⟩ := tail F' H' dd g hdd a ha
    exact fin F' _ a dd t1 upd_same t2
  · refine ⟨_, rfl, rfl, _, rfl, iteF ?_⟩
    refine ⟨_, rfl, rfl, _, rfl, iteF ?_⟩
    refine ⟨_, rfl, _, rfl, hc _ (fun _ _ => False) fun F' H' dd g hdd => ?_⟩
    refine ⟨true, xm, fun _ a ha => ⟨_, rfl, C0, dd, rfl, rfl, fun na => ?_⟩, fun z => nomatch z⟩
    obtain ⟨t1, t2⟩ := tail F' H' dd g hdd a ha
    exact fin F' _ a dd t1 upd_same t2
end
end R3

set_option Elab.async false
set_option linter.all false
set_option maxRecDepth 100000
set_option maxHeartbeats 4000000
namespace Dv
open PySem PySem.Spec PyProof.Rows L2 Evl
section
variable {K : PySem.W.Frag} {σ : L2.St} {F F1 H H1 : Hp} {te ta tb : TE} {d a b : PyData} {ds es : List PyData}
variable (K) in
/-- a list that F tracks, or a new one taken into it -/
def EvT (te : TE) (σ : L2.St) (F : Hp) (ds : List PyData) : Prop := ∀ H, Ex F H → ∀ Q : VK, (∀ p vs F' H', Gr F H F' H' → F' p = some (.lst vs) → DpAll K F' vs ds → Q (.ref p) H') → te σ H Q
theorem EvL.t (h : EvL K te σ F ds) : EvT K te σ F ds := fun H e Q q => h H e Q fun p vs F' H' g h1 h2 h3 h4 => q p vs _ H' (g.take h1 h2 h3) upd_same (dps_ex (Ex.new h2) h4)
theorem EvT.ev (h : EvT K te σ F ds) : EvD K te σ F (.list ds) := fun H e Q q => h H e Q fun p vs F' H' g h1 h2 => q _ F' H' g (.lst (SqL.of h1) h2)
theorem evt_var {i : Nat} {p : Addr} {vs : List V} (hi : σ[i]? = some (some (.ref p))) (h : F p = some (.lst vs)) (hd : DpAll K F vs ds) : EvT K (tVar i) σ F ds := fun H e Q q => ⟨_, hi, q p vs F H (Gr.refl e) h hd⟩
theorem EvT.mono (e : Ex F F1) (h : EvT K te σ F ds) : EvT K te σ F1 ds := fun H eH Q q => h H (e.trans eH) Q fun p vs F' H' g h1 h2 => q p vs _ H' (g.weak e eH) (ex_uni2 (eH.trans g.hx) g.fh _ _ h1) (dps_ex (ex_uni2 (eH.trans g.hx) g.fh) h2)
/-- xs + ys -/
theorem el_cat (ha : EvT K ta σ F ds) (hb : EvT K tb σ F es) (hz : ds.length + es.length ≤ 100000) : EvL K (tOp rCat ta tb) σ F (ds ++ es) := fun H e Q q =>
  ha H e _ fun p vs F1 H1 g1 h1 h2 => (hb.mono g1.fx) H1 g1.fh _ fun p2 ws F2 H2 g2 h3 h4 => ⟨p, p2, vs, ws, rfl, rfl, g2.fh _ _ (g2.fx _ _ h1), g2.fh _ _ h3, by
    rw [dps_len h2, dps_len h4]
    exact sz_of hz, fun r hr => q r _ F2 _ ((g1.trans g2).trans (Gr.only g2.fh hr)) (ex_none (g1.trans g2).hx hr) (ex_none g2.fh hr) upd_same (dps_app (dps_ex g2.fx h2) h4)⟩
theorem dps_rev : ∀ {ds : List PyData} {vs : List V}, DpAll K F vs ds → DpAll K F vs.reverse ds.reverse
  | [], _, h => by cases h; exact .nil
  | d :: ds, _, h => by
    cases h with
    | cons h1 h2 =>
      rw [List.reverse_cons, List.reverse_cons]
      exact dps_app (dps_rev h2) (.cons h1 .nil)
/-- xs[::-1] -/
theorem el_rev (h : EvD K te σ F (.list ds)) : EvL K (tRevL K te) σ F ds.reverse := fun H e Q q => h H e _ fun v F1 H1 g1 hv => by
  cases hv with
  | lst hs hd => exact ⟨_, _, rfl, ex_l g1.fh hs, fun p hp => q p _ F1 _ (g1.trans (Gr.only g1.fh hp)) (ex_none g1.hx hp) (ex_none g1.fh hp) upd_same (dps_rev hd)⟩
/-- found = found + xs, found a list of H alone that holds data or empty dicts -/
theorem s_catQ {i : Nat} {p : Addr} {ws : List V} {D : Ends} (hp : H p = some (.lst ws)) (fp : F p = none) (hd : DqAll K F ws ds) (hi : σ[i]? = some (some (.ref p))) (h : EvL K tb σ F es) (e : Ex F H) (hz : ds.length + es.length ≤ 100000)
    (k : ∀ q vs F' H', Gr F H F' H' → H q = none → F' q = none → H' q = some (.lst vs) → DqAll K F' vs (ds ++ es) → D.nx (σ.set i (some (.ref q))) H') : tAsg (tOp rCat (tVar i) tb) (gName i) D σ H :=
  ⟨_, hi, h H e _ fun r vs F1 H1 g1 h1 h2 h3 h4 => by
    have kp := g1.keep hp fp
    refine ⟨p, r, ws, vs, rfl, rfl, kp.1, h3, by
      rw [dqs_len hd, dps_len h4]
      exact sz_of hz, fun q hq => k q _ F1 _ (g1.trans (Gr.only g1.fh hq)) (ex_none g1.hx hq) (ex_none g1.fh hq) upd_same (dqs_app (dqs_ex g1.fx hd) (dqs_of h4))⟩⟩
end
/-! ### data that can be compared and told -/
end Dv

set_option Elab.async false
set_option linter.all false
set_option maxRecDepth 100000
set_option maxHeartbeats 4000000
namespace R3
open PySem PySem.Spec PyProof.Rows L2 Evl Dv
/-! ### data that can be told, copied, compared -/
def Gk (k : Nat) (d : PyData) : Prop := gd d = true ∧ d.canLay0 = true ∧ d.depth ≤ k
theorem Gk.mono {k j : Nat} {d : PyData} (h : Gk k d) (l : k ≤ j) : Gk j d := ⟨h.1, h.2.1, Nat.le_trans h.2.2 l⟩
theorem gk_all {k : Nat} : ∀ {xs : List PyData}, (∀ x ∈ xs, Gk k x) → gds xs = true ∧ PyData.canLayAll0 xs = true ∧ PyData.depthAll xs ≤ k
  | [], _ => ⟨gds_nil, by rw [PyData.canLayAll0], by rw [PyData.depthAll]; exact Nat.zero_le _⟩
  | x :: r, h => by
    have h1 := h x (List.mem_cons_self ..)
    have h2 := gk_all fun y hy => h y (List.mem_cons_of_mem _ hy)
    refine ⟨by rw [gds_cons, h1.1, h2.1]; rfl, by rw [PyData.canLayAll0, h1.2.1, h2.2.1]; rfl, ?_⟩
    rw [PyData.depthAll]
    have := h1.2.2
    have := h2.2.2
    omega
theorem gk_list {k : Nat} {xs : List PyData} (hl : xs.length ≤ 30000) (h : ∀ x ∈ xs, Gk k x) : Gk (k + 1) (.list xs) := by
  have g := gk_all h
  refine ⟨by rw [gd_lst, g.1, decide_eq_true hl]; rfl, by rw [PyData.canLay0]; exact g.2.1, ?_⟩
  rw [PyData.depth]
  have := g.2.2
  omega
theorem gk_tup {k : Nat} {xs : List PyData} (hl : xs.length ≤ 30000) (h : ∀ x ∈ xs, Gk k x) : Gk (k + 1) (.tuple xs) := by
  have g := gk_all h
  refine ⟨by rw [gd_tuple, g.1, decide_eq_true hl]; rfl, by rw [PyData.canLay0]; exact g.2.1, ?_⟩
  rw [PyData.depth]
  have := g.2.2
  omega
theorem gk_str {x : Str} (h : gd (.str x) = true) : Gk 0 (.str x) := ⟨h, by rw [PyData.canLay0]; exact (gd_str h).2, by rw [PyData.depth] <;> first | exact Nat.le_refl _ | (intros; intro z; cases z)⟩
theorem gk_frac (x : Fr) : Gk 1 (encF x) := gk_tup (by simp) fun y hy => by
  simp only [List.mem_cons, List.not_mem_nil, or_false] at hy
  rcases hy with rfl | rfl <;> exact ⟨gd_int _, by simp [PyData.canLay0], by simp [PyData.depth]⟩
theorem Gk.eqv {k : Nat} {d : PyData} (h : Gk k d) : PyData.eqv d d = true := by
  exact PySem.SeqAt.eqv_refl_plain d (PySem.PyData.plain_of_canLay0 d h.2.1)
theorem Gk.shaped {k : Nat} {d : PyData} (h : Gk k d) (hk : k ≤ 60) : SeqAt.shaped d = true := by
  show (d.canLay0 && decide (d.depth ≤ 64)) = true
  rw [h.2.1, decide_eq_true (Nat.le_trans h.2.2 (by omega))]
  rfl
/-- a value that is no brew of the titles ts -/
def BadD (ts : List Str) (d : PyData) : Prop := isBrew ts d = false ∧ (d = .dict [] ∨ Gk 8 d)
theorem BadD.gd {ts : List Str} {d : PyData} (h : BadD ts d) : gd d = true := by
  rcases h.2 with rfl | h
  · decide +kernel
  · exact h.1
theorem sub_lt {a b : Str} : ∀ {ts : List Str}, ts.Nodup → [a, b].Sublist ts → ts.idxOf a < ts.idxOf b
  | [], _, h => nomatch h
  | c :: t, nd, h => by
    have nd' := List.nodup_cons.mp nd
    have ba : ∀ {x}, [a, b].Sublist x → a ∈ x ∧ b ∈ x := fun hx => ⟨hx.subset (List.mem_cons_self ..), hx.subset (List.mem_cons_of_mem _ (List.mem_cons_self ..))⟩
    by_cases e : c = a
    · subst e
      rw [List.idxOf_cons_self]
      have hb : b ∈ t := by
        cases h with
        | cons _ h => exact (ba h).2
        | cons_cons _ h => exact h.subset (List.mem_cons_self ..)
      rw [idx_ne (fun z => nd'.1 (by rw [z]; exact hb))]
      omega
    · rw [idx_ne e]
      have h' : [a, b].Sublist t := by
        cases h with
        | cons _ h => exact h
        | cons_cons _ h => exact absurd rfl e
      have hb := (ba h').2
      rw [idx_ne (fun z => nd'.1 (by rw [z]; exact hb))]
      have := sub_lt nd'.2 h'
      omega
section
variable {ts : List Str} {n : Str}
theorem no_pair {o : PyData} (h : (isAmt o && !PyData.eqv o (.tuple [.int 0, .int 1])) = false) : itemOk ts (.tuple [.str n, o]) = false := by
  show (true && decide (n ∈ ts) && isAmt o && !PyData.eqv o (.tuple [.int 0, .int 1])) = false
  rw [Bool.and_assoc, h, Bool.and_false]
theorem no_twice (nd : ts.Nodup) {a b : PyData} : isBrew ts (.list [.tuple [.str n, a], .tuple [.str n, b]]) = false := by
  cases q : isBrew ts (.list [.tuple [.str n, a], .tuple [.str n, b]]) with
  | false => rfl
  | true =>
    have h := (brew_says (show brewGo ts [.tuple [.str n, a], .tuple [.str n, b]] = true from q)).1
    have : [n, n].Sublist ts := h
    exact absurd (sub_lt nd this) (Nat.lt_irrefl _)
theorem no_back (nd : ts.Nodup) {brew : List (Str × Fr)} (hs : (brew.map (·.1)).Sublist ts) (hl : 1 < brew.length) : isBrew ts (.list (brew.map encBrew).reverse) = false := by
  cases q : isBrew ts (.list (brew.map encBrew).reverse) with
  | false => rfl
  | true =>
    have h := (brew_says (show brewGo ts (brew.map encBrew).reverse = true from q)).1
    have e : (brew.map encBrew).reverse.map brewNm = (brew.map (·.1)).reverse := by
      rw [List.map_reverse, List.map_map] <;> rfl
    rw [e] at h
    match brew, hl, hs, h with
    | x :: y :: r, _, hs, h =>
      have h1 : [x.1, y.1].Sublist ts := by
        refine List.Sublist.trans ?_ hs
        rw [List.map_cons, List.map_cons]
        exact ((List.nil_sublist _).cons_cons _).cons_cons _
      have h2 : [y.1, x.1].Sublist ts := by
        refine List.Sublist.trans ?_ h
        have : [y.1, x.1] = [x.1, y.1].reverse := rfl
        rw [this]
        refine List.Sublist.reverse ?_
        rw [List.map_cons, List.map_cons]
        exact ((List.nil_sublist _).cons_cons _).cons_cons _
      have l1 := sub_lt nd h1
      have l2 := sub_lt nd h2
      omega
end
end R3

set_option Elab.async false
set_option linter.all false
set_option maxRecDepth 100000
set_option maxHeartbeats 4000000
namespace R3
open PySem PySem.Spec PyProof.Rows L2 Evl Dv
section
variable {P : Program} {w : World} {K : PySem.W.Frag} {mg : Str → Option Value} {base : Heap}
/-- found at p: at most k values that are no brews -/
def BentSt (K : PySem.W.Frag) (ts : List Str) (F H : Hp) (p : Addr) (k : Nat) (F' H' : Hp) : Prop := ∃ ws ds, Gr F H F' H' ∧ H p = none ∧ F' p = none ∧ H' p = some (.lst ws) ∧ DqAll K F' ws ds ∧ (∀ d ∈ ds, BadD ts d) ∧ ds.length ≤ k
theorem BentSt.gr {ts : List Str} {F H F' H' F2 H2 : Hp} {p : Addr} {k j : Nat} (b : BentSt K ts F H p k F' H') (g : Gr F' H' F2 H2) (l : k ≤ j) : BentSt K ts F H p j F2 H2 := by
  obtain ⟨ws, ds, g0, h0, fp, hp, hd, hb, hl⟩ := b
  have kp := g.keep hp fp
  exact ⟨ws, ds, g0.trans g, h0, kp.2, kp.1, dqs_ex g.fx hd, hb, by omega⟩
theorem bent_app {ts : List Str} {F H F1 H1 : Hp} {p : Addr} {k : Nat} {D : Ends} {σ : L2.St} {te : TE} {d : PyData} (b : BentSt K ts F H p k F1 H1) (hk : k ≤ 1000) (hi : σ[2]? = some (some (.ref p))) (h : EvD K te σ F1 d) (hd : BadD ts d)
    (q : ∀ F2 H2, BentSt K ts F H p (k + 1) F2 H2 → Ex F1 F2 → Ex F2 H2 → D.nx σ H2) : tDrop (tBM K "list" rAppend (tVar 2) (tCons te tNil)) D σ H1 := by
  obtain ⟨ws, ds, g0, h0, fp, hp, hds, hb, hl⟩ := b
  have wl := dqs_len hds
  refine Dv.s_app (K := K) (F := F1) hp fp hi h g0.fh (by omega) fun v F2 H2 g hv f2 h2 => ?_
  have gg := (g0.trans g).mut h0 f2 (o := .lst (ws ++ [v]))
  refine q F2 _ ⟨ws ++ [v], ds ++ [d], gg, h0, f2, upd_same, dqs_app (dqs_ex g.fx hds) (.cons (.dat hv) .nil), fun x hx => ?_, by rw [List.length_append]; simp; omega⟩ g.fx gg.fh
  rcases List.mem_append.mp hx with hx | hx
  · exact hb x hx
  · rw [List.mem_singleton.mp hx]
    exact hd
theorem bent_cat {ts : List Str} {F H F1 H1 : Hp} {p : Addr} {k : Nat} {D : Ends} {σ : L2.St} {tb : TE} {es : List PyData} (b : BentSt K ts F H p k F1 H1) (hk : k ≤ 1000) (hi : σ[2]? = some (some (.ref p))) (h : EvL K tb σ F1 es) (l : Nat) (he : es.length ≤ l) (h1000 : l ≤ 1000) (hd : ∀ d ∈ es, BadD ts d)
    (q : ∀ r F2 H2, BentSt K ts F H r (k + l) F2 H2 → Ex F1 F2 → Ex F2 H2 → D.nx (σ.set 2 (some (.ref r))) H2) : tAsg (tOp rCat (tVar 2) tb) (gName 2) D σ H1 := by
  obtain ⟨ws, ds, g0, h0, fp, hp, hds, hb, hl⟩ := b
  refine s_catQ (K := K) (F := F1) hp fp hds hi h g0.fh (by omega) fun r vs F2 H2 g h1 h2 h3 h4 => ?_
  have gg := g0.trans g
  refine q r F2 H2 ⟨vs, ds ++ es, gg, ex_none g0.hx h1, h2, h3, h4, fun x hx => ?_, by rw [List.length_append]; omega⟩ g.fx gg.fh
  rcases List.mem_append.mp hx with hx | hx
  · exact hb x hx
  · exact hd x hx
theorem cutD_to (ds : List PyData) (k : Nat) : Dv.cutD ds none (some (k : Int)) = ds.take k := by
  unfold Dv.cutD
  rw [HT.sIx_nat, HT.sIx_none, List.drop_zero, Nat.sub_zero]
  by_cases h : k ≤ ds.length
  · rw [Nat.min_eq_left h]
  · rw [Nat.min_eq_right (by omega), List.take_length, List.take_of_length_le (by omega)]
def oneF : PyData := .tuple [.int 1, .int 1]
def zzD : PyData := .tuple [.str "zz", oneF]
def odds10 : List PyData := [.tuple [.int 0, .int 1], .tuple [.int (-1), .int 1], .tuple [.int 2, .int 2], .tuple [.int 1, .int 0], .int 1, .none, .tuple [.bool true, .int 1], .tuple [.int 1, .bool true], .list [.int 1, .int 1], .tuple [.int 1, .int 1, .int 1]]
def odds5 : List PyData := [.tuple [.int 0, .int 1], .tuple [.int (-1), .int 1], .tuple [.int 2, .int 2], .none, .tuple [.bool true, .int 1]]
theorem gk_of {d : PyData} {k : Nat} (h : (gd d && d.canLay0 && decide (d.depth ≤ k)) = true) : Gk k d := by
  rw [Bool.and_eq_true, Bool.and_eq_true] at h
  exact ⟨h.1.1, h.1.2, of_decide_eq_true h.2⟩
theorem odds10_bad : ∀ o ∈ odds10, Gk 2 o ∧ (isAmt o && !PyData.eqv o (.tuple [.int 0, .int 1])) = false := by
  intro o ho
  simp only [odds10, List.mem_cons, List.not_mem_nil, or_false] at ho
  rcases ho with rfl | rfl | rfl | rfl | rfl | rfl | rfl | rfl | rfl | rfl <;> exact ⟨gk_of (by decide +kernel), by decide +kernel⟩
theorem odds5_bad : ∀ o ∈ odds5, Gk 2 o ∧ (isAmt o && !PyData.eqv o (.tuple [.int 0, .int 1])) = false := by
  intro o ho
  simp only [odds5, List.mem_cons, List.not_mem_nil, or_false] at ho
  rcases ho with rfl | rfl | rfl | rfl | rfl <;> exact ⟨gk_of (by decide +kernel), by decide +kernel⟩
theorem gk_oneF : Gk 1 oneF := gk_of (by decide +kernel)
theorem gk_zz : Gk 2 zzD := gk_of (by decide +kernel)
/-- what is known of the titles and of the brew -/
structure BentOk (ts : List Str) (brew : List (Str × Fr)) : Prop where
  nd : ts.Nodup
  gs : ∀ n ∈ ts, gd (.str n) = true
  zz : ¬ ("zz" : Str) ∈ ts
  sub : (brew.map (·.1)).Sublist ts
  few : brew.length ≤ 8
theorem BentOk.item {ts : List Str} {brew : List (Str × Fr)} (b : BentOk ts brew) : ∀ x ∈ brew.map encBrew, Gk 2 x := fun x hx => by
  obtain ⟨z, hz, rfl⟩ := List.mem_map.mp hx
  refine gk_tup (by simp) fun y hy => ?_
  simp only [List.mem_cons, List.not_mem_nil, or_false] at hy
  rcases hy with rfl | rfl
  · exact (gk_str (b.gs _ (b.sub.subset (List.mem_map.mpr ⟨z, hz, rfl⟩)))).mono (by omega)
  · exact gk_frac _
theorem pair_gk {n : Str} {o : PyData} {k : Nat} (hn : gd (.str n) = true) (ho : Gk k o) : Gk (k + 1) (.tuple [.str n, o]) := gk_tup (by simp) fun y hy => by
  simp only [List.mem_cons, List.not_mem_nil, or_false] at hy
  rcases hy with rfl | rfl
  · exact (gk_str hn).mono (by omega)
  · exact ho
theorem list1_gk {d : PyData} {k : Nat} (h : Gk k d) : Gk (k + 1) (.list [d]) := gk_list (by simp) fun y hy => by
  rw [List.mem_singleton.mp hy]; exact h
/-- the values told first -/
def bent0 (B : List PyData) : List PyData := [.none, .int 3, .tuple [], .dict [], .str "brew", .tuple B, .list (B ++ [.none]), .list (B ++ [zzD]), .list ([zzD] ++ B)]
theorem bent0_bad {ts : List Str} {brew : List (Str × Fr)} (b : BentOk ts brew) : ∀ d ∈ bent0 (brew.map encBrew), BadD ts d := by
  intro d hd
  have hB := b.item
  have hl : (brew.map encBrew).length ≤ 8 := by rw [List.length_map]; exact b.few
  have zb : itemOk ts zzD = false := by
    show (true && decide (("zz" : Str) ∈ ts) && isAmt oneF && !PyData.eqv oneF (.tuple [.int 0, .int 1])) = false
    rw [decide_eq_false b.zz]
    rfl
  have app : ∀ (xs ys : List PyData), (∀ x ∈ xs, Gk 2 x) → (∀ x ∈ ys, Gk 2 x) → xs.length + ys.length ≤ 30000 → Gk 8 (.list (xs ++ ys)) := fun xs ys h1 h2 hl => (gk_list (k := 2) (by rw [List.length_append]; exact hl) fun x hx => by
    rcases List.mem_append.mp hx with h | h
    · exact h1 x h
    · exact h2 x h).mono (by omega)
  have z1 : ∀ x ∈ [zzD], Gk 2 x := fun x hx => by rw [List.mem_singleton.mp hx]; exact gk_zz
  have n1 : ∀ x ∈ [PyData.none], Gk 2 x := fun x hx => by rw [List.mem_singleton.mp hx]; exact gk_of (by decide +kernel)
  simp only [bent0, List.mem_cons, List.not_mem_nil, or_false] at hd
  rcases hd with rfl | rfl | rfl | rfl | rfl | rfl | rfl | rfl | rfl
  · exact ⟨rfl, .inr (gk_of (by decide +kernel))⟩
  · exact ⟨rfl, .inr (gk_of (by decide +kernel))⟩
  · exact ⟨rfl, .inr (gk_of (by decide +kernel))⟩
  · exact ⟨rfl, .inl rfl⟩
  · exact ⟨rfl, .inr (gk_of (by decide +kernel))⟩
  · exact ⟨rfl, .inr ((gk_tup (k := 2) (by omega) hB).mono (by omega))⟩
  · exact ⟨no_brew (d := .none) (List.mem_append_right _ (List.mem_singleton.mpr rfl)) rfl, .inr (app _ _ hB n1 (by simp at hl ⊢; omega))⟩
  · exact ⟨no_brew (d := zzD) (List.mem_append_right _ (List.mem_singleton.mpr rfl)) zb, .inr (app _ _ hB z1 (by simp at hl ⊢; omega))⟩
  · exact ⟨no_brew (d := zzD) (List.mem_append_left _ (List.mem_singleton.mpr rfl)) zb, .inr (app _ _ z1 hB (by simp at hl ⊢; omega))⟩
/-- four of the first recipe's name -/
def bent4 (n : Str) : List PyData := [.list [.tuple [.str n, oneF], .tuple [.str n, oneF]], .list [.list [.str n, oneF]], .list [.tuple [.str n]], .list [.tuple [.list [.str n], oneF]]]
theorem bent4_bad {ts : List Str} (nd : ts.Nodup) {n : Str} (hn : gd (.str n) = true) : ∀ d ∈ bent4 n, BadD ts d := by
  intro d hd
  have two : ∀ {k : Nat} {a b : PyData}, Gk k a → Gk k b → ∀ y ∈ [a, b], Gk k y := fun ha hb y hy => by
    simp only [List.mem_cons, List.not_mem_nil, or_false] at hy
    rcases hy with rfl | rfl
    · exact ha
    · exact hb
  have s1 := (gk_str hn).mono (show 0 ≤ 1 by omega)
  simp only [bent4, List.mem_cons, List.not_mem_nil, or_false] at hd
  rcases hd with rfl | rfl | rfl | rfl
  · exact ⟨no_twice nd, .inr ((gk_list (k := 2) (by simp) (two (pair_gk hn gk_oneF) (pair_gk hn gk_oneF))).mono (by omega))⟩
  · exact ⟨no_brew (d := .list [.str n, oneF]) (List.mem_singleton.mpr rfl) rfl, .inr ((list1_gk (gk_list (k := 1) (by simp) (two s1 gk_oneF))).mono (by omega))⟩
  · exact ⟨no_brew (d := .tuple [.str n]) (List.mem_singleton.mpr rfl) rfl, .inr ((list1_gk (gk_tup (k := 1) (by simp) fun y hy => by rw [List.mem_singleton.mp hy]; exact s1)).mono (by omega))⟩
  · exact ⟨no_brew (d := .tuple [.list [.str n], oneF]) (List.mem_singleton.mpr rfl) rfl, .inr ((list1_gk (gk_tup (k := 2) (by simp) (two (list1_gk s1) (gk_oneF.mono (by omega))))).mono (by omega))⟩
end
end R3

set_option Elab.async false
set_option linter.all false
set_option maxRecDepth 100000
set_option maxHeartbeats 4000000
namespace R3
open PySem PySem.Spec PyProof.Rows L2 Evl Dv
section
variable {P : Program} {w : World} {K : PySem.W.Frag} {mg : Str → Option Value} {base : Heap}
def spBent (K : PySem.W.Frag) : Sp := fun vs H Q _ => ∃ (F : Hp) (v : V) (pb : Addr) (bs : List V) (m : MillD) (brew : List (Str × Fr)), vs = [v, .ref pb] ∧ Ex F H ∧ Dp K F v (encParts m) ∧ m.recipes.length ≤ 8 ∧ F pb = some (.lst bs) ∧ DpAll K F bs (brew.map encBrew) ∧ BentOk m.titles brew ∧
  ∀ p F' H', BentSt K m.titles F H p 1000 F' H' → Q (.ref p) H'
theorem ev_neg {σ : L2.St} {F : Hp} {te : TE} {i : Int} (h : EvD K te σ F (.int i)) : EvD K (tUn (rU fun i => .int (-i)) te) σ F (.int (-i)) := Dv.ev_U (fun _ => .int _) h
theorem ea_one {σ : L2.St} {F : Hp} : EaD K (tCons (tC (.int 1)) (tCons (tC (.int 1)) tNil)) σ F [.int 1, .int 1] := Dv.ea_cons (Dv.ev_int 1) (Dv.ea_cons (Dv.ev_int 1) Dv.ea_nil)
theorem ev_oneF {σ : L2.St} {F : Hp} : EvD K (tTup (tCons (tC (.int 1)) (tCons (tC (.int 1)) tNil))) σ F oneF := Dv.ev_tup ea_one (by simp)
theorem ev_pr {σ : L2.St} {F : Hp} {ta tb : TE} {a b : PyData} (ha : EvD K ta σ F a) (hb : EvD K tb σ F b) : EvD K (tTup (tCons ta (tCons tb tNil))) σ F (.tuple [a, b]) := Dv.ev_tup (Dv.ea_cons ha (Dv.ea_cons hb Dv.ea_nil)) (by simp)
theorem el_1 {σ : L2.St} {F : Hp} {ta : TE} {a : PyData} (ha : EvD K ta σ F a) : EvL K (tLst (tCons ta tNil)) σ F [a] := Dv.el_lst (Dv.ea_cons ha Dv.ea_nil) (by simp)
theorem sc__law_bent : FnScope (["parts", "brew", "found", "name", "takes", "gives", "odds", "odd", "at"] : List Str) (["parts", "brew"] : List Str) (defScope sLawBent) := ⟨rfl, rfl, rfl, by decide +kernel, rfl, by decide +kernel, by decide +kernel⟩
theorem ok_law_bent (D : Def K mg "_law_bent" sLawBent ["parts", "brew"]) (B : Bl mg) : Cal P w K mg base "_law_bent" ["parts", "brew"] 2 (spBent K) := by
  refine cal_mk D sc__law_bent (fun vs H Q E h => ?_) (fun f cdv A outer s H vs Q E hr h => ?_)
  · obtain ⟨F, v, pb, bs, m, brew, rfl, _⟩ := h
    rfl
  obtain ⟨F, v, pb, bs, m, brew, rfl, e, hv, h8, hpb, hbs, bo, q⟩ := h
  refine ⟨_, (pss_cons (ps_set (i := 2) sc__law_bent.nd rfl (.inl rfl) (pe_lst (pa_cons pe_non (pa_cons pe_int (pa_cons (pe_tup pa_nil) (pa_cons pe_dnewK (pa_cons pe_str (pa_cons (pe_callTy call_tuple_of (by rfl) B.tuple (by decide +kernel) (pa_cons (pv 1) pa_nil)) (pa_cons (pe_op op_cat (pv 1) (pe_lst (pa_cons pe_non pa_nil))) (pa_cons (pe_op op_cat (pv 1) (pe_lst (pa_cons (pe_tup (pa_cons pe_str (pa_cons (pe_tup (pa_cons pe_int (pa_cons pe_int pa_nil))) pa_nil))) pa_nil))) (pa_cons (pe_op op_cat (pe_lst (pa_cons (pe_tup (pa_cons pe_str (pa_cons (pe_tup (pa_cons pe_int (pa_cons pe_int pa_nil))) pa_nil))) pa_nil)) (pv 1)) pa_nil)))))))))))
      (pss_cons (ps_for PassesOwn.never rfl (pi_list (pe_slice sl_list (pe_ix ix_list (pv 0) pe_int (fun _ _ => rfl)) po_none (po_some pe_int))) (pg_tup (by rfl) (pgs_cons (pg_name (i := 3) sc__law_bent.nd rfl (.inr rfl)) (pgs_cons (pg_name (i := 4) sc__law_bent.nd rfl (.inl rfl)) (pgs_cons (pg_name (i := 5) sc__law_bent.nd rfl (.inl rfl)) pgs_nil)))) (pss_cons (ps_set (i := 6) sc__law_bent.nd rfl (.inl rfl) (pe_lst (pa_cons (pe_tup (pa_cons pe_int (pa_cons pe_int pa_nil))) (pa_cons (pe_tup (pa_cons (pe_un un_neg pe_int) (pa_cons pe_int pa_nil))) (pa_cons (pe_tup (pa_cons pe_int (pa_cons pe_int pa_nil))) (pa_cons (pe_tup (pa_cons pe_int (pa_cons pe_int pa_nil))) (pa_cons pe_int (pa_cons pe_non (pa_cons (pe_tup (pa_cons pe_bl (pa_cons pe_int pa_nil))) (pa_cons (pe_tup (pa_cons pe_int (pa_cons pe_bl pa_nil))) (pa_cons (pe_lst (pa_cons pe_int (pa_cons pe_int pa_nil))) (pa_cons (pe_tup (pa_cons pe_int (pa_cons pe_int (pa_cons pe_int pa_nil)))) pa_nil))))))))))))
      (pss_cons (ps_set (i := 2) sc__law_bent.nd rfl (.inl rfl) (pe_op op_cat (pv 2) (pe_lc (own := [("odd", 7)]) (g := gName 7) rfl sc__law_bent.nd (pi_list (pv 6)) (blkOk_by (own := [("odd", 7)]) (N := ["parts", "brew", "found", "name", "takes", "gives", "odds", "odd", "at"]) (sc := defScope sLawBent) (by decide +kernel)) (fun _ _ _ _ _ => (pg_name (i := 7) sc__law_bent.nd rfl (.inl rfl)))  (fun _ _ _ _ _ => pts_nil) (fun _ _ _ _ _ => (pe_lst (pa_cons (pe_tup (pa_cons (pv 3) (pa_cons (pv 7) pa_nil))) pa_nil))))))
      (pss_cons (ps_set (i := 2) sc__law_bent.nd rfl (.inl rfl) (pe_op op_cat (pv 2) (pe_lst (pa_cons (pe_lst (pa_cons (pe_tup (pa_cons (pv 3) (pa_cons (pe_tup (pa_cons pe_int (pa_cons pe_int pa_nil))) pa_nil))) (pa_cons (pe_tup (pa_cons (pv 3) (pa_cons (pe_tup (pa_cons pe_int (pa_cons pe_int pa_nil))) pa_nil))) pa_nil))) (pa_cons (pe_lst (pa_cons (pe_lst (pa_cons (pv 3) (pa_cons (pe_tup (pa_cons pe_int (pa_cons pe_int pa_nil))) pa_nil))) pa_nil)) (pa_cons (pe_lst (pa_cons (pe_tup (pa_cons (pv 3) pa_nil)) pa_nil)) (pa_cons (pe_lst (pa_cons (pe_tup (pa_cons (pe_lst (pa_cons (pv 3) pa_nil)) (pa_cons (pe_tup (pa_cons pe_int (pa_cons pe_int pa_nil))) pa_nil))) pa_nil)) pa_nil)))))))
      (pss_one (ps_expr (pe_bm PySem.F.plainAttrs_list PySem.F.slot_list_append PySem.F.type_list_append mt_append (pv 2) (pa_cons (pe_lst (pa_cons (pe_tup (pa_cons (pv 3) (pa_cons (pe_tup (pa_cons pe_int (pa_cons pe_int pa_nil))) (pa_cons pe_int pa_nil)))) pa_nil)) pa_nil))))))))
      (pss_cons (ps_for PassesOwn.never rfl (pi_range1 rfl B.range (pa_cons (pe_callB call_len (by rfl) B.len (by decide +kernel) (pa_cons (pv 1) pa_nil)) pa_nil)) (pg_name (i := 8) sc__law_bent.nd rfl (.inl rfl)) (pss_one (ps_for PassesOwn.never rfl (pi_list (pe_lst (pa_cons (pe_tup (pa_cons pe_int (pa_cons pe_int pa_nil))) (pa_cons (pe_tup (pa_cons (pe_un un_neg pe_int) (pa_cons pe_int pa_nil))) (pa_cons (pe_tup (pa_cons pe_int (pa_cons pe_int pa_nil))) (pa_cons pe_non (pa_cons (pe_tup (pa_cons pe_bl (pa_cons pe_int pa_nil))) pa_nil))))))) (pg_name (i := 7) sc__law_bent.nd rfl (.inl rfl)) (pss_one (ps_expr (pe_bm PySem.F.plainAttrs_list PySem.F.slot_list_append PySem.F.type_list_append mt_append (pv 2) (pa_cons (pe_op op_cat (pe_op op_cat (pe_slice sl_list (pv 1) po_none (po_some (pv 8))) (pe_lst (pa_cons (pe_tup (pa_cons (pe_ix ix_tup (pe_ix ix_list (pv 1) (pv 8) (fun _ _ => rfl)) pe_int (fun _ _ => rfl)) (pa_cons (pv 7) pa_nil))) pa_nil))) (pe_slice sl_list (pv 1) (po_some (pe_op op_add (pv 8) pe_int)) po_none)) pa_nil)))))))
      (pss_cons (ps_if (pt_cmpR op_gt (pe_callB call_len (by rfl) B.len (by decide +kernel) (pa_cons (pv 1) pa_nil)) pe_int (nomark _)) (pss_one (ps_expr (pe_bm PySem.F.plainAttrs_list PySem.F.slot_list_append PySem.F.type_list_append mt_append (pv 2) (pa_cons (pe_revL (pv 1)) pa_nil)))) pss_nil)
      (pss_one (ps_ret (pv 2))))))), ?_⟩
  have st : start ["parts", "brew", "found", "name", "takes", "gives", "odds", "odd", "at"] [v, .ref pb] = [some v, some (.ref pb), none, none, none, none, none, none, none] := rfl
  rw [st]
  have bl : brew.length ≤ 8 := bo.few
  have mbl : (brew.map encBrew).length = brew.length := List.length_map _
  have ebT := fun (σ' : L2.St) (hi : σ'[1]? = some (some (.ref pb))) => evt_var (K := K) (F := F) (σ := σ') hi hpb hbs
  -- found, first
  have eb := ebT [some v, some (.ref pb), none, none, none, none, none, none, none] rfl
  have zz : ∀ (F' : Hp) (σ' : L2.St), EvL K (tLst (tCons (tTup (tCons (tC (.str "zz")) (tCons (tTup (tCons (tC (.int 1)) (tCons (tC (.int 1)) tNil))) tNil))) tNil)) σ' F' [zzD] := fun F' σ' => el_1 (ev_pr (Dv.ev_str _) ev_oneF)
  refine s_asgLQ (K := K) (F := F) (ds := bent0 (brew.map encBrew)) (elq_lst (eaq_cons Dv.ev_non.q (eaq_cons (Dv.ev_int 3).q (eaq_cons (Dv.ev_tup Dv.ea_nil (by simp)).q (eaq_cons eq_mt (eaq_cons (Dv.ev_str _).q (eaq_cons (Dv.ev_tuple eb.ev).q
    (eaq_cons (EvL.ev (el_cat eb (EvL.t (el_1 Dv.ev_non)) (by simp; omega))).q (eaq_cons (EvL.ev (el_cat eb (EvL.t (zz F _)) (by simp; omega))).q (eaq_cons (EvL.ev (el_cat (EvL.t (zz F _)) eb (by simp; omega))).q eaq_nil))))))))) (by simp [bent0])) e fun p ws F1 H1 g1 h1 h2 h3 h4 => ?_
  have b0 : BentSt K m.titles F H p 9 F1 H1 := ⟨ws, _, g1, h1, h2, h3, h4, bent0_bad bo, by simp [bent0]⟩
  show tSeq _ _ _ [some v, some (.ref pb), some (.ref p), none, none, none, none, none, none] H1
  -- the first recipe
  have hrec := Dv.ev_ixL (K := K) (F := F1) (σ := [some v, some (.ref pb), some (.ref p), none, none, none, none, none, none]) (d := .list (m.recipes.map encRecipe)) (Dv.ev_var (i := 0) rfl (dp_ex g1.fx hv)) (Dv.ev_int 1) rfl
  refine Dv.s_for (K := K) (F := F1) (it_list (EvL.ev (Dv.el_sl hrec Dv.eo_none (Dv.eo_some (K := K) (Dv.ev_int 1))))) g1.fh
    (fun n σ' F' H' => ∃ p s3 s4 s5 s6 s7, σ' = [some v, some (.ref pb), some (.ref p), s3, s4, s5, s6, s7, none] ∧ BentSt K m.titles F H p (9 + 15 * n) F' H' ∧ Ex F1 F')
    (fun F' H' g2 => ⟨p, none, none, none, none, none, rfl, b0.gr g2 (by omega), g2.fx⟩) ?_ (fun σ' F' H' e1 e2 pv => ?_)
  · rintro Fb ebb n σ' F' H' u d F2 H2 hd e1 e2 ⟨p, s3, s4, s5, s6, s7, rfl, b1, e3⟩ g2 hu
    have hd1 : d ∈ m.recipes.map encRecipe := by
      have := List.mem_of_getElem? hd
      rw [show (Dv.cutD (m.recipes.map encRecipe) none (some 1)) = _ from cutD_to _ 1] at this
      exact List.mem_of_mem_take this
    have hn1 : n < 1 := by
      have := (List.getElem?_eq_some_iff.mp hd).1
      rw [show (Dv.cutD (m.recipes.map encRecipe) none (some 1)) = _ from cutD_to _ 1, List.length_take] at this
      omega
    obtain ⟨r, hr, rfl⟩ := List.mem_map.mp hd1
    have hrn : r.1 ∈ m.titles := List.mem_map.mpr ⟨r, hr, rfl⟩
    have hgn := bo.gs _ hrn
    obtain ⟨y1, y2, y3, hy1, hy2, hy3, ht⟩ := tup3 hu
    have b2 := b1.gr g2 (Nat.le_refl _)
    refine ht 3 4 5 _ H2 g2.fh _ ?_
    show tSeq _ _ _ [some v, some (.ref pb), some (.ref p), some y1, some y2, some y3, s6, s7, none] H2
    refine Dv.s_asg (K := K) (F := F2) (d := .list odds10) (EvL.ev (Dv.el_lst (Dv.ea_cons (ev_pr (Dv.ev_int 0) (Dv.ev_int 1)) (Dv.ea_cons (ev_pr (ev_neg (Dv.ev_int 1)) (Dv.ev_int 1)) (Dv.ea_cons (ev_pr (Dv.ev_int 2) (Dv.ev_int 2)) (Dv.ea_cons (ev_pr (Dv.ev_int 1) (Dv.ev_int 0)) (Dv.ea_cons (Dv.ev_int 1) (Dv.ea_cons Dv.ev_non (Dv.ea_cons (ev_pr (Dv.ev_bl true) (Dv.ev_int 1)) (Dv.ea_cons (ev_pr (Dv.ev_int 1) (Dv.ev_bl true))
      (Dv.ea_cons (EvL.ev (Dv.el_lst ea_one (by simp))) (Dv.ea_cons (Dv.ev_tup (Dv.ea_cons (Dv.ev_int 1) ea_one) (by simp)) Dv.ea_nil)))))))))) (by decide))) g2.fh fun ov F3 H3 g3 hov => ?_
    show tSeq _ _ _ [some v, some (.ref pb), some (.ref p), some y1, some y2, some y3, some ov, s7, none] H3
    have b3 := b2.gr g3 (Nat.le_refl _)
    have lc := lc_rule (K := K) (F := F3) (σ := [some v, some (.ref pb), some (.ref p), some y1, some y2, some y3, some ov, s7, none]) (te := tLst (tCons (tTup (tCons (tVar 3) (tCons (tVar 7) tNil))) tNil)) (tt := tYes) (g := gName 7) (vs := [7]) odds10 id (fun o => .list [.tuple [.str r.1, o]]) (fun _ => true) (it_list (Dv.ev_var (i := 6) rfl (by rw [List.map_id]; exact hov))) (by decide)
      (fun o _ ou F4 e4 hou => ⟨[some v, some (.ref pb), some (.ref p), some y1, some y2, some y3, some ov, some ou, none], fun _ _ _ q => q, rfl, fun H e Q q => q F4 H (Gr.refl e), fun _ => EvL.ev (el_1 (ev_pr (Dv.ev_var (i := 3) rfl (dp_ex (g3.fx.trans e4) hy1)) (Dv.ev_var (i := 7) rfl hou)))⟩)
    rw [filt_true] at lc
    refine bent_cat (K := K) b3 (by omega) rfl lc 10 (by rw [List.length_map]; exact Nat.le_refl _) (by omega) (fun d hd => ?_) fun p4 F4 H4 b4 e4 e4' => ?_
    · obtain ⟨o, ho, rfl⟩ := List.mem_map.mp hd
      have hb := odds10_bad o ho
      exact ⟨no_brew (List.mem_singleton.mpr rfl) (no_pair hb.2), .inr ((list1_gk (pair_gk hgn hb.1)).mono (by omega))⟩
    show tSeq _ _ _ [some v, some (.ref pb), some (.ref p4), some y1, some y2, some y3, some ov, s7, none] H4
    have n4 : EvD K (tVar 3) [some v, some (.ref pb), some (.ref p4), some y1, some y2, some y3, some ov, s7, none] F4 (.str r.1) := Dv.ev_var rfl (dp_ex (g3.fx.trans e4) hy1)
    refine bent_cat (K := K) (es := bent4 r.1) b4 (by omega) rfl (Dv.el_lst (Dv.ea_cons (EvL.ev (Dv.el_lst (Dv.ea_cons (ev_pr n4 ev_oneF) (Dv.ea_cons (ev_pr n4 ev_oneF) Dv.ea_nil)) (by simp))) (Dv.ea_cons (EvL.ev (el_1 (EvL.ev (Dv.el_lst (Dv.ea_cons n4 (Dv.ea_cons ev_oneF Dv.ea_nil)) (by simp))))) (Dv.ea_cons (EvL.ev (el_1 (Dv.ev_tup (Dv.ea_cons n4 Dv.ea_nil) (by simp)))) (Dv.ea_cons (EvL.ev (el_1 (ev_pr (EvL.ev (el_1 n4)) ev_oneF))) Dv.ea_nil)))) (show 4 ≤ 100000 by decide)) 4 (Nat.le_refl _) (by omega) (bent4_bad bo.nd hgn) fun p5 F5 H5 b5 e5 e5' => ?_
    have h5 : (List.set [some v, some (.ref pb), some (.ref p4), some y1, some y2, some y3, some ov, s7, none] 2 (some (.ref p5)) : L2.St) = [some v, some (.ref pb), some (.ref p5), some y1, some y2, some y3, some ov, s7, none] := rfl
    rw [h5]
    have n5 : EvD K (tVar 3) [some v, some (.ref pb), some (.ref p5), some y1, some y2, some y3, some ov, s7, none] F5 (.str r.1) := Dv.ev_var rfl (dp_ex ((g3.fx.trans e4).trans e5) hy1)
    refine bent_app (K := K) b5 (by omega) rfl (EvL.ev (el_1 (Dv.ev_tup (Dv.ea_cons n5 (Dv.ea_cons ev_oneF (Dv.ea_cons (Dv.ev_int 0) Dv.ea_nil))) (by simp)))) ⟨no_brew (List.mem_singleton.mpr rfl) rfl, .inr ((list1_gk (gk_tup (k := 1) (by simp) fun y hy => by
      simp only [List.mem_cons, List.not_mem_nil, or_false] at hy
      rcases hy with rfl | rfl | rfl
      · exact (gk_str hgn).mono (by omega)
      · exact gk_oneF
      · exact gk_of (by decide +kernel))).mono (by omega))⟩ fun F6 H6 b6 e6 e6' => ?_
    refine ⟨F6, e1.trans (((g2.fx.trans g3.fx).trans (e4.trans e5)).trans e6), e6', p5, _, _, _, _, _, rfl, ?_, e3.trans (((g2.fx.trans g3.fx).trans (e4.trans e5)).trans e6)⟩
    obtain ⟨ws6, ds6, r6⟩ := b6
    exact ⟨ws6, ds6, r6.1, r6.2.1, r6.2.2.1, r6.2.2.2.1, r6.2.2.2.2.1, r6.2.2.2.2.2.1, by
      have := r6.2.2.2.2.2.2
      omega⟩
  obtain ⟨p, s3, s4, s5, s6, s7, rfl, b1, e3⟩ := pv
  have ln : (Dv.cutD (m.recipes.map encRecipe) none (some 1)).length ≤ 1 := by
    rw [show (Dv.cutD (m.recipes.map encRecipe) none (some 1)) = _ from cutD_to _ 1, List.length_take]
    omega
  have b1' : BentSt K m.titles F H p 24 F' H' := by
    obtain ⟨ws, ds, r⟩ := b1
    exact ⟨ws, ds, r.1, r.2.1, r.2.2.1, r.2.2.2.1, r.2.2.2.2.1, r.2.2.2.2.2.1, by
      have := r.2.2.2.2.2.2
      omega⟩
  clear b1
  have eF : Ex F F' := g1.fx.trans e3
  show tSeq _ _ _ [some v, some (.ref pb), some (.ref p), s3, s4, s5, s6, s7, none] H'
  refine Dv.s_for (K := K) (F := F') (it_rng1 (n := (brew.length : Int)) (Dv.ea_cons (ev_len (d := .list (brew.map encBrew)) (n := brew.length) ((ebT _ rfl).mono eF).ev (by rw [← mbl]; rfl) (by omega)) Dv.ea_nil) (by omega) (by omega)) e2
    (fun n σ' F' H' => ∃ s3 s4 s5 s6 s7 s8, σ' = [some v, some (.ref pb), some (.ref p), s3, s4, s5, s6, s7, s8] ∧ BentSt K m.titles F H p (24 + 5 * n) F' H' ∧ Ex F F')
    (fun F2 H2 g2 => ⟨s3, s4, s5, s6, s7, none, rfl, b1'.gr g2 (by omega), eF.trans g2.fx⟩) ?_ (fun σ2 F2 H2 e4 e5 pv => ?_)
  · clear b1' eF e1 e2 e3
    rintro Fb ebb n σ2 F2 H2 u d F3 H3 hd e4 e5 ⟨s3, s4, s5, s6, s7, s8, rfl, b2, eF2⟩ g3 hu
    obtain ⟨hn, hdn⟩ := List.getElem?_eq_some_iff.mp hd
    rw [List.length_map, List.length_range] at hn
    have hn' : n < brew.length := by omega
    have hdn' : d = .int (n : Int) := by rw [← hdn, List.getElem_map, List.getElem_range]
    subst hdn'
    have hget : (brew.map encBrew)[n]? = some (encBrew brew[n]) := by rw [List.getElem?_map, List.getElem?_eq_getElem hn'] <;> rfl
    have eF3 : Ex F F3 := eF2.trans g3.fx
    show tFor _ _ _ _ [some v, some (.ref pb), some (.ref p), s3, s4, s5, s6, s7, some u] H3
    refine Dv.s_for (K := K) (F := F3) (it_list (ds := odds5) (EvL.ev (Dv.el_lst (Dv.ea_cons (ev_pr (Dv.ev_int 0) (Dv.ev_int 1)) (Dv.ea_cons (ev_pr (ev_neg (Dv.ev_int 1)) (Dv.ev_int 1)) (Dv.ea_cons (ev_pr (Dv.ev_int 2) (Dv.ev_int 2)) (Dv.ea_cons Dv.ev_non (Dv.ea_cons (ev_pr (Dv.ev_bl true) (Dv.ev_int 1)) Dv.ea_nil))))) (by decide)))) g3.fh
      (fun j σ' F' H' => ∃ s7, σ' = [some v, some (.ref pb), some (.ref p), s3, s4, s5, s6, s7, some u] ∧ BentSt K m.titles F H p (24 + 5 * n + j) F' H' ∧ Ex F3 F')
      (fun F4 H4 g4 => ⟨s7, rfl, (b2.gr g3 (Nat.le_refl _)).gr g4 (by omega), g4.fx⟩) ?_ (fun σ4 F4 H4 e6 e7 pv => ?_)
    · clear b2
      rintro Fc ecc j σ4 F4 H4 ou o F5 H5 ho e6 e7 ⟨s7, rfl, b4, e34⟩ g5 hou
      have hj : j < 5 := (List.getElem?_eq_some_iff.mp ho).1
      have hob := odds5_bad o (List.mem_of_getElem? ho)
      have eF5 : Ex F F5 := eF3.trans (e34.trans g5.fx)
      show tDrop _ _ [some v, some (.ref pb), some (.ref p), s3, s4, s5, s6, some ou, some u] H5
      have vb := ((ebT [some v, some (.ref pb), some (.ref p), s3, s4, s5, s6, some ou, some u] rfl).mono eF5)
      have vu : EvD K (tVar 8) [some v, some (.ref pb), some (.ref p), s3, s4, s5, s6, some ou, some u] F5 (.int (n : Int)) := Dv.ev_var rfl (dp_ex (e34.trans g5.fx) hu)
      have l1 := Dv.el_sl (K := K) vb.ev Dv.eo_none (Dv.eo_some vu)
      have l2 := Dv.el_sl (K := K) vb.ev (Dv.eo_some (Dv.ev_is (Dv.ev_I0 (g := fun i j => .int (i + j)) (fun _ => .int _) vu (Dv.ev_int 1)) (show PyData.int ((n : Int) + 1) = .int ((n + 1 : Nat) : Int) from rfl))) Dv.eo_none
      rw [cutD_to] at l1
      rw [Dv.cutD_from] at l2
      have nb : brew[n].1 ∈ m.titles := bo.sub.subset (List.mem_map.mpr ⟨_, List.getElem_mem hn', rfl⟩)
      have hgn := bo.gs _ nb
      have li := el_1 (ev_pr (Dv.ev_ixT (d := .str brew[n].1) (Dv.ev_ixL vb.ev vu (atI_nat hget)) (Dv.ev_int 0) rfl) (Dv.ev_var (i := 7) rfl hou))
      refine bent_app (K := K) (b4.gr g5 (Nat.le_refl _)) (by omega) rfl (EvL.ev (el_cat (EvL.t (el_cat l1.t li.t (by simp; omega))) l2.t (by simp; omega))) ⟨?_, .inr ?_⟩ fun F6 H6 b6 e8 e9 => ?_
      · exact no_brew (List.mem_append_left _ (List.mem_append_right _ (List.mem_singleton.mpr rfl))) (no_pair hob.2)
      · refine (gk_list (k := 3) (by simp; omega) fun x hx => ?_).mono (by omega)
        rcases List.mem_append.mp hx with hx | hx
        · rcases List.mem_append.mp hx with hx | hx
          · exact (bo.item x (List.mem_of_mem_take hx)).mono (by omega)
          · rw [List.mem_singleton.mp hx]
            exact pair_gk hgn hob.1
        · exact (bo.item x (List.mem_of_mem_drop hx)).mono (by omega)
      · exact ⟨F6, (e6.trans g5.fx).trans e8, e9, _, rfl, b6, (e34.trans g5.fx).trans e8⟩
    · obtain ⟨s7, rfl, b4, e34⟩ := pv
      refine ⟨F4, e4.trans (g3.fx.trans e34), e7, _, _, _, _, _, _, rfl, ?_, eF3.trans e34⟩
      obtain ⟨ws, ds, r⟩ := b4
      exact ⟨ws, ds, r.1, r.2.1, r.2.2.1, r.2.2.2.1, r.2.2.2.2.1, r.2.2.2.2.2.1, by
        have := r.2.2.2.2.2.2
        simp [odds5] at this
        omega⟩
  clear b1'
  obtain ⟨t3, t4, t5, t6, t7, t8, rfl, b2, eF2⟩ := pv
  rw [List.length_map, List.length_range] at b2
  have b2' : BentSt K m.titles F H p 64 F2 H2 := by
    obtain ⟨ws, ds, r⟩ := b2
    exact ⟨ws, ds, r.1, r.2.1, r.2.2.1, r.2.2.2.1, r.2.2.2.2.1, r.2.2.2.2.2.1, by
      have := r.2.2.2.2.2.2
      omega⟩
  clear b2
  show tSeq _ _ _ [some v, some (.ref pb), some (.ref p), t3, t4, t5, t6, t7, t8] H2
  have vb := ((ebT [some v, some (.ref pb), some (.ref p), t3, t4, t5, t6, t7, t8] rfl).mono eF2)
  refine Dv.s_if (F := F2) (p := decide ((1 : Int) < brew.length)) (et_test (K := K) (Dv.ev_I0 (g := fun i j => .bl (decide (j < i))) (fun _ => .bl _) (ev_len (d := .list (brew.map encBrew)) (n := brew.length) vb.ev (by rw [← mbl]; rfl) (by omega)) (Dv.ev_int 1))) e5 (fun hp F3 H3 g3 => ?_) (fun hp F3 H3 g3 => ?_)
  · have hl : 1 < brew.length := by
      have := of_decide_eq_true hp
      omega
    refine bent_app (K := K) (b2'.gr g3 (Nat.le_refl _)) (by omega) rfl (EvL.ev (el_rev (vb.mono g3.fx).ev)) ⟨no_back bo.nd bo.sub hl, .inr ((gk_list (k := 2) (by simp; omega) fun x hx => bo.item x (List.mem_reverse.mp hx)).mono (by omega))⟩ fun F6 H6 b6 e8 e9 => ?_
    refine ⟨_, rfl, q p F6 H6 ?_⟩
    obtain ⟨ws, ds, r⟩ := b6
    exact ⟨ws, ds, r.1, r.2.1, r.2.2.1, r.2.2.2.1, r.2.2.2.2.1, r.2.2.2.2.2.1, by
      have := r.2.2.2.2.2.2
      omega⟩
  · exact ⟨_, rfl, q p F3 H3 (b2'.gr g3 (by omega))⟩
end
end R3

set_option Elab.async false
set_option linter.all false
set_option maxRecDepth 100000
set_option maxHeartbeats 4000000
/-! GENERAL: how long the text of repr is at most. -/
namespace L2
open PySem PySem.Spec PyProof.Rows
mutual
/-- at least as many signs as the text of repr has -/
def shB : PyData → Nat
  | .none => 4
  | .bool _ => 5
  | .int i => i.natAbs.log2 + 2
  | .str x => (reprText x).length
  | .list xs => shBs xs + 3
  | .tuple xs => shBs xs + 3
  | .dict kvs => shBk kvs + 3
def shBs : List PyData → Nat
  | [] => 0
  | x :: xs => shB x + 2 + shBs xs
def shBk : List (PyData × PyData) → Nat
  | [] => 0
  | (a, b) :: r => shB a + shB b + 4 + shBk r
end
theorem shB_all : ∀ (xs : List PyData), (∀ x ∈ xs, x.shown.length ≤ shB x) → ((PyData.shownAll xs).map (·.length)).sum + 2 * (PyData.shownAll xs).length ≤ shBs xs
  | [], _ => by simp [PyData.shownAll, shBs]
  | x :: xs, h => by
    have h1 := h x (List.mem_cons_self ..)
    have h2 := shB_all xs fun y hy => h y (List.mem_cons_of_mem _ hy)
    simp only [PyData.shownAll, shBs, List.map_cons, List.sum_cons, List.length_cons]
    omega
mutual
theorem shB_le : ∀ (d : PyData), d.shown.length ≤ shB d
  | .none => by simp only [PyData.shown, shB]; decide
  | .bool b => by
    cases b
    · simp only [PyData.shown, shB]; decide
    · simp only [PyData.shown, shB]; decide
  | .int i => by
    simp only [PyData.shown, shB]
    have h := int_text_length_le (a := i) (k := i.natAbs.log2 + 1) (by omega) (by omega)
    have e : (Str.ofString (toString i)).length = (toString i).length := PySem.ofString_length _
    rw [e]
    omega
  | .str x => by simp only [PyData.shown, shB]; exact Nat.le_refl _
  | .list xs => by
    simp only [PyData.shown, shB]
    have h := listText_len_le (PyData.shownAll xs)
    have h2 := shB_les xs
    omega
  | .tuple xs => by
    simp only [PyData.shown, shB]
    have h := tupleText_len_le (PyData.shownAll xs)
    have h2 := shB_les xs
    omega
  | .dict kvs => by
    simp only [PyData.shown, shB]
    have h := dictText_len_le (PyData.shownKv kvs)
    have h2 := shB_lek kvs
    omega
theorem shB_les : ∀ (xs : List PyData), ((PyData.shownAll xs).map (·.length)).sum + 2 * (PyData.shownAll xs).length ≤ shBs xs
  | [] => by simp [PyData.shownAll, shBs]
  | x :: xs => by
    have h1 := shB_le x
    have h2 := shB_les xs
    simp only [PyData.shownAll, shBs, List.map_cons, List.sum_cons, List.length_cons]
    omega
theorem shB_lek : ∀ (kvs : List (PyData × PyData)), ((PyData.shownKv kvs).map (·.length)).sum + 2 * (PyData.shownKv kvs).length ≤ shBk kvs
  | [] => by simp [PyData.shownKv, shBk]
  | (a, b) :: r => by
    have h1 := shB_le a
    have h3 := shB_le b
    have h2 := shB_lek r
    simp only [PyData.shownKv, shBk, List.map_cons, List.sum_cons, List.length_cons]
    have e : (PyData.shown a ++ ": " ++ PyData.shown b).length = (PyData.shown a).length + 2 + (PyData.shown b).length := by
      rw [strLen_append, strLen_append]
      rfl
    omega
end
end L2

set_option Elab.async false
set_option linter.all false
set_option maxRecDepth 100000
set_option maxHeartbeats 4000000
namespace L2
open PySem PySem.Spec PyProof.Rows
section
variable {X : Cx}
theorem OpR.or2 {f : Value → Value → Sem Value} {r1 r2 : R2} (h1 : OpR X f r1) (h2 : OpR X f r2) : OpR X f (fun x y H Q => r1 x y H Q ∨ r2 x y H Q) := fun pins s σ H x y v u Q I rx ry h => h.elim (h1 pins s σ H x y v u Q I rx ry) (h2 pins s σ H x y v u Q I rx ry)
/-- two lists of the very same items: not unlike -/
def rNeSame (K : PySem.W.Frag) : R2 := fun x y H Q => ∃ (a b : Addr) (xs : List V), x = .ref a ∧ y = .ref b ∧ SqL K H a xs ∧ SqL K H b xs ∧ (∀ v ∈ xs, flatB v = true ∨ ∃ p, v = .ref p) ∧ Q (.bl false) H
theorem vals_at : ∀ {xs : List V} {us : List Value} {j : Nat} (hj : j < us.length), Vals xs us → ∃ v, xs[j]? = some v ∧ RelV v us[j]
  | _, _, _, h, .nil => absurd h (Nat.not_lt_zero _)
  | _, _, 0, _, .cons r _ => ⟨_, rfl, r⟩
  | _, _, j + 1, h, .cons _ t => vals_at (j := j) (Nat.lt_of_succ_lt_succ h) t
theorem op_neSame (hu : X.A.units + 64 < cLine) : OpR X (compareOp .NotEq) (rNeSame X.K) := by
  intro pins s σ H x y v u Q I rx ry h
  obtain ⟨a, b, xs, rfl, rfl, ha, hb, hf, q⟩ := h
  cases (show v = Value.ref a from rx)
  cases (show u = Value.ref b from ry)
  obtain ⟨us, r1, p1, _⟩ := I.list ha
  obtain ⟨ws, r2, p2, _⟩ := I.list hb
  have hsz : us.toArray.size = ws.toArray.size := by
    rw [List.size_toArray, List.size_toArray, ← r1.length, ← r2.length]
  have key := SeqAt.RcNeAt.lists (A := X.A) (e := fun _ => true) p1.isList p2.isList hsz (by omega) fun j h1 h2 => by
    obtain ⟨v1, e1, q1⟩ := vals_at (j := j) (by simpa using h1) r1
    obtain ⟨v2, e2, q2⟩ := vals_at (j := j) (by simpa using h2) r2
    have : v1 = v2 := Option.some.inj (e1.symm.trans e2)
    subst this
    have e3 : us.toArray[j] = us[j]'(by simpa using h1) := by simp
    have e4 : ws.toArray[j] = ws[j]'(by simpa using h2) := by simp
    rw [e3, e4]
    rcases hf v1 (List.mem_of_getElem? e1) with hfl | ⟨p, rfl⟩
    · exact eqAt_same q1 q2 hfl
    · have a1 : us[j]'(by simpa using h1) = Value.ref p := q1
      have a2 : ws[j]'(by simpa using h2) = Value.ref p := q2
      rw [a1, a2]
      exact SeqAt.EqAt.same _
  have e : (!(List.range us.toArray.size).all fun _ => true) = false := by
    rw [show ((List.range us.toArray.size).all fun _ => true) = true from List.all_eq_true.mpr fun _ _ => rfl]
    rfl
  rw [e] at key
  exact key X.prog X.w _ _ ⟨.bl false, H, I, rfl, q⟩
end
end L2
namespace Dv
open PySem PySem.Spec PyProof.Rows L2 Evl
section
variable {K : PySem.W.Frag} {σ : L2.St} {F F1 H H1 : Hp} {te ta tb : TE} {d a b : PyData} {ds es : List PyData}
/-- repr of a datum -/
structure Rp (d : PyData) : Prop where
  nd : d.hasDict = false
  sh : d.showable = true
  len : shB d ≤ 100000
  dep : d.depth ≤ 50
theorem ev_repr (h : EvD K te σ F d) (r : Rp d) : EvD K (tCB (rReprD K) (tCons te tNil)) σ F (.str d.shown) := fun H e Q q =>
  h H e _ fun v F' H' g hv => ⟨v, d, rfl, .inl ⟨dp_ex g.fh hv, r.nd⟩, r.sh, Nat.le_trans (shB_le d) (sz_of r.len), r.dep, q _ F' H' g (.str _)⟩
theorem ev_neS {x y : Str} (ha : EvD K ta σ F (.str x)) (hb : EvD K tb σ F (.str y)) : EvD K (tOp rNe ta tb) σ F (.bool (!decide (x = y))) :=
  ev_op ha hb fun v u F1 H1 _ e hv hu Q q => by
    cases hv
    cases hu
    refine ⟨rfl, q _ F1 H1 (Gr.refl e) ?_⟩
    have : decide (V.str x = V.str y) = decide (x = y) := by
      by_cases h : x = y
      · rw [h]; simp
      · rw [decide_eq_false h, decide_eq_false (fun z => h (V.str.inj z))]
    first
      | (rw [this]; exact .bl _)
      | (simp only [this]; exact .bl _)
/-- is, is not of truth values -/
theorem ev_notBl {p q : Bool} (ha : EvD K ta σ F (.bool p)) (hb : EvD K tb σ F (.bool q)) : EvD K (tOp rNotB ta tb) σ F (.bool (!decide (p = q))) :=
  ev_op ha hb fun v u F1 H1 _ e hv hu Q k => by
    cases hv
    cases hu
    exact ⟨p, q, rfl, rfl, k _ F1 H1 (Gr.refl e) (.bl _)⟩
theorem ev_isBl {p q : Bool} (ha : EvD K ta σ F (.bool p)) (hb : EvD K tb σ F (.bool q)) : EvD K (tOp rIsB ta tb) σ F (.bool (decide (p = q))) :=
  ev_op ha hb fun v u F1 H1 _ e hv hu Q k => by
    cases hv
    cases hu
    exact ⟨p, q, rfl, rfl, k _ F1 H1 (Gr.refl e) (.bl _)⟩
/-- what is walked, told by what its items are -/
def ItB (K : PySem.W.Frag) (wi : TI) (σ : L2.St) (F : Hp) (Pd : List PyData → Prop) : Prop := ∀ H, Ex F H → ∀ R : It → Hp → Prop, (∀ J F' H' ds, Gr F H F' H' → WQ K J F' ds → Pd ds → R J H') → wi σ H R
theorem s_forB {D : Ends} {ts : TS} {g : TG} {wi : TI} {Pd : List PyData → Prop} (h : ItB K wi σ F Pd) (e : Ex F H) (Pv : L2.St → Hp → Hp → Prop) (h0 : ∀ F' H', Gr F H F' H' → Pv σ F' H')
    (hs : ∀ Fb, Ex F Fb → ∀ ds, Pd ds → ∀ σ' F' H' v d F2 H2, d ∈ ds → Ex Fb F' → Ex F' H' → Pv σ' F' H' → Gr F' H' F2 H2 → Dq K F2 v d →
      g v σ' H2 fun σ2 H3 => ts { D with nx := NxP Fb Pv, ct := NxP Fb Pv, bk := D.nx } σ2 H3)
    (hd : ∀ σ' F' H', Ex F F' → Ex F' H' → Pv σ' F' H' → D.nx σ' H') : tFor wi g ts D σ H := h H e _ fun J F1 H1 ds g1 wd pd => by
  obtain ⟨G, Y, W, hG, hY⟩ := wd
  exact for_it W (fun n => NxP F1 Pv) ⟨F1, Ex.refl _, g1.fh, h0 F1 H1 g1⟩ (fun n σ' H' _ p => by
    obtain ⟨F', e1, e2, p⟩ := p
    exact hG _ (e1.trans e2)) (fun n v σ' H' H2 hn p y => by
    obtain ⟨F', e1, e3, p⟩ := p
    obtain ⟨F2, d, hd, g2, hv⟩ := hY F' n H' v H2 hn e1 e3 y
    exact hs F1 g1.fx ds pd σ' F' H' v d F2 H2 (List.mem_of_getElem? hd) e1 e3 p g2 hv) (fun σ' H' p => by
    obtain ⟨F', e1, e2, p⟩ := p
    exact hd σ' F' H' (g1.fx.trans e1) e2 p)
/-- a new list, told by what its items are -/
def ElB (K : PySem.W.Frag) (te : TE) (σ : L2.St) (F : Hp) (Pd : List PyData → Prop) : Prop := ∀ H, Ex F H → ∀ Q : VK, (∀ p vs F' H' ds, Gr F H F' H' → H p = none → F' p = none → H' p = some (.lst vs) → DqAll K F' vs ds → Pd ds → Q (.ref p) H') → te σ H Q
theorem itb_list {Pd : List PyData → Prop} (h : ElB K te σ F Pd) : ItB K (iList K te) σ F Pd := fun H eH R q => h H eH _ fun p vs F1 H1 ds g1 h1 h2 h3 h4 pd => by
  have g2 := g1.take h1 h2 h3
  refine ⟨p, rfl, ⟨vs, sq_of h3⟩, q _ _ H1 ds g2 ⟨_, _, by rw [← dqs_len h4]; exact walk_list (xs := vs), fun H e => sq_of (e _ _ upd_same), fun F2 i H2 x H3 _ e1 e2 y => ?_⟩ pd⟩
  obtain ⟨rfl, hx⟩ := y
  obtain ⟨d, h1, h2⟩ := dqs_get h4 hx
  exact ⟨F2, d, h1, Gr.refl e2, dq_ex ((Ex.new (by assumption)).trans e1) h2⟩
end
end Dv

set_option Elab.async false
set_option linter.all false
set_option maxRecDepth 100000
set_option maxHeartbeats 4000000
namespace R3
open PySem PySem.Spec PyProof.Rows L2 Evl Dv
section
variable {P : Program} {w : World} {K : PySem.W.Frag} {mg : Str → Option Value} {base : Heap} {C CM CB ml : Addr} {σ : L2.St} {F : Hp} {te : TE} {m : MillD} {d : PyData} {brew : List (Str × Fr)} {i : Nat} {E : XK} {wide many : Nat}
def spIsLoopQ (K : PySem.W.Frag) (C : Addr) : Sp := fun vs H Q E => spIsLoop K C vs H Q E ∨ spFalse K C vs H Q E
theorem eq_isLoop (hi : σ[i]? = some (some (.ref ml))) (hm : MillAt K F C ml m) (ok : m.Ok) (h : EvQ K te σ F d) (hg : gd d = true) (hb : isBrew m.titles d = false) : EvD K (tCall (spIsLoopQ K C) [] E (tCons (tVar i) (tCons te tNil))) σ F (.bool false) := fun H e Q q =>
  ⟨_, hi, h H e _ fun v F1 H1 g1 hv => by
    cases hv with
    | dat hv => exact .inl ⟨F1, ml, m, v, d, false, rfl, g1.fh, hm.mono g1.fx, ok, hv, hg, .inl ⟨hb, rfl⟩, fun F' H' g => q _ F' H' (g1.trans g) (.bl _)⟩
    | mt hp => exact .inr ⟨F1, ml, m, _, rfl, g1.fh, hm.mono g1.fx, ok, .mt hp, fun F' H' g => q _ F' H' (g1.trans g) (.bl _)⟩⟩
theorem ev_isLoop (hi : σ[i]? = some (some (.ref ml))) (hm : MillAt K F C ml m) (ok : m.Ok) (bo : BrewOk m brew) (h : EvD K te σ F (.list (brew.map encBrew))) : EvD K (tCall (spIsLoopQ K C) [] E (tCons (tVar i) (tCons te tNil))) σ F (.bool (loopOf (gainsM m brew))) := fun H e Q q =>
  ⟨_, hi, h H e _ fun v F1 H1 g1 hv => .inl ⟨F1, ml, m, v, _, _, rfl, g1.fh, hm.mono g1.fx, ok, hv, bo.good, .inr ⟨brew, rfl, bo, rfl⟩, fun F' H' g => q _ F' H' (g1.trans g) (.bl _)⟩⟩
theorem el_gain (hi : σ[i]? = some (some (.ref ml))) (hm : MillAt K F C ml m) (ok : m.Ok) (bo : BrewOk m brew) (h : EvD K te σ F (.list (brew.map encBrew))) : EvL K (tCall (spGain K C) [] E (tCons (tVar i) (tCons te tNil))) σ F ((gainsM m brew).map encF) := fun H e Q q =>
  ⟨_, hi, h H e _ fun v F1 H1 g1 hv => ⟨F1, ml, m, v, brew, rfl, g1.fh, hm.mono g1.fx, ok, hv, bo, fun p ws F' H' g h1 h2 h3 h4 => q p ws F' H' (g1.trans g) (ex_none g1.hx h1) h2 h3 h4⟩⟩
theorem dq_flat {H : Hp} {v : V} (h : Dq K H v d) : flatB v = true ∨ ∃ p, v = .ref p := by
  cases h with
  | dat h => cases h <;> first | exact .inl rfl | exact .inr ⟨_, rfl⟩
  | mt h => exact .inr ⟨_, rfl⟩
/-- _law_caught(0, mill, value) != [1, value]: no -/
theorem et_caught {j : Nat} {v : V} (hi : σ[i]? = some (some (.ref ml))) (hj : σ[j]? = some (some v)) (hm : MillAt K F C ml m) (ok : m.Ok) (hv : Dq K F v d) (hd : BadD m.titles d) :
    EtD (tTest (tOp (rNeSame K) (tCall (spCaught K C CM CB) [] E (tCons (tC (.int 0)) (tCons (tVar i) (tCons (tVar j) tNil)))) (tLst (tCons (tC (.int 1)) (tCons (tVar j) tNil))))) σ F false := fun H e Q q =>
  ⟨_, hi, _, hj, 0, .ref ml, v, v, F, CB, 1, rfl, e, .inl ⟨rfl, fun E Q' b => .inl ⟨F, ml, m, v, d, rfl, e, hm, ok, hv, hd.gd, hd.1, b⟩⟩, .inr ⟨rfl, rfl⟩, fun p F1 H1 g1 h1 h2 h3 =>
    ⟨_, hj, sz_of (by simp), fun p2 hp2 => ⟨p, p2, [.int 1, v], rfl, rfl, SqL.of (by rw [upd_ne (ne_of_none h3 hp2)]; exact h3), SqL.of upd_same, fun x hx => by
      simp only [List.mem_cons, List.not_mem_nil, or_false] at hx
      rcases hx with rfl | rfl
      · exact .inl rfl
      · exact dq_flat hv, false, rfl, q F1 _ (g1.trans (Gr.only g1.fh hp2))⟩⟩⟩
theorem Drawn.bent (d : Drawn m wide many) (mm : many ≤ 3) (b : BrewD m.titles brew) : BentOk m.titles brew := by
  have e : m.titles = (List.range many).map (chr "srut") := d.rn
  have hs : ∀ n ∈ m.titles, n = "s" ∨ n = "r" ∨ n = "u" := fun n hn => by
    rw [e] at hn
    obtain ⟨i, hi, rfl⟩ := range_names hn
    exact chr_sru (by omega)
  refine ⟨by rw [e]; exact nd_sru mm, fun n hn => ?_, fun h => ?_, b.sub, ?_⟩
  · rcases hs n hn with h | h | h <;> exact (name_ok (by simp [h])).2
  · rcases hs _ h with h | h | h <;> exact absurd h (by decide +kernel)
  · have := b.len d
    omega
theorem shBs_frs : ∀ gs : List Fr, (∀ x ∈ gs, x.1.natAbs < 2 ^ 40 ∧ x.2.natAbs < 2 ^ 40) → shBs (gs.map encF) ≤ 93 * gs.length
  | [], _ => by simp [shBs]
  | x :: r, h => by
    have h0 := h x (List.mem_cons_self ..)
    have ih := shBs_frs r fun y hy => h y (List.mem_cons_of_mem _ hy)
    have l1 : x.1.natAbs.log2 ≤ 40 := by
      by_cases z : x.1.natAbs = 0
      · rw [z]; decide
      · exact Nat.le_of_lt ((Nat.log2_lt z).mpr h0.1)
    have l2 : x.2.natAbs.log2 ≤ 40 := by
      by_cases z : x.2.natAbs = 0
      · rw [z]; decide
      · exact Nat.le_of_lt ((Nat.log2_lt z).mpr h0.2)
    rw [List.map_cons, List.length_cons]
    simp only [shBs, shB, encF]
    omega
theorem show_frs : ∀ gs : List Fr, (∀ x ∈ gs, x.1.natAbs < 2 ^ 40 ∧ x.2.natAbs < 2 ^ 40) → PyData.showableAll (gs.map encF) = true ∧ PyData.hasDictAll (gs.map encF) = false
  | [], _ => by simp [PyData.showableAll, PyData.hasDictAll]
  | x :: r, h => by
    have h0 := h x (List.mem_cons_self ..)
    have ih := show_frs r fun y hy => h y (List.mem_cons_of_mem _ hy)
    have l1 : x.1.natAbs.log2 < 1920 := by
      by_cases z : x.1.natAbs = 0
      · rw [z]; decide
      · have := (Nat.log2_lt z).mpr h0.1
        omega
    have l2 : x.2.natAbs.log2 < 1920 := by
      by_cases z : x.2.natAbs = 0
      · rw [z]; decide
      · have := (Nat.log2_lt z).mpr h0.2
        omega
    rw [List.map_cons]
    simp [PyData.showableAll, PyData.hasDictAll, encF, PyData.showable, PyData.hasDict, l1, l2, ih.1, ih.2]
theorem rp_gains (gs : List Fr) (b : Bool) (h : ∀ x ∈ gs, x.1.natAbs < 2 ^ 40 ∧ x.2.natAbs < 2 ^ 40) (hl : gs.length ≤ 100) : Rp (.list [.list (gs.map encF), .bool b]) := by
  have s := show_frs gs h
  have z := shBs_frs gs h
  have dp := dep_fr gs
  refine ⟨?_, ?_, ?_, ?_⟩
  · simp [PyData.hasDict, PyData.hasDictAll, s.2]
  · simp [PyData.showable, PyData.showableAll, s.1]
  · simp only [shB, shBs]
    omega
  · simp only [PyData.depth, PyData.depthAll]
    omega
theorem gains_small (d : Drawn m wide many) (ok : m.Ok) (mm : many ≤ 3) (b : BrewD m.titles brew) : ∀ x ∈ gainsM m brew, x.1.natAbs < 2 ^ 40 ∧ x.2.natAbs < 2 ^ 40 := by
  intro x hx
  rw [gains_law ok b.inn] at hx
  have bd := gains_bd (stuffs := m.stuffs) (rs := m.recipes) brew (List.replicate m.stuffs.length (0, 1)) 0 (fun z hz => by
    rw [List.eq_of_mem_replicate hz]
    exact Bd.zero) (fun z hz => by
    obtain ⟨r', _, _, e3, e4⟩ := d.row (b.inn _ hz)
    exact ⟨b.amt _ hz, by rw [e3]; exact e4⟩) x hx
  have bl := b.len d
  have sm := bd.sm (by omega)
  obtain ⟨s0, s1, s2, s3⟩ := sm
  have : (2 : Nat) ^ 40 = 1099511627776 := by decide
  omega
end
end R3

set_option Elab.async false
set_option linter.all false
set_option maxRecDepth 100000
set_option maxHeartbeats 4000000
namespace R3
open PySem PySem.Spec PyProof.Rows L2 Evl Dv
section
variable {P : Program} {w : World} {K : PySem.W.Frag} {mg : Str → Option Value} {base : Heap} {C CM CB : Addr}
def spRight (K : PySem.W.Frag) (C : Addr) : Sp := fun vs H Q _ => ∃ (F : Hp) (g : Addr) (c : Nat) (v : V) (ml : Addr) (m : MillD) (wide many : Nat), vs = [.ref g, v, .ref ml] ∧ Ex F H ∧ F g = none ∧ GenAt H g c ∧ c < 900000 ∧ Dp K F v (encParts m) ∧ Drawn m wide many ∧ 1 ≤ wide ∧ wide ≤ 3 ∧ many ≤ 3 ∧ MillAt K F C ml m ∧
  ∀ F' H', GrG g F H F' H' → GenAt H' g (c + 9) → Q (.bl true) H'
theorem sc__law_right : FnScope (["generator", "parts", "mill", "brew", "given", "due", "turn", "told", "value"] : List Str) (["generator", "parts", "mill"] : List Str) (defScope sLawRight) := ⟨rfl, rfl, rfl, by decide +kernel, rfl, by decide +kernel, by decide +kernel⟩
theorem ok_law_right (D : Def K mg "_law_right" sLawRight ["generator", "parts", "mill"]) (B : Bl mg) (C__law_brew_drawn : Cal P w K mg base "_law_brew_drawn" ["generator", "parts"] 4 (spBrewDrawn K)) (C__law_all_gains : Cal P w K mg base "_law_all_gains" ["parts", "brew"] 4 (spD K fAll))
    (C_gain : Cal P w K mg base "gain" ["mill", "brew"] 5 (spGain K C)) (C_is_loop : Cal P w K mg base "is_loop" ["mill", "value"] 5 (spIsLoopQ K C)) (C__law_is_loop : Cal P w K mg base "_law_is_loop" ["gains"] 1 (spD K fIsLoop)) (C__law_bent : Cal P w K mg base "_law_bent" ["parts", "brew"] 2 (spBent K))
    (C__law_caught : Cal P w K mg base "_law_caught" ["door", "mill", "value"] 6 (spCaught K C CM CB)) : Cal P w K mg base "_law_right" ["generator", "parts", "mill"] 7 (spRight K C) := by
  refine cal_mk D sc__law_right (fun vs H Q E h => ?_) (fun f cdv A outer s H vs Q E hr h => ?_)
  · obtain ⟨F, g, c, v, ml, m, wide, many, rfl, _⟩ := h
    rfl
  obtain ⟨F, g, c, v, ml, m, wide, many, rfl, e, fg, hg, hc, hv, d, w1, w3, m3, hm, q⟩ := h
  have ok := d.ok w1 w3 m3
  refine ⟨_, (pss_cons (ps_set (i := 3) sc__law_right.nd rfl (.inl rfl) (pe_callC C__law_brew_drawn hr (pa_cons (pv 0) (pa_cons (pv 1) pa_nil))))
      (pss_cons (ps_par (i := 4) (j := 5) (by rfl) sc__law_right.nd rfl rfl (by decide) rfl rfl (pa_cons (pe_callTy call_list_of (by rfl) B.list (by decide +kernel) (pa_cons (pv 3) pa_nil)) (pa_cons (pe_callC C__law_all_gains hr (pa_cons (pv 1) (pa_cons (pv 3) pa_nil))) pa_nil)) (by rfl))
      (pss_cons (ps_for PassesOwn.never rfl (pi_range1 rfl B.range (pa_cons pe_int pa_nil)) (pg_name (i := 6) sc__law_right.nd rfl (.inl rfl)) (pss_cons (ps_set (i := 7) sc__law_right.nd rfl (.inl rfl) (pe_callC C_gain hr (pa_cons (pv 2) (pa_cons (pv 4) pa_nil))))
      (pss_cons (ps_if (pt_cmpR op_ne (pe_callB (call_reprD hr.2 hr.1.units) (by rfl) B.repr (by decide +kernel) (pa_cons (pe_lst (pa_cons (pv 7) (pa_cons (pe_callC C_is_loop hr (pa_cons (pv 2) (pa_cons (pv 4) pa_nil))) pa_nil))) pa_nil)) (pe_callB (call_reprD hr.2 hr.1.units) (by rfl) B.repr (by decide +kernel) (pa_cons (pe_lst (pa_cons (pv 5) (pa_cons (pe_callC C__law_is_loop hr (pa_cons (pv 5) pa_nil)) pa_nil))) pa_nil)) (nomark _)) (pss_one (ps_ret pe_bl)) pss_nil)
      (pss_one (ps_expr (pe_bm PySem.F.plainAttrs_list PySem.F.slot_list_append PySem.F.type_list_append mt_append (pv 7) (pa_cons pe_non pa_nil)))))))
      (pss_cons (ps_for PassesOwn.never rfl (pi_list (pe_callC C__law_bent hr (pa_cons (pv 1) (pa_cons (pv 3) pa_nil)))) (pg_name (i := 8) sc__law_right.nd rfl (.inl rfl)) (pss_one (ps_if (PW.pt (pw_or (pt_cmpR (op_neSame hr.1.units) (pe_callC C__law_caught hr (pa_cons pe_int (pa_cons (pv 2) (pa_cons (pv 8) pa_nil)))) (pe_lst (pa_cons pe_int (pa_cons (pv 8) pa_nil))) (nomark _)) (pw_or1 (pt_cmpR op_notBl (pe_callC C_is_loop hr (pa_cons (pv 2) (pa_cons (pv 8) pa_nil))) pe_bl (nomark _))))) (pss_one (ps_ret pe_bl)) pss_nil)))
      (pss_one (ps_ret (pe_cmpR (op_eqD hr.1.units) (pv 4) (pv 3) (nomark _)))))))), ?_⟩
  have st : start ["generator", "parts", "mill", "brew", "given", "due", "turn", "told", "value"] [.ref g, v, .ref ml] = [some (.ref g), some v, some (.ref ml), none, none, none, none, none, none] := rfl
  rw [st]
  -- the brew
  refine asg_of ⟨_, rfl, _, rfl, F, g, c, v, m, rfl, e, fg, hg, by omega, hv, by rw [d.rl]; exact m3, fun pb bs F1 H1 brew k1 hg1 bd hpb hbs => ?_⟩
  have bo := bd.ok d ok m3
  have bt := d.bent m3 bd
  show tSeq _ _ _ [some (.ref g), some v, some (.ref ml), some (.ref pb), none, none, none, none, none] H1
  have bT : EvT K (tVar 3) [some (.ref g), some v, some (.ref ml), some (.ref pb), none, none, none, none, none] F1 (brew.map encBrew) := evt_var rfl hpb hbs
  have eg := gains_law ok bd.inn
  refine Dv.s_par (K := K) (F := F1) (a := .list (brew.map encBrew)) (b := .list ((gainsM m brew).map encF)) (Dv.ea_cons (EvL.ev (Dv.el_list bT.ev (.inl rfl))) (Dv.ea_cons (ev_callD (f := fAll) (Dv.ea_cons (Dv.ev_var (i := 1) rfl (dp_ex k1.fx hv)) (Dv.ea_cons bT.ev Dv.ea_nil)) ⟨m.stuffs, m.recipes, brew, rfl, by rw [d.slen]; omega, by rw [d.rl]; omega, bd.stepsL d m3, by rw [eg]⟩) Dv.ea_nil)) k1.fh fun gv dv F2 H2 g2 hgv hdv => ?_
  have k2 := hg1.of g2 k1.fg
  have k02 := k1.trans k2.1
  show tSeq _ _ _ [some (.ref g), some v, some (.ref ml), some (.ref pb), some gv, some dv, none, none, none] H2
  refine Dv.s_for (K := K) (F := F2) (it_rng1 (n := 2) (Dv.ea_cons (Dv.ev_int 2) Dv.ea_nil) (by decide) (by decide)) k02.fh
    (fun n σ' F' H' => ∃ s6 s7, σ' = [some (.ref g), some v, some (.ref ml), some (.ref pb), some gv, some dv, s6, s7, none] ∧ GrG g F H F' H' ∧ GenAt H' g (c + 9) ∧ Ex F2 F')
    (fun F' H' g3 => ⟨none, none, rfl, k02.trans (k2.2.of g3 k2.1.fg).1, (k2.2.of g3 k2.1.fg).2, g3.fx⟩) ?_ (fun σ' F3 H3 e3 e3' pv => ?_)
  · rintro Fb eb n σ' F' H' tv dd F3 H3 hdd e1 e2 ⟨s6, s7, rfl, kk, hgg, e2'⟩ g3 htv
    show tSeq _ _ _ [some (.ref g), some v, some (.ref ml), some (.ref pb), some gv, some dv, some tv, s7, none] H3
    have x3 : Ex F2 F3 := e2'.trans g3.fx
    have x13 : Ex F F3 := k02.fx.trans x3
    refine Dv.s_asgL (K := K) (F := F3) (el_gain (C := C) (i := 2) rfl (hm.mono x13) ok bo (Dv.ev_var (i := 4) rfl (dp_ex x3 hgv))) g3.fh fun p ws F5 H5 g5 p1 p2 p3 p4 => ?_
    have gt : Gr F3 H3 (upd F5 p (.lst ws)) H5 := g5.take p1 p2 p3
    have x5 : Ex F F5 := x13.trans g5.fx
    have x25 : Ex F2 F5 := x3.trans g5.fx
    have x5' : Ex F5 (upd F5 p (.lst ws)) := Ex.new p2
    have dtold : Dp K (upd F5 p (.lst ws)) (.ref p) (.list ((gainsM m brew).map encF)) := .lst (SqL.of upd_same) (dps_ex x5' p4)
    have gsm := gains_small d ok m3 bd
    have gln : (gainsM m brew).length ≤ 100 := by
      have : (gainsM m brew).length = m.stuffs.length := gainsM_len _ _ (List.length_replicate ..) bo.inn
      rw [this, d.slen]
      omega
    have rp := rp_gains (gainsM m brew) (loopOf (gainsM m brew)) gsm gln
    have t1 : EvD K (tLst (tCons (tVar 7) (tCons (tCall (spIsLoopQ K C) [] E0 (tCons (tVar 2) (tCons (tVar 4) tNil))) tNil))) [some (.ref g), some v, some (.ref ml), some (.ref pb), some gv, some dv, some tv, some (.ref p), none] (upd F5 p (.lst ws)) (.list [.list ((gainsM m brew).map encF), .bool (loopOf (gainsM m brew))]) :=
      EvL.ev (Dv.el_lst (Dv.ea_cons (Dv.ev_var rfl dtold) (Dv.ea_cons (ev_isLoop (i := 2) rfl (hm.mono (x5.trans x5')) ok bo (Dv.ev_var (i := 4) rfl (dp_ex (x25.trans x5') hgv))) Dv.ea_nil)) (by simp))
    have t2 : EvD K (tLst (tCons (tVar 5) (tCons (tCall (spD K fIsLoop) [] E0 (tCons (tVar 5) tNil)) tNil))) [some (.ref g), some v, some (.ref ml), some (.ref pb), some gv, some dv, some tv, some (.ref p), none] (upd F5 p (.lst ws)) (.list [.list ((gainsM m brew).map encF), .bool (loopOf (gainsM m brew))]) := by
      have vd : EvD K (tVar 5) [some (.ref g), some v, some (.ref ml), some (.ref pb), some gv, some dv, some tv, some (.ref p), none] (upd F5 p (.lst ws)) (.list ((gainsM m brew).map encF)) := Dv.ev_var rfl (dp_ex (x25.trans x5') hdv)
      exact EvL.ev (Dv.el_lst (Dv.ea_cons vd (Dv.ea_cons (ev_callD (f := fIsLoop) (Dv.ea_cons vd Dv.ea_nil) ⟨gainsM m brew, rfl, by omega, rfl⟩) Dv.ea_nil)) (by simp))
    show tSeq _ _ _ [some (.ref g), some v, some (.ref ml), some (.ref pb), some gv, some dv, some tv, some (.ref p), none] H5
    refine s_ifF (et_test (K := K) (Dv.ev_is (ev_neS (ev_repr t1 rp) (ev_repr t2 rp)) (by rw [decide_eq_true rfl]; rfl))) gt.fh fun F6 H6 g6 => ?_
    have hp6 : H6 p = some (.lst ws) := g6.fh _ _ (g6.fx _ _ upd_same)
    have x56 : Ex F5 H6 := x5'.trans (g6.fx.trans g6.fh)
    have vl : ws.length ≤ 100 := by
      rw [dps_len p4, List.length_map]
      exact gln
    refine Dv.s_app (K := K) (F := F5) (l := p) (xs := ws) (i := 7) hp6 p2 rfl Dv.ev_non x56 (by omega) fun v7 F7 H7 g7 hv7 f7 h7 => ?_
    have gA : Gr F' H' F7 (upd H7 p (.lst (ws ++ [v7]))) := ((g3.trans (Gr.back (F2 := F6) g5 g6.hx)).trans g7).mut (ex_none g3.hx p1) f7
    have kz := hgg.of gA kk.fg
    exact ⟨F7, e1.trans gA.fx, gA.fh, _, _, rfl, kk.trans kz.1, kz.2, e2'.trans gA.fx⟩
  obtain ⟨s6, s7, rfl, kk, hgg, e2'⟩ := pv
  show tSeq _ _ _ [some (.ref g), some v, some (.ref ml), some (.ref pb), some gv, some dv, s6, s7, none] H3
  have x03 : Ex F F3 := k02.fx.trans e2'
  have x13 : Ex F1 F3 := g2.fx.trans e2'
  refine s_forB (K := K) (F := F3) (Pd := fun ds => ∀ d ∈ ds, BadD m.titles d) (itb_list (te := tCall (spBent K) [] E0 (tCons (tVar 1) (tCons (tVar 3) tNil))) (σ := [some (.ref g), some v, some (.ref ml), some (.ref pb), some gv, some dv, s6, s7, none]) (fun H8 e8 Q8 q8 => ⟨_, rfl, _, rfl, F3, v, pb, bs, m, brew, rfl, e8, dp_ex x03 hv, by rw [d.rl]; omega, x13 _ _ hpb, dps_ex x13 hbs, bt, fun p F' H' b => by
      obtain ⟨ws, ds, g0, h0, fp, hp, hds, hb, hl⟩ := b
      exact q8 p ws F' H' ds g0 h0 fp hp hds hb⟩)) kk.fh
    (fun σ' F' H' => ∃ s8, σ' = [some (.ref g), some v, some (.ref ml), some (.ref pb), some gv, some dv, s6, s7, s8] ∧ GrG g F H F' H' ∧ GenAt H' g (c + 9) ∧ Ex F3 F')
    (fun F' H' g3 => ⟨none, rfl, kk.trans (hgg.of g3 kk.fg).1, (hgg.of g3 kk.fg).2, g3.fx⟩) ?_ (fun σ' F4 H4 e4 e4' pv => ?_)
  · rintro Fb eb ds hds σ' F' H' u du F4 H4 hdu e1 e2 ⟨s8, rfl, k3, hg3, e3'⟩ g4 hu
    have bad := hds du hdu
    have x4 : Ex F F4 := x03.trans (e3'.trans g4.fx)
    show tIfS _ _ _ _ [some (.ref g), some v, some (.ref ml), some (.ref pb), some gv, some dv, s6, s7, some u] H4
    refine s_ifF (et_orF (et_caught (i := 2) (j := 8) (C := C) (CM := CM) (CB := CB) rfl rfl (hm.mono x4) ok hu bad) (et_test (K := K) (Dv.ev_is (ev_notBl (eq_isLoop (i := 2) rfl (hm.mono x4) ok (eq_var (i := 8) rfl hu) bad.gd bad.1) (Dv.ev_bl false)) rfl))) g4.fh fun F5 H5 g5 => ?_
    have gA := g4.trans g5
    have kz := hg3.of gA k3.fg
    exact ⟨F5, e1.trans gA.fx, gA.fh, _, rfl, k3.trans kz.1, kz.2, e3'.trans gA.fx⟩
  obtain ⟨s8, rfl, k4, hg4, e4'⟩ := pv
  have gkb : Gk 3 (.list (brew.map encBrew)) := gk_list (by rw [List.length_map]; have := bt.few; omega) bt.item
  refine Dv.s_ret (K := K) (F := F4) (d := .bool true) (Dv.ev_is (Dv.ev_eqD (Dv.ev_var (i := 4) rfl (dp_ex (e2'.trans e4') hgv)) ((evt_var (i := 3) rfl (x13.trans e4' _ _ hpb) (dps_ex (x13.trans e4') hbs)).ev) (gkb.shaped (by omega)) (gkb.shaped (by omega))) (by rw [gkb.eqv])) k4.fh fun y F5 H5 g5 hy => ?_
  cases hy
  have kz := hg4.of g5 k4.fg
  exact q F5 H5 (k4.trans kz.1) kz.2
end
end R3

set_option Elab.async false
set_option linter.all false
set_option maxRecDepth 100000
set_option maxHeartbeats 4000000
namespace R3
open PySem PySem.Spec PyProof.Rows L2 Evl Dv
section
variable {K : PySem.W.Frag} {σ : L2.St} {F : Hp} {te : TE} {tt : TT}
/-- a comprehension that draws k times an item -/
theorem dr_lcK (k : Nat) {α : Type} {g0 : Addr} {wi : TI} {g : TG} {vs : List Nat} {Pd : PyData → Prop} (xs : List α) (enc : α → PyData) (hi : ItD K wi σ F (xs.map enc)) (hz : xs.length ≤ 40000)
    (hb : ∀ x, x ∈ xs → ∀ v F1, Ex F F1 → Dp K F1 v (enc x) → ∃ σ2, (∀ H, Ex F1 H → ∀ Q : L2.St → Hp → Prop, Q σ2 H → g v (wipe σ vs) H Q) ∧ wipe σ2 vs = wipe σ vs ∧ EtD tt σ2 F1 true ∧ DrD K g0 k te σ2 F1 Pd)
    {H : Hp} {c : Nat} (eH : Ex F H) (f : F g0 = none) (hg : GenAt H g0 c) (hc : c + k * xs.length < 999000) {Q : V → Hp → Prop}
    (q : ∀ p ws F' H' ds, GrG g0 F H F' H' → GenAt H' g0 (c + k * xs.length) → H p = none → F' p = none → p ≠ g0 → H' p = some (.lst ws) → ds.length = xs.length → (∀ d ∈ ds, Pd d) → DpAll K F' ws ds → Q (.ref p) H') :
    tLc wi g tt te vs σ H Q := hi H eH _ fun J F1 H1 g1 wd => by
  obtain ⟨ga, gs, gn, h3, rest⟩ := hg
  have k1 := GrG.of g1 h3 f
  obtain ⟨G, Y, W, hG, hY⟩ := wd
  rw [List.length_map] at W
  intro D hD
  have fD : F1 D = none := ex_none g1.fh hD
  have Dg : D ≠ g0 := fun z => by rw [z, k1.2] at hD; exact nomatch hD
  refine lc_it W (Pv := fun i H' => ∃ F' ws ds, GrG g0 F1 H1 F' H' ∧ GenAt H' g0 (c + k * i) ∧ F' D = none ∧ H' D = some (.lst ws) ∧ ds.length = i ∧ (∀ d ∈ ds, Pd d) ∧ DpAll K F' ws ds) ⟨F1, [], [], (GrG.refl g1.fh k1.1.fg).mut hD fD Dg, ⟨ga, gs, gn, by unfold G3; rw [upd_ne (fun z => Dg z.symm)]; exact k1.2, rest⟩, fD, upd_same, rfl, (fun d h => nomatch h), .nil⟩
    (fun i H' _ p => ?_) (fun i v H2 H3 hin p y => ?_) (fun H' p => ?_)
  · obtain ⟨F', ws, ds, g2, _⟩ := p
    exact hG _ (g2.fx.trans g2.fh)
  · obtain ⟨F2, ws, ds, g2, hg2, f2, h2, hl, hp, hw⟩ := p
    obtain ⟨F3, d, hd, g3, hv⟩ := hY F2 i H2 v H3 (by rw [List.length_map]; exact hin) g2.fx g2.fh y
    rw [List.getElem?_map, List.getElem?_eq_getElem hin] at hd
    cases hd
    obtain ⟨σ2, hgt, hwp, ht, he⟩ := hb xs[i] (List.getElem_mem hin) v F3 (g1.fx.trans (g2.fx.trans g3.fx)) hv
    refine hgt H3 g3.fh _ ⟨hwp, ht H3 g3.fh _ fun F4 H4 g4 => ?_⟩
    obtain ⟨ga2, gs2, gn2, h32, rest2⟩ := hg2
    have g4' : Gr F3 H3 F3 H4 := ⟨Ex.refl _, g4.fx.trans g4.fh, g4.hx, fun a h1 h2 => absurd h1 h2⟩
    have k34 := GrG.of (g3.trans g4') h32 g2.fg
    have kD := (g3.trans g4').keep h2 f2
    show te σ2 H4 _
    refine he H4 (c + k * i) (g4.fx.trans g4.fh) k34.1.fg ⟨ga2, gs2, gn2, k34.2, rest2⟩ (by have := Nat.mul_le_mul_left k (Nat.succ_le_of_lt hin); rw [Nat.mul_succ] at this; omega) _ fun v' F5 H5 d5 g5 hg5 hp5 hv' => ?_
    have k5 := g5.keep kD.1 kD.2 Dg
    have wl : ws.length ≤ 40000 := by
      rw [dps_len hw, hl]
      omega
    have k6 := ((g2.trans k34.1).trans g5).mut hD k5.2 Dg (o := .lst (ws ++ [v']))
    rw [show c + k * i + k = c + k * (i + 1) by rw [Nat.mul_succ]; omega] at hg5
    obtain ⟨ga5, gs5, gn5, h35, rest5⟩ := hg5
    refine ⟨ws, k5.1, sz_lt (by omega), F5, ws ++ [v'], ds ++ [d5], k6, ⟨ga5, gs5, gn5, by unfold G3; rw [upd_ne (fun z => Dg z.symm)]; exact h35, rest5⟩, k5.2, upd_same, by rw [List.length_append, hl]; rfl, fun d h => ?_, dps_app (dps_ex (g3.fx.trans g5.fx) hw) (.cons hv' .nil)⟩
    rcases List.mem_append.mp h with h | h
    · exact hp d h
    · rw [List.mem_singleton.mp h]
      exact hp5
  · obtain ⟨F', ws, ds, g2, hg2, fd, hd, hl, hp, hw⟩ := p
    exact q D ws F' H' ds (k1.1.trans g2) hg2 (ex_none g1.hx hD) fd Dg hd hl hp hw
end
end R3
namespace Dv
open PySem PySem.Spec PyProof.Rows L2 Evl
section
variable {K : PySem.W.Frag} {σ : L2.St} {F F1 H H1 : Hp} {te ta tb : TE} {tt : TT} {d a b : PyData} {ds es : List PyData}
/-- a list of data and empty dicts under way, at p: at most k values of which Pd holds -/
def QSt (K : PySem.W.Frag) (Pd : PyData → Prop) (F H : Hp) (p : Addr) (k : Nat) (F' H' : Hp) : Prop := ∃ ws ds, Gr F H F' H' ∧ H p = none ∧ F' p = none ∧ H' p = some (.lst ws) ∧ DqAll K F' ws ds ∧ (∀ d ∈ ds, Pd d) ∧ ds.length ≤ k
theorem QSt.gr {Pd : PyData → Prop} {F H F' H' F2 H2 : Hp} {p : Addr} {k j : Nat} (b : QSt K Pd F H p k F' H') (g : Gr F' H' F2 H2) (l : k ≤ j) : QSt K Pd F H p j F2 H2 := by
  obtain ⟨ws, ds, g0, h0, fp, hp, hd, hb, hl⟩ := b
  have kp := g.keep hp fp
  exact ⟨ws, ds, g0.trans g, h0, kp.2, kp.1, dqs_ex g.fx hd, hb, by omega⟩
theorem QSt.le {Pd : PyData → Prop} {F H F' H' : Hp} {p : Addr} {k j : Nat} (b : QSt K Pd F H p k F' H') (l : k ≤ j) : QSt K Pd F H p j F' H' := by
  obtain ⟨ws, ds, g0, h0, fp, hp, hd, hb, hl⟩ := b
  exact ⟨ws, ds, g0, h0, fp, hp, hd, hb, by omega⟩
theorem q_app {Pd : PyData → Prop} {F H F1 H1 : Hp} {p : Addr} {k i : Nat} {D : Ends} (b : QSt K Pd F H p k F1 H1) (hk : k ≤ 1000) (hi : σ[i]? = some (some (.ref p))) (h : EvD K te σ F1 d) (hd : Pd d)
    (q : ∀ F2 H2, QSt K Pd F H p (k + 1) F2 H2 → Ex F1 F2 → Ex F2 H2 → D.nx σ H2) : tDrop (tBM K "list" rAppend (tVar i) (tCons te tNil)) D σ H1 := by
  obtain ⟨ws, ds, g0, h0, fp, hp, hds, hb, hl⟩ := b
  have wl := dqs_len hds
  refine Dv.s_app (K := K) (F := F1) hp fp hi h g0.fh (by omega) fun v F2 H2 g hv f2 h2 => ?_
  have gg := (g0.trans g).mut h0 f2 (o := .lst (ws ++ [v]))
  refine q F2 _ ⟨ws ++ [v], ds ++ [d], gg, h0, f2, upd_same, dqs_app (dqs_ex g.fx hds) (.cons (.dat hv) .nil), fun x hx => ?_, by rw [List.length_append]; simp; omega⟩ g.fx gg.fh
  rcases List.mem_append.mp hx with hx | hx
  · exact hb x hx
  · rw [List.mem_singleton.mp hx]
    exact hd
theorem itq_var {i : Nat} {p : Addr} {ws : List V} (hi : σ[i]? = some (some (.ref p))) (hp : F p = some (.lst ws)) (hd : DqAll K F ws ds) : ItQ K (iList K (tVar i)) σ F ds := fun H eH R q =>
  ⟨_, hi, p, rfl, ⟨ws, sq_of (eH _ _ hp)⟩, q _ F H (Gr.refl eH) ⟨_, _, by rw [← dqs_len hd]; exact walk_list (xs := ws), fun H e => sq_of (e _ _ hp), fun F2 i H2 x H3 _ e1 e2 y => by
    obtain ⟨rfl, hx⟩ := y
    obtain ⟨d, h1, h2⟩ := dqs_get hd hx
    exact ⟨F2, d, h1, Gr.refl e2, dq_ex e1 h2⟩⟩⟩
/-- a comprehension whose test lets nothing by -/
theorem lc_noneQ {wi : TI} {g : TG} {vs : List Nat} (hi : ItQ K wi σ F ds)
    (hb : ∀ d, d ∈ ds → ∀ v F1, Ex F F1 → Dq K F1 v d → ∃ σ2, (∀ H, Ex F1 H → ∀ Q : L2.St → Hp → Prop, Q σ2 H → g v (wipe σ vs) H Q) ∧ wipe σ2 vs = wipe σ vs ∧ EtD tt σ2 F1 false) :
    EvL K (tLc wi g tt te vs) σ F [] := fun H eH Q q => hi H eH _ fun J F1 H1 g1 wd => by
  obtain ⟨G, Y, W, hG, hY⟩ := wd
  intro D hD
  have fD : F1 D = none := ex_none g1.fh hD
  refine lc_it W (Pv := fun i H' => ∃ F', Gr F1 H1 F' H' ∧ F' D = none ∧ H' D = some (.lst [])) ⟨F1, Gr.only g1.fh hD, fD, upd_same⟩
    (fun i H' _ p => ?_) (fun i v H2 H3 hin p y => ?_) (fun H' p => ?_)
  · obtain ⟨F', g, _⟩ := p
    exact hG _ (g.fx.trans g.fh)
  · obtain ⟨F2, g2, f2, h2⟩ := p
    obtain ⟨F3, d, hd, g3, hv⟩ := hY F2 i H2 v H3 hin g2.fx g2.fh y
    obtain ⟨σ2, hg, hwp, ht⟩ := hb d (List.mem_of_getElem? hd) v F3 (g1.fx.trans (g2.fx.trans g3.fx)) hv
    refine hg H3 g3.fh _ ⟨hwp, ht H3 g3.fh _ fun F4 H4 g4 => ?_⟩
    have k3 := (g3.trans g4).keep h2 f2
    show ∃ F', _
    exact ⟨F4, g2.trans (g3.trans g4), k3.2, k3.1⟩
  · obtain ⟨F', g, fd, hd⟩ := p
    exact q D [] F' H' (g1.trans g) (ex_none g1.hx hD) fd hd .nil
end
end Dv
namespace R3
open PySem PySem.Spec PyProof.Rows L2 Evl Dv
section
variable {P : Program} {w : World} {K : PySem.W.Frag} {mg : Str → Option Value} {base : Heap} {C CM CB ml : Addr} {σ : L2.St} {F : Hp} {te : TE} {m : MillD} {d : PyData} {i : Nat} {E : XK} {wide many : Nat} {ps : List Fr}
def spIsFairQ (K : PySem.W.Frag) (C : Addr) : Sp := fun vs H Q E => spIsFair K C vs H Q E ∨ spFalse K C vs H Q E
/-- a value that is no fair prices -/
def PBad (m : MillD) (d : PyData) : Prop := d = .dict [] ∨ (Gk 8 d ∧ FairSays m d false)
theorem eq_isFair (hi : σ[i]? = some (some (.ref ml))) (hm : MillAt K F C ml m) (ok : m.Ok) (h : EvQ K te σ F d) (hb : PBad m d) : EvD K (tCall (spIsFairQ K C) [] E (tCons (tVar i) (tCons te tNil))) σ F (.bool false) := fun H e Q q =>
  ⟨_, hi, h H e _ fun v F1 H1 g1 hv => by
    rcases hb with rfl | ⟨gk, fs⟩
    · exact .inr ⟨F1, ml, m, _, rfl, g1.fh, hm.mono g1.fx, ok, hv, fun F' H' g => q _ F' H' (g1.trans g) (.bl _)⟩
    · cases hv with
      | dat hv => exact .inl ⟨F1, ml, m, v, d, false, rfl, g1.fh, hm.mono g1.fx, ok, hv, gk.1, gk.shaped (by omega), fs, fun F' H' g => q _ F' H' (g1.trans g) (.bl _)⟩
      | mt hp => exact absurd gk.2.1 (by simp [PyData.canLay0])⟩
theorem ev_isFair {r : Bool} (hi : σ[i]? = some (some (.ref ml))) (hm : MillAt K F C ml m) (ok : m.Ok) (h : EvD K te σ F d) (gk : Gk 8 d) (fs : FairSays m d r) : EvD K (tCall (spIsFairQ K C) [] E (tCons (tVar i) (tCons te tNil))) σ F (.bool r) := fun H e Q q =>
  ⟨_, hi, h H e _ fun v F1 H1 g1 hv => .inl ⟨F1, ml, m, v, d, r, rfl, g1.fh, hm.mono g1.fx, ok, hv, gk.1, gk.shaped (by omega), fs, fun F' H' g => q _ F' H' (g1.trans g) (.bl _)⟩⟩
theorem prices_of : ∀ {ds : List PyData}, (∀ d ∈ ds, ∃ x : Fr, d = encF x ∧ AmtOk x) → ∃ ps : List Fr, ds = ps.map encF ∧ ∀ x ∈ ps, AmtOk x
  | [], _ => ⟨[], rfl, fun r h => nomatch h⟩
  | d :: ds, h => by
    obtain ⟨ps, e, p⟩ := prices_of (ds := ds) fun z hz => h z (List.mem_cons_of_mem _ hz)
    obtain ⟨x, rfl, hx⟩ := h d (List.mem_cons_self ..)
    refine ⟨x :: ps, by rw [e]; rfl, fun z hz => ?_⟩
    rcases List.mem_cons.mp hz with h | h
    · rw [h]; exact hx
    · exact p z h
theorem rp_bool (b : Bool) : Rp (.bool b) := ⟨by simp [PyData.hasDict], by simp [PyData.showable], by simp only [shB]; decide, by simp [PyData.depth]⟩
theorem gk_prices (ps : List Fr) (h : ps.length ≤ 100) : Gk 2 (.list (ps.map encF)) := gk_list (k := 1) (by rw [List.length_map]; omega) fun x hx => by
  obtain ⟨z, _, rfl⟩ := List.mem_map.mp hx
  exact gk_frac z
def odds6 : List PyData := [.tuple [.int 0, .int 1], .tuple [.int (-1), .int 1], .tuple [.bool true, .int 1], .none, .int 1, .tuple [.int 1]]
theorem odds6_bad : ∀ o ∈ odds6, Gk 2 o ∧ priceBad o = true := by
  intro o ho
  simp only [odds6, List.mem_cons, List.not_mem_nil, or_false] at ho
  rcases ho with rfl | rfl | rfl | rfl | rfl | rfl <;> exact ⟨gk_of (by decide +kernel), by decide +kernel⟩
def oddsP (B : List PyData) (wide : Nat) : List PyData := [.none, .int 3, .tuple [], .dict [], .tuple B, .list (B ++ [oneF]), .list (B.drop 1), .list (List.replicate wide (.int 1)), .list (List.replicate wide (.tuple [.int 2, .int 2]))]
theorem rep_bad {o : PyData} (h : Gk 2 o ∧ priceBad o = true) (d : Drawn m wide many) (w1 : 1 ≤ wide) (w3 : wide ≤ 3) : PBad m (.list (List.replicate wide o)) := by
  refine .inr ⟨(gk_list (k := 2) (by rw [List.length_replicate]; omega) fun x hx => ?_).mono (by omega), .bad (by rw [List.length_replicate, d.slen]) ?_⟩
  · rw [List.eq_of_mem_replicate hx]; exact h.1
  · rw [List.any_eq_true]
    exact ⟨o, List.mem_replicate.mpr ⟨by omega, rfl⟩, h.2⟩
theorem oddsP_bad (d : Drawn m wide many) (w1 : 1 ≤ wide) (w3 : wide ≤ 3) (hl : ps.length = wide) : ∀ x ∈ oddsP (ps.map encF) wide, PBad m x := by
  intro x hx
  have hB : ∀ x ∈ ps.map encF, Gk 1 x := fun x hx => by
    obtain ⟨z, _, rfl⟩ := List.mem_map.mp hx
    exact gk_frac z
  have bl : (ps.map encF).length = wide := by rw [List.length_map, hl]
  simp only [oddsP, List.mem_cons, List.not_mem_nil, or_false] at hx
  rcases hx with rfl | rfl | rfl | rfl | rfl | rfl | rfl | rfl | rfl
  · exact .inr ⟨gk_of (by decide +kernel), .no fun xs h => nomatch h⟩
  · exact .inr ⟨gk_of (by decide +kernel), .no fun xs h => nomatch h⟩
  · exact .inr ⟨gk_of (by decide +kernel), .no fun xs h => nomatch h⟩
  · exact .inl rfl
  · exact .inr ⟨(gk_tup (k := 1) (by omega) hB).mono (by omega), .no fun xs h => nomatch h⟩
  · refine .inr ⟨(gk_list (k := 1) (by rw [List.length_append, bl]; simp; omega) fun x hx => ?_).mono (by omega), .len (by rw [List.length_append, bl, d.slen]; simp)⟩
    rcases List.mem_append.mp hx with h | h
    · exact hB x h
    · rw [List.mem_singleton.mp h]; exact gk_oneF
  · refine .inr ⟨(gk_list (k := 1) (by rw [List.length_drop, bl]; omega) fun x hx => hB x (List.mem_of_mem_drop hx)).mono (by omega), .len (by rw [List.length_drop, bl, d.slen]; omega)⟩
  · exact rep_bad ⟨gk_of (by decide +kernel), by decide +kernel⟩ d w1 w3
  · exact rep_bad ⟨gk_of (by decide +kernel), by decide +kernel⟩ d w1 w3
end
end R3

set_option Elab.async false
set_option linter.all false
set_option maxRecDepth 100000
set_option maxHeartbeats 4000000
namespace R3
open PySem PySem.Spec PyProof.Rows L2 Evl Dv
section
variable {P : Program} {w : World} {K : PySem.W.Frag} {mg : Str → Option Value} {base : Heap} {C CM CB : Addr}
def spPrices (K : PySem.W.Frag) (C : Addr) : Sp := fun vs H Q _ => ∃ (F : Hp) (g : Addr) (c : Nat) (v : V) (ml : Addr) (m : MillD) (wide many : Nat), vs = [.ref g, v, .ref ml] ∧ Ex F H ∧ F g = none ∧ GenAt H g c ∧ c < 900000 ∧ Dp K F v (encParts m) ∧ Drawn m wide many ∧ 1 ≤ wide ∧ wide ≤ 3 ∧ many ≤ 3 ∧ MillAt K F C ml m ∧
  ∀ F' H', GrG g F H F' H' → GenAt H' g (c + 6) → Q (.bl true) H'
theorem odds_el {σ : L2.St} {F : Hp} {pp : Addr} {ws : List V} {ps : List Fr} {wide : Nat} (hi : σ[4]? = some (some (.ref pp))) (hp : F pp = some (.lst ws)) (hd : DpAll K F ws (ps.map encF)) (hw : σ[3]? = some (some (.int (wide : Int)))) (hl : ps.length = wide) (w3 : wide ≤ 3) :
    ElQ K (tLst (tCons (tC .non) (tCons (tC (.int 3)) (tCons (tTup tNil) (tCons tDNewK (tCons (tCB (fun xs H Q => ∃ p ys, xs = [.ref p] ∧ ((SqL K H p ys ∧ ∀ l, H l = none → Q (.ref l) (upd H l (.tup ys))) ∨ (SqT K H p ys ∧ Q (.ref p) H))) (tCons (tVar 4) tNil)) (tCons (tOp rCat (tVar 4) (tLst (tCons (tTup (tCons (tC (.int 1)) (tCons (tC (.int 1)) tNil))) tNil))) (tCons (tSl (rSlL K) (tVar 4) (tPart (tC (.int 1))) tNoPart)
      (tCons (tOp rRep (tLst (tCons (tC (.int 1)) tNil)) (tVar 3)) (tCons (tOp rRep (tLst (tCons (tTup (tCons (tC (.int 2)) (tCons (tC (.int 2)) tNil))) tNil)) (tVar 3)) tNil)))))))))) σ F (oddsP (ps.map encF) wide) := by
  have p5 := evt_var (K := K) hi hp hd
  have pl : (ps.map encF).length = wide := by rw [List.length_map, hl]
  have vw : EvD K (tVar 3) σ F (.int (wide : Int)) := Dv.ev_var hw (.int _)
  have ld := Dv.el_sl (K := K) p5.ev (Dv.eo_some (K := K) (i := ((1 : Nat) : Int)) (Dv.ev_int 1)) Dv.eo_none
  rw [Dv.cutD_from] at ld
  exact elq_lst (eaq_cons Dv.ev_non.q (eaq_cons (Dv.ev_int 3).q (eaq_cons (Dv.ev_tup Dv.ea_nil (by simp)).q (eaq_cons eq_mt (eaq_cons (Dv.ev_tuple p5.ev).q (eaq_cons (EvL.ev (el_cat p5 (EvL.t (el_1 ev_oneF)) (by simp; omega))).q (eaq_cons (EvL.ev ld).q
    (eaq_cons (EvL.ev (el_rep (n := wide) (Dv.ev_int 1) vw (by omega))).q (eaq_cons (EvL.ev (el_rep (n := wide) (ev_pr (Dv.ev_int 2) (Dv.ev_int 2)) vw (by omega))).q eaq_nil))))))))) (show 9 ≤ 100000 by decide)
theorem sc__law_prices_right : FnScope (["generator", "parts", "mill", "wide", "prices", "at", "given", "odds", "odd", "value"] : List Str) (["generator", "parts", "mill"] : List Str) (defScope sLawPricesRight) := ⟨rfl, rfl, rfl, by decide +kernel, rfl, by decide +kernel, by decide +kernel⟩
theorem ok_law_prices_right (D : Def K mg "_law_prices_right" sLawPricesRight ["generator", "parts", "mill"]) (B : Bl mg) (C__law_random : Cal P w K mg base "_law_random" ["generator", "bound"] 2 spRandom) (C__law_fraction : Cal P w K mg base "_law_fraction" ["top", "under"] 1 (spD K fFrac))
    (C_is_fair : Cal P w K mg base "is_fair" ["mill", "value"] 4 (spIsFairQ K C)) (C__law_is_fair : Cal P w K mg base "_law_is_fair" ["parts", "prices"] 4 (spD K fLFair)) : Cal P w K mg base "_law_prices_right" ["generator", "parts", "mill"] 5 (spPrices K C) := by
  refine cal_mk D sc__law_prices_right (fun vs H Q E h => ?_) (fun f cdv A outer s H vs Q E hr h => ?_)
  · obtain ⟨F, g, c, v, ml, m, wide, many, rfl, _⟩ := h
    rfl
  obtain ⟨F, g, c, v, ml, m, wide, many, rfl, e, fg, hg, hc, hv, d, w1, w3, m3, hm, q⟩ := h
  have ok := d.ok w1 w3 m3
  refine ⟨_, (pss_cons (ps_set (i := 3) sc__law_prices_right.nd rfl (.inl rfl) (pe_callB call_len (by rfl) B.len (by decide +kernel) (pa_cons (pe_ix ix_list (pv 1) pe_int (fun _ _ => rfl)) pa_nil)))
      (pss_cons (ps_setLc (i := 4) (own := [("at", 5)]) (g := gName 5) rfl sc__law_prices_right.nd rfl rfl rfl (pi_range1 rfl B.range (pa_cons (pv 3) pa_nil)) (blkOk_by (own := [("at", 5)]) (N := ["generator", "parts", "mill", "wide", "prices", "at", "given", "odds", "odd", "value"]) (sc := defScope sLawPricesRight) (by decide +kernel)) (fun _ _ _ _ _ => (pg_name (i := 5) sc__law_prices_right.nd rfl (.inl rfl)))  (fun _ _ _ _ _ => pts_nil) (fun _ _ _ _ _ => (pe_callC C__law_fraction hr (pa_cons (pe_op op_add pe_int (pe_callC C__law_random hr (pa_cons (pv 0) (pa_cons pe_int pa_nil)))) (pa_cons (pe_op op_add pe_int (pe_callC C__law_random hr (pa_cons (pv 0) (pa_cons pe_int pa_nil)))) pa_nil)))))
      (pss_cons (ps_set (i := 6) sc__law_prices_right.nd rfl (.inl rfl) (pe_callTy call_list_of (by rfl) B.list (by decide +kernel) (pa_cons (pv 4) pa_nil)))
      (pss_cons (ps_if (PW.pt (pw_or (pt_cmpR op_ne (pe_callB (call_reprD hr.2 hr.1.units) (by rfl) B.repr (by decide +kernel) (pa_cons (pe_callC C_is_fair hr (pa_cons (pv 2) (pa_cons (pv 6) pa_nil))) pa_nil)) (pe_callB (call_reprD hr.2 hr.1.units) (by rfl) B.repr (by decide +kernel) (pa_cons (pe_callC C__law_is_fair hr (pa_cons (pv 1) (pa_cons (pv 4) pa_nil))) pa_nil)) (nomark _)) (pw_or1 (pt_cmpR (op_neD hr.1.units) (pv 6) (pv 4) (nomark _))))) (pss_one (ps_ret pe_bl)) pss_nil)
      (pss_cons (ps_set (i := 7) sc__law_prices_right.nd rfl (.inl rfl) (pe_lst (pa_cons pe_non (pa_cons pe_int (pa_cons (pe_tup pa_nil) (pa_cons pe_dnewK (pa_cons (pe_callTy call_tuple_of (by rfl) B.tuple (by decide +kernel) (pa_cons (pv 4) pa_nil)) (pa_cons (pe_op op_cat (pv 4) (pe_lst (pa_cons (pe_tup (pa_cons pe_int (pa_cons pe_int pa_nil))) pa_nil))) (pa_cons (pe_slice sl_list (pv 4) (po_some pe_int) po_none) (pa_cons (pe_op op_rep (pe_lst (pa_cons pe_int pa_nil)) (pv 3)) (pa_cons (pe_op op_rep (pe_lst (pa_cons (pe_tup (pa_cons pe_int (pa_cons pe_int pa_nil))) pa_nil)) (pv 3)) pa_nil)))))))))))
      (pss_cons (ps_for PassesOwn.never rfl (pi_range1 rfl B.range (pa_cons (pv 3) pa_nil)) (pg_name (i := 5) sc__law_prices_right.nd rfl (.inl rfl)) (pss_one (ps_for PassesOwn.never rfl (pi_list (pe_lst (pa_cons (pe_tup (pa_cons pe_int (pa_cons pe_int pa_nil))) (pa_cons (pe_tup (pa_cons (pe_un un_neg pe_int) (pa_cons pe_int pa_nil))) (pa_cons (pe_tup (pa_cons pe_bl (pa_cons pe_int pa_nil))) (pa_cons pe_non (pa_cons pe_int (pa_cons (pe_tup (pa_cons pe_int pa_nil)) pa_nil)))))))) (pg_name (i := 8) sc__law_prices_right.nd rfl (.inl rfl)) (pss_one (ps_expr (pe_bm PySem.F.plainAttrs_list PySem.F.slot_list_append PySem.F.type_list_append mt_append (pv 7) (pa_cons (pe_op op_cat (pe_op op_cat (pe_slice sl_list (pv 4) po_none (po_some (pv 5))) (pe_lst (pa_cons (pv 8) pa_nil))) (pe_slice sl_list (pv 4) (po_some (pe_op op_add (pv 5) pe_int)) po_none)) pa_nil)))))))
      (pss_one (ps_ret (pe_cmpR (op_eqD hr.1.units) (pe_lc (own := [("value", 9)]) (g := gName 9) rfl sc__law_prices_right.nd (pi_list (pv 7)) (blkOk_by (own := [("value", 9)]) (N := ["generator", "parts", "mill", "wide", "prices", "at", "given", "odds", "odd", "value"]) (sc := defScope sLawPricesRight) (by decide +kernel)) (fun _ _ _ _ _ => (pg_name (i := 9) sc__law_prices_right.nd rfl (.inl rfl)))  (fun _ _ _ _ _ => (pts_one (pt_cmpR op_notBl (pe_callC C_is_fair hr (pa_cons (pv 2) (pa_cons (pv 9) pa_nil))) pe_bl (nomark _)))) (fun _ _ _ _ _ => (pv 9))) (pe_lst pa_nil) (nomark _)))))))))), ?_⟩
  have st : start ["generator", "parts", "mill", "wide", "prices", "at", "given", "odds", "odd", "value"] [.ref g, v, .ref ml] = [some (.ref g), some v, some (.ref ml), none, none, none, none, none, none, none] := rfl
  rw [st]
  -- wide
  refine Dv.s_asg (K := K) (F := F) (d := .int (wide : Int)) (Dv.ev_is (ev_len (n := (m.stuffs.map encStuff).length) (Dv.ev_ixL (Dv.ev_var (i := 1) rfl hv) (Dv.ev_int 0) rfl) rfl (by rw [List.length_map, d.slen]; omega)) (by rw [List.length_map, d.slen])) e fun wv F1 H1 g1 hwv => ?_
  cases hwv
  have k1 := hg.of g1 fg
  show tSeq _ _ _ [some (.ref g), some v, some (.ref ml), some (.int wide), none, none, none, none, none, none] H1
  have rl : (List.range ((wide : Int)).toNat).length = wide := by rw [List.length_range]; rfl
  refine asg_of (dr_lcK (K := K) 2 (F := F1) (g0 := g) (c := c) (σ := [some (.ref g), some v, some (.ref ml), some (.int wide), none, none, none, none, none, none]) (Pd := fun d => ∃ x : Fr, d = encF x ∧ AmtOk x) (List.range ((wide : Int)).toNat) (fun i : Nat => PyData.int (i : Int)) (it_rng1 (Dv.ea_cons (Dv.ev_var (i := 3) rfl (.int (wide : Int))) Dv.ea_nil) (by omega) (by omega)) (by omega) (fun x hx u F2 e2 hu => ?_) g1.fh k1.1.fg k1.2 (by omega) (fun pp ws F2 H2 ds1 k2 hg2 hp1 f2 n2 h2 l2 a2 d2 => ?_))
  · refine ⟨[some (.ref g), some v, some (.ref ml), some (.int wide), none, some u, none, none, none, none], fun H e Q q => q, rfl, fun H e Q q => q F2 H (Gr.refl e), ?_⟩
    refine dr_call (k := (0 + 1) + ((0 + 1) + 0)) (f := fFrac) (da_cons (dr_add (m := 1) (n := 2) (m' := 0) (n' := 4) (dr_of (Dv.ev_int 1) ⟨1, rfl, by decide, by decide⟩) (dr_random (i := 0) rfl (by decide) (by decide) (by decide +kernel))) (da_cons (dr_add (m := 1) (n := 2) (m' := 0) (n' := 2) (dr_of (Dv.ev_int 1) ⟨1, rfl, by decide, by decide⟩) (dr_random (i := 0) rfl (by decide) (by decide) (by decide +kernel))) da_nil)) (fun ds h => ?_)
    obtain ⟨d1, r1, rfl, ⟨t, rfl, t0, t1⟩, d2, r2, rfl, ⟨u, rfl, u0, u1⟩, rfl⟩ := h
    exact ⟨_, ⟨t, u, rfl, by omega, by omega, rfl⟩, frac t u, rfl, t, u, rfl, by omega, by omega, by omega, by omega⟩
  rw [rl] at l2 hg2
  obtain ⟨ps, rfl, hps⟩ := prices_of a2
  rw [List.length_map] at l2
  have k2' := k2.take hp1 f2 n2 h2
  have x2 : Ex F2 (upd F2 pp (.lst ws)) := Ex.new f2
  have hpp : (upd F2 pp (.lst ws)) pp = some (.lst ws) := upd_same
  have hws : DpAll K (upd F2 pp (.lst ws)) ws (ps.map encF) := dps_ex x2 d2
  generalize hF3 : upd F2 pp (.lst ws) = F3 at *
  have k3 := k1.1.trans k2'
  have x03 : Ex F F3 := k3.fx
  show tSeq _ _ _ [some (.ref g), some v, some (.ref ml), some (.int wide), some (.ref pp), none, none, none, none, none] H2
  have pT := fun (σ' : L2.St) (F' : Hp) (e' : Ex F3 F') (hi : σ'[4]? = some (some (.ref pp))) => evt_var (K := K) (σ := σ') (F := F') hi (e' _ _ hpp) (dps_ex e' hws)
  refine Dv.s_asg (K := K) (F := F3) (EvL.ev (Dv.el_list (pT _ F3 (Ex.refl _) rfl).ev (.inl rfl))) k3.fh fun gv F4 H4 g4 hgv => ?_
  have k4 := hg2.of g4 k3.fg
  show tSeq _ _ _ [some (.ref g), some v, some (.ref ml), some (.int wide), some (.ref pp), none, some gv, none, none, none] H4
  have gkp := gk_prices ps (by omega)
  have x04 : Ex F F4 := x03.trans g4.fx
  have vp := (pT [some (.ref g), some v, some (.ref ml), some (.int wide), some (.ref pp), none, some gv, none, none, none] F4 g4.fx rfl).ev
  have vg : EvD K (tVar 6) [some (.ref g), some v, some (.ref ml), some (.int wide), some (.ref pp), none, some gv, none, none, none] F4 (.list (ps.map encF)) := Dv.ev_var rfl hgv
  have vf := ev_isFair (K := K) (C := C) (E := E0) (i := 2) (te := tVar 6) (σ := [some (.ref g), some v, some (.ref ml), some (.int wide), some (.ref pp), none, some gv, none, none, none]) rfl (hm.mono x04) ok vg (gkp.mono (by omega)) (fair_says d w3 ok l2 hps)
  have vl := ev_callD (K := K) (E := E0) (f := fLFair) (σ := [some (.ref g), some v, some (.ref ml), some (.int wide), some (.ref pp), none, some gv, none, none, none]) (F := F4) (d := .bool (lawFair m.stuffs m.recipes ps)) (Dv.ea_cons (Dv.ev_var (i := 1) rfl (dp_ex x04 hv)) (Dv.ea_cons vp Dv.ea_nil)) ⟨m.stuffs, m.recipes, ps, rfl, by rw [d.slen]; omega, by omega, fun r hr => row_okL d w3 l2 hps hr, rfl⟩
  refine s_ifF (et_orF (et_test (K := K) (Dv.ev_is (ev_neS (ev_repr vf (rp_bool _)) (ev_repr vl (rp_bool _))) (by rw [decide_eq_true rfl]; rfl))) (et_test (K := K) (Dv.ev_is (Dv.ev_neD vg vp (gkp.shaped (by omega)) (gkp.shaped (by omega))) (by rw [gkp.eqv]; rfl)))) g4.fh fun F5 H5 g5 => ?_
  have k5 := k4.2.of g5 k4.1.fg
  have x05 : Ex F F5 := x04.trans g5.fx
  have x35 : Ex F3 F5 := g4.fx.trans g5.fx
  show tSeq _ _ _ [some (.ref g), some v, some (.ref ml), some (.int wide), some (.ref pp), none, some gv, none, none, none] H5
  -- odds
  have pl : (ps.map encF).length = wide := by rw [List.length_map, l2]
  refine seq_of ?_
  refine s_asgLQ (K := K) (odds_el (σ := [some (.ref g), some v, some (.ref ml), some (.int wide), some (.ref pp), none, some gv, none, none, none]) (F := F5) (pp := pp) (ws := ws) (ps := ps) rfl (x35 _ _ hpp) (dps_ex x35 hws) rfl l2 w3) g5.fh fun po os F6 H6 g6 o1 o2 o3 o4 => ?_
  have b0 : QSt K (PBad m) F5 H5 po 9 F6 H6 := ⟨os, _, g6, o1, o2, o3, o4, oddsP_bad d w1 w3 l2, by simp [oddsP]⟩
  show tSeq _ _ _ [some (.ref g), some v, some (.ref ml), some (.int wide), some (.ref pp), none, some gv, some (.ref po), none, none] H6
  refine Dv.s_for (K := K) (F := F6) (it_rng1 (n := (wide : Int)) (Dv.ea_cons (Dv.ev_var (i := 3) rfl (.int (wide : Int))) Dv.ea_nil) (by omega) (by omega)) g6.fh
    (fun n σ' F' H' => ∃ s5 s8, σ' = [some (.ref g), some v, some (.ref ml), some (.int wide), some (.ref pp), s5, some gv, some (.ref po), s8, none] ∧ QSt K (PBad m) F5 H5 po (9 + 6 * n) F' H' ∧ Ex F5 F')
    (fun F' H' g7 => ⟨none, none, rfl, b0.gr g7 (by omega), g6.fx.trans g7.fx⟩) ?_ (fun σ' F7 H7 e7 e7' pv => ?_)
  · rintro Fb ebb n σ' F' H' u dd F7 H7 hdd e1 e2 ⟨s5, s8, rfl, b1, e5⟩ g7 hu
    obtain ⟨hn, hdn⟩ := List.getElem?_eq_some_iff.mp hdd
    rw [List.length_map, List.length_range] at hn
    have hn' : n < wide := by omega
    have hdn' : dd = .int (n : Int) := by rw [← hdn, List.getElem_map, List.getElem_range]
    subst hdn'
    have x57 : Ex F5 F7 := e5.trans g7.fx
    show tFor _ _ _ _ [some (.ref g), some v, some (.ref ml), some (.int wide), some (.ref pp), some u, some gv, some (.ref po), s8, none] H7
    refine Dv.s_for (K := K) (F := F7) (it_list (ds := odds6) (EvL.ev (Dv.el_lst (Dv.ea_cons (ev_pr (Dv.ev_int 0) (Dv.ev_int 1)) (Dv.ea_cons (ev_pr (ev_neg (Dv.ev_int 1)) (Dv.ev_int 1)) (Dv.ea_cons (ev_pr (Dv.ev_bl true) (Dv.ev_int 1)) (Dv.ea_cons Dv.ev_non (Dv.ea_cons (Dv.ev_int 1) (Dv.ea_cons (Dv.ev_tup (Dv.ea_cons (Dv.ev_int 1) Dv.ea_nil) (by simp)) Dv.ea_nil)))))) (by decide)))) g7.fh
      (fun j σ' F' H' => ∃ s8, σ' = [some (.ref g), some v, some (.ref ml), some (.int wide), some (.ref pp), some u, some gv, some (.ref po), s8, none] ∧ QSt K (PBad m) F5 H5 po (9 + 6 * n + j) F' H' ∧ Ex F7 F')
      (fun F8 H8 g8 => ⟨s8, rfl, (b1.gr g7 (Nat.le_refl _)).gr g8 (by omega), g8.fx⟩) ?_ (fun σ8 F8 H8 e8 e8' pv => ?_)
    · clear b1
      rintro Fc ecc j σ8 F8 H8 ou o F9 H9 ho e6 e7 ⟨s8, rfl, b4, e78⟩ g9 hou
      have hj : j < 6 := (List.getElem?_eq_some_iff.mp ho).1
      have hob := odds6_bad o (List.mem_of_getElem? ho)
      have x59 : Ex F5 F9 := x57.trans (e78.trans g9.fx)
      show tDrop _ _ [some (.ref g), some v, some (.ref ml), some (.int wide), some (.ref pp), some u, some gv, some (.ref po), some ou, none] H9
      have vb := pT [some (.ref g), some v, some (.ref ml), some (.int wide), some (.ref pp), some u, some gv, some (.ref po), some ou, none] F9 (x35.trans x59) rfl
      have vu : EvD K (tVar 5) [some (.ref g), some v, some (.ref ml), some (.int wide), some (.ref pp), some u, some gv, some (.ref po), some ou, none] F9 (.int (n : Int)) := Dv.ev_var rfl (dp_ex (e78.trans g9.fx) hu)
      have l1 := Dv.el_sl (K := K) vb.ev Dv.eo_none (Dv.eo_some vu)
      have l2' := Dv.el_sl (K := K) vb.ev (Dv.eo_some (K := K) (Dv.ev_is (Dv.ev_I0 (g := fun i j => .int (i + j)) (fun _ => .int _) vu (Dv.ev_int 1)) (show PyData.int ((n : Int) + 1) = .int ((n + 1 : Nat) : Int) from rfl))) Dv.eo_none
      rw [cutD_to] at l1
      rw [Dv.cutD_from] at l2'
      have li := el_1 (K := K) (σ := [some (.ref g), some v, some (.ref ml), some (.int wide), some (.ref pp), some u, some gv, some (.ref po), some ou, none]) (F := F9) (Dv.ev_var (i := 8) rfl hou)
      have lt : ((ps.map encF).take n).length = n := by rw [List.length_take, pl]; omega
      have ldp : ((ps.map encF).drop (n + 1)).length = wide - (n + 1) := by rw [List.length_drop, pl]
      refine q_app (K := K) (i := 7) (b4.gr g9 (Nat.le_refl _)) (by omega) rfl (EvL.ev (el_cat (EvL.t (el_cat l1.t li.t (by rw [lt]; simp; omega))) l2'.t (by rw [List.length_append, lt, ldp]; simp; omega))) (.inr ⟨?_, .bad ?_ ?_⟩) fun F10 H10 b6 e8 e9 => ?_
      · refine (gk_list (k := 2) (by rw [List.length_append, List.length_append, lt, ldp]; simp; omega) fun x hx => ?_).mono (by omega)
        have hB : ∀ x ∈ ps.map encF, Gk 2 x := fun x hx => by
          obtain ⟨z, _, rfl⟩ := List.mem_map.mp hx
          exact (gk_frac z).mono (by omega)
        rcases List.mem_append.mp hx with hx | hx
        · rcases List.mem_append.mp hx with hx | hx
          · exact hB x (List.mem_of_mem_take hx)
          · rw [List.mem_singleton.mp hx]
            exact hob.1
        · exact hB x (List.mem_of_mem_drop hx)
      · rw [List.length_append, List.length_append, lt, ldp, d.slen]
        simp
        omega
      · rw [List.any_eq_true]
        exact ⟨o, List.mem_append_left _ (List.mem_append_right _ (List.mem_singleton.mpr rfl)), hob.2⟩
      · exact ⟨F10, (e6.trans g9.fx).trans e8, e9, _, rfl, b6, (e78.trans g9.fx).trans e8⟩
    · obtain ⟨s8, rfl, b4, e78⟩ := pv
      exact ⟨F8, e1.trans (g7.fx.trans e78), e8', _, _, rfl, b4.le (by show 9 + 6 * n + 6 ≤ _; omega), x57.trans e78⟩
  clear b0
  obtain ⟨s5, s8, rfl, b2, e57⟩ := pv
  obtain ⟨ws7, ds7, g57, po5, fpo, hpo, hds, hbad, hlen⟩ := b2
  -- the last comprehension
  have gT := g57.take po5 fpo hpo
  have xT : Ex F7 (upd F7 po (.lst ws7)) := Ex.new fpo
  have lc := lc_noneQ (K := K) (F := upd F7 po (.lst ws7)) (σ := [some (.ref g), some v, some (.ref ml), some (.int wide), some (.ref pp), s5, some gv, some (.ref po), s8, none]) (wi := iList K (tVar 7)) (g := gName 9) (tt := tTest (tOp rNotB (tCall (spIsFairQ K C) [] E0 (tCons (tVar 2) (tCons (tVar 9) tNil))) (tC (.bl false)))) (te := tVar 9) (vs := [9]) (itq_var (i := 7) rfl upd_same (dqs_ex xT hds)) (fun x hx u F8 e8 hu => by
    exact ⟨[some (.ref g), some v, some (.ref ml), some (.int wide), some (.ref pp), s5, some gv, some (.ref po), s8, some u], fun _ _ _ q => q, rfl, et_test (K := K) (Dv.ev_is (ev_notBl (eq_isFair (i := 2) rfl (hm.mono ((x05.trans e57).trans (xT.trans e8))) ok (eq_var (i := 9) rfl hu) (hbad x hx)) (Dv.ev_bl false)) rfl)⟩)
  have lcE : EvD K (tOp (rEqD K) (tLc (iList K (tVar 7)) (gName 9) (tTest (tOp rNotB (tCall (spIsFairQ K C) [] E0 (tCons (tVar 2) (tCons (tVar 9) tNil))) (tC (.bl false)))) (tVar 9) [9]) (tLst tNil)) [some (.ref g), some v, some (.ref ml), some (.int wide), some (.ref pp), s5, some gv, some (.ref po), s8, none] (upd F7 po (.lst ws7)) (.bool true) :=
    Dv.ev_is (Dv.ev_eqD (EvL.ev lc) (EvL.ev (Dv.el_lst Dv.ea_nil (by simp))) shaped_nil shaped_nil) (by rw [eqv_nil]; rfl)
  have fin : ∀ y F' H', Gr (upd F7 po (.lst ws7)) H7 F' H' → Dp K F' y (.bool true) → Q y H' := fun y F8 H8 g8 hy => by
    cases hy
    have k8 := k5.2.of (gT.trans g8) k5.1.fg
    exact q F8 H8 (((k3.trans k4.1).trans k5.1).trans k8.1) (k8.2.mono (by omega))
  exact lcE H7 gT.fh _ fin
end
end R3

set_option Elab.async false
set_option linter.all false
set_option maxRecDepth 100000
set_option maxHeartbeats 4000000
namespace R3
open PySem PySem.Spec PyProof.Rows L2 Evl Dv
section
variable {K : PySem.W.Frag} {C CM CB ml : Addr} {σ : L2.St} {F : Hp} {te : TE} {m : MillD} {d : PyData} {i : Nat} {E : XK}
/-- _law_caught(0, mill, e), e no brew -/
theorem el_caughtB (hi : σ[i]? = some (some (.ref ml))) (hm : MillAt K F C ml m) (ok : m.Ok) (h : EvD K te σ F d) (hg : gd d = true) (hb : isBrew m.titles d = false) : EvL K (tCall (spCaught K C CM CB) [] E (tCons (tC (.int 0)) (tCons (tVar i) (tCons te tNil)))) σ F [.int 1, d] := fun H e Q q =>
  ⟨_, hi, h H e _ fun v F1 H1 g1 hv => ⟨0, .ref ml, v, v, F1, CB, 1, rfl, g1.fh, .inl ⟨rfl, fun E Q' b => .inl ⟨F1, ml, m, v, d, rfl, g1.fh, hm.mono g1.fx, ok, .dat hv, hg, hb, b⟩⟩, .inr ⟨rfl, rfl⟩, fun p F2 H2 g2 h1 h2 h3 => q p _ F2 H2 (g1.trans g2) (ex_none g1.hx h1) h2 h3 (.cons (.int 1) (.cons (dp_ex g2.fx hv) .nil))⟩⟩
/-- _law_caught(door, bad, None) != [0, bad]: no -/
theorem et_caughtM {j n : Nat} {v : V} (hn : n < 3) (hi : σ[i]? = some (some (.int (n : Int)))) (hj : σ[j]? = some (some v)) (hv : Dq K F v d) :
    EtD (tTest (tOp (rNeSame K) (tCall (spCaught K C CM CB) [] E (tCons (tVar i) (tCons (tVar j) (tCons (tC .non) tNil)))) (tLst (tCons (tC (.int 0)) (tCons (tVar j) tNil))))) σ F false := fun H e Q q => by
  have no : ∀ E Q', Bad CM F H v E → spNoMill K CM [v, .non] H Q' E := fun E Q' b => ⟨F, v, .non, d, rfl, e, hv, b⟩
  have hd : ((n : Int) = 0 ∧ ∀ E Q', Bad CM F H v E → spGainX K C CM CB [v, .non] H Q' E) ∨ ((n : Int) = 1 ∧ ∀ E Q', Bad CM F H v E → spNoMill K CM [v, .non] H Q' E) ∨ ((n : Int) = 2 ∧ ∀ E Q', Bad CM F H v E → spNoMill K CM [v, .non] H Q' E) := by
    match n, hn with
    | 0, _ => exact .inl ⟨rfl, fun E Q' b => .inr (no E Q' b)⟩
    | 1, _ => exact .inr (.inl ⟨rfl, no⟩)
    | 2, _ => exact .inr (.inr ⟨rfl, no⟩)
  exact ⟨_, hi, _, hj, n, v, .non, v, F, CM, 0, rfl, e, hd, .inl ⟨rfl, rfl⟩, fun p F1 H1 g1 h1 h2 h3 =>
    ⟨_, hj, sz_of (by simp), fun p2 hp2 => ⟨p, p2, [.int 0, v], rfl, rfl, SqL.of (by rw [upd_ne (ne_of_none h3 hp2)]; exact h3), SqL.of upd_same, fun x hx => by
      simp only [List.mem_cons, List.not_mem_nil, or_false] at hx
      rcases hx with rfl | rfl
      · exact .inl rfl
      · exact dq_flat hv, false, rfl, q F1 _ (g1.trans (Gr.only g1.fh hp2))⟩⟩⟩
end
/-! ### the two mills at the end -/
def mMix : MillD := ⟨[("a", none)], [("s", [], [("a", 1)]), ("r", [("a", 1)], [])]⟩
def mBare : MillD := ⟨[("a", none)], []⟩
def bMix : List (Str × Fr) := [("s", (2, 1)), ("r", (1, 1))]
theorem mMix_ok : mMix.Ok := ⟨by decide, by decide, by decide +kernel, by decide +kernel, by decide, by decide +kernel, by decide +kernel⟩
theorem mBare_ok : mBare.Ok := ⟨by decide, by decide, by decide +kernel, by decide +kernel, by decide, by decide +kernel, by decide +kernel⟩
theorem bMix_ok : BrewOk mMix bMix := by
  refine ⟨by decide, by decide +kernel, fun n h => ?_, by decide +kernel, by decide +kernel⟩
  match n, h with
  | 0, _ =>
    show 0 < (1 : Int) ∧ (1 : Int) < 1073741824 ∧ ∀ z ∈ (gainsM mMix (bMix.take 0)).zip (rowOf mMix "s"), Sm z.1 ∧ (-1000000000000 < z.2 ∧ z.2 < 1000000000000) ∧ Sm (fscaled (2, 1) z.2)
    unfold Sm
    decide +kernel
  | 1, _ =>
    show 0 < (1 : Int) ∧ (1 : Int) < 1073741824 ∧ ∀ z ∈ (gainsM mMix (bMix.take 1)).zip (rowOf mMix "r"), Sm z.1 ∧ (-1000000000000 < z.2 ∧ z.2 < 1000000000000) ∧ Sm (fscaled (1, 1) z.2)
    unfold Sm
    decide +kernel
theorem bBare_ok : BrewOk mBare [] := ⟨by decide, (fun z h => nomatch h), (fun n h => absurd h (Nat.not_lt_zero _)), by decide +kernel, by decide +kernel⟩
theorem bare_fair : FairSays mBare (.list [.tuple [.int 1, .int 7]]) true := by
  have : FairSays mBare (.list (([(1, 7)] : List Fr).map encF)) (fairOf mBare [(1, 7)]) := .good (by decide) (by decide +kernel) (fun r hr => nomatch hr)
  exact this
section
variable {P : Program} {w : World} {K : PySem.W.Frag} {mg : Str → Option Value} {base : Heap} {C CM CB : Addr}
def spLaw (K : PySem.W.Frag) : Sp := fun vs H Q _ => ∃ (a : Addr) (ns : List Int), vs = [.ref a] ∧ SqL K H a (ns.map V.int) ∧ ns.length ≤ 63 ∧ ∀ H', Q (.bl true) H'
theorem sc_law : FnScope (["script", "index", "generator", "parts", "mill", "turn", "door", "bad", "mixed", "brew", "bare"] : List Str) (["script"] : List Str) (defScope sLaw) := ⟨rfl, rfl, rfl, by decide +kernel, rfl, by decide +kernel, by decide +kernel⟩
theorem ok_law (D : Def K mg "law" sLaw ["script"]) (B : Bl mg) (C__law_generator : Cal P w K mg base "_law_generator" ["script", "index"] 2 (spGen K)) (C__law_random : Cal P w K mg base "_law_random" ["generator", "bound"] 2 spRandom) (C__law_mill_drawn : Cal P w K mg base "_law_mill_drawn" ["generator", "wide", "many"] 4 (spMillDrawn K))
    (C__law_made : Cal P w K mg base "_law_made" ["parts"] 7 (spMade K C)) (C__law_right : Cal P w K mg base "_law_right" ["generator", "parts", "mill"] 7 (spRight K C)) (C__law_prices_right : Cal P w K mg base "_law_prices_right" ["generator", "parts", "mill"] 5 (spPrices K C))
    (C__law_caught : Cal P w K mg base "_law_caught" ["door", "mill", "value"] 6 (spCaught K C CM CB)) (M_Mill : Mak P w K mg base "Mill" C ["stuffs", "recipes"] 5 (spMillInit K C)) (C_gain : Cal P w K mg base "gain" ["mill", "brew"] 5 (spGain K C))
    (C_is_fair : Cal P w K mg base "is_fair" ["mill", "value"] 4 (spIsFairQ K C)) (C_is_loop : Cal P w K mg base "is_loop" ["mill", "value"] 5 (spIsLoopQ K C)) : Cal P w K mg base "law" ["script"] 8 (spLaw K) := by
  refine cal_mk D sc_law (fun vs H Q E h => ?_) (fun f cdv A outer s H vs Q E hr h => ?_)
  · obtain ⟨a, ns, rfl, _⟩ := h
    rfl
  obtain ⟨a, ns, rfl, hS, hl, q⟩ := h
  refine ⟨_, (pss_cons (ps_for PassesOwn.never rfl (pi_range1 rfl B.range (pa_cons pe_int pa_nil)) (pg_name (i := 1) sc_law.nd rfl (.inl rfl)) (pss_cons (ps_set (i := 2) sc_law.nd rfl (.inl rfl) (pe_callC C__law_generator hr (pa_cons (pv 0) (pa_cons (pv 1) pa_nil))))
      (pss_cons (ps_set (i := 3) sc_law.nd rfl (.inl rfl) (pe_callC C__law_mill_drawn hr (pa_cons (pv 2) (pa_cons (pe_op op_add pe_int (pe_callC C__law_random hr (pa_cons (pv 2) (pa_cons pe_int pa_nil)))) (pa_cons (pe_callC C__law_random hr (pa_cons (pv 2) (pa_cons pe_int pa_nil))) pa_nil)))))
      (pss_cons (ps_set (i := 4) sc_law.nd rfl (.inl rfl) (pe_callC C__law_made hr (pa_cons (pv 3) pa_nil)))
      (pss_one (ps_for PassesOwn.never rfl (pi_range1 rfl B.range (pa_cons pe_int pa_nil)) (pg_name (i := 5) sc_law.nd rfl (.inl rfl)) (pss_one (ps_if (PW.pt (pw_or (pt_not (pt_val (pe_callC C__law_right hr (pa_cons (pv 2) (pa_cons (pv 3) (pa_cons (pv 4) pa_nil)))))) (pw_or1 (pt_not (pt_val (pe_callC C__law_prices_right hr (pa_cons (pv 2) (pa_cons (pv 3) (pa_cons (pv 4) pa_nil))))))))) (pss_one (ps_ret pe_bl)) pss_nil))))))))
      (pss_cons (ps_for PassesOwn.never rfl (pi_range1 rfl B.range (pa_cons pe_int pa_nil)) (pg_name (i := 6) sc_law.nd rfl (.inl rfl)) (pss_one (ps_for PassesOwn.never rfl (pi_list (pe_lst (pa_cons pe_non (pa_cons pe_int (pa_cons (pe_lst pa_nil) (pa_cons (pe_tup pa_nil) (pa_cons pe_dnewK (pa_cons pe_str (pa_cons pe_bl pa_nil))))))))) (pg_name (i := 7) sc_law.nd rfl (.inl rfl)) (pss_one (ps_if (pt_cmpR (op_neSame hr.1.units) (pe_callC C__law_caught hr (pa_cons (pv 6) (pa_cons (pv 7) (pa_cons pe_non pa_nil)))) (pe_lst (pa_cons pe_int (pa_cons (pv 7) pa_nil))) (nomark _)) (pss_one (ps_ret pe_bl)) pss_nil)))))
      (pss_cons (ps_par (i := 8) (j := 9) (by rfl) sc_law.nd rfl rfl (by decide) rfl rfl (pa_cons (pe_makC M_Mill hr (pa_cons (pe_lst (pa_cons (pe_tup (pa_cons pe_str (pa_cons pe_non pa_nil))) pa_nil)) (pa_cons (pe_lst (pa_cons (pe_tup (pa_cons pe_str (pa_cons (pe_lst pa_nil) (pa_cons (pe_lst (pa_cons (pe_tup (pa_cons pe_str (pa_cons pe_int pa_nil))) pa_nil)) pa_nil)))) (pa_cons (pe_tup (pa_cons pe_str (pa_cons (pe_lst (pa_cons (pe_tup (pa_cons pe_str (pa_cons pe_int pa_nil))) pa_nil)) (pa_cons (pe_lst pa_nil) pa_nil)))) pa_nil))) pa_nil))) (pa_cons (pe_lst (pa_cons (pe_tup (pa_cons pe_str (pa_cons (pe_tup (pa_cons pe_int (pa_cons pe_int pa_nil))) pa_nil))) (pa_cons (pe_tup (pa_cons pe_str (pa_cons (pe_tup (pa_cons pe_int (pa_cons pe_int pa_nil))) pa_nil))) pa_nil))) pa_nil)) (by rfl))
      (pss_cons (ps_if (PW.pt (pw_or (pt_cmpR (op_neD hr.1.units) (pe_callC C_gain hr (pa_cons (pv 8) (pa_cons (pv 9) pa_nil))) (pe_lst (pa_cons (pe_tup (pa_cons pe_int (pa_cons pe_int pa_nil))) pa_nil)) (nomark _)) (pw_or1 (pt_cmpR (op_neD hr.1.units) (pe_callC C__law_caught hr (pa_cons pe_int (pa_cons (pv 8) (pa_cons (pe_revL (pv 9)) pa_nil)))) (pe_lst (pa_cons pe_int (pa_cons (pe_revL (pv 9)) pa_nil))) (nomark _))))) (pss_one (ps_ret pe_bl)) pss_nil)
      (pss_cons (ps_set (i := 10) sc_law.nd rfl (.inl rfl) (pe_makC M_Mill hr (pa_cons (pe_lst (pa_cons (pe_tup (pa_cons pe_str (pa_cons pe_non pa_nil))) pa_nil)) (pa_cons (pe_lst pa_nil) pa_nil))))
      (pss_one (ps_ret (pe_and (pe_cmpR (op_eqD hr.1.units) (pe_callC C_gain hr (pa_cons (pv 10) (pa_cons (pe_lst pa_nil) pa_nil))) (pe_lst (pa_cons (pe_tup (pa_cons pe_int (pa_cons pe_int pa_nil))) pa_nil)) (nomark _)) (pe_and (pe_cmpR op_isBl (pe_callC C_is_fair hr (pa_cons (pv 10) (pa_cons (pe_lst (pa_cons (pe_tup (pa_cons pe_int (pa_cons pe_int pa_nil))) pa_nil)) pa_nil))) pe_bl (nomark _)) (pe_one (pe_cmpR op_isBl (pe_callC C_is_loop hr (pa_cons (pv 10) (pa_cons (pe_lst pa_nil) pa_nil))) pe_bl (nomark _)))))))))))), ?_⟩
  have st : start ["script", "index", "generator", "parts", "mill", "turn", "door", "bad", "mixed", "brew", "bare"] [.ref a] = [some (.ref a), none, none, none, none, none, none, none, none, none, none] := rfl
  rw [st]
  -- the first four seeds
  refine seq_of (Dv.s_for (K := K) (F := H) (it_rng1 (n := 4) (Dv.ea_cons (Dv.ev_int 4) Dv.ea_nil) (by decide) (by decide)) (Ex.refl H)
    (fun n σ' F' H' => ∃ s1 s2 s3 s4 s5, σ' = [some (.ref a), s1, s2, s3, s4, s5, none, none, none, none, none] ∧ Ex H F')
    (fun F' H' g1 => ⟨none, none, none, none, none, rfl, g1.fx⟩) ?_ (fun σ' F1 H1 e1 e1' pv => ?_))
  · rintro Fb eb n σ' F' H' u dd F1 H1 hdd e1 e2 ⟨s1, s2, s3, s4, s5, rfl, e0⟩ g1 hu
    obtain ⟨hn, hdn⟩ := List.getElem?_eq_some_iff.mp hdd
    rw [List.length_map, List.length_range] at hn
    have hn4 : n < 4 := hn
    have hdn' : dd = .int (n : Int) := by rw [← hdn, List.getElem_map, List.getElem_range]
    subst hdn'
    cases hu
    have x1 : Ex H F1 := e0.trans g1.fx
    show tSeq (tAsg _ _) _ _ [some (.ref a), some (.int (n : Int)), s2, s3, s4, s5, none, none, none, none, none] H1
    refine seq_of (asg_of ⟨_, rfl, _, rfl, a, ns, n, rfl, by omega, ex_l (x1.trans g1.fh) hS, hl, fun g gx gs H2 sm hg2 x0 s0 s1' => ?_⟩)
    have eF2 : Ex F1 (upd H2 g (.lst [.int gx, .int gs, .int (1000 * (n : Int))])) := fun b o hb => by
      have hb2 := sm b o (g1.fh b o hb)
      rw [upd_ne (ne_of_none hb2 hg2)]
      exact hb2
    have fg : F1 g = none := by
      cases z : F1 g with
      | none => rfl
      | some o =>
        have := sm g o (g1.fh g o z)
        rw [hg2] at this
        cases this
    have hgen : GenAt (upd H2 g (.lst [.int gx, .int gs, .int (1000 * (n : Int))])) g (1000 * n) := ⟨gx, gs, _, upd_same, x0, s0, s1', by omega, by omega⟩
    dsimp only
    show tSeq _ _ _ [some (.ref a), some (.int (n : Int)), some (.ref g), s3, s4, s5, none, none, none, none, none] _
    -- parts
    have args := da_cons (K := K) (g := g) (σ := [some (.ref a), some (.int (n : Int)), some (.ref g), s3, s4, s5, none, none, none, none, none]) (F := F1) (dr_add (m := 1) (n := 2) (m' := 0) (n' := 3) (dr_of (Dv.ev_int 1) ⟨1, rfl, by decide, by decide⟩) (dr_random (i := 2) rfl (by decide) (by decide) (by decide +kernel)))
      (da_cons (dr_random (i := 2) (b := 4) rfl (by decide) (by decide) (by decide +kernel)) da_nil)
    refine seq_of (asg_of ⟨_, rfl, args _ (1000 * n) eF2 fg hgen (by omega) _ fun vs F3 H3 ds k3 hg3 pds hvs => ?_⟩)
    obtain ⟨d1, r1, rfl, ⟨i1, rfl, i10, i11⟩, d2, r2, rfl, ⟨i2, rfl, i20, i21⟩, rfl⟩ := pds
    obtain ⟨v1, v2, rfl, hv1, hv2⟩ := Dv.two hvs
    cases hv1
    cases hv2
    obtain ⟨wide, rfl⟩ := Int.eq_ofNat_of_zero_le (show 0 ≤ i1 by omega)
    obtain ⟨many, rfl⟩ := Int.eq_ofNat_of_zero_le i20
    refine ⟨F3, g, 1000 * n + (0 + 1 + (1 + 0)), wide, many, rfl, by omega, by omega, by omega, k3.fh, k3.fg, hg3, by omega, fun pv F4 H4 m k4 hg4 dr hpv => ?_⟩
    have w1 : 1 ≤ wide := by omega
    have w3 : wide ≤ 3 := by omega
    have m3 : many ≤ 3 := by omega
    have ok := dr.ok w1 w3 m3
    dsimp only
    show tSeq _ _ _ [some (.ref a), some (.int (n : Int)), some (.ref g), some pv, s4, s5, none, none, none, none, none] H4
    refine seq_of (asg_of ⟨_, rfl, F4, pv, m, rfl, k4.fh, hpv, ok, fun ml F5 H5 g5 hm => ?_⟩)
    have k5 := hg4.of g5 k4.fg
    dsimp only
    show tFor _ _ _ _ [some (.ref a), some (.int (n : Int)), some (.ref g), some pv, some (.ref ml), s5, none, none, none, none, none] H5
    refine Dv.s_for (K := K) (F := F5) (it_rng1 (n := 2) (Dv.ea_cons (Dv.ev_int 2) Dv.ea_nil) (by decide) (by decide)) g5.fh
      (fun j σ' F' H' => ∃ s5, σ' = [some (.ref a), some (.int (n : Int)), some (.ref g), some pv, some (.ref ml), s5, none, none, none, none, none] ∧ Ex F5 F' ∧ F' g = none ∧ GenAt H' g (1000 * n + 2 + 21 + 15 * j))
      (fun F' H' g6 => ?_) ?_ (fun σ' F6 H6 e6 e6' pv6 => ?_)
    · have k6 := k5.2.of g6 k5.1.fg
      exact ⟨s5, rfl, g6.fx, k6.1.fg, k6.2.mono (by omega)⟩
    · rintro Fc ec j σ' F' H' tv td F6 H6 htd e6 e6' ⟨s5', rfl, e56, fg6, hg6⟩ g6 htv
      have hj : j < 2 := by
        have := (List.getElem?_eq_some_iff.mp htd).1
        rwa [List.length_map, List.length_range] at this
      have k6 := hg6.of g6 fg6
      have x56 : Ex F5 F6 := e56.trans g6.fx
      show tIfS _ _ _ _ [some (.ref a), some (.int (n : Int)), some (.ref g), some pv, some (.ref ml), some tv, none, none, none, none, none] H6
      refine ⟨_, rfl, _, rfl, _, rfl, F6, g, _, pv, ml, m, wide, many, rfl, k6.1.fh, k6.1.fg, k6.2, by omega, dp_ex (g5.fx.trans x56) hpv, dr, w1, w3, m3, hm.mono x56, fun F7 H7 k7 hg7 => ⟨true, rfl, iteF ?_⟩⟩
      refine ⟨_, rfl, _, rfl, _, rfl, F7, g, _, pv, ml, m, wide, many, rfl, k7.fh, k7.fg, hg7, by omega, dp_ex (g5.fx.trans (x56.trans k7.fx)) hpv, dr, w1, w3, m3, hm.mono (x56.trans k7.fx), fun F8 H8 k8 hg8 => ⟨true, rfl, iteF ?_⟩⟩
      exact ⟨F8, e6.trans (g6.fx.trans (k7.fx.trans k8.fx)), k8.fh, _, rfl, x56.trans (k7.fx.trans k8.fx), k8.fg, hg8.mono (by omega)⟩
    · obtain ⟨s5', rfl, e56, fg6, hg6⟩ := pv6
      have x15 : Ex F1 F6 := k3.fx.trans (k4.fx.trans (g5.fx.trans e56))
      exact ⟨F6, e1.trans (g1.fx.trans x15), e6', _, _, _, _, _, rfl, x1.trans x15⟩
  obtain ⟨s1, s2, s3, s4, s5, rfl, x1⟩ := pv
  dsimp only
  -- what is no mill
  have badL : ∀ (σ' : L2.St) (F' : Hp), ElQ K (tLst (tCons (tC .non) (tCons (tC (.int 3)) (tCons (tLst tNil) (tCons (tTup tNil) (tCons tDNewK (tCons (tC (.str "mill")) (tCons (tC (.bl true)) tNil)))))))) σ' F' [.none, .int 3, .list [], .tuple [], .dict [], .str "mill", .bool true] := fun σ' F' =>
    elq_lst (eaq_cons Dv.ev_non.q (eaq_cons (Dv.ev_int 3).q (eaq_cons (EvL.ev (Dv.el_lst Dv.ea_nil (by simp))).q (eaq_cons (Dv.ev_tup Dv.ea_nil (by simp)).q (eaq_cons eq_mt (eaq_cons (Dv.ev_str _).q (eaq_cons (Dv.ev_bl true).q eaq_nil))))))) (by simp)
  refine seq_of (Dv.s_for (K := K) (F := F1) (it_rng1 (n := 3) (Dv.ea_cons (Dv.ev_int 3) Dv.ea_nil) (by decide) (by decide)) e1'
    (fun n σ' F' H' => ∃ s6 s7, σ' = [some (.ref a), s1, s2, s3, s4, s5, s6, s7, none, none, none] ∧ Ex F1 F')
    (fun F' H' g1 => ⟨none, none, rfl, g1.fx⟩) ?_ (fun σ' F2 H2 e2 e2' pv => ?_))
  · rintro Fb eb n σ' F' H' u dd F2 H2 hdd e2 e3 ⟨s6, s7, rfl, e0⟩ g2 hu
    obtain ⟨hn, hdn⟩ := List.getElem?_eq_some_iff.mp hdd
    rw [List.length_map, List.length_range] at hn
    have hn3 : n < 3 := hn
    have hdn' : dd = .int (n : Int) := by rw [← hdn, List.getElem_map, List.getElem_range]
    subst hdn'
    cases hu
    show tFor _ _ _ _ [some (.ref a), s1, s2, s3, s4, s5, some (.int (n : Int)), s7, none, none, none] H2
    refine s_forQ (K := K) (F := F2) (itq_list (badL _ F2)) g2.fh
      (fun j σ' F' H' => ∃ s7, σ' = [some (.ref a), s1, s2, s3, s4, s5, some (.int (n : Int)), s7, none, none, none] ∧ Ex F2 F')
      (fun F' H' g3 => ⟨s7, rfl, g3.fx⟩) ?_ (fun σ' F3 H3 e4 e4' pv => ?_)
    · rintro Fc ec j σ' F' H' bv bd F3 H3 hbd e4 e4' ⟨s7', rfl, e5⟩ g3 hbv
      show tIfS _ _ _ _ [some (.ref a), s1, s2, s3, s4, s5, some (.int (n : Int)), some bv, none, none, none] H3
      refine s_ifF (et_caughtM (i := 6) (j := 7) (C := C) (CM := CM) (CB := CB) hn3 rfl rfl hbv) g3.fh fun F4 H4 g4 => ?_
      exact ⟨F4, e4.trans (g3.fx.trans g4.fx), g4.fh, _, rfl, e5.trans (g3.fx.trans g4.fx)⟩
    · obtain ⟨s7', rfl, e5⟩ := pv
      exact ⟨F3, e2.trans (g2.fx.trans e5), e4', _, _, rfl, e0.trans (g2.fx.trans e5)⟩
  obtain ⟨s6, s7, rfl, x2⟩ := pv
  dsimp only
  -- the mixed mill
  have oneP : ∀ (σ' : L2.St) (F' : Hp) (n : Str) (i : Int), EvD K (tTup (tCons (tC (.str n)) (tCons (tC (.int i)) tNil))) σ' F' (.tuple [.str n, .int i]) := fun σ' F' n i => ev_pr (Dv.ev_str _) (Dv.ev_int _)
  have stf : ∀ (σ' : L2.St) (F' : Hp), EvD K (tLst (tCons (tTup (tCons (tC (.str "a")) (tCons (tC .non) tNil))) tNil)) σ' F' (.list [.tuple [.str "a", .none]]) := fun σ' F' => EvL.ev (el_1 (ev_pr (Dv.ev_str _) Dv.ev_non))
  have nilL : ∀ (σ' : L2.St) (F' : Hp), EvD K (tLst tNil) σ' F' (.list []) := fun σ' F' => EvL.ev (Dv.el_lst Dv.ea_nil (by simp))
  have a1L : ∀ (σ' : L2.St) (F' : Hp), EvD K (tLst (tCons (tTup (tCons (tC (.str "a")) (tCons (tC (.int 1)) tNil))) tNil)) σ' F' (.list [.tuple [.str "a", .int 1]]) := fun σ' F' => EvL.ev (el_1 (oneP σ' F' _ _))
  have rcp : ∀ (n : Str) (ta tb : TE) (x y : PyData), EvD K ta [some (.ref a), s1, s2, s3, s4, s5, s6, s7, none, none, none] F2 x → EvD K tb [some (.ref a), s1, s2, s3, s4, s5, s6, s7, none, none, none] F2 y → EvD K (tTup (tCons (tC (.str n)) (tCons ta (tCons tb tNil)))) [some (.ref a), s1, s2, s3, s4, s5, s6, s7, none, none, none] F2 (.tuple [.str n, x, y]) := fun n ta tb x y h1 h2 => Dv.ev_tup (Dv.ea_cons (Dv.ev_str _) (Dv.ea_cons h1 (Dv.ea_cons h2 Dv.ea_nil))) (by simp)
  have rcps := Dv.el_lst (K := K) (Dv.ea_cons (rcp "s" _ _ _ _ (nilL _ F2) (a1L _ F2)) (Dv.ea_cons (rcp "r" _ _ _ _ (a1L _ F2) (nilL _ F2)) Dv.ea_nil)) (by simp)
  have mill1 := ev_mill (K := K) (C := C) (E := E0) (F := F2) (σ := [some (.ref a), s1, s2, s3, s4, s5, s6, s7, none, none, none]) (m := mMix) (Dv.ea_cons (stf _ F2) (Dv.ea_cons (EvL.ev rcps) Dv.ea_nil)) mMix_ok
  refine seq_of (par_of2 (mill1 H2 e2' _ fun ml1 F3 H3 g3 hm1 => ?_))
  have vbrew : EvD K (tLst (tCons (tTup (tCons (tC (.str "s")) (tCons (tTup (tCons (tC (.int 2)) (tCons (tC (.int 1)) tNil))) tNil))) (tCons (tTup (tCons (tC (.str "r")) (tCons (tTup (tCons (tC (.int 1)) (tCons (tC (.int 1)) tNil))) tNil))) tNil))) [some (.ref a), s1, s2, s3, s4, s5, s6, s7, none, none, none] F3 (.list (bMix.map encBrew)) :=
    EvL.ev (Dv.el_lst (Dv.ea_cons (ev_pr (Dv.ev_str _) (ev_pr (Dv.ev_int _) (Dv.ev_int _))) (Dv.ea_cons (ev_pr (Dv.ev_str _) (ev_pr (Dv.ev_int _) (Dv.ev_int _))) Dv.ea_nil)) (show 2 ≤ 100000 by decide))
  refine vbrew H3 g3.fh _ fun bv F4 H4 g4 hbv => ⟨_, _, rfl, ?_⟩
  dsimp only
  show tSeq _ _ _ [some (.ref a), s1, s2, s3, s4, s5, s6, s7, some (.ref ml1), some bv, none] _
  have hm4 := hm1.mono g4.fx
  have vb : EvD K (tVar 9) [some (.ref a), s1, s2, s3, s4, s5, s6, s7, some (.ref ml1), some bv, none] F4 (.list (bMix.map encBrew)) := Dv.ev_var rfl hbv
  have vrev := el_rev vb
  have lone : EvD K (tLst (tCons (tTup (tCons (tC (.int 1)) (tCons (tC (.int 1)) tNil))) tNil)) [some (.ref a), s1, s2, s3, s4, s5, s6, s7, some (.ref ml1), some bv, none] F4 (.list [oneF]) := EvL.ev (el_1 ev_oneF)
  have t1 : EtD (tTest (tOp (rNeD K) (tCall (spGain K C) [] E0 (tCons (tVar 8) (tCons (tVar 9) tNil))) (tLst (tCons (tTup (tCons (tC (.int 1)) (tCons (tC (.int 1)) tNil))) tNil)))) [some (.ref a), s1, s2, s3, s4, s5, s6, s7, some (.ref ml1), some bv, none] F4 false :=
    et_test (K := K) (Dv.ev_is (Dv.ev_neD (EvL.ev (el_gain (i := 8) rfl hm4 mMix_ok bMix_ok vb)) lone (by decide +kernel) (by decide +kernel)) (congrArg PyData.bool (by decide +kernel)))
  have t2 : EtD (tTest (tOp (rNeD K) (tCall (spCaught K C CM CB) [] E0 (tCons (tC (.int 0)) (tCons (tVar 8) (tCons (tRevL K (tVar 9)) tNil)))) (tLst (tCons (tC (.int 1)) (tCons (tRevL K (tVar 9)) tNil))))) [some (.ref a), s1, s2, s3, s4, s5, s6, s7, some (.ref ml1), some bv, none] F4 false :=
    et_test (K := K) (Dv.ev_is (Dv.ev_neD (EvL.ev (el_caughtB (i := 8) rfl hm4 mMix_ok (EvL.ev vrev) (by decide +kernel) (by decide +kernel))) (EvL.ev (Dv.el_lst (Dv.ea_cons (Dv.ev_int 1) (Dv.ea_cons (EvL.ev vrev) Dv.ea_nil)) (by simp))) (by decide +kernel) (by decide +kernel)) (congrArg PyData.bool (by decide +kernel)))
  refine seq_of (s_ifF (et_orF t1 t2) g4.fh fun F5 H5 g5 => ?_)
  dsimp only
  -- the bare mill
  have mill2 := ev_mill (K := K) (C := C) (E := E0) (F := F5) (σ := [some (.ref a), s1, s2, s3, s4, s5, s6, s7, some (.ref ml1), some bv, none]) (m := mBare) (Dv.ea_cons (stf _ F5) (Dv.ea_cons (nilL _ F5) Dv.ea_nil)) mBare_ok
  show tSeq _ _ _ [some (.ref a), s1, s2, s3, s4, s5, s6, s7, some (.ref ml1), some bv, none] _
  refine seq_of (s_asgO mill2 g5.fh fun ml2 F6 H6 g6 hm2 => ?_)
  dsimp only
  have vn := nilL [some (.ref a), s1, s2, s3, s4, s5, s6, s7, some (.ref ml1), some bv, some (.ref ml2)] F6
  have r1 : EvD K (tOp (rEqD K) (tCall (spGain K C) [] E0 (tCons (tVar 10) (tCons (tLst tNil) tNil))) (tLst (tCons (tTup (tCons (tC (.int 0)) (tCons (tC (.int 1)) tNil))) tNil))) [some (.ref a), s1, s2, s3, s4, s5, s6, s7, some (.ref ml1), some bv, some (.ref ml2)] F6 (.bool true) :=
    Dv.ev_is (Dv.ev_eqD (EvL.ev (el_gain (i := 10) (brew := []) rfl hm2 mBare_ok bBare_ok vn)) (EvL.ev (el_1 (ev_pr (Dv.ev_int 0) (Dv.ev_int 1)))) (by decide +kernel) (by decide +kernel)) (congrArg PyData.bool (by decide +kernel))
  have r2 : EvD K (tOp rIsB (tCall (spIsFairQ K C) [] E0 (tCons (tVar 10) (tCons (tLst (tCons (tTup (tCons (tC (.int 1)) (tCons (tC (.int 7)) tNil))) tNil)) tNil))) (tC (.bl true))) [some (.ref a), s1, s2, s3, s4, s5, s6, s7, some (.ref ml1), some bv, some (.ref ml2)] F6 (.bool true) :=
    Dv.ev_is (ev_isBl (ev_isFair (i := 10) rfl hm2 mBare_ok (EvL.ev (el_1 (ev_pr (Dv.ev_int 1) (Dv.ev_int 7)))) (gk_of (by decide +kernel)) bare_fair) (Dv.ev_bl true)) rfl
  have r3 : EvD K (tOp rIsB (tCall (spIsLoopQ K C) [] E0 (tCons (tVar 10) (tCons (tLst tNil) tNil))) (tC (.bl false))) [some (.ref a), s1, s2, s3, s4, s5, s6, s7, some (.ref ml1), some bv, some (.ref ml2)] F6 (.bool true) :=
    Dv.ev_is (ev_isBl (ev_isLoop (i := 10) (brew := []) rfl hm2 mBare_ok bBare_ok vn) (Dv.ev_bl false)) (congrArg PyData.bool (by decide +kernel))
  have rr := ev_andT r1 (ev_andT r2 r3)
  refine rr H6 g6.fh _ fun y F7 H7 g7 hy => ?_
  cases hy
  exact q H7
end
end R3

set_option Elab.async false
set_option linter.all false
set_option maxRecDepth 100000
set_option maxHeartbeats 4000000
/-! GENERAL: what an END has to tell of defs, of own errors and of classes. -/
namespace Hd
open PySem PySem.Spec PyProof.Rows PySem.Xn PySem.W
abbrev veT (ME : Addr) : List Value := [.ref ME, .type "ValueError", .type "Exception", .type "BaseException", .type "object"]
section
variable {P : Program} {K : Frag} {h : Heap} {mg : Str → Option Value} {cn fld qual file : Str} {C ME fI cda cc da N : Addr} {nm q0 : Str} {bs : List Value} {sn : List Str} {sub : List Value} {ab : Bool} {col : Option Bool}
  {dd od an cdd cld ddi : Option Addr} {k0 k1 k2 k3 k5 : Option Value} {oc doc pm ct ccl cl dcl : Value} {osl ccs csl dsl : Array (Option Value)} {p1 p2 p3 : Pos} {q : Nat → Pos} {vs : Array Value} {tf : Tok} {dn : Nat} {code : Value}
/-- what is alike for all the classes -/
structure Com (P : Program) (K : Frag) (mg : Str → Option Value) (ME : Addr) : Prop where
  al : alongIn K "__init__" (veT ME) = some (some (.builtin "ValueError.__init__"))
  opq : nsIn K cStatics "thirdparty.any" = some none
  noS : mg "super" = none
  hn : specialIn K (.builtin "object.__class__") "__get__" = some (some (.builtin "getset_descriptor.__get__"))
  ht : takesIn K (.builtin "object.__class__") = some true
/-- what is asked of each class -/
structure One (K : Frag) (mg : Str → Option Value) (cn : Str) (C : Addr) (bm : List Value) : Prop where
  g : mg cn = some (.ref C)
  l : ∃ nm q N bs sn sub ab col dd k0 k1 k2 k3 k5, K.lookup C = some (excClassObj nm q C N bs bm true sn sub ab col dd k0 k1 k2 k3 k5 "ValueError.__new__")
  ga : findIn K (.ref C) "__getattribute__" = some (some (.builtin "BaseException.__getattribute__"))
  gg : findIn K (.ref C) "__getattr__" = some none
  ha : findIn K (.ref C) "__class__" = some (some (.builtin "object.__class__"))
variable {bm : List Value}
theorem One.cd (O : One K mg cn C bm) : ∃ cd : ClassData, clsIn K C = some cd ∧ cd.mro = .ref C :: bm ∧ cd.hasDict = true := by
  obtain ⟨nm, q, N, bs, sn, sub, ab, col, dd, k0, k1, k2, k3, k5, e⟩ := O.l
  exact ⟨_, by unfold clsIn; rw [e] <;> rfl, rfl, rfl⟩
theorem One.mro (O : One K mg cn C bm) (b : Value) : mroIn K C b = some ((.ref C :: bm : List Value).contains b) := by
  obtain ⟨cd, e, m, _⟩ := O.cd
  unfold mroIn
  rw [e]
  show (if cd.mro.isEmpty = true then none else some (cd.mro.contains b)) = _
  rw [m] <;> rfl
theorem One.ty (O : One K mg cn C bm) : typeIn K (.ref C) = some (.type "type") := by
  obtain ⟨nm, q, N, bs, sn, sub, ab, col, dd, k0, k1, k2, k3, k5, e⟩ := O.l
  show (K.lookup C).map (·.cls) = _
  rw [e] <;> rfl
theorem One.exC (O : One K mg cn C bm) (c : Com P K mg ME) (h1 : bm.contains (.type "BaseException") = true) (h2 : bm.contains (.type "object") = true) : L2.ExC K C := by
  obtain ⟨cd, e, m, _⟩ := O.cd
  refine ⟨by rw [e] <;> rfl, O.ga, O.gg, ?_, O.ha, c.hn, c.ht, ?_⟩
  · show mroIn K C (.type "BaseException") = _
    rw [O.mro, List.contains_cons, h1]
    simp
  · rw [O.mro, List.contains_cons, h2]
    simp
theorem contains_ne {x c : Addr} {l : List Value} (h : x ≠ c) : ((.ref c :: l : List Value).contains (.ref x)) = l.contains (.ref x) := by
  rw [List.contains_cons]
  have e : ((Value.ref x) == (.ref c)) = false := by
    apply Bool.eq_false_iff.mpr
    intro z
    have := eq_of_beq z
    cases this
    exact h rfl
  rw [e, Bool.false_or]
theorem kit_own (O : One K mg cn C bm) {cn' : Str} {D : Addr} {bm' : List Value} (O' : One K mg cn' D bm') :
    kitOne K (.ref C) (.ref D) = some (decide (C = D) || bm.contains (.ref D)) := by
  unfold kitOne
  by_cases e : C = D
  · subst e
    rw [if_pos (by simp)]
    simp
  · rw [if_neg (fun z => e (by have := eq_of_beq z; cases this; rfl))]
    unfold kitCls
    have hd : ((clsIn K D).isSome && typeIn K (.ref D) == some (.type "type")) = true := by
      obtain ⟨cd, q, _⟩ := O'.cd
      rw [q, O'.ty]
      rfl
    try dsimp only
    rw [if_pos hd]
    show mroIn K C (.ref D) = _
    rw [O.mro, contains_ne (Ne.symm e)]
    simp [e]
theorem kit_VE (O : One K mg cn C bm) (h : bm.contains (.type "ValueError") = true) : kitOne K (.ref C) (.type "ValueError") = some true := by
  unfold kitOne
  rw [if_neg (fun z => by have := eq_of_beq z; cases this)]
  unfold kitCls
  dsimp only
  rw [if_pos (by decide +kernel)]
  show mroIn K C (.type "ValueError") = _
  rw [O.mro, List.contains_cons, h]
  simp
theorem ext_mk (c : Com P K mg ME) (O : One K mg cn C (veT ME))
    (sa : findIn K (.ref C) "__setattr__" = some (some (.builtin "object.__setattr__"))) (nb : findIn K (.ref C) fld = some none) (iC : findIn K (.ref C) "__init__" = some (some (.ref fI))) (kC : keepIn K (.ref C) = true)
    (l1 : K.lookup fI = some ⟨.type "function", od, .func (ksFn "__init__" qual (iA fld p1 p2 p3) (iB fld q) (iS fld) (.ref da) .none doc pm an (.ref cda) ct cc), osl⟩) (c1 : codeIn K (.ref cda) qual = true)
    (l2 : K.lookup cda = some ⟨ccl, cdd, .fields vs, ccs⟩) (v2 : vs[2]? = some (.str file tf)) (hf : ((P.main.file : Str) == file) = true)
    (l3 : K.lookup cc = some ⟨cl, cld, .cell (some (.ref C)), csl⟩) (l4 : K.lookup da = some ⟨dcl, ddi, .seq #[.none] dn, dsl⟩)
    (tx : TextOk fld q) (bd : BindOk fld (ksFn "__init__" qual (iA fld p1 p2 p3) (iB fld q) (iS fld) (.ref da) .none doc pm an (.ref cda) ct cc) da)
    (nc : (fld == ("__debug__" : Str)) = false ∧ ¬ (fld = ("self" : Str)) ∧ ¬ (fld = ("__class__" : Str)) ∧ ¬ (fld = ("super" : Str))) : ExT P K mg cn fld C fI where
  gC := O.g
  cls := by
    obtain ⟨nm, q, N, bs, sn, sub, ab, col, dd, k0, k1, k2, k3, k5, e⟩ := O.l
    exact ⟨nm, q, N, bs, _, sn, sub, ab, col, dd, k0, k1, k2, k3, k5, e, rfl, c.al⟩
  sa := sa
  ga := O.ga
  gg := O.gg
  noN := nb
  iC := iC
  tC := by
    show (K.lookup fI).map (·.cls) = _
    rw [l1] <;> rfl
  kC := kC
  exC := by
    show mroIn K C (.type "BaseException") = _
    rw [O.mro]
    rfl
  exV := by
    show mroIn K C (.type "ValueError") = _
    rw [O.mro]
    rfl
  exO := by
    rw [O.mro]
    rw [List.contains_cons]
    simp
  tyC := O.ty
  hdC := by
    obtain ⟨cd, e, m, d⟩ := O.cd
    unfold hasDictIn
    rw [e]
    exact d
  opq := c.opq
  noS := c.noS
  fn := ⟨_, od, qual, .ref da, doc, pm, an, cda, cc, ct, osl, p1, p2, p3, q, ccl, cdd, vs, ccs, file, tf, cl, cld, csl, dcl, ddi, dn, dsl, da, l1, c1, l2, v2, hf, l3, tx, bd, rfl, l4⟩
  nclash := nc
abbrev veT0 : List Value := [.type "ValueError", .type "Exception", .type "BaseException", .type "object"]
end
section
variable {P : Program} {K : Frag} {h : Heap} {mg : Str → Option Value} {cn fld qual file : Str} {C ME fI cda cc da N : Addr} {nm q0 : Str} {bs bm : List Value} {sn : List Str} {sub : List Value} {ab : Bool} {col : Option Bool}
  {dd od an cdd cld ddi : Option Addr} {k0 k1 k2 k3 k5 : Option Value} {oc doc pm ct ccl cl dcl : Value} {osl ccs csl dsl : Array (Option Value)} {p1 p2 p3 : Pos} {q : Nat → Pos} {vs : Array Value} {tf : Tok} {dn : Nat} {code : Value}
theorem one_mk (X : K.In h) (G : h.Ns mainGlobals mg) (a : nsIn K mainGlobals cn = some (some (.ref C)))
    (l : K.lookup C = some (excClassObj nm q0 C N bs bm true sn sub ab col dd k0 k1 k2 k3 k5 "ValueError.__new__"))
    (ga : findIn K (.ref C) "__getattribute__" = some (some (.builtin "BaseException.__getattribute__"))) (gg : findIn K (.ref C) "__getattr__" = some none) (ha : findIn K (.ref C) "__class__" = some (some (.builtin "object.__class__"))) : One K mg cn C bm :=
  ⟨mg_of X G a, ⟨_, _, _, _, _, _, _, _, _, _, _, _, _, _, l⟩, ga, gg, ha⟩
theorem ext_one (X : K.In h) (G : h.Ns mainGlobals mg) (c : Com P K mg ME) (a : nsIn K mainGlobals cn = some (some (.ref C)))
    (l : K.lookup C = some (excClassObj nm q0 C N bs (veT ME) true sn sub ab col dd k0 k1 k2 k3 k5 "ValueError.__new__"))
    (ga : findIn K (.ref C) "__getattribute__" = some (some (.builtin "BaseException.__getattribute__"))) (gg : findIn K (.ref C) "__getattr__" = some none) (ha : findIn K (.ref C) "__class__" = some (some (.builtin "object.__class__")))
    (sa : findIn K (.ref C) "__setattr__" = some (some (.builtin "object.__setattr__"))) (nb : findIn K (.ref C) fld = some none) (iC : findIn K (.ref C) "__init__" = some (some (.ref fI))) (kC : keepIn K (.ref C) = true)
    (l1 : K.lookup fI = some ⟨.type "function", od, .func (ksFn "__init__" qual (iA fld p1 p2 p3) (iB fld q) (iS fld) (.ref da) .none doc pm an (.ref cda) ct cc), osl⟩) (c1 : codeIn K (.ref cda) qual = true)
    (l2 : K.lookup cda = some ⟨ccl, cdd, .fields vs, ccs⟩) (v2 : vs[2]? = some (.str file tf)) (hf : ((P.main.file : Str) == file) = true)
    (l3 : K.lookup cc = some ⟨cl, cld, .cell (some (.ref C)), csl⟩) (l4 : K.lookup da = some ⟨dcl, ddi, .seq #[.none] dn, dsl⟩)
    (tx : TextOk fld q) (bd : BindOk fld (ksFn "__init__" qual (iA fld p1 p2 p3) (iB fld q) (iS fld) (.ref da) .none doc pm an (.ref cda) ct cc) da)
    (nc : (fld == ("__debug__" : Str)) = false ∧ ¬ (fld = ("self" : Str)) ∧ ¬ (fld = ("__class__" : Str)) ∧ ¬ (fld = ("super" : Str))) : ExT P K mg cn fld C fI ∧ One K mg cn C (veT ME) :=
  have O := one_mk X G a l ga gg ha
  ⟨ext_mk c O sa nb iC kC l1 c1 l2 v2 hf l3 l4 tx bd nc, O⟩
end
theorem bd_value {qual : Str} {p1 p2 p3 : Pos} {q : Nat → Pos} {doc pm ct : Value} {an : Option Addr} {cda cc da : Addr} : BindOk "value" (ksFn "__init__" qual (iA "value" p1 p2 p3) (iB "value" q) (iS "value") (.ref da) .none doc pm an (.ref cda) ct cc) da := ⟨fun _ _ => ⟨_, rfl, rfl⟩, fun _ _ => ⟨_, rfl, rfl⟩, fun _ => ⟨_, rfl, rfl⟩⟩
end Hd
namespace Hd
open PySem PySem.Spec PyProof.Rows L2
structure DefIn (K : PySem.W.Frag) (nm : Str) (st : Stmt) : Prop where
  ex : ∃ f fd, PySem.W.nsIn K mainGlobals nm = some (some (.ref f)) ∧ Fun K nm nm st f fd
theorem def_in {K : PySem.W.Frag} {nm : Str} {st : Stmt} {f : Addr} {oc : Value} {od an : Option Addr} {osl : Array (Option Value)} {kV doc pm cdv ct : Value} (a : PySem.W.nsIn K mainGlobals nm = some (some (.ref f)))
    (l : K.lookup f = some ⟨oc, od, .func (PySem.W.fnOf nm nm (defArgs st) (defBody st) (defScope st) .none kV doc pm an cdv ct), osl⟩)
    (c : PySem.W.codeIn K cdv nm = true) (k : PySem.W.keepIn K (.ref f) = true) : DefIn K nm st := ⟨_, _, a, fun_mk (st := st) l c k⟩
theorem def_of {K : PySem.W.Frag} {h : Heap} {mg : Str → Option Value} {nm : Str} {st : Stmt} {ps : List Str} (X : K.In h) (G : h.Ns mainGlobals mg) (d : DefIn K nm st) (b : ∀ f fd, Fun K nm nm st f fd → Binds K fd ps []) : Dv.Def K mg nm st ps := by
  obtain ⟨f, fd, a, F⟩ := d.ex
  exact ⟨f, fd, PySem.W.mg_of X G a, F, b f fd F⟩
/-- a class and its __init__ -/
structure ClsIn (K : PySem.W.Frag) (nm qi : Str) (st : Stmt) (C : Addr) : Prop where
  g : PySem.W.nsIn K mainGlobals nm = some (some (.ref C))
  cl : Cls K C
  ini : ∃ f fd, Mk K C f ∧ Fun K "__init__" qi st f fd
theorem cls_in {K : PySem.W.Frag} {nm qi : Str} {st : Stmt} {C f : Addr} {oc : Value} {od an : Option Addr} {osl : Array (Option Value)} {kV doc pm cdv ct : Value} (g : PySem.W.nsIn K mainGlobals nm = some (some (.ref C)))
    (pg : PySem.W.plainGet K C Str.empty = true) (hd : PySem.W.hasDictIn K C = true) (po : PySem.W.plainOver K C = true) (sa : PySem.W.findIn K (.ref C) "__setattr__" = some (some (.builtin "object.__setattr__")))
    (mk : PySem.W.makesIn K C = true) (i : PySem.W.findIn K (.ref C) "__init__" = some (some (.ref f))) (fn : PySem.W.isFn K (.ref f) = true) (kc : PySem.W.keepIn K (.ref C) = true)
    (l : K.lookup f = some ⟨oc, od, .func (PySem.W.fnOf "__init__" qi (defArgs st) (defBody st) (defScope st) .none kV doc pm an cdv ct), osl⟩)
    (c : PySem.W.codeIn K cdv qi = true) (k : PySem.W.keepIn K (.ref f) = true) : ClsIn K nm qi st C := ⟨g, ⟨pg, hd, po, sa⟩, _, _, ⟨mk, i, fn, kc⟩, fun_mk (st := st) l c k⟩
end Hd

set_option Elab.async false
set_option linter.all false
set_option maxRecDepth 100000
set_option maxHeartbeats 4000000
namespace R3
open PySem PySem.Spec PyProof.Rows L2 Hd
def p0 : Pos := ⟨0, 0, 0, 0⟩
def qL : List (List Pos) := [[⟨20, 8, 20, 13⟩, ⟨20, 8, 20, 15⟩, ⟨20, 8, 20, 24⟩, ⟨20, 25, 20, 30⟩, ⟨20, 8, 20, 31⟩, ⟨21, 8, 21, 12⟩, ⟨21, 8, 21, 18⟩, ⟨21, 21, 21, 26⟩, ⟨21, 8, 21, 26⟩],
  [⟨25, 8, 25, 13⟩, ⟨25, 8, 25, 15⟩, ⟨25, 8, 25, 24⟩, ⟨25, 25, 25, 30⟩, ⟨25, 8, 25, 31⟩, ⟨26, 8, 26, 12⟩, ⟨26, 8, 26, 18⟩, ⟨26, 21, 26, 26⟩, ⟨26, 8, 26, 26⟩]]
def pL : List (List Pos) := [[⟨19, 17, 19, 21⟩, ⟨19, 23, 19, 28⟩, ⟨19, 29, 19, 33⟩],
  [⟨24, 17, 24, 21⟩, ⟨24, 23, 24, 28⟩, ⟨24, 29, 24, 33⟩]]
abbrev qq (i : Nat) : Nat → Pos := fun j => (qL.getD i []).getD j p0
abbrev pp (i j : Nat) : Pos := (pL.getD i []).getD j p0
theorem tx0 : PySem.Xn.TextOk "value" (qq 0) := ⟨⟨_, fun _ => rfl⟩, fun _ => rfl, fun _ => rfl, fun _ => rfl, fun _ => rfl⟩
theorem tx1 : PySem.Xn.TextOk "value" (qq 1) := ⟨⟨_, fun _ => rfl⟩, fun _ => rfl, fun _ => rfl, fun _ => rfl, fun _ => rfl⟩
theorem noth_mk {K : PySem.W.Frag} {mg : Str → Option Value} {a : Addr} {dd : Option Addr} {n : Nat} {sl : Array (Option Value)} {t0 t1 : Tok} (g : mg "NOTHING" = some (.ref a)) (l : K.lookup a = some ⟨.type "tuple", dd, .seq #[.int 0 t0, .int 1 t1] n, sl⟩) : Noth K mg :=
  ⟨a, g, fun F => .tup (xs := [.int 0, .int 1]) (.inr ⟨_, #[.int 0 t0, .int 1 t1], n, l, rfl, rfl, (show 2 ≤ sizeLine by decide +kernel), .cons ⟨_, rfl⟩ (.cons ⟨_, rfl⟩ .nil)⟩) (.cons (.int 0) (.cons (.int 1) .nil))⟩
section
variable {P : Program} {w : World} {K : PySem.W.Frag} {h : Heap} {mg : Str → Option Value} {fa C G CM CB CE fM fB : Addr}
/-- what is written of the names that hold things -/
structure Words (K : PySem.W.Frag) : Prop where
  letters : ∃ t, PySem.W.nsIn K mainGlobals "LETTERS" = some (some (.str "abcdefghijklmnopqrstuvwxyz" t))
  figures : ∃ t, PySem.W.nsIn K mainGlobals "FIGURES" = some (some (.str "0123456789" t))
  mostName : ∃ t, PySem.W.nsIn K mainGlobals "MOST_NAME" = some (some (.int 8 t))
  mostStuffs : ∃ t, PySem.W.nsIn K mainGlobals "MOST_STUFFS" = some (some (.int 8 t))
  mostRecipes : ∃ t, PySem.W.nsIn K mainGlobals "MOST_RECIPES" = some (some (.int 8 t))
  mostNumber : ∃ t, PySem.W.nsIn K mainGlobals "MOST_NUMBER" = some (some (.int 1000000 t))
theorem words_mk {K : PySem.W.Frag} {t0 t1 t2 t3 t4 t5 : Tok} (w0 : PySem.W.nsIn K mainGlobals "LETTERS" = some (some (.str "abcdefghijklmnopqrstuvwxyz" t0))) (w1 : PySem.W.nsIn K mainGlobals "FIGURES" = some (some (.str "0123456789" t1))) (w2 : PySem.W.nsIn K mainGlobals "MOST_NAME" = some (some (.int 8 t2)))
    (w3 : PySem.W.nsIn K mainGlobals "MOST_STUFFS" = some (some (.int 8 t3))) (w4 : PySem.W.nsIn K mainGlobals "MOST_RECIPES" = some (some (.int 8 t4))) (w5 : PySem.W.nsIn K mainGlobals "MOST_NUMBER" = some (some (.int 1000000 t5))) : Words K := ⟨⟨_, w0⟩, ⟨_, w1⟩, ⟨_, w2⟩, ⟨_, w3⟩, ⟨_, w4⟩, ⟨_, w5⟩⟩
structure NoWords (K : PySem.W.Frag) : Prop where
  z_int : PySem.W.nsIn K mainGlobals "int" = some none
  z_bool : PySem.W.nsIn K mainGlobals "bool" = some none
  z_str : PySem.W.nsIn K mainGlobals "str" = some none
  z_list : PySem.W.nsIn K mainGlobals "list" = some none
  z_tuple : PySem.W.nsIn K mainGlobals "tuple" = some none
  z_dict : PySem.W.nsIn K mainGlobals "dict" = some none
  z_len : PySem.W.nsIn K mainGlobals "len" = some none
  z_range : PySem.W.nsIn K mainGlobals "range" = some none
  z_sum : PySem.W.nsIn K mainGlobals "sum" = some none
  z_max : PySem.W.nsIn K mainGlobals "max" = some none
  z_abs : PySem.W.nsIn K mainGlobals "abs" = some none
  z_isinstance : PySem.W.nsIn K mainGlobals "isinstance" = some none
  z_repr : PySem.W.nsIn K mainGlobals "repr" = some none
  z_zip : PySem.W.nsIn K mainGlobals "zip" = some none
  z_enumerate : PySem.W.nsIn K mainGlobals "enumerate" = some none
structure DefsIn (K : PySem.W.Frag) : Prop where
  d_is_whole : DefIn K "is_whole" sIsWhole
  d_is_name : DefIn K "is_name" sIsName
  d_common_divisor : DefIn K "common_divisor" sCommonDivisor
  d_fraction : DefIn K "fraction" sFraction
  d_is_fraction : DefIn K "is_fraction" sIsFraction
  d_is_amount : DefIn K "is_amount" sIsAmount
  d_plus : DefIn K "plus" sPlus
  d_scaled : DefIn K "scaled" sScaled
  d_check_size : DefIn K "check_size" sCheckSize
  d_is_number : DefIn K "is_number" sIsNumber
  d_is_stuff : DefIn K "is_stuff" sIsStuff
  d_are_parts : DefIn K "are_parts" sAreParts
  d_is_recipe : DefIn K "is_recipe" sIsRecipe
  d_check_mill : DefIn K "check_mill" sCheckMill
  d_numbers_of : DefIn K "numbers_of" sNumbersOf
  d_is_brew : DefIn K "is_brew" sIsBrew
  d_gains_of : DefIn K "gains_of" sGainsOf
  d_gain : DefIn K "gain" sGain
  d_is_fair : DefIn K "is_fair" sIsFair
  d_is_loop : DefIn K "is_loop" sIsLoop
  d__law_cell : DefIn K "_law_cell" sLawCell
  d__law_hash : DefIn K "_law_hash" sLawHash
  d__law_generator : DefIn K "_law_generator" sLawGenerator
  d__law_random : DefIn K "_law_random" sLawRandom
  d__law_fraction : DefIn K "_law_fraction" sLawFraction
  d__law_sum : DefIn K "_law_sum" sLawSum
  d__law_side : DefIn K "_law_side" sLawSide
  d__law_gains : DefIn K "_law_gains" sLawGains
  d__law_recipe : DefIn K "_law_recipe" sLawRecipe
  d__law_moved : DefIn K "_law_moved" sLawMoved
  d__law_worth : DefIn K "_law_worth" sLawWorth
  d__law_sides_drawn : DefIn K "_law_sides_drawn" sLawSidesDrawn
  d__law_mill_drawn : DefIn K "_law_mill_drawn" sLawMillDrawn
  d__law_made : DefIn K "_law_made" sLawMade
  d__law_all_gains : DefIn K "_law_all_gains" sLawAllGains
  d__law_brew_drawn : DefIn K "_law_brew_drawn" sLawBrewDrawn
  d__law_bent : DefIn K "_law_bent" sLawBent
  d__law_caught : DefIn K "_law_caught" sLawCaught
  d__law_is_loop : DefIn K "_law_is_loop" sLawIsLoop
  d__law_is_fair : DefIn K "_law_is_fair" sLawIsFair
  d__law_right : DefIn K "_law_right" sLawRight
  d__law_prices_right : DefIn K "_law_prices_right" sLawPricesRight
  d_law : DefIn K "law" sLaw
/-- what is asked of the classes -/
structure ClsOf (K : PySem.W.Frag) (C G : Addr) : Prop where
  mill : ClsIn K "Mill" "Mill.__init__" sMillInit C
  ground : ClsIn K "Ground" "Ground.__init__" sGroundInit G
  m1 : PySem.W.findIn K (.ref C) "rooms" = some none
  m2 : PySem.W.findIn K (.ref C) "spots" = some none
  m3 : PySem.W.findIn K (.ref C) "rules" = some none
  g1 : PySem.W.findIn K (.ref G) "rooms" = some none
  g2 : PySem.W.findIn K (.ref G) "wide" = some none
  g3 : PySem.W.findIn K (.ref G) "titles" = some none
  g4 : PySem.W.findIn K (.ref G) "takes" = some none
  g5 : PySem.W.findIn K (.ref G) "gives" = some none
  g6 : PySem.W.findIn K (.ref G) "gains" = some none
  ha : PySem.W.findIn K (.ref C) "__class__" = some (some (.builtin "object.__class__"))
  hm : PySem.W.mroIn K C (.type "object") = some true
  me : PySem.W.kitOne K (.ref C) (.ref C) = some true
  n1 : PySem.W.kitOne K (.type "NoneType") (.ref C) = some false
  n2 : PySem.W.kitOne K (.type "bool") (.ref C) = some false
  n3 : PySem.W.kitOne K (.type "int") (.ref C) = some false
  n4 : PySem.W.kitOne K (.type "str") (.ref C) = some false
  n5 : PySem.W.kitOne K (.type "list") (.ref C) = some false
  n6 : PySem.W.kitOne K (.type "tuple") (.ref C) = some false
  n7 : PySem.W.kitOne K (.type "dict") (.ref C) = some false
theorem all_mk (X : K.In h) (Gl : h.Ns mainGlobals mg) (hfa : mg "law" = some (.ref fa)) (ht : (P.main.scope.names.lookup ("super" : Str)).isSome = false) (Z : NoWords K) (W : Words K) (DD : DefsIn K) (CO : ClsOf K C G)
    (c : Com P K mg CE) (eM : PySem.Xn.ExT P K mg "InvalidMill" "value" CM fM ∧ One K mg "InvalidMill" CM (veT CE)) (eB : PySem.Xn.ExT P K mg "InvalidBrew" "value" CB fB ∧ One K mg "InvalidBrew" CB (veT CE)) (oE : One K mg "MillError" CE veT0)
    (ne : CM ≠ CB) (neM : CM ≠ CE) (neB : CB ≠ CE) (hE : PySem.W.hasDictIn K CE = true) {aN : Addr} {ddN : Option Addr} {nN : Nat} {slN : Array (Option Value)} {t0 t1 : Tok} (gN : PySem.W.nsIn K mainGlobals "NOTHING" = some (some (.ref aN))) (lN : K.lookup aN = some ⟨.type "tuple", ddN, .seq #[.int 0 t0, .int 1 t1] nN, slN⟩) :
    ∃ fd : FuncData, (∀ (s : Shared) (v : Value), BindsTo s fd ⟨[v], []⟩ [("script", v)]) ∧ ∀ base : Heap, K.In base → base.Ns mainGlobals mg → FnOkG P w K mg base CX0 8 fa fd ["script"] (spLaw K) := by
  have nn : ∀ {n : Str}, PySem.W.nsIn K mainGlobals n = some none → mg n = none := fun e => PySem.W.mg_none_of X Gl e
  have B : Bl mg := ⟨nn Z.z_int, nn Z.z_bool, nn Z.z_str, nn Z.z_list, nn Z.z_tuple, nn Z.z_dict, nn Z.z_len, nn Z.z_range, nn Z.z_sum, nn Z.z_max, nn Z.z_abs, nn Z.z_isinstance, nn Z.z_repr, nn Z.z_zip, nn Z.z_enumerate⟩
  have CC : Cst mg := ⟨W.letters.imp fun _ e => PySem.W.mg_of X Gl e, W.figures.imp fun _ e => PySem.W.mg_of X Gl e, W.mostName.imp fun _ e => PySem.W.mg_of X Gl e, W.mostStuffs.imp fun _ e => PySem.W.mg_of X Gl e, W.mostRecipes.imp fun _ e => PySem.W.mg_of X Gl e, W.mostNumber.imp fun _ e => PySem.W.mg_of X Gl e⟩
  have NN : Noth K mg := noth_mk (PySem.W.mg_of X Gl gN) lN
  have gC := PySem.W.mg_of X Gl CO.mill.g
  have MC : MillC K C := ⟨CO.mill.cl, CO.m1, CO.m2, CO.m3⟩
  have GC : GroundC K G := ⟨CO.ground.cl, CO.g1, CO.g2, CO.g3, CO.g4, CO.g5, CO.g6⟩
  have IC : C8.InsC K C := ⟨CO.mill.cl, CO.ha, c.hn, c.ht, CO.hm, CO.me⟩
  have NC : MillN K C := ⟨fun t ht => by
    simp only [List.mem_cons, List.not_mem_nil, or_false] at ht
    rcases ht with rfl | rfl | rfl | rfl | rfl | rfl | rfl
    · exact CO.n1
    · exact CO.n2
    · exact CO.n3
    · exact CO.n4
    · exact CO.n5
    · exact CO.n6
    · exact CO.n7⟩
  have EM : ErrC P K mg "InvalidMill" CM := ⟨⟨_, eM.1⟩, ht⟩
  have EB : ErrC P K mg "InvalidBrew" CB := ⟨⟨_, eB.1⟩, ht⟩
  have xE : ∀ {cn : Str} {D : Addr}, One K mg cn D (veT CE) → PySem.W.exmOne K (.ref D) (.ref CE) = some true := fun {cn D} O => by
    refine PySem.W.exm_ref ?_ hE oE.ty ?_
    · show PySem.W.mroIn K CE (.type "BaseException") = _
      rw [oE.mro]
      rfl
    · show PySem.W.mroIn K D (.ref CE) = _
      rw [O.mro, List.contains_cons, List.contains_cons]
      simp
  have kk : ∀ {cn cn' : Str} {D D' : Addr}, One K mg cn D (veT CE) → One K mg cn' D' (veT CE) → D' ≠ CE → PySem.W.kitOne K (.ref D) (.ref D') = some (decide (D = D')) := fun {cn cn' D D'} O O' hn => by
    rw [kit_own O O', show veT CE = .ref CE :: veT0 from rfl, contains_ne hn]
    have : veT0.contains (.ref D') = false := by simp
    rw [this, Bool.or_false]
  have ER : ErrsC K mg CM CB CE := ⟨oE.g, eM.2.g, eB.2.g, xE eM.2, xE eB.2, eM.2.exC c rfl rfl, eB.2.exC c rfl rfl, by rw [kk eM.2 eM.2 neM, decide_eq_true rfl], by rw [kk eM.2 eB.2 neB, decide_eq_false ne], by rw [kk eB.2 eM.2 neM, decide_eq_false (Ne.symm ne)], by rw [kk eB.2 eB.2 neB, decide_eq_true rfl],
    ⟨eM.1.ga, eM.1.gg, eM.1.exC, eM.1.hdC⟩, ⟨eB.1.ga, eB.1.gg, eB.1.exC, eB.1.hdC⟩, eM.1.noN, eB.1.noN⟩
  have D_is_whole := def_of (ps := ["value"]) X Gl DD.d_is_whole fun f fd F => F.binds fun _ _ _ _ _ _ us hl => match us, hl with | [_], _ => rfl
  have D_is_name := def_of (ps := ["value"]) X Gl DD.d_is_name fun f fd F => F.binds fun _ _ _ _ _ _ us hl => match us, hl with | [_], _ => rfl
  have D_common_divisor := def_of (ps := ["one", "other"]) X Gl DD.d_common_divisor fun f fd F => F.binds fun _ _ _ _ _ _ us hl => match us, hl with | [_, _], _ => rfl
  have D_fraction := def_of (ps := ["top", "under"]) X Gl DD.d_fraction fun f fd F => F.binds fun _ _ _ _ _ _ us hl => match us, hl with | [_, _], _ => rfl
  have D_is_fraction := def_of (ps := ["value"]) X Gl DD.d_is_fraction fun f fd F => F.binds fun _ _ _ _ _ _ us hl => match us, hl with | [_], _ => rfl
  have D_is_amount := def_of (ps := ["value"]) X Gl DD.d_is_amount fun f fd F => F.binds fun _ _ _ _ _ _ us hl => match us, hl with | [_], _ => rfl
  have D_plus := def_of (ps := ["one", "other"]) X Gl DD.d_plus fun f fd F => F.binds fun _ _ _ _ _ _ us hl => match us, hl with | [_, _], _ => rfl
  have D_scaled := def_of (ps := ["one", "number"]) X Gl DD.d_scaled fun f fd F => F.binds fun _ _ _ _ _ _ us hl => match us, hl with | [_, _], _ => rfl
  have D_check_size := def_of (ps := ["value", "least", "most"]) X Gl DD.d_check_size fun f fd F => F.binds fun _ _ _ _ _ _ us hl => match us, hl with | [_, _, _], _ => rfl
  have D_is_number := def_of (ps := ["value", "least"]) X Gl DD.d_is_number fun f fd F => F.binds fun _ _ _ _ _ _ us hl => match us, hl with | [_, _], _ => rfl
  have D_is_stuff := def_of (ps := ["value"]) X Gl DD.d_is_stuff fun f fd F => F.binds fun _ _ _ _ _ _ us hl => match us, hl with | [_], _ => rfl
  have D_are_parts := def_of (ps := ["value", "spots"]) X Gl DD.d_are_parts fun f fd F => F.binds fun _ _ _ _ _ _ us hl => match us, hl with | [_, _], _ => rfl
  have D_is_recipe := def_of (ps := ["value", "spots"]) X Gl DD.d_is_recipe fun f fd F => F.binds fun _ _ _ _ _ _ us hl => match us, hl with | [_, _], _ => rfl
  have D_check_mill := def_of (ps := ["value"]) X Gl DD.d_check_mill fun f fd F => F.binds fun _ _ _ _ _ _ us hl => match us, hl with | [_], _ => rfl
  have D_numbers_of := def_of (ps := ["mill", "parts"]) X Gl DD.d_numbers_of fun f fd F => F.binds fun _ _ _ _ _ _ us hl => match us, hl with | [_, _], _ => rfl
  have D_is_brew := def_of (ps := ["mill", "value"]) X Gl DD.d_is_brew fun f fd F => F.binds fun _ _ _ _ _ _ us hl => match us, hl with | [_, _], _ => rfl
  have D_gains_of := def_of (ps := ["mill", "brew"]) X Gl DD.d_gains_of fun f fd F => F.binds fun _ _ _ _ _ _ us hl => match us, hl with | [_, _], _ => rfl
  have D_gain := def_of (ps := ["mill", "brew"]) X Gl DD.d_gain fun f fd F => F.binds fun _ _ _ _ _ _ us hl => match us, hl with | [_, _], _ => rfl
  have D_is_fair := def_of (ps := ["mill", "value"]) X Gl DD.d_is_fair fun f fd F => F.binds fun _ _ _ _ _ _ us hl => match us, hl with | [_, _], _ => rfl
  have D_is_loop := def_of (ps := ["mill", "value"]) X Gl DD.d_is_loop fun f fd F => F.binds fun _ _ _ _ _ _ us hl => match us, hl with | [_, _], _ => rfl
  have D__law_cell := def_of (ps := ["script", "index"]) X Gl DD.d__law_cell fun f fd F => F.binds fun _ _ _ _ _ _ us hl => match us, hl with | [_, _], _ => rfl
  have D__law_hash := def_of (ps := ["seed", "index"]) X Gl DD.d__law_hash fun f fd F => F.binds fun _ _ _ _ _ _ us hl => match us, hl with | [_, _], _ => rfl
  have D__law_generator := def_of (ps := ["script", "index"]) X Gl DD.d__law_generator fun f fd F => F.binds fun _ _ _ _ _ _ us hl => match us, hl with | [_, _], _ => rfl
  have D__law_random := def_of (ps := ["generator", "bound"]) X Gl DD.d__law_random fun f fd F => F.binds fun _ _ _ _ _ _ us hl => match us, hl with | [_, _], _ => rfl
  have D__law_fraction := def_of (ps := ["top", "under"]) X Gl DD.d__law_fraction fun f fd F => F.binds fun _ _ _ _ _ _ us hl => match us, hl with | [_, _], _ => rfl
  have D__law_sum := def_of (ps := ["one", "other"]) X Gl DD.d__law_sum fun f fd F => F.binds fun _ _ _ _ _ _ us hl => match us, hl with | [_, _], _ => rfl
  have D__law_side := def_of (ps := ["parts", "recipe", "side"]) X Gl DD.d__law_side fun f fd F => F.binds fun _ _ _ _ _ _ us hl => match us, hl with | [_, _, _], _ => rfl
  have D__law_gains := def_of (ps := ["parts", "recipe"]) X Gl DD.d__law_gains fun f fd F => F.binds fun _ _ _ _ _ _ us hl => match us, hl with | [_, _], _ => rfl
  have D__law_recipe := def_of (ps := ["parts", "name"]) X Gl DD.d__law_recipe fun f fd F => F.binds fun _ _ _ _ _ _ us hl => match us, hl with | [_, _], _ => rfl
  have D__law_moved := def_of (ps := ["held", "amount", "numbers", "sign"]) X Gl DD.d__law_moved fun f fd F => F.binds fun _ _ _ _ _ _ us hl => match us, hl with | [_, _, _, _], _ => rfl
  have D__law_worth := def_of (ps := ["worths", "numbers"]) X Gl DD.d__law_worth fun f fd F => F.binds fun _ _ _ _ _ _ us hl => match us, hl with | [_, _], _ => rfl
  have D__law_sides_drawn := def_of (ps := ["generator", "names"]) X Gl DD.d__law_sides_drawn fun f fd F => F.binds fun _ _ _ _ _ _ us hl => match us, hl with | [_, _], _ => rfl
  have D__law_mill_drawn := def_of (ps := ["generator", "wide", "many"]) X Gl DD.d__law_mill_drawn fun f fd F => F.binds fun _ _ _ _ _ _ us hl => match us, hl with | [_, _, _], _ => rfl
  have D__law_made := def_of (ps := ["parts"]) X Gl DD.d__law_made fun f fd F => F.binds fun _ _ _ _ _ _ us hl => match us, hl with | [_], _ => rfl
  have D__law_all_gains := def_of (ps := ["parts", "brew"]) X Gl DD.d__law_all_gains fun f fd F => F.binds fun _ _ _ _ _ _ us hl => match us, hl with | [_, _], _ => rfl
  have D__law_brew_drawn := def_of (ps := ["generator", "parts"]) X Gl DD.d__law_brew_drawn fun f fd F => F.binds fun _ _ _ _ _ _ us hl => match us, hl with | [_, _], _ => rfl
  have D__law_bent := def_of (ps := ["parts", "brew"]) X Gl DD.d__law_bent fun f fd F => F.binds fun _ _ _ _ _ _ us hl => match us, hl with | [_, _], _ => rfl
  have D__law_caught := def_of (ps := ["door", "mill", "value"]) X Gl DD.d__law_caught fun f fd F => F.binds fun _ _ _ _ _ _ us hl => match us, hl with | [_, _, _], _ => rfl
  have D__law_is_loop := def_of (ps := ["gains"]) X Gl DD.d__law_is_loop fun f fd F => F.binds fun _ _ _ _ _ _ us hl => match us, hl with | [_], _ => rfl
  have D__law_is_fair := def_of (ps := ["parts", "prices"]) X Gl DD.d__law_is_fair fun f fd F => F.binds fun _ _ _ _ _ _ us hl => match us, hl with | [_, _], _ => rfl
  have D__law_right := def_of (ps := ["generator", "parts", "mill"]) X Gl DD.d__law_right fun f fd F => F.binds fun _ _ _ _ _ _ us hl => match us, hl with | [_, _, _], _ => rfl
  have D__law_prices_right := def_of (ps := ["generator", "parts", "mill"]) X Gl DD.d__law_prices_right fun f fd F => F.binds fun _ _ _ _ _ _ us hl => match us, hl with | [_, _, _], _ => rfl
  have D_law := def_of (ps := ["script"]) X Gl DD.d_law fun f fd F => F.binds fun _ _ _ _ _ _ us hl => match us, hl with | [_], _ => rfl
  obtain ⟨f0, fd0, a0, F0, b0⟩ := D_law.ex
  have e0 := hfa.symm.trans a0
  cases e0
  refine ⟨fd0, fun s v => ?_, fun base _ _ => ?_⟩
  · obtain ⟨⟨oc, od, kV, doc, pm, an, cdv, ct, osl, rfl, lk, hcd⟩, _⟩ := F0
    exact .of_eq rfl
  obtain ⟨fI, fdI, MkC, FI⟩ := CO.mill.ini
  obtain ⟨fJ, fdJ, MkG, FJ⟩ := CO.ground.ini
  have gG := PySem.W.mg_of X Gl CO.ground.g
  have C_common_divisor := ok_common_divisor (P := P) (w := w) (base := base)  D_common_divisor
  have C_fraction := ok_fraction (P := P) (w := w) (base := base)  D_fraction B C_common_divisor
  have C_plus := ok_plus (P := P) (w := w) (base := base)  D_plus C_fraction
  have C_scaled := ok_scaled (P := P) (w := w) (base := base)  D_scaled C_fraction
  have C_is_whole := ok_is_whole (P := P) (w := w) (base := base)  D_is_whole B
  have C_is_fraction := ok_is_fraction (P := P) (w := w) (base := base)  D_is_fraction B C_common_divisor C_is_whole
  have C_is_amount := ok_is_amount (P := P) (w := w) (base := base)  D_is_amount C_is_fraction
  have C_is_name := ok_is_name (P := P) (w := w) (base := base)  D_is_name B CC
  have C_is_number := ok_is_number (P := P) (w := w) (base := base)  D_is_number CC C_is_whole
  have C_is_stuff := ok_is_stuff (P := P) (w := w) (base := base)  D_is_stuff B C_is_name C_is_number
  have C_are_parts := ok_are_parts (P := P) (w := w) (base := base)  D_are_parts B C_is_name C_is_number
  have C_is_recipe := ok_is_recipe (P := P) (w := w) (base := base)  D_is_recipe B C_is_name C_are_parts
  have C_check_size := ok_check_size (P := P) (w := w) (base := base)  D_check_size B
  have M_Mill : Dv.Mak P w K mg base "Mill" C ["stuffs", "recipes"] 5 (spMillInit K C) := ⟨fI, fdI, gC, MkC, FI.binds fun _ _ _ _ _ _ us hl => match us, hl with | [_, _, _], _ => rfl, ok_mill_init FI MC B CC C_check_size C_is_stuff C_is_recipe⟩
  have C_numbers_of := ok_numbers_of (P := P) (w := w) (base := base)  D_numbers_of B MC
  have M_Ground : Dv.Mak P w K mg base "Ground" G ["mill"] 2 (spGround K C G) := ⟨fJ, fdJ, gG, MkG, FJ.binds fun _ _ _ _ _ _ us hl => match us, hl with | [_, _], _ => rfl, ok_ground_init FJ MC GC B C_numbers_of⟩
  have C_is_brew := ok_is_brew (P := P) (w := w) (base := base)  D_is_brew B NN MC C_is_amount
  have C_check_mill := ok_check_mill (P := P) (w := w) (base := base)  D_check_mill B gC IC
  have C_gains_of := ok_gains_of (P := P) (w := w) (base := base)  D_gains_of B NN MC GC M_Ground C_plus C_scaled
  have C_gain := ok_gain (P := P) (w := w) (base := base)  D_gain C_check_mill C_is_brew C_gains_of
  have C_is_loop := ok_is_loop (P := P) (w := w) (base := base)  D_is_loop C_check_mill C_is_brew C_gains_of
  have C_is_fair := ok_is_fair (P := P) (w := w) (base := base)  D_is_fair B NN GC M_Ground C_check_mill C_is_amount C_plus C_scaled
  have C__law_fraction := ok_law_fraction (P := P) (w := w) (base := base)  D__law_fraction B
  have C__law_sum := ok_law_sum (P := P) (w := w) (base := base)  D__law_sum C__law_fraction
  have C__law_worth := ok_law_worth (P := P) (w := w) (base := base)  D__law_worth B C__law_fraction C__law_sum
  have C__law_is_loop := ok_law_is_loop (P := P) (w := w) (base := base)  D__law_is_loop
  have C__law_moved := ok_law_moved (P := P) (w := w) (base := base)  D__law_moved B C__law_fraction C__law_sum
  have C__law_side := ok_law_side (P := P) (w := w) (base := base)  D__law_side B
  have C__law_gains := ok_law_gains (P := P) (w := w) (base := base)  D__law_gains B C__law_side
  have C__law_recipe := ok_law_recipe (P := P) (w := w) (base := base)  D__law_recipe
  have C__law_all_gains := ok_law_all_gains (P := P) (w := w) (base := base)  D__law_all_gains B C__law_moved C__law_gains C__law_recipe
  have C__law_is_fair := ok_law_is_fair (P := P) (w := w) (base := base)  D__law_is_fair C__law_worth C__law_gains
  have C__law_made := ok_law_made (P := P) (w := w) (base := base)  D__law_made B M_Mill
  have C__law_hash := ok_law_hash (P := P) (w := w) (base := base)  D__law_hash B
  have C__law_random := ok_law_random (P := P) (w := w) (base := base)  D__law_random B C__law_hash
  have C__law_cell := ok_law_cell (P := P) (w := w) (base := base)  D__law_cell B
  have C__law_generator := ok_law_generator (P := P) (w := w) (base := base)  D__law_generator B C__law_cell
  have C__law_sides_drawn := ok_law_sides_drawn (P := P) (w := w) (base := base)  D__law_sides_drawn B C__law_random
  have C__law_mill_drawn := ok_law_mill_drawn (P := P) (w := w) (base := base)  D__law_mill_drawn B C__law_random C__law_sides_drawn
  have C__law_brew_drawn := ok_law_brew_drawn (P := P) (w := w) (base := base)  D__law_brew_drawn B C__law_random C__law_fraction
  have X_check_mill := ok_check_millX (P := P) (w := w) (base := base)  D_check_mill B gC IC NC EM
  have C_is_brewM := ok_is_brewM (P := P) (w := w) (base := base) (C := C) D_is_brew B
  have C_is_brewQ := brewQ C_is_brew C_is_brewM
  have X_gainB := ok_gainB (P := P) (w := w) (base := base)  D_gain EB X_check_mill C_is_brewQ
  have X_gainM := ok_gainM (P := P) (w := w) (base := base)  D_gain X_check_mill
  have X_is_fairM := ok_is_fairM (P := P) (w := w) (base := base)  D_is_fair X_check_mill
  have X_is_loopM := ok_is_loopM (P := P) (w := w) (base := base)  D_is_loop X_check_mill
  have C_is_loopE := ok_is_loopE (P := P) (w := w) (base := base)  D_is_loop C_check_mill C_is_brewQ
  have C_is_fairE := ok_is_fairE (P := P) (w := w) (base := base)  D_is_fair B M_Ground C_check_mill
  have X_gain : Dv.CalX P w K mg base "gain" ["mill", "brew"] 5 (spGainX K C CM CB) := X_gainB.or X_gainM
  have C_is_loopQ : Dv.Cal P w K mg base "is_loop" ["mill", "value"] 5 (spIsLoopQ K C) := C_is_loop.or C_is_loopE
  have C_is_fairQ : Dv.Cal P w K mg base "is_fair" ["mill", "value"] 4 (spIsFairQ K C) := C_is_fair.or C_is_fairE
  have C__law_caught := ok_law_caught (P := P) (w := w) (base := base)  D__law_caught B ER X_gain X_is_fairM X_is_loopM
  have C__law_bent := ok_law_bent (P := P) (w := w) (base := base)  D__law_bent B
  have C__law_right := ok_law_right (P := P) (w := w) (base := base)  D__law_right B C__law_brew_drawn C__law_all_gains C_gain C_is_loopQ C__law_is_loop C__law_bent C__law_caught
  have C__law_prices_right := ok_law_prices_right (P := P) (w := w) (base := base)  D__law_prices_right B C__law_random C__law_fraction C_is_fairQ C__law_is_fair
  have key := ok_law (P := P) (w := w) (base := base) D_law B C__law_generator C__law_random C__law_mill_drawn C__law_made C__law_right C__law_prices_right C__law_caught M_Mill C_gain C_is_fairQ C_is_loopQ
  obtain ⟨f1, fd1, a1, kp1, b1, OK, oc1, od1, osl1, l1⟩ := key.ex
  rw [a0] at a1
  cases a1
  obtain ⟨oc, od, kV, doc, pm, an, cdv, ct, osl, e1, lk, hcd⟩ := F0.ex
  rw [l1] at lk
  cases lk
  exact OK
end
theorem walk {l : PySem.W.OpenLaw} {q : Program} {loose : List Str} {XP : (Str → Option Value) → Heap → Prop} {YP : World → Heap → Prop} {d : DefRec} {K : Params → PySem.W.Frag} (hn : l.most = some 63) (hdf : d.params.defaults = [])
    (hY : ∀ (w : World) (h : Heap), YP w h → (K w.params).In h)
    (F : ∀ (w : World) (mg : Str → Option Value) (fa : Addr) (h : Heap), (K w.params).In h → h.Ns mainGlobals mg → mg d.name = some (.ref fa) →
      ∃ fd : FuncData, (∀ (s : Shared) (u : Value), BindsTo s fd ⟨[u], []⟩ [("script", u)]) ∧ ∀ base : Heap, (K w.params).In base → base.Ns mainGlobals mg → FnOkG l.prog w (K w.params) mg base CX0 8 fa fd ["script"] (spLaw (K w.params))) :
    PySem.W.WalkO q loose XP YP l.row.toRowW d [] (fun f vs => PySem.call f vs) :=
  L2.walk_ofG (n := 63) (k := 8) (x := "script") (CX := fun _ => CX0) (sp := fun w => spLaw (K w.params)) hn (by decide) hdf ⟨rfl, by decide, by decide⟩ hY F (fun _ _ a ns hl _ hS => ⟨a, ns, rfl, hS, hl, fun _ => rfl⟩) fun _ _ _ _ _ z => z
end R3

set_option Elab.async false
set_option linter.all false
open PySem PySem.W PyProof.Rows
set_option maxRecDepth 100000 in
set_option maxHeartbeats 0 in
theorem PySem.Challenge.cw_wholemills_k30_brews_and_their_gains_holds : PySem.Challenge.rw_wholemills_k30_brews_and_their_gains.Holds := by
  w_on; o_law; k_head; (case hw => w_witness2)
  k_fill
  refine R3.walk (l := PySem.Challenge.rw_wholemills_k30_brews_and_their_gains) rfl rfl (fun w h Y => PySem.W.kIn_of Y) ?F
  case F =>
    intro w mg fa h KX G hmg
    refine' R3.all_mk KX G hmg ?ht ?Z ?W ?DD ?CO ?com ?eM ?eB ?oE ?ne ?neM ?neB ?hE ?gN ?lN
    (case ht => kernel_rfl)
    (case oE => refine' Hd.one_mk (cn := "MillError") KX G ?a ?l ?ga ?gg ?ha; (case a => k_is); (case l => k_is); (case ga => k_is); (case gg => k_is); (case ha => k_is))
    (case com => refine' Hd.Com.mk ?al ?opq (PySem.W.mg_none_of KX G ?noS) ?hn ?ht2; (case al => kernel_rfl); (case opq => k_is); (case noS => k_is); (case hn => k_is); (case ht2 => k_is))
    (case eM =>
      refine' Hd.ext_one (cn := "InvalidMill") (fld := "value") (p1 := R3.pp 0 0) (p2 := R3.pp 0 1) (p3 := R3.pp 0 2) (q := R3.qq 0) KX G ?com ?a ?l ?ga ?gg ?ha ?sa ?nb ?iC ?kC ?l1 ?c1 ?l2 ?v2 ?hf ?l3 ?l4 R3.tx0 Hd.bd_value ⟨by decide, by decide, by decide, by decide⟩
      (case com => refine' Hd.Com.mk ?al ?opq (PySem.W.mg_none_of KX G ?noS) ?hn ?ht2; (case al => kernel_rfl); (case opq => k_is); (case noS => k_is); (case hn => k_is); (case ht2 => k_is))
      (case a => k_is); (case l => k_is); (case ga => k_is); (case gg => k_is); (case ha => k_is); (case sa => k_is); (case nb => k_is); (case iC => k_is); (case kC => k_is)
      (case l1 => k_is); (case c1 => k_is); (case l2 => k_is); (case v2 => rfl); (case hf => kernel_rfl); (case l3 => k_is); (case l4 => k_is))
    (case eB =>
      refine' Hd.ext_one (cn := "InvalidBrew") (fld := "value") (p1 := R3.pp 1 0) (p2 := R3.pp 1 1) (p3 := R3.pp 1 2) (q := R3.qq 1) KX G ?com ?a ?l ?ga ?gg ?ha ?sa ?nb ?iC ?kC ?l1 ?c1 ?l2 ?v2 ?hf ?l3 ?l4 R3.tx1 Hd.bd_value ⟨by decide, by decide, by decide, by decide⟩
      (case com => refine' Hd.Com.mk ?al ?opq (PySem.W.mg_none_of KX G ?noS) ?hn ?ht2; (case al => kernel_rfl); (case opq => k_is); (case noS => k_is); (case hn => k_is); (case ht2 => k_is))
      (case a => k_is); (case l => k_is); (case ga => k_is); (case gg => k_is); (case ha => k_is); (case sa => k_is); (case nb => k_is); (case iC => k_is); (case kC => k_is)
      (case l1 => k_is); (case c1 => k_is); (case l2 => k_is); (case v2 => rfl); (case hf => kernel_rfl); (case l3 => k_is); (case l4 => k_is))
    (case CO =>
      refine' R3.ClsOf.mk ?mill ?ground ?m1 ?m2 ?m3 ?g1 ?g2 ?g3 ?g4 ?g5 ?g6 ?ha ?hm ?me ?n1 ?n2 ?n3 ?n4 ?n5 ?n6 ?n7
      (case mill => refine' Hd.cls_in ?g ?pg ?hd ?po ?sa ?mk ?i ?fn ?kc ?l ?c ?k; (case g => k_is); (case pg => k_is); (case hd => k_is); (case po => k_is); (case sa => k_is); (case mk => k_is); (case i => k_is); (case fn => k_is); (case kc => k_is); (case l => k_is); (case c => k_is); (case k => k_is))
      (case ground => refine' Hd.cls_in ?g ?pg ?hd ?po ?sa ?mk ?i ?fn ?kc ?l ?c ?k; (case g => k_is); (case pg => k_is); (case hd => k_is); (case po => k_is); (case sa => k_is); (case mk => k_is); (case i => k_is); (case fn => k_is); (case kc => k_is); (case l => k_is); (case c => k_is); (case k => k_is))
      (case m1 => k_is)
      (case m2 => k_is)
      (case m3 => k_is)
      (case g1 => k_is)
      (case g2 => k_is)
      (case g3 => k_is)
      (case g4 => k_is)
      (case g5 => k_is)
      (case g6 => k_is)
      (case ha => k_is)
      (case hm => k_is)
      (case me => first | k_is | kernel_rfl)
      (case n1 => first | k_is | kernel_rfl)
      (case n2 => first | k_is | kernel_rfl)
      (case n3 => first | k_is | kernel_rfl)
      (case n4 => first | k_is | kernel_rfl)
      (case n5 => first | k_is | kernel_rfl)
      (case n6 => first | k_is | kernel_rfl)
      (case n7 => first | k_is | kernel_rfl))
    (case Z => refine' R3.NoWords.mk ?z0 ?z1 ?z2 ?z3 ?z4 ?z5 ?z6 ?z7 ?z8 ?z9 ?z10 ?z11 ?z12 ?z13 ?z14; (case z0 => k_is); (case z1 => k_is); (case z2 => k_is); (case z3 => k_is); (case z4 => k_is); (case z5 => k_is); (case z6 => k_is); (case z7 => k_is); (case z8 => k_is); (case z9 => k_is); (case z10 => k_is); (case z11 => k_is); (case z12 => k_is); (case z13 => k_is); (case z14 => k_is))
    (case W => refine' R3.words_mk ?w0 ?w1 ?w2 ?w3 ?w4 ?w5; (case w0 => k_is); (case w1 => k_is); (case w2 => k_is); (case w3 => k_is); (case w4 => k_is); (case w5 => k_is))
    (case gN => k_is); (case lN => k_is); (case hE => k_is)
    (case ne => decide); (case neM => decide); (case neB => decide)
    (case DD =>
      refine' R3.DefsIn.mk ?d0 ?d1 ?d2 ?d3 ?d4 ?d5 ?d6 ?d7 ?d8 ?d9 ?d10 ?d11 ?d12 ?d13 ?d14 ?d15 ?d16 ?d17 ?d18 ?d19 ?d20 ?d21 ?d22 ?d23 ?d24 ?d25 ?d26 ?d27 ?d28 ?d29 ?d30 ?d31 ?d32 ?d33 ?d34 ?d35 ?d36 ?d37 ?d38 ?d39 ?d40 ?d41 ?d42
      (case d0 => refine' Hd.def_in ?a ?l ?c ?k; (case a => k_is); (case l => k_is); (case c => k_is); (case k => k_is))
      (case d1 => refine' Hd.def_in ?a ?l ?c ?k; (case a => k_is); (case l => k_is); (case c => k_is); (case k => k_is))
      (case d2 => refine' Hd.def_in ?a ?l ?c ?k; (case a => k_is); (case l => k_is); (case c => k_is); (case k => k_is))
      (case d3 => refine' Hd.def_in ?a ?l ?c ?k; (case a => k_is); (case l => k_is); (case c => k_is); (case k => k_is))
      (case d4 => refine' Hd.def_in ?a ?l ?c ?k; (case a => k_is); (case l => k_is); (case c => k_is); (case k => k_is))
      (case d5 => refine' Hd.def_in ?a ?l ?c ?k; (case a => k_is); (case l => k_is); (case c => k_is); (case k => k_is))
      (case d6 => refine' Hd.def_in ?a ?l ?c ?k; (case a => k_is); (case l => k_is); (case c => k_is); (case k => k_is))
      (case d7 => refine' Hd.def_in ?a ?l ?c ?k; (case a => k_is); (case l => k_is); (case c => k_is); (case k => k_is))
      (case d8 => refine' Hd.def_in ?a ?l ?c ?k; (case a => k_is); (case l => k_is); (case c => k_is); (case k => k_is))
      (case d9 => refine' Hd.def_in ?a ?l ?c ?k; (case a => k_is); (case l => k_is); (case c => k_is); (case k => k_is))
      (case d10 => refine' Hd.def_in ?a ?l ?c ?k; (case a => k_is); (case l => k_is); (case c => k_is); (case k => k_is))
      (case d11 => refine' Hd.def_in ?a ?l ?c ?k; (case a => k_is); (case l => k_is); (case c => k_is); (case k => k_is))
      (case d12 => refine' Hd.def_in ?a ?l ?c ?k; (case a => k_is); (case l => k_is); (case c => k_is); (case k => k_is))
      (case d13 => refine' Hd.def_in ?a ?l ?c ?k; (case a => k_is); (case l => k_is); (case c => k_is); (case k => k_is))
      (case d14 => refine' Hd.def_in ?a ?l ?c ?k; (case a => k_is); (case l => k_is); (case c => k_is); (case k => k_is))
      (case d15 => refine' Hd.def_in ?a ?l ?c ?k; (case a => k_is); (case l => k_is); (case c => k_is); (case k => k_is))
      (case d16 => refine' Hd.def_in ?a ?l ?c ?k; (case a => k_is); (case l => k_is); (case c => k_is); (case k => k_is))
      (case d17 => refine' Hd.def_in ?a ?l ?c ?k; (case a => k_is); (case l => k_is); (case c => k_is); (case k => k_is))
      (case d18 => refine' Hd.def_in ?a ?l ?c ?k; (case a => k_is); (case l => k_is); (case c => k_is); (case k => k_is))
      (case d19 => refine' Hd.def_in ?a ?l ?c ?k; (case a => k_is); (case l => k_is); (case c => k_is); (case k => k_is))
      (case d20 => refine' Hd.def_in ?a ?l ?c ?k; (case a => k_is); (case l => k_is); (case c => k_is); (case k => k_is))
      (case d21 => refine' Hd.def_in ?a ?l ?c ?k; (case a => k_is); (case l => k_is); (case c => k_is); (case k => k_is))
      (case d22 => refine' Hd.def_in ?a ?l ?c ?k; (case a => k_is); (case l => k_is); (case c => k_is); (case k => k_is))
      (case d23 => refine' Hd.def_in ?a ?l ?c ?k; (case a => k_is); (case l => k_is); (case c => k_is); (case k => k_is))
      (case d24 => refine' Hd.def_in ?a ?l ?c ?k; (case a => k_is); (case l => k_is); (case c => k_is); (case k => k_is))
      (case d25 => refine' Hd.def_in ?a ?l ?c ?k; (case a => k_is); (case l => k_is); (case c => k_is); (case k => k_is))
      (case d26 => refine' Hd.def_in ?a ?l ?c ?k; (case a => k_is); (case l => k_is); (case c => k_is); (case k => k_is))
      (case d27 => refine' Hd.def_in ?a ?l ?c ?k; (case a => k_is); (case l => k_is); (case c => k_is); (case k => k_is))
      (case d28 => refine' Hd.def_in ?a ?l ?c ?k; (case a => k_is); (case l => k_is); (case c => k_is); (case k => k_is))
      (case d29 => refine' Hd.def_in ?a ?l ?c ?k; (case a => k_is); (case l => k_is); (case c => k_is); (case k => k_is))
      (case d30 => refine' Hd.def_in ?a ?l ?c ?k; (case a => k_is); (case l => k_is); (case c => k_is); (case k => k_is))
      (case d31 => refine' Hd.def_in ?a ?l ?c ?k; (case a => k_is); (case l => k_is); (case c => k_is); (case k => k_is))
      (case d32 => refine' Hd.def_in ?a ?l ?c ?k; (case a => k_is); (case l => k_is); (case c => k_is); (case k => k_is))
      (case d33 => refine' Hd.def_in ?a ?l ?c ?k; (case a => k_is); (case l => k_is); (case c => k_is); (case k => k_is))
      (case d34 => refine' Hd.def_in ?a ?l ?c ?k; (case a => k_is); (case l => k_is); (case c => k_is); (case k => k_is))
      (case d35 => refine' Hd.def_in ?a ?l ?c ?k; (case a => k_is); (case l => k_is); (case c => k_is); (case k => k_is))
      (case d36 => refine' Hd.def_in ?a ?l ?c ?k; (case a => k_is); (case l => k_is); (case c => k_is); (case k => k_is))
      (case d37 => refine' Hd.def_in ?a ?l ?c ?k; (case a => k_is); (case l => k_is); (case c => k_is); (case k => k_is))
      (case d38 => refine' Hd.def_in ?a ?l ?c ?k; (case a => k_is); (case l => k_is); (case c => k_is); (case k => k_is))
      (case d39 => refine' Hd.def_in ?a ?l ?c ?k; (case a => k_is); (case l => k_is); (case c => k_is); (case k => k_is))
      (case d40 => refine' Hd.def_in ?a ?l ?c ?k; (case a => k_is); (case l => k_is); (case c => k_is); (case k => k_is))
      (case d41 => refine' Hd.def_in ?a ?l ?c ?k; (case a => k_is); (case l => k_is); (case c => k_is); (case k => k_is))
      (case d42 => refine' Hd.def_in ?a ?l ?c ?k; (case a => k_is); (case l => k_is); (case c => k_is); (case k => k_is)))
#print axioms PySem.Challenge.cw_wholemills_k30_brews_and_their_gains_holds

