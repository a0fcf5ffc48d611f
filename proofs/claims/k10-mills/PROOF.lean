import PyProof.Rows.All
import Wide.All
import OpenK.AllK
import Wide.FinOn
import PyProof.EqAt
import PyProof.EqKinds
import PyProof.TupleCall
import PyProof.ZipIter
import PyProof.Rows.CallKwBuiltin
import HandS.ForMost
import HandS.Zip
import HandS.Evl
import HandS.Walk
import HandS.WideBits
import HandS.Wide
import HandS.ForExc
import HandS.ExcSuper
import HandS.ExcValue
import HandS.ExcField
import HandS.IsInst
import KE.KExcIs
import HandS.RaiseMore
import KE.KExcSuper
import KE.KSuper
import HandS.Defaults
import PySem.Challenge.RW_wholemills_k10_mills_made
import HandS.Steps
import PyProof.Draws
import PyProof.EnumMake
import HandS.DictComp
import HandS.WordsDict
import KE.KDictList
import HandS.Sort
import HandS.Conv
import HandS.Codes
import KE.DataEq
import HandS.ExcOwn
import HandS.WordsExc
import HandS.CallSlots
import HandS.Style
import HandS.Iter
import HandS.Rev
import KE.KDictCopyH
import KE.KDictWalk
import HandS.ListItems
import HandS.OwnEq
import HandS.More
import PyProof.Rows.SeqMore
import PyProof.StrOps2
import HandS.ExcIs
set_option Elab.async false
set_option linter.all false
set_option maxRecDepth 100000
set_option maxHeartbeats 4000000
/-! zip(a, b, strict=True) of two lists of one length. -/
namespace PySem
namespace ZS
open Sem (wp)
abbrev kwS : List (Str × Value) := [(Str.ofString "strict", .bool true)]
theorem typeCall_zip (a b : Value) : checkTypeCall "zip" ⟨[a, b], kwS⟩ = pure () := by kernel_rfl
theorem newCall_zip (a b : Value) : checkBuiltinCall "zip.__new__" ⟨[.type "zip", a, b], kwS⟩ = pure () := by kernel_rfl
theorem args_init (a b c : Value) : argsOk "object.__init__" ⟨[a, b, c], kwS⟩ := by
  unfold argsOk; rw [signature?_of (id := "object.__init__") (n := ['_', '_', 't', 'i', 'n', 'i', '_', '_']) (o := ['t', 'c', 'e', 'j', 'b', 'o']) (by kernel_rfl) F.owner_object]; kernel_rfl
abbrev IsZipS (h : Heap) (z TI TO : Addr) (f0 : Value) : Prop :=
  h.get? z = some { cls := .type "zip", dict := none, data := .fields #[f0, .bool false, .bool true, .ref TI, .ref TO], slots := #[] }
section
variable {prog : Program} {w : World} {A : Around} {E : Value → Shared → Prop} {s : Shared}
theorem nextOrEnd_item {it l : Addr} {i : Nat} {items} {x : Value} {Q : Option Value → Shared → Prop} (hit : s.heap.IsListIter it l i)
    (hl : s.heap.IsList l items) (hx : items[i]? = some x)
    (hQ : ∀ h', h'.IsListIter it l (i + 1) → Heap.SameBut it s.heap h' → Q (some x) { s with heap := h' }) :
    wpAny (model prog w) A (Builtin.SmallTypes.nextOrEnd (.ref it)) Q E s := by
  unfold Builtin.SmallTypes.nextOrEnd
  refine wpAny_bind (wpAny_attempt ?_)
  exact wpAny_nextOf_list_item hit hl hx fun h' a b => wpAny_pure (hQ h' a b)
theorem nextOrEnd_end {it l : Addr} {i : Nat} {items} {Q : Option Value → Shared → Prop} (hh : A.handled = none)
    (hit : s.heap.IsListIter it l i) (hl : s.heap.IsList l items) (hx : items[i]? = none)
    (hQ : ∀ h', Heap.ExtBut it s.heap h' → Q none { s with heap := h' }) :
    wpAny (model prog w) A (Builtin.SmallTypes.nextOrEnd (.ref it)) Q E s := by
  unfold Builtin.SmallTypes.nextOrEnd
  refine wpAny_bind (wpAny_attempt ?_)
  refine wpAny_nextOf_list_end hh hit hl hx fun h' e hk he => ?_
  obtain ⟨o, ho, hc⟩ := he
  refine wpAny_bind (wpAny_isInstance (T := "StopIteration") (b := true) ⟨o, ho, hc⟩ isSubtype_stop ?_)
  exact wpAny_pure (hQ _ hk)

theorem if_n {α : Type} {c : Prop} {_ : Decidable c} {t e : Sem α} {Q : α → Shared → Prop} (hc : ¬ c) (h : wpAny (model prog w) A e Q E s) : wpAny (model prog w) A (if c then t else e) Q E s := by
  rw [if_neg hc]
  exact h
theorem stop_it {α : Type} {Q : α → Shared → Prop} (hh : A.handled = none)
    (hE : ∀ h' e, (∀ c o, s.heap.get? c = some o → h'.get? c = some o) → (∃ o, h'.get? e = some o ∧ o.cls = .type "StopIteration") → E (.ref e) { s with heap := h' }) :
    wpAny (model prog w) A (Builtin.SmallTypes.stopIteration : Sem α) Q E s := by
  show wpAny _ _ (newExc (.type "StopIteration") [] >>= _) _ _ _
  refine wpAny_bind ?_
  simp only [newExc, newTuple]
  refine wpAny_bind (wpAny_newObj_type ?_ (by size_fits))
  refine wpAny_bind (m := firstArgMember _ _) (wpAny_of_eq (a := Value.none) (by first | rfl | (simp only [firstArgMember]; rfl)) ?_)
  refine wpAny_newObj_type ?_ (by size_fits)
  simp only [raiseNew]
  refine wpAny_bind (wpAny_handled ?_)
  rw [hh]
  refine wpAny_bind (wpAny_pure (wpAny_throw ?_))
  exact hE _ _ (fun c o x => Heap.get?_push_of_some _ (Heap.get?_push_of_some _ x)) ⟨_, Heap.get?_push_size _ rfl, rfl⟩
theorem next_item {z TI TO i1 i2 l1 l2 : Addr} {k1 k2 : Nat} {xs ys : Array Value} {x y a b : Value} {Q : Value → Shared → Prop} (D : ZipApart z TI TO i1 i2 l1 l2)
    (hz : IsZipS s.heap z TI TO .none) (hTI : IsPair s.heap TI (.ref i1) (.ref i2)) (hTO : IsPair s.heap TO a b)
    (h1 : s.heap.IsListIter i1 l1 k1) (h2 : s.heap.IsListIter i2 l2 k2) (hl1 : s.heap.IsList l1 xs) (hl2 : s.heap.IsList l2 ys) (hx : xs[k1]? = some x) (hy : ys[k2]? = some y)
    (hQ : ∀ h', IsZipS h' z TI TO (rawInt s.heap.objs.size) → IsPair h' TO x y → h'.IsListIter i1 l1 (k1 + 1) → h'.IsListIter i2 l2 (k2 + 1) → IsPair h' s.heap.objs.size x y → h'.objs.size = s.heap.objs.size + 1 →
      (∀ c o, c ≠ z → c ≠ TO → c ≠ i1 → c ≠ i2 → s.heap.get? c = some o → h'.get? c = some o) → Q (.ref s.heap.objs.size) { s with heap := h' }) :
    wpAny (model prog w) A (Builtin.«zip.__next__» ⟨[.ref z], []⟩) (fun fin s' => ∃ v, fin = .done (.ret v) ∧ Q v s') E s := by
  show wpAny _ _ (field (.ref z) 2 >>= _) _ _ _
  refine wpAny_bind (wpAny_field hz rfl (x := .bool true) rfl ?_)
  show wpAny _ _ (field (.ref z) 3 >>= _) _ _ _
  refine wpAny_bind (wpAny_field hz rfl (x := .ref TI) rfl ?_)
  refine wpAny_bind (wpAny_seqItems hTI rfl ?_)
  show wpAny _ _ (Builtin.SmallTypes.ownedTupleIsFree (.ref z) >>= _) _ _ _
  refine wpAny_bind ?_
  unfold Builtin.SmallTypes.ownedTupleIsFree
  refine wpAny_bind (wpAny_field hz rfl (x := .none) rfl (wpAny_pure ?_))
  simp only [if_true]
  refine wpAny_bind (wpAny_rule ?_)
  refine wpAny_bind (wpAny_field hz rfl (x := .ref TO) rfl ?_)
  refine wpAny_bind (wpAny_setField_rec hz (by simp) fun h₁ hz₁ hs₁ => ?_)
  replace hz₁ : IsZipS h₁ z TI TO .ellipsis := hz₁
  refine wpAny_bind ?_
  simp only [List.zipIdx_cons, List.zipIdx_nil, List.forIn_cons, List.forIn_nil]
  refine wpAny_bind (wpAny_bind (wpAny_onRaise ?_))
  show wpAny _ _ (Builtin.SmallTypes.nextOrEnd (.ref i1)) _ _ _
  refine nextOrEnd_item (h1.extBut hs₁.extBut D.i1z) (hl1.extBut hs₁.extBut D.l1z) hx fun h₂ h1₂ hs₂ => ?_
  have hTO₂ : IsPair h₂ TO a b := hs₂.extBut _ _ D.TOi1 (hs₁.extBut _ _ D.TOz hTO)
  refine wpAny_bind (wpAny_seqItems hTO₂ rfl ?_)
  refine wpAny_bind (wpAny_updateSeq_pair hTO₂ fun h₃ hTO₃ hs₃ => ?_)
  replace hTO₃ : IsPair h₃ TO x b := hTO₃
  refine wpAny_bind (wpAny_letGo (wpAny_pure ?_))
  refine wpAny_bind (wpAny_bind (wpAny_onRaise ?_))
  show wpAny _ _ (Builtin.SmallTypes.nextOrEnd (.ref i2)) _ _ _
  refine nextOrEnd_item (((h2.extBut hs₁.extBut D.i2z).extBut hs₂.extBut D.i12.symm).extBut hs₃.extBut D.TOi2.symm)
    (((hl2.extBut hs₁.extBut D.l2z).extBut hs₂.extBut D.l2i1).extBut hs₃.extBut D.l2TO) hy fun h₄ h2₄ hs₄ => ?_
  have hTO₄ : IsPair h₄ TO x b := hs₄.extBut _ _ D.TOi2 hTO₃
  refine wpAny_bind (wpAny_seqItems hTO₄ rfl ?_)
  refine wpAny_bind (wpAny_updateSeq_pair hTO₄ fun h₅ hTO₅ hs₅ => ?_)
  replace hTO₅ : IsPair h₅ TO x y := hTO₅
  refine wpAny_bind (wpAny_letGo (wpAny_pure (wpAny_pure ?_)))
  refine wpAny_bind (wpAny_seqItems hTO₅ rfl ?_)
  refine wpAny_bind (wpAny_newTuple ?_)
  have hsz : h₅.objs.size = s.heap.objs.size := by rw [hs₅.1, hs₄.1, hs₃.1, hs₂.1, hs₁.1]
  have hz₅ : IsZipS h₅ z TI TO .ellipsis := hs₅.extBut _ _ D.TOz.symm (hs₄.extBut _ _ D.i2z.symm (hs₃.extBut _ _ D.TOz.symm (hs₂.extBut _ _ D.i1z.symm hz₁)))
  have hk₅ : ∀ c o, c ≠ z → c ≠ TO → c ≠ i1 → c ≠ i2 → s.heap.get? c = some o → h₅.get? c = some o := fun c o c1 c2 c3 c4 e =>
    hs₅.extBut _ _ c2 (hs₄.extBut _ _ c4 (hs₃.extBut _ _ c2 (hs₂.extBut _ _ c3 (hs₁.extBut _ _ c1 e))))
  have h1₅ : h₅.IsListIter i1 l1 (k1 + 1) := ((h1₂.extBut hs₃.extBut D.TOi1.symm).extBut hs₄.extBut D.i12).extBut hs₅.extBut D.TOi1.symm
  have h2₅ : h₅.IsListIter i2 l2 (k2 + 1) := h2₄.extBut hs₅.extBut D.TOi2.symm
  have hzlt : z < h₅.objs.size := Heap.lt_size hz₅
  have hTOlt : TO < h₅.objs.size := Heap.lt_size hTO₅
  have hi1lt : i1 < h₅.objs.size := by obtain ⟨_, e, _⟩ := h1₅; exact Heap.lt_size e
  have hi2lt : i2 < h₅.objs.size := by obtain ⟨_, e, _⟩ := h2₅; exact Heap.lt_size e
  show wpAny _ _ (Builtin.SmallTypes.ownedTupleHandOut (.ref z) (.ref h₅.objs.size) >>= _) _ _ _
  refine wpAny_bind ?_
  unfold Builtin.SmallTypes.ownedTupleHandOut
  have hz₆ : IsZipS (h₅.push { cls := .type "tuple", data := .seq #[x, y] }) z TI TO .ellipsis := Heap.get?_push_of_some _ hz₅
  refine wpAny_bind (wpAny_setField_rec hz₆ (by simp) fun h₇ hz₇ hs₇ => ?_)
  replace hz₇ : IsZipS h₇ z TI TO (rawInt h₅.objs.size) := hz₇
  refine wpAny_setField_rec hz₇ (by simp) fun h₈ hz₈ hs₈ => ?_
  replace hz₈ : IsZipS h₈ z TI TO (rawInt h₅.objs.size) := hz₈
  have up : ∀ c o, c ≠ z → h₅.get? c = some o → h₈.get? c = some o := fun c o c1 e => hs₈.extBut _ _ c1 (hs₇.extBut _ _ c1 (Heap.get?_push_of_some _ e))
  have hT₈ : IsPair h₈ h₅.objs.size x y := hs₈.extBut _ _ (Nat.ne_of_gt hzlt) (hs₇.extBut _ _ (Nat.ne_of_gt hzlt) (Heap.get?_push_size _ rfl))
  have hz8 : h₈.objs.size = h₅.objs.size + 1 := by rw [hs₈.1, hs₇.1, Heap.size_push]
  rw [hsz] at hz₈ hT₈ hz8
  refine wpAny_pure ⟨_, rfl, ?_⟩
  show Q (.ref h₅.objs.size) _
  rw [hsz]
  exact hQ h₈ hz₈ (up _ _ D.TOz hTO₅) (h1₅.at fun o e => up _ o D.i1z e) (h2₅.at fun o e => up _ o D.i2z e) hT₈ hz8 fun c o c1 c2 c3 c4 e => up c o c1 (hk₅ c o c1 c2 c3 c4 e)

theorem next_end {z TI TO i1 i2 l1 l2 : Addr} {k1 k2 : Nat} {xs ys : Array Value} {a b : Value} {Q : Fin → Shared → Prop} (hh : A.handled = none) (D : ZipApart z TI TO i1 i2 l1 l2)
    (hz : IsZipS s.heap z TI TO .none) (hTI : IsPair s.heap TI (.ref i1) (.ref i2)) (hTO : IsPair s.heap TO a b)
    (h1 : s.heap.IsListIter i1 l1 k1) (h2 : s.heap.IsListIter i2 l2 k2) (hl1 : s.heap.IsList l1 xs) (hl2 : s.heap.IsList l2 ys) (hx : xs[k1]? = none) (hy : ys[k2]? = none)
    (hE : ∀ h' e, (∀ c o, c ≠ z → c ≠ TO → c ≠ i1 → c ≠ i2 → s.heap.get? c = some o → h'.get? c = some o) → (∃ o, h'.get? e = some o ∧ o.cls = .type "StopIteration") → E (.ref e) { s with heap := h' }) :
    wpAny (model prog w) A (Builtin.«zip.__next__» ⟨[.ref z], []⟩) Q E s := by
  show wpAny _ _ (field (.ref z) 2 >>= _) _ _ _
  refine wpAny_bind (wpAny_field hz rfl (x := .bool true) rfl ?_)
  show wpAny _ _ (field (.ref z) 3 >>= _) _ _ _
  refine wpAny_bind (wpAny_field hz rfl (x := .ref TI) rfl ?_)
  refine wpAny_bind (wpAny_seqItems hTI rfl ?_)
  show wpAny _ _ (Builtin.SmallTypes.ownedTupleIsFree (.ref z) >>= _) _ _ _
  refine wpAny_bind ?_
  unfold Builtin.SmallTypes.ownedTupleIsFree
  refine wpAny_bind (wpAny_field hz rfl (x := .none) rfl (wpAny_pure ?_))
  simp only [if_true]
  refine wpAny_bind (wpAny_rule ?_)
  refine wpAny_bind (wpAny_field hz rfl (x := .ref TO) rfl ?_)
  refine wpAny_bind (wpAny_setField_rec hz (by simp) fun h₁ hz₁ hs₁ => ?_)
  replace hz₁ : IsZipS h₁ z TI TO .ellipsis := hz₁
  refine wpAny_bind ?_
  simp only [List.zipIdx_cons, List.zipIdx_nil, List.forIn_cons, List.forIn_nil]
  refine wpAny_bind (wpAny_bind (wpAny_onRaise ?_))
  show wpAny _ _ (Builtin.SmallTypes.nextOrEnd (.ref i1)) _ _ _
  refine nextOrEnd_end hh (h1.extBut hs₁.extBut D.i1z) (hl1.extBut hs₁.extBut D.l1z) hx fun h₂ hs₂ => ?_
  have hz₂ : IsZipS h₂ z TI TO .ellipsis := hs₂ _ _ D.i1z.symm hz₁
  refine wpAny_bind (wpAny_setField_rec hz₂ (by simp) fun h₃ hz₃ hs₃ => ?_)
  have k₃ : ∀ c o, c ≠ z → c ≠ i1 → s.heap.get? c = some o → h₃.get? c = some o := fun c o c1 c3 x => hs₃.extBut _ _ c1 (hs₂ _ _ c3 (hs₁.extBut _ _ c1 x))
  have hi2z : h₃.IsListIter i2 l2 k2 := h2.at fun o q => k₃ _ o D.i2z D.i12.symm q
  have hl2z : h₃.IsList l2 ys := hl2.at fun o q => k₃ _ o D.l2z D.l2i1 q
  refine wpAny_bind ?_
  refine wpAny_bind ?_
  simp only [List.drop_succ_cons, List.drop_zero, List.zipIdx_cons, List.zipIdx_nil]
  simp only [List.forIn_cons, List.forIn_nil]
  refine wpAny_bind (wpAny_bind ?_)
  refine nextOrEnd_end hh hi2z hl2z hy fun h₄ hs₄ => ?_
  refine wpAny_pure ?_
  refine wpAny_pure ?_
  refine wpAny_bind (wpAny_rule ?_)
  refine stop_it hh fun h₅ e k₅ he => ?_
  exact hE h₅ e (fun c o c1 _ c3 c4 x => k₅ _ _ (hs₄ _ _ c4 (k₃ _ _ c1 c3 x))) he
theorem pyNext_item {z TI TO i1 i2 l1 l2 : Addr} {k1 k2 : Nat} {xs ys : Array Value} {x y a b : Value} {Q : Option Value → Shared → Prop} (D : ZipApart z TI TO i1 i2 l1 l2)
    (hz : IsZipS s.heap z TI TO .none) (hTI : IsPair s.heap TI (.ref i1) (.ref i2)) (hTO : IsPair s.heap TO a b)
    (h1 : s.heap.IsListIter i1 l1 k1) (h2 : s.heap.IsListIter i2 l2 k2) (hl1 : s.heap.IsList l1 xs) (hl2 : s.heap.IsList l2 ys) (hx : xs[k1]? = some x) (hy : ys[k2]? = some y)
    (hQ : ∀ h', IsZipS h' z TI TO (rawInt s.heap.objs.size) → IsPair h' TO x y → h'.IsListIter i1 l1 (k1 + 1) → h'.IsListIter i2 l2 (k2 + 1) → IsPair h' s.heap.objs.size x y → h'.objs.size = s.heap.objs.size + 1 →
      (∀ c o, c ≠ z → c ≠ TO → c ≠ i1 → c ≠ i2 → s.heap.get? c = some o → h'.get? c = some o) → Q (some (.ref s.heap.objs.size)) { s with heap := h' }) :
    wpAny (model prog w) A (pyNext (.ref z)) Q E s := by
  have hT : s.TypeIs (.ref z) "zip" := ⟨_, hz, rfl⟩
  unfold pyNext
  exact wpAny_bind (wpAny_attempt (wpAny_callSpecial?_slot (name := Str.ofString "__next__") hT F.slot_zip_next
    (wpAny_call_entry F.slot_zip_next hT F.entry_zip_next
      (next_item D hz hTI hTO h1 h2 hl1 hl2 hx hy fun h' a1 a2 a3 a4 a5 a6 a7 => wpAny_pure (hQ h' a1 a2 a3 a4 a5 a6 a7)) (F.args_zip_next_1 _))))
theorem pyNext_end {z TI TO i1 i2 l1 l2 : Addr} {k1 k2 : Nat} {xs ys : Array Value} {a b : Value} {Q : Option Value → Shared → Prop} (hh : A.handled = none) (D : ZipApart z TI TO i1 i2 l1 l2)
    (hz : IsZipS s.heap z TI TO .none) (hTI : IsPair s.heap TI (.ref i1) (.ref i2)) (hTO : IsPair s.heap TO a b)
    (h1 : s.heap.IsListIter i1 l1 k1) (h2 : s.heap.IsListIter i2 l2 k2) (hl1 : s.heap.IsList l1 xs) (hl2 : s.heap.IsList l2 ys) (hx : xs[k1]? = none) (hy : ys[k2]? = none)
    (hQ : ∀ h', (∀ c o, c ≠ z → c ≠ TO → c ≠ i1 → c ≠ i2 → s.heap.get? c = some o → h'.get? c = some o) → Q none { s with heap := h' }) : wpAny (model prog w) A (pyNext (.ref z)) Q E s := by
  have hT : s.TypeIs (.ref z) "zip" := ⟨_, hz, rfl⟩
  unfold pyNext
  refine wpAny_bind (wpAny_attempt (wpAny_callSpecial?_slot (name := Str.ofString "__next__") hT F.slot_zip_next
    (wpAny_call_entry F.slot_zip_next hT F.entry_zip_next (next_end hh D hz hTI hTO h1 h2 hl1 hl2 hx hy fun h' e hk he => ?_) (F.args_zip_next_1 _))))
  obtain ⟨o, ho, hc⟩ := he
  refine wpAny_bind (wpAny_isInstance (T := "StopIteration") (b := true) ⟨o, ho, hc⟩ isSubtype_stop ?_)
  exact wpAny_pure (hQ _ hk)
theorem letGo_zip {elts : List Expr} {x1} {pos : Pos} {z TI TO T : Addr} {Q : Unit → Shared → Prop} (hz : IsZipS s.heap z TI TO (rawInt T))
    (hQ : ∀ h', IsZipS h' z TI TO .none → Heap.SameBut z s.heap h' → Q () { s with heap := h' }) :
    wpAny (model prog w) A (letOwnedTupleGo (.Tuple elts x1 pos) (.ref z) (.ref T)) Q E s := by
  unfold letOwnedTupleGo
  refine wpAny_bind (wpAny_load hz ?_)
  show wpAny _ _ (if (["enumerate", "zip", "dict_itemiterator", "dict_reverseitemiterator", "odict_iterator", "itertools.zip_longest", "itertools.pairwise"].contains "zip" &&
      (#[rawInt T, .bool false, .bool true, .ref TI, .ref TO] : Array Value)[0]? == some (rawInt T)) = true then _ else _) Q E s
  rw [if_pos (by simp)]
  refine wpAny_bind (wpAny_rule ?_)
  show wpAny _ _ (setField (.ref z) 0 .none) Q E s
  exact wpAny_setField_rec hz (by simp) fun h' hz' hs' => hQ h' hz' hs'
theorem pyIter_zip {z TI TO : Addr} {f0 : Value} {Q : Value → Shared → Prop} (hz : IsZipS s.heap z TI TO f0) (h : Q (.ref z) s) : wpAny (model prog w) A (pyIter (.ref z)) Q E s := by
  have hT : s.TypeIs (.ref z) "zip" := ⟨_, hz, rfl⟩
  refine wpAny_pyIter_slot hT F.slot_zip_iter (wpAny_call_entry F.slot_zip_iter hT F.entry_zip_iter ?_ (F.args_zip_iter_1 _))
  show wpAny _ _ (ret (.ref z)) _ _ s
  exact wpAny_pure ⟨_, rfl, "zip", _, hT, F.slot_zip_next.lookup, h⟩
end
abbrev zH5 (h : Heap) (l1 l2 : Addr) : Heap := (zipH4 h l1 l2).push { cls := .type "zip", data := .fields #[.none, .bool false, .bool true, .ref (zipH2 h l1 l2).objs.size, .ref (zipH3 h l1 l2).objs.size] }
theorem meets_new (l1 l2 : Addr) (xs ys : Array Value) :
    Meets (Builtin.«zip.__new__» ⟨[.type "zip", .ref l1, .ref l2], kwS⟩) (fun _ R s => s.heap.IsList l1 xs ∧ s.heap.IsList l2 ys ∧
      R (.ok (.ret (.ref (zipH4 s.heap l1 l2).objs.size))) { s with heap := zH5 s.heap l1 l2 }) :=
  .of_wp fun prog w A R s h => by
    obtain ⟨hp, g, d, tk, os⟩ := s; obtain ⟨hl1, hl2, h⟩ := h
    have hsub := sub_zip
    have hL1 : Heap.IsList (Shared.heap ⟨hp, g, d, tk, os⟩) l1 xs := hl1
    have hL2 : Heap.IsList (Shared.heap ⟨hp.push { cls := .type "list_iterator", data := .fields #[.ref l1, .int 0 0] }, g, d, tk, os⟩) l2 ys := Heap.IsList.push hl2 _
    wp_walk using wpAny_pyIter_list hL1, wpAny_pyIter_list hL2
    exact ⟨_, rfl, h⟩
theorem object_init_meets {T newId : String} {self : Value} {rest : List Value} {kw : List (Str × Value)} (hl : typeLookup (.type T) "__init__" = pure (some (.builtin "object.__init__")))
    (hm : Bind.madeBy (.type T) = pure (some newId)) (hne : (some newId != some "object.__new__") = true) :
    Meets (Builtin.«object.__init__» ⟨self :: rest, kw⟩) (fun _ R s => s.TypeIs self T ∧ R (.ok (.ret .none)) s) := by
  refine Meets.of_wp fun prog w A R s hs => ?_
  obtain ⟨hT, hq⟩ := hs
  cases rest with
  | nil =>
    cases kw with
    | nil => exact wpAny_pure ⟨_, rfl, hq⟩
    | cons k ks =>
      repeat (any_goals (first | assumption | wp_step))
      exact ⟨_, rfl, hq⟩
  | cons a rest =>
    repeat (any_goals (first | assumption | wp_step))
    exact ⟨_, rfl, hq⟩
section
variable {prog : Program} {w : World} {A : Around} {E : Value → Shared → Prop} {s : Shared}
theorem callType_meets {T newId initId : String} {Bn Bi : Builtin} {args : List Value} {kw : List (Str × Value)} {S : Spec} {Q Q₁ : Value → Shared → Prop} (ft : TypeCalled T newId initId)
    (hct : checkTypeCall T ⟨args, kw⟩ = pure ()) (hcn : checkBuiltinCall newId ⟨.type T :: args, kw⟩ = pure ())
    (entryN : entryFor table newId = some Bn) (entryI : entryFor table initId = some Bi) (g : Meets (Bn ⟨.type T :: args, kw⟩) S)
    (h : S A.in1 (wants Q₁ E) s)
    (hnext : ∀ obj s₁, Q₁ obj s₁ → s₁.TypeIs obj T ∧ argsOk initId ⟨obj :: args, kw⟩ ∧ ∃ Si, Meets (Bi ⟨obj :: args, kw⟩) Si ∧ Si A.in1 (wants (fun r s₂ => r = .none ∧ Q obj s₂) E) s₁) :
    wpAny (model prog w) A (call (.type T) args kw) Q E s := by
  obtain ⟨c, tl, hmro⟩ := ft.mro
  have hmade := ft.made
  have hsub := ft.sub
  refine wpAny_call (codeAny_of_tree ?_)
  show wpAny _ _ (callAny (.type T) _) _ _ _
  refine wpAny_pure ⟨Code.quiet_builtin _ (by decide +kernel), codeAny_builtin F.entry_type_call ?_⟩
  rw [Around.under_plain (weight_type_call_type T args kw) (units_type_call_type T args kw)]
  have h1 := ft.notType
  have h2 := ft.canCreate
  repeat (any_goals (first | assumption | wp_step))
  refine codeAny_mono (codeAny_call_builtin ft.plain entryN (wpAny_of_eq hcn (g prog w A.in1 _ s h))) fun r s₁ hr => ?_
  cases r with
  | error e => exact hr
  | ok fl =>
    cases fl with
    | ret obj =>
      obtain ⟨hT, hok, Si, gi, hsi⟩ := hnext _ _ hr
      have hli := ft.init.lookup
      have hbi := ft.init.bind obj
      repeat (any_goals (first | assumption | wp_step))
      refine codeAny_mono (codeAny_call_builtin ft.init.plain entryI (ft.init.check _ _ _ _ _ _ _ _ hT hok (gi prog w A.in1 _ s₁ hsi))) fun r₂ s₂ hr₂ => ?_
      cases r₂ with
      | error e => exact hr₂
      | ok fl₂ =>
        cases fl₂ with
        | ret r =>
          obtain ⟨rfl, hq⟩ := hr₂
          repeat (any_goals (first | assumption | wp_step))
        | _ => exact hr₂.elim
    | _ => exact hr.elim
theorem call_zipS {l1 l2 : Addr} {xs ys : Array Value} {Q : Value → Shared → Prop} (hl1 : s.heap.IsList l1 xs) (hl2 : s.heap.IsList l2 ys)
    (h : ∀ h', IsZipS h' (s.heap.objs.size + 4) (s.heap.objs.size + 2) (s.heap.objs.size + 3) .none → IsPair h' (s.heap.objs.size + 2) (.ref s.heap.objs.size) (.ref (s.heap.objs.size + 1)) →
      IsPair h' (s.heap.objs.size + 3) .none .none → h'.IsListIter s.heap.objs.size l1 0 → h'.IsListIter (s.heap.objs.size + 1) l2 0 → h'.objs.size = s.heap.objs.size + 5 →
      (∀ c o, s.heap.get? c = some o → h'.get? c = some o) → Q (.ref (s.heap.objs.size + 4)) { s with heap := h' }) :
    wpAny (model prog w) A (call (.type "zip") [.ref l1, .ref l2] kwS) Q E s := by
  refine callType_meets F.called_zip (typeCall_zip _ _) (newCall_zip _ _) F.entry_zip_new F.entry_object_init (meets_new l1 l2 xs ys) (Q₁ := fun obj s₁ => s₁.TypeIs obj "zip" ∧ Q obj s₁) ⟨hl1, hl2, ?_⟩ fun obj _ hq =>
    ⟨hq.1, args_init obj _ _, _, object_init_meets F.called_zip.init.lookup F.called_zip.made (by decide), hq.1, rfl, hq.2⟩
  have z1 : (zipH1 s.heap l1).objs.size = s.heap.objs.size + 1 := Heap.size_push ..
  have z2 : (zipH2 s.heap l1 l2).objs.size = s.heap.objs.size + 2 := by rw [Heap.size_push, z1]
  have z3 : (zipH3 s.heap l1 l2).objs.size = s.heap.objs.size + 3 := by rw [Heap.size_push, z2]
  have z4 : (zipH4 s.heap l1 l2).objs.size = s.heap.objs.size + 4 := by rw [Heap.size_push, z3]
  have z5 : (zH5 s.heap l1 l2).objs.size = s.heap.objs.size + 5 := by rw [Heap.size_push, z4]
  have g5 : (zH5 s.heap l1 l2).get? (zipH4 s.heap l1 l2).objs.size = some _ := Heap.get?_push_size _ rfl
  have g4 : (zH5 s.heap l1 l2).get? (zipH3 s.heap l1 l2).objs.size = some _ := Heap.get?_push_of_some _ (Heap.get?_push_size _ rfl)
  have g3 : (zH5 s.heap l1 l2).get? (zipH2 s.heap l1 l2).objs.size = some _ := Heap.get?_push_of_some _ (Heap.get?_push_of_some _ (Heap.get?_push_size _ rfl))
  have g2 : (zH5 s.heap l1 l2).get? (zipH1 s.heap l1).objs.size = some _ := Heap.get?_push_of_some _ (Heap.get?_push_of_some _ (Heap.get?_push_of_some _ (Heap.get?_push_size _ rfl)))
  have g1 : (zH5 s.heap l1 l2).get? s.heap.objs.size = some _ := Heap.get?_push_of_some _ (Heap.get?_push_of_some _ (Heap.get?_push_of_some _ (Heap.get?_push_of_some _ (Heap.get?_push_size _ rfl))))
  show _ ∧ _
  rw [z2, z3, z4] at g5
  rw [z1, z2] at g3
  rw [z3] at g4
  rw [z1] at g2
  rw [z4]
  exact ⟨⟨_, g5, rfl⟩, h _ g5 g3 g4 ⟨_, g1, rfl, rfl⟩ ⟨_, g2, rfl, rfl⟩ z5 fun c o x =>
    Heap.get?_push_of_some _ (Heap.get?_push_of_some _ (Heap.get?_push_of_some _ (Heap.get?_push_of_some _ (Heap.get?_push_of_some _ x))))⟩
end
end ZS
end PySem

set_option Elab.async false
set_option linter.all false
set_option maxRecDepth 100000
set_option maxHeartbeats 4000000
namespace PySem
namespace ZS
section
variable {M : Model} {A : Around} {E : Value → Shared → Prop} {s : Shared} {env : Env}
theorem callWith_kwT {pos : Pos} {T : String} {e : Expr} {rest : List Expr} {kws : List Keyword} {Q : Value → Shared → Prop}
    (h : wpAny M A (spliced (backTo pos (starEach (e :: rest) env))) (fun vs s₁ => wpAny M A (evalAll ((backToKw pos (keywordEach kws env)).map (·.2)))
      (fun kvs s₂ => wpAny M A (call (.type T) vs (((backToKw pos (keywordEach kws env)).filterMap (·.1)).zip kvs)) Q E s₂) E s₁) E s)
    (he : backTo pos (starEach (e :: rest) env) = (false, eval e env) :: backTo pos (starEach rest env) := by rfl)
    (hplain : (backTo pos (starEach (e :: rest) env)).any (·.1) = false := by rfl)
    (hall : (backToKw pos (keywordEach kws env)).all (·.1.isSome) = true := by rfl)
    (hkw : (backToKw pos (keywordEach kws env)).any (·.1.isNone) = false := by rfl) :
    wpAny M A (callWith pos (.type T) [] (backTo pos (starEach (e :: rest) env)) (backToKw pos (keywordEach kws env))) Q E s := by
  have h2 : wpAny M A (evalArgs (.type T) true (backTo pos (starEach (e :: rest) env)) (backToKw pos (keywordEach kws env))) (fun a s₁ => wpAny M A (call (.type T) ([] ++ a.pos) a.kw) Q E s₁) E s := by
    rw [he] at h ⊢
    exact PyProof.Rows.evalArgs_kwB hall h
  unfold callWith
  refine wpAny_bind (wpAny_holding (wpAny_mono h2 (fun a s₁ h₁ => wpAny_bind (wpAny_standAt ?_)) fun _ _ x => x))
  simp only [hplain, hkw, Bool.or_false]
  refine wpAny_bind (wpAny_pure ?_)
  exact wpAny_bind (wpAny_mono h₁ (fun r s₂ hr => wpAny_bind (wpAny_holding (wpAny_point (wpAny_pure hr)))) fun _ _ x => x)
end
end ZS
end PySem
namespace L2
open PySem PySem.Spec PyProof.Rows
/-- the lists at a and b, of one length, as they stand at each turn -/
def Itzs (K : PySem.W.Frag) (a b : Addr) : It :=
  ⟨fun i H => ∃ (xs ys : List V) (x y : V), SqL K H a xs ∧ SqL K H b ys ∧ xs[i]? = some x ∧ ys[i]? = some y,
    fun i H v H' => ∃ T x y, v = .ref T ∧ H T = none ∧ H' = upd H T (.tup [x, y]) ∧ (∀ xs, SqL K H a xs → xs[i]? = some x) ∧ ∀ ys, SqL K H b ys → ys[i]? = some y,
    fun i H => ∃ xs ys : List V, SqL K H a xs ∧ SqL K H b ys ∧ (xs.length ≤ i ∧ ys.length ≤ i)⟩
theorem turn_zipS {P : Program} {w : World} {K : PySem.W.Frag} {elts : List Expr} {kk : Nat} {tpos : Pos} {a b z TI TO i1 i2 : Addr} (D : ZipApart z TI TO i1 i2 a b) :
    Turn P w K (.Tuple elts kk tpos) (Itzs K a b) [z, TI, TO, i1, i2] z (fun i h => ZS.IsZipS h z TI TO .none ∧ IsPair h TI (.ref i1) (.ref i2) ∧ (∃ x y, IsPair h TO x y) ∧ h.IsListIter i1 a i ∧ h.IsListIter i2 b i) where
  mem := by simp
  obj := fun i h st c hc => by
    obtain ⟨hz, hTI, ⟨x, y, hTO⟩, ⟨o1, e1, _, d1⟩, ⟨o2, e2, _, d2⟩⟩ := st
    have e' : c = z ∨ c = TI ∨ c = TO ∨ c = i1 ∨ c = i2 := by simpa using hc
    rcases e' with q | q | q | q | q
    · rw [q]; exact ⟨_, hz, fun v q => nomatch q⟩
    · rw [q]; exact ⟨_, hTI, fun v q => nomatch q⟩
    · rw [q]; exact ⟨_, hTO, fun v q => nomatch q⟩
    · rw [q]; exact ⟨o1, e1, fun v q => by rw [d1] at q; cases q⟩
    · rw [q]; exact ⟨o2, e2, fun v q => by rw [d2] at q; cases q⟩
  keep := fun i h h' st k => by
    obtain ⟨hz, hTI, ⟨x, y, hTO⟩, h1, h2⟩ := st
    exact ⟨k z (by simp) _ hz, k TI (by simp) _ hTI, ⟨x, y, k TO (by simp) _ hTO⟩, h1.at fun o q => k i1 (by simp) o q, h2.at fun o q => k i2 (by simp) o q⟩
  item := by
    intro X hP hw hK hc i pins s σ H E I hf st hg
    subst hP hw hK
    obtain ⟨hz, hTI, ⟨x0, y0, hTO⟩, h1, h2⟩ := st
    obtain ⟨xs, ys, x, y, hqx, hqy, hx, hy⟩ := hg
    obtain ⟨its, rv, p, _⟩ := I.list hqx
    obtain ⟨its2, rv2, p2, _⟩ := I.list hqy
    obtain ⟨u, hu, ru⟩ := rv.get hx
    obtain ⟨u2, hu2, ru2⟩ := rv2.get hy
    have hzl : z < s.heap.objs.size := Heap.lt_size hz
    refine ZS.pyNext_item D hz hTI hTO h1 h2 p.isList p2.isList (x := u) (y := u2) (by simpa using hu) (by simpa using hu2) fun h' z' TO' h1' h2' hT hsz hk => ?_
    refine ⟨_, rfl, ZS.letGo_zip (s := { s with heap := h' }) z' fun h'' z'' sb => ?_⟩
    have hT2 : h''.get? s.heap.objs.size = some { cls := .type "tuple", data := .seq #[u, u2] } := (sb.2 _ (Nat.ne_of_gt hzl)).trans hT
    have new : ObjOk X.prog X.w (upd H s.heap.objs.size (.tup [x, y])) h'' s.heap.objs.size (.tup [x, y]) :=
      ⟨by show 2 ≤ sizeLine; decide, [u, u2], .cons ru (.cons ru2 .nil), ⟨_, hT2, rfl, _, rfl⟩⟩
    have I1 : Inv X pins σ (upd H s.heap.objs.size (.tup [x, y])) { s with heap := h'' } :=
      I.turnedNew (t' := s.toks) (ch := [z, TI, TO, i1, i2]) (fun c o hb q => (sb.2 c (fun q' => hb (by simp [q']))).trans (hk c o (fun q' => hb (by simp [q'])) (fun q' => hb (by simp [q'])) (fun q' => hb (by simp [q'])) (fun q' => hb (by simp [q'])) q)) hf (Nat.le_refl _) new
    refine ⟨.ref s.heap.objs.size, _, I1, rfl, ⟨_, x, y, rfl, I.hok.fresh (Nat.le_refl _), rfl, fun l hl => by rw [I.list_inj hl hqx]; exact hx, fun l hl => by rw [I.list_inj hl hqy]; exact hy⟩, ⟨z'', ?_, ⟨u, u2, ?_⟩, ?_, ?_⟩, fun c hcm => ?_⟩
    · exact (sb.2 _ D.TIz).trans (hk _ _ D.TIz D.TITO D.TIi1 D.TIi2 hTI)
    · exact (sb.2 _ D.TOz).trans TO'
    · exact h1'.at fun o q => (sb.2 _ D.i1z).trans q
    · exact h2'.at fun o q => (sb.2 _ D.i2z).trans q
    · have hlt : c < s.heap.objs.size := by
        have e' : c = z ∨ c = TI ∨ c = TO ∨ c = i1 ∨ c = i2 := by simpa using hcm
        rcases e' with q | q | q | q | q
        · rw [q]; exact hzl
        · rw [q]; exact Heap.lt_size hTI
        · rw [q]; exact Heap.lt_size hTO
        · rw [q]; obtain ⟨_, e1, _⟩ := h1; exact Heap.lt_size e1
        · rw [q]; obtain ⟨_, e2, _⟩ := h2; exact Heap.lt_size e2
      rw [upd_ne (Nat.ne_of_lt hlt)]
      exact (hf c hcm).1
  done := by
    intro X hP hw hK hc i pins s σ H E I hf st hg
    subst hP hw hK
    obtain ⟨hz, hTI, ⟨x0, y0, hTO⟩, h1, h2⟩ := st
    obtain ⟨xs, ys, hqx, hqy, hend, hend2⟩ := hg
    obtain ⟨its, rv, p, _⟩ := I.list hqx
    obtain ⟨its2, rv2, p2, _⟩ := I.list hqy
    have l1 := rv.length
    have l2 := rv2.length
    have e1 : its.toArray[i]? = none := by simp; omega
    have e2 : its2.toArray[i]? = none := by simp; omega
    exact ZS.pyNext_end (I.ok.hd hc) D hz hTI hTO h1 h2 p.isList p2.isList e1 e2 fun h' hk => ⟨rfl, I.turnedL (t' := s.toks) (ch := [z, TI, TO, i1, i2]) (fun c o hb q =>
      hk c o (fun q' => hb (by simp [q'])) (fun q' => hb (by simp [q'])) (fun q' => hb (by simp [q'])) (fun q' => hb (by simp [q'])) q) hf⟩
  self := fun A i s Q E st h => ZS.pyIter_zip st.1 h
def iZipS (K : PySem.W.Frag) (ta : TA) : TI := fun σ H R => ta σ H fun vs H1 => ∃ a b xs ys, vs = [.ref a, .ref b] ∧ SqL K H1 a xs ∧ SqL K H1 b ys ∧ R (Itzs K a b) H1
theorem pi_zipS {X : Cx} {e e2 : Expr} {ta : TA} {p pos tpos cp kp : Pos} {elts : List Expr} {kk ck : Nat} (hg : Gl X "zip") (hm : X.mg "zip" = none) (ha : PA X [e, e2] ta)
    (hs : backTo pos (starEach [e, e2] X.env) = (false, eval e X.env) :: backTo pos (starEach [e2] X.env) := by rfl) (hpl : (backTo pos (starEach [e, e2] X.env)).any (·.1) = false := by rfl) :
    PI X (.Tuple elts kk tpos) (.Call (.Name "zip" p) [e, e2] [⟨some "strict", .Constant (.bool true) ck cp, kp⟩] pos) (iZipS X.K ta) := by
  refine ⟨fun pins s σ H R I h => ?_⟩
  refine wpAny_Call_Name_kw (ld_blt I hg hm PyProof.Rows.boot_zip (ZS.callWith_kwT (thn (ha.run pos pins s σ H _ I h) fun us s1 ⟨vs, H1, I1, r1, q1⟩ => ?_) hs hpl))
  refine PyProof.Rows.kws_cons ?_
  refine wpAny_pure (PyProof.Rows.kws_nil ?_)
  obtain ⟨a, b, xs, ys, ex, hqx, hqy, q⟩ := q1
  subst ex
  cases r1 with
  | cons r rr =>
    cases rr with
    | cons r' rr =>
      cases rr
      cases r
      cases r'
      obtain ⟨its, rv, p1, _⟩ := I1.list hqx
      obtain ⟨its2, rv2, p2, _⟩ := I1.list hqy
      have la : a < s1.heap.objs.size := p1.lt
      have lb : b < s1.heap.objs.size := p2.lt
      refine ZS.call_zipS p1.isList p2.isList fun h' hz hTI hTO h1 h2 hsz hk => ZS.pyIter_zip hz ?_
      have I2 : Inv X pins σ H1 { s1 with heap := h' } := I1.kept (t' := s1.toks) hk
      refine ⟨s1.heap.objs.size + 4, [s1.heap.objs.size + 4, s1.heap.objs.size + 2, s1.heap.objs.size + 3, s1.heap.objs.size, s1.heap.objs.size + 1], _, _, H1, rfl, I2, turn_zipS (PySem.W.ktu_apart s1.heap.objs.size a b la lb), ⟨hz, hTI, ⟨_, _, hTO⟩, h1, h2⟩, fun c hcm => ?_, q⟩
      have e' : c = s1.heap.objs.size + 4 ∨ c = s1.heap.objs.size + 2 ∨ c = s1.heap.objs.size + 3 ∨ c = s1.heap.objs.size ∨ c = s1.heap.objs.size + 1 := by simpa using hcm
      have hle : s1.heap.objs.size ≤ c := by
        rcases e' with z | z | z | z | z
        · rw [z]; exact Nat.le_add_right _ _
        · rw [z]; exact Nat.le_add_right _ _
        · rw [z]; exact Nat.le_add_right _ _
        · rw [z]; exact Nat.le_refl _
        · rw [z]; exact Nat.le_add_right _ _
      exact I1.fpOk hle (I1.hok.fresh hle)
end L2

set_option Elab.async false
set_option linter.all false
set_option maxRecDepth 100000
set_option maxHeartbeats 4000000
/-! Readings on data: F the part of the heap that stays as it is, H the whole. -/
namespace Dv
open PySem L2 Evl
/-- from F, H to F', H': nothing that was there has changed; what F gained is new in H -/
structure Gr (F H F' H' : Hp) : Prop where
  fx : Ex F F'
  fh : Ex F' H'
  hx : Ex H H'
  fr : ∀ a, F a = none → F' a ≠ none → H a = none
theorem Gr.refl {F H : Hp} (e : Ex F H) : Gr F H F H := ⟨Ex.refl F, e, Ex.refl H, fun a h1 h2 => absurd h1 h2⟩
theorem ex_none {H H' : Hp} {a : Addr} (e : Ex H H') (h : H' a = none) : H a = none := fresh_back e h
theorem Gr.trans {F H F1 H1 F2 H2 : Hp} (a : Gr F H F1 H1) (b : Gr F1 H1 F2 H2) : Gr F H F2 H2 :=
  ⟨a.fx.trans b.fx, b.fh, a.hx.trans b.hx, fun x h1 h2 => by
    cases h : F1 x with
    | none => exact ex_none a.hx (b.fr x h h2)
    | some o => exact a.fr x h1 (by rw [h]; exact fun z => nomatch z)⟩
theorem Gr.new {F H : Hp} {p : Addr} {o : HO} (e : Ex F H) (h : H p = none) : Gr F H (upd F p o) (upd H p o) :=
  ⟨Ex.new (ex_none e h), fun a u ha => by
    by_cases q : a = p
    · subst q
      rw [upd_same] at ha ⊢
      exact ha
    · rw [upd_ne q] at ha ⊢
      exact e a u ha, Ex.new h, fun a h1 h2 => by
    by_cases q : a = p
    · rw [q]; exact h
    · rw [upd_ne q] at h2
      exact absurd h1 h2⟩
/-- an object of H alone -/
theorem Gr.only {F H : Hp} {p : Addr} {o : HO} (e : Ex F H) (h : H p = none) : Gr F H F (upd H p o) :=
  ⟨Ex.refl F, fun a u ha => by rw [upd_ne (ne_of_none (e a u ha) h)]; exact e a u ha, Ex.new h, fun a h1 h2 => absurd h1 h2⟩
/-- an object that is new since H and not of F' may change -/
theorem Gr.mut {F H F' H' : Hp} {p : Addr} {o : HO} (g : Gr F H F' H') (h : H p = none) (hf : F' p = none) : Gr F H F' (upd H' p o) :=
  ⟨g.fx, Ex.mut g.fh hf, Ex.mut g.hx h, g.fr⟩
/-- and may be taken into F' as it stands -/
theorem Gr.take {F H F' H' : Hp} {p : Addr} {o : HO} (g : Gr F H F' H') (h : H p = none) (hf : F' p = none) (hp : H' p = some o) : Gr F H (upd F' p o) H' :=
  ⟨fun a u ha => by rw [upd_ne (ne_of_none (g.fx a u ha) hf)]; exact g.fx a u ha, fun a u ha => by
    by_cases q : a = p
    · rw [q] at ha ⊢
      rw [upd_same] at ha
      cases ha
      exact hp
    · rw [upd_ne q] at ha
      exact g.fh a u ha, g.hx, fun a h1 h2 => by
    by_cases q : a = p
    · rw [q]; exact h
    · rw [upd_ne q] at h2
      exact g.fr a h1 h2⟩
def uni (F1 F' : Hp) : Hp := fun a => match F1 a with | some o => some o | none => F' a
theorem ex_uni1 (F1 F' : Hp) : Ex F1 (uni F1 F') := fun a o h => by unfold uni; rw [h]
theorem ex_uni2 {F1 F' H : Hp} (e1 : Ex F1 H) (e2 : Ex F' H) : Ex F' (uni F1 F') := fun a o h => by
  unfold uni
  cases q : F1 a with
  | none => exact h
  | some u =>
    have := e1 a u q
    rw [e2 a o h] at this
    exact congrArg some (Option.some.inj this).symm
theorem uni_ex {F1 F' H : Hp} (e1 : Ex F1 H) (e2 : Ex F' H) : Ex (uni F1 F') H := fun a o h => by
  unfold uni at h
  cases q : F1 a with
  | none => rw [q] at h; exact e2 a o h
  | some u => rw [q] at h; cases h; exact e1 a _ q
theorem Gr.weak {F F1 H F' H' : Hp} (e : Ex F F1) (e1 : Ex F1 H) (g : Gr F H F' H') : Gr F1 H (uni F1 F') H' :=
  ⟨ex_uni1 _ _, uni_ex (e1.trans g.hx) g.fh, g.hx, fun a h1 h2 => by
    unfold uni at h2
    rw [h1] at h2
    cases q : F a with
    | none => exact g.fr a q h2
    | some o => rw [e a o q] at h1; cases h1⟩
theorem Gr.keep {F H F' H' : Hp} {p : Addr} {o : HO} (g : Gr F H F' H') (h : H p = some o) (hf : F p = none) : H' p = some o ∧ F' p = none :=
  ⟨g.hx p o h, by
    cases q : F' p with
    | none => rfl
    | some u =>
      have := g.fr p hf (by rw [q]; exact fun z => nomatch z)
      rw [h] at this
      cases this⟩
section
variable {K : PySem.W.Frag} {σ : L2.St} {F F1 H H1 : Hp}
mutual
theorem dp_ex (e : Ex F F1) : ∀ {d : PyData} {v : V}, Dp K F v d → Dp K F1 v d
  | .none, _, h => by cases h; exact .non
  | .bool b, _, h => by cases h; exact .bl b
  | .int i, _, h => by cases h; exact .int i
  | .str x, _, h => by cases h; exact .str x
  | .list ds, _, h => by
    cases h with
    | lst hs ha => exact .lst (ex_l e hs) (dps_ex e ha)
  | .tuple ds, _, h => by
    cases h with
    | tup hs ha => exact .tup (ex_t e hs) (dps_ex e ha)
  | .dict _, _, h => by cases h
theorem dps_ex (e : Ex F F1) : ∀ {ds : List PyData} {vs : List V}, DpAll K F vs ds → DpAll K F1 vs ds
  | [], _, h => by cases h; exact .nil
  | d :: ds, _, h => by
    cases h with
    | cons h1 h2 => exact .cons (dp_ex e h1) (dps_ex e h2)
end
theorem dps_len : ∀ {ds : List PyData} {vs : List V}, DpAll K F vs ds → vs.length = ds.length
  | [], _, h => by cases h; rfl
  | d :: ds, _, h => by
    cases h with
    | cons h1 h2 => rw [List.length_cons, List.length_cons, dps_len h2]
theorem dps_at : ∀ {ds : List PyData} {vs : List V} {i : Nat} {d : PyData}, DpAll K F vs ds → ds[i]? = some d → ∃ v, vs[i]? = some v ∧ Dp K F v d
  | [], _, _, _, _, e => by cases e
  | d :: ds, _, i, _, h, e => by
    cases h with
    | cons h1 h2 =>
      cases i with
      | zero => cases e; exact ⟨_, rfl, h1⟩
      | succ i => exact dps_at (i := i) h2 e
theorem dps_app : ∀ {ds es : List PyData} {vs ws : List V}, DpAll K F vs ds → DpAll K F ws es → DpAll K F (vs ++ ws) (ds ++ es)
  | [], _, _, _, h, h' => by cases h; exact h'
  | d :: ds, _, _, _, h, h' => by
    cases h with
    | cons h1 h2 => exact .cons h1 (dps_app h2 h')

/-! ### what evaluates to what -/
variable (K) in
def EvD (te : TE) (σ : L2.St) (F : Hp) (d : PyData) : Prop := ∀ H, Ex F H → ∀ Q : VK, (∀ v F' H', Gr F H F' H' → Dp K F' v d → Q v H') → te σ H Q
variable (K) in
/-- a new list, not yet of F' -/
def EvL (te : TE) (σ : L2.St) (F : Hp) (ds : List PyData) : Prop := ∀ H, Ex F H → ∀ Q : VK, (∀ p vs F' H', Gr F H F' H' → H p = none → F' p = none → H' p = some (.lst vs) → DpAll K F' vs ds → Q (.ref p) H') → te σ H Q
def EtD (tt : TT) (σ : L2.St) (F : Hp) (b : Bool) : Prop := ∀ H, Ex F H → ∀ Q : Bool → Hp → Prop, (∀ F' H', Gr F H F' H' → Q b H') → tt σ H Q
variable (K) in
def EaD (ta : TA) (σ : L2.St) (F : Hp) (ds : List PyData) : Prop := ∀ H, Ex F H → ∀ Q : List V → Hp → Prop, (∀ vs F' H', Gr F H F' H' → DpAll K F' vs ds → Q vs H') → ta σ H Q
def EoD (to : TO) (σ : L2.St) (F : Hp) (o : Option Int) : Prop := ∀ H, Ex F H → ∀ Q : Option Int → Hp → Prop, (∀ F' H', Gr F H F' H' → Q o H') → to σ H Q
variable {te ta tb : TE} {d a b : PyData} {ds : List PyData}
theorem EvD.mono (e : Ex F F1) (h : EvD K te σ F d) : EvD K te σ F1 d := fun H eH Q q => h H (e.trans eH) Q fun v F' H' g hv => q v _ H' (g.weak e eH) (dp_ex (ex_uni2 (eH.trans g.hx) g.fh) hv)
theorem EtD.mono {tt : TT} {b : Bool} (e : Ex F F1) (h : EtD tt σ F b) : EtD tt σ F1 b := fun H eH Q q => h H (e.trans eH) Q fun F' H' g => q _ H' (g.weak e eH)
theorem EoD.mono {tt : TO} {b : Option Int} (e : Ex F F1) (h : EoD tt σ F b) : EoD tt σ F1 b := fun H eH Q q => h H (e.trans eH) Q fun F' H' g => q _ H' (g.weak e eH)
theorem EaD.mono {ta : TA} (e : Ex F F1) (h : EaD K ta σ F ds) : EaD K ta σ F1 ds := fun H eH Q q => h H (e.trans eH) Q fun v F' H' g hv => q v _ H' (g.weak e eH) (dps_ex (ex_uni2 (eH.trans g.hx) g.fh) hv)
theorem EvL.mono (e : Ex F F1) (h : EvL K te σ F ds) : EvL K te σ F1 ds := fun H eH Q q => h H (e.trans eH) Q fun p vs F' H' g h1 h2 h3 h4 => q p vs _ H' (g.weak e eH) h1 (by
  unfold uni
  rw [ex_none eH h1]
  exact h2) h3 (dps_ex (ex_uni2 (eH.trans g.hx) g.fh) h4)
theorem EvL.ev (h : EvL K te σ F ds) : EvD K te σ F (.list ds) := fun H eH Q q => h H eH Q fun p vs F' H' g h1 h2 h3 h4 =>
  q _ _ _ (g.take h1 h2 h3) (.lst (sq_of upd_same) (dps_ex (Ex.new h2) h4))
theorem ev_var {i : Nat} {v : V} (h : σ[i]? = some (some v)) (hv : Dp K F v d) : EvD K (tVar i) σ F d := fun H eH Q q => ⟨v, h, q v F H (Gr.refl eH) hv⟩
theorem ev_c {v : V} (hv : Dp K F v d) : EvD K (tC v) σ F d := fun H eH Q q => q v F H (Gr.refl eH) hv
theorem ev_op {r : R2} (ha : EvD K ta σ F a) (hb : EvD K tb σ F b)
    (hr : ∀ v u F1 H1, Ex F F1 → Ex F1 H1 → Dp K F1 v a → Dp K F1 u b → ∀ Q : VK, (∀ x F' H', Gr F1 H1 F' H' → Dp K F' x d → Q x H') → r v u H1 Q) : EvD K (tOp r ta tb) σ F d := fun H eH Q q =>
  ha H eH _ fun v F1 H1 g1 hv => (hb.mono g1.fx) H1 g1.fh _ fun u F2 H2 g2 hu => hr v u F2 H2 (g1.fx.trans g2.fx) g2.fh (dp_ex g2.fx hv) hu Q fun x F' H' g3 hx => q x F' H' (g1.trans (g2.trans g3)) hx
theorem ev_un {r : V → Hp → VK → Prop} (ha : EvD K ta σ F a)
    (hr : ∀ v F1 H1, Ex F F1 → Ex F1 H1 → Dp K F1 v a → ∀ Q : VK, (∀ x F' H', Gr F1 H1 F' H' → Dp K F' x d → Q x H') → r v H1 Q) : EvD K (tUn r ta) σ F d := fun H eH Q q =>
  ha H eH _ fun v F1 H1 g1 hv => hr v F1 H1 g1.fx g1.fh hv Q fun x F' H' g3 hx => q x F' H' (g1.trans g3) hx
theorem ea_nil : EaD K tNil σ F [] := fun H eH Q q => q [] F H (Gr.refl eH) .nil
theorem ea_cons {tr : TA} (ha : EvD K ta σ F a) (hr : EaD K tr σ F ds) : EaD K (tCons ta tr) σ F (a :: ds) := fun H eH Q q =>
  ha H eH _ fun v F1 H1 g1 hv => (hr.mono g1.fx) H1 g1.fh _ fun vs F2 H2 g2 hvs => q _ F2 H2 (g1.trans g2) (.cons (dp_ex g2.fx hv) hvs)
theorem ev_tup {ta : TA} (h : EaD K ta σ F ds) (hl : ds.length ≤ 100000) : EvD K (tTup ta) σ F (.tuple ds) := fun H eH Q q =>
  h H eH _ fun vs F1 H1 g1 hv => ⟨by rw [dps_len hv]; exact sz_of hl, fun p hp => q _ _ _ (g1.trans (Gr.new g1.fh hp)) (.tup (st_of upd_same) (dps_ex (Ex.new (ex_none g1.fh hp)) hv))⟩
theorem el_lst {ta : TA} (h : EaD K ta σ F ds) (hl : ds.length ≤ 100000) : EvL K (tLst ta) σ F ds := fun H eH Q q =>
  h H eH _ fun vs F1 H1 g1 hv => ⟨by rw [dps_len hv]; exact sz_of hl, fun p hp => q p vs F1 _ (g1.trans (Gr.only g1.fh hp)) (ex_none g1.hx hp) (ex_none g1.fh hp) upd_same hv⟩
theorem eo_none : EoD tNoPart σ F none := fun H eH Q q => q F H (Gr.refl eH)
theorem eo_some {i : Int} (h : EvD K te σ F (.int i)) : EoD (tPart te) σ F (some i) := fun H eH Q q => h H eH _ fun v F1 H1 g1 hv => by
  cases hv
  exact ⟨i, rfl, q F1 H1 g1⟩
end
end Dv

set_option Elab.async false
set_option linter.all false
set_option maxRecDepth 100000
set_option maxHeartbeats 4000000
namespace Dv
open PySem L2 Evl
section
variable {K : PySem.W.Frag} {σ : L2.St} {F F1 H H1 : Hp} {te ta tb : TE} {d a b : PyData} {ds es : List PyData} {i j : Int} {tt tu : TT} {p q : Bool}
/-! ### numbers -/
theorem ev_int (i : Int) : EvD K (tC (.int i)) σ F (.int i) := ev_c (.int i)
theorem ev_str (x : Str) : EvD K (tC (.str x)) σ F (.str x) := ev_c (.str x)
theorem ev_bl (b : Bool) : EvD K (tC (.bl b)) σ F (.bool b) := ev_c (.bl b)
theorem ev_non : EvD K (tC .non) σ F .none := ev_c .non
theorem ev_I0 {g : Int → Int → V} {k : PyData} (hk : ∀ F, Dp K F (g i j) k) (ha : EvD K ta σ F (.int i)) (hb : EvD K tb σ F (.int j)) : EvD K (tOp (rI0 g) ta tb) σ F k :=
  ev_op ha hb fun v u F1 H1 _ e hv hu Q q => by
    cases hv
    cases hu
    exact ⟨i, j, rfl, rfl, q _ F1 H1 (Gr.refl e) (hk F1)⟩
theorem ev_I {C : Int → Int → Prop} {g : Int → Int → V} {k : PyData} (hc : C i j) (hk : ∀ F, Dp K F (g i j) k) (ha : EvD K ta σ F (.int i)) (hb : EvD K tb σ F (.int j)) : EvD K (tOp (rI C g) ta tb) σ F k :=
  ev_op ha hb fun v u F1 H1 _ e hv hu Q q => by
    cases hv
    cases hu
    exact ⟨i, j, rfl, rfl, hc, q _ F1 H1 (Gr.refl e) (hk F1)⟩
theorem ev_U {g : Int → V} {k : PyData} (hk : ∀ F, Dp K F (g i) k) (ha : EvD K ta σ F (.int i)) : EvD K (tUn (rU g) ta) σ F k :=
  ev_un ha fun v F1 H1 _ e hv Q q => by
    cases hv
    exact ⟨i, rfl, q _ F1 H1 (Gr.refl e) (hk F1)⟩
theorem ev_eqI (ha : EvD K ta σ F (.int i)) (hb : EvD K tb σ F (.int j)) : EvD K (tOp rEq ta tb) σ F (.bool (i == j)) :=
  ev_op ha hb fun v u F1 H1 _ e hv hu Q q => by
    cases hv
    cases hu
    refine ⟨rfl, q _ F1 H1 (Gr.refl e) ?_⟩
    rw [dec_int]
    exact .bl _
theorem ev_neI (ha : EvD K ta σ F (.int i)) (hb : EvD K tb σ F (.int j)) : EvD K (tOp rNe ta tb) σ F (.bool (i != j)) :=
  ev_op ha hb fun v u F1 H1 _ e hv hu Q q => by
    cases hv
    cases hu
    refine ⟨rfl, q _ F1 H1 (Gr.refl e) ?_⟩
    rw [dec_int]
    exact .bl _
/-! ### tests -/
theorem et_test (h : EvD K te σ F (.bool p)) : EtD (tTest te) σ F p := fun H e Q q => h H e _ fun v F' H' g hv => by
  cases hv
  exact ⟨p, rfl, q F' H' g⟩
theorem et_B (h : EvD K te σ F (.bool p)) : EtD (tB te) σ F p := fun H e Q q => h H e _ fun v F' H' g hv => by
  cases hv
  exact ⟨p, rfl, q F' H' g⟩
theorem et_and (h1 : EtD tt σ F p) (h2 : p = true → EtD tu σ F q) : EtD (tAnd tt tu) σ F (p && q) := fun H e Q k => h1 H e _ fun F1 H1 g1 => by
  cases p with
  | true =>
    show tu σ H1 Q
    exact ((h2 rfl).mono g1.fx) H1 g1.fh Q fun F2 H2 g2 => k F2 H2 (g1.trans g2)
  | false =>
    show Q false H1
    exact k F1 H1 g1
theorem et_or (h1 : EtD tt σ F p) (h2 : p = false → EtD tu σ F q) : EtD (tOr tt tu) σ F (p || q) := fun H e Q k => h1 H e _ fun F1 H1 g1 => by
  cases p with
  | true =>
    show Q true H1
    exact k F1 H1 g1
  | false =>
    show tu σ H1 Q
    exact ((h2 rfl).mono g1.fx) H1 g1.fh Q fun F2 H2 g2 => k F2 H2 (g1.trans g2)
theorem et_not (h : EtD tt σ F p) : EtD (tNot tt) σ F (!p) := fun H e Q k => h H e _ fun F1 H1 g1 => k F1 H1 g1
theorem et_is (h : EtD tt σ F p) (e : p = q) : EtD tt σ F q := e ▸ h
theorem ev_is (h : EvD K te σ F a) (e : a = b) : EvD K te σ F b := e ▸ h
theorem el_is (h : EvL K te σ F ds) (e : ds = es) : EvL K te σ F es := e ▸ h
theorem ev_andV (h1 : EvD K ta σ F (.bool p)) (h2 : p = true → EvD K tb σ F (.bool q)) : EvD K (tAndV ta tb) σ F (.bool (p && q)) := fun H e Q k => h1 H e _ fun v F1 H1 g1 hv => by
  cases hv
  refine ⟨p, rfl, ?_⟩
  cases p with
  | true =>
    show tb σ H1 Q
    exact ((h2 rfl).mono g1.fx) H1 g1.fh Q fun v F2 H2 g2 hv => k v F2 H2 (g1.trans g2) hv
  | false =>
    show Q (.bl false) H1
    exact k _ F1 H1 g1 (.bl _)
theorem ev_orV (h1 : EvD K ta σ F (.bool p)) (h2 : p = false → EvD K tb σ F (.bool q)) : EvD K (tOrV ta tb) σ F (.bool (p || q)) := fun H e Q k => h1 H e _ fun v F1 H1 g1 hv => by
  cases hv
  refine ⟨p, rfl, ?_⟩
  cases p with
  | true =>
    show Q (.bl true) H1
    exact k _ F1 H1 g1 (.bl _)
  | false =>
    show tb σ H1 Q
    exact ((h2 rfl).mono g1.fx) H1 g1.fh Q fun v F2 H2 g2 hv => k v F2 H2 (g1.trans g2) hv
theorem ev_notV (h1 : EvD K ta σ F (.bool p)) : EvD K (tNotV ta) σ F (.bool (!p)) := fun H e Q k => h1 H e _ fun v F1 H1 g1 hv => by
  cases hv
  exact ⟨p, rfl, k _ F1 H1 g1 (.bl _)⟩
theorem ev_if (h : EtD tt σ F p) (h1 : p = true → EvD K ta σ F d) (h2 : p = false → EvD K tb σ F d) : EvD K (tIf tt ta tb) σ F d := fun H e Q k => h H e _ fun F1 H1 g1 => by
  cases p with
  | true =>
    show ta σ H1 Q
    exact ((h1 rfl).mono g1.fx) H1 g1.fh Q fun v F2 H2 g2 hv => k v F2 H2 (g1.trans g2) hv
  | false =>
    show tb σ H1 Q
    exact ((h2 rfl).mono g1.fx) H1 g1.fh Q fun v F2 H2 g2 hv => k v F2 H2 (g1.trans g2) hv
/-! ### sequences -/
theorem dps_atI {vs : List V} (h : DpAll K F vs ds) (e : atI ds i = some d) : ∃ v, atI vs i = some v ∧ Dp K F v d := by
  unfold atI at e ⊢
  rw [dps_len h]
  cases q : ixN ds.length i with
  | none => rw [q] at e; cases e
  | some j =>
    rw [q] at e
    exact dps_at h e
theorem ev_ixL (ha : EvD K ta σ F (.list ds)) (hb : EvD K tb σ F (.int i)) (e : atI ds i = some d) : EvD K (tOp (rIxL K) ta tb) σ F d :=
  ev_op ha hb fun v u F1 H1 _ eH hv hu Q q => by
    cases hv with
    | lst hs hd =>
      cases hu
      obtain ⟨v, hv, hd⟩ := dps_atI hd e
      exact ⟨_, _, i, v, rfl, rfl, ex_l eH hs, hv, q v F1 H1 (Gr.refl eH) hd⟩
theorem ev_ixT (ha : EvD K ta σ F (.tuple ds)) (hb : EvD K tb σ F (.int i)) (e : atI ds i = some d) : EvD K (tOp (rIxT K) ta tb) σ F d :=
  ev_op ha hb fun v u F1 H1 _ eH hv hu Q q => by
    cases hv with
    | tup hs hd =>
      cases hu
      obtain ⟨v, hv, hd⟩ := dps_atI hd e
      exact ⟨_, _, i, v, rfl, rfl, ex_t eH hs, hv, q v F1 H1 (Gr.refl eH) hd⟩
theorem ev_ix (ha : EvD K ta σ F a) (hb : EvD K tb σ F (.int i)) (h : ∃ ds, (a = .list ds ∨ a = .tuple ds) ∧ atI ds i = some d) : EvD K (tOp (rIx K) ta tb) σ F d :=
  ev_op ha hb fun v u F1 H1 _ eH hv hu Q q => by
    obtain ⟨ds, rfl | rfl, e⟩ := h
    · cases hv with
      | lst hs hd =>
        cases hu
        obtain ⟨v, hv, hd⟩ := dps_atI hd e
        exact .inl ⟨_, _, i, v, rfl, rfl, ex_l eH hs, hv, q v F1 H1 (Gr.refl eH) hd⟩
    · cases hv with
      | tup hs hd =>
        cases hu
        obtain ⟨v, hv, hd⟩ := dps_atI hd e
        exact .inr (.inl ⟨_, _, i, v, rfl, rfl, ex_t eH hs, hv, q v F1 H1 (Gr.refl eH) hd⟩)
theorem ev_ixS {x : Str} {c : Nat} (ha : EvD K ta σ F (.str x)) (hb : EvD K tb σ F (.int i)) (hz : x.length ≤ 100000) (e : atI x.cps.toList i = some c) : EvD K (tOp rIxS ta tb) σ F (.str ⟨#[c]⟩) :=
  ev_op ha hb fun v u F1 H1 _ eH hv hu Q q => by
    cases hv
    cases hu
    exact ⟨x, i, c, rfl, rfl, sz_of hz, e, q _ F1 H1 (Gr.refl eH) (.str _)⟩
/-- == of data -/
theorem ev_eqD (ha : EvD K ta σ F a) (hb : EvD K tb σ F b) (sa : SeqAt.shaped a = true) (sb : SeqAt.shaped b = true) : EvD K (tOp (rEqD K) ta tb) σ F (.bool (PyData.eqv a b)) :=
  ev_op ha hb fun v u F1 H1 _ eH hv hu Q q => ⟨a, b, dp_ex eH hv, dp_ex eH hu, sa, sb, q _ F1 H1 (Gr.refl eH) (.bl _)⟩
theorem ev_neD (ha : EvD K ta σ F a) (hb : EvD K tb σ F b) (sa : SeqAt.shaped a = true) (sb : SeqAt.shaped b = true) : EvD K (tOp (rNeD K) ta tb) σ F (.bool (!PyData.eqv a b)) :=
  ev_op ha hb fun v u F1 H1 _ eH hv hu Q q => ⟨a, b, dp_ex eH hv, dp_ex eH hu, sa, sb, q _ F1 H1 (Gr.refl eH) (.bl _)⟩
theorem ev_isN (ha : EvD K ta σ F a) : EvD K (tIsN ta) σ F (.bool (match a with | .none => true | _ => false)) := fun H e Q k => ha H e _ fun v F1 H1 g1 hv => by
  refine k _ F1 H1 g1 ?_
  cases hv <;> exact .bl _
theorem ev_notN (ha : EvD K ta σ F a) : EvD K (tNotN ta) σ F (.bool (match a with | .none => false | _ => true)) := fun H e Q k => ha H e _ fun v F1 H1 g1 hv => by
  refine k _ F1 H1 g1 ?_
  cases hv <;> exact .bl _
/-! ### built-in calls -/
theorem ev_cb {r : List V → Hp → VK → Prop} {tas : TA} (h : EaD K tas σ F ds)
    (hr : ∀ vs F1 H1, Ex F F1 → Ex F1 H1 → DpAll K F1 vs ds → ∀ Q : VK, (∀ x F' H', Gr F1 H1 F' H' → Dp K F' x d → Q x H') → r vs H1 Q) : EvD K (tCB r tas) σ F d := fun H eH Q q =>
  h H eH _ fun vs F1 H1 g1 hv => hr vs F1 H1 g1.fx g1.fh hv Q fun x F' H' g3 hx => q x F' H' (g1.trans g3) hx
theorem ev_call {sp : Sp} {dvs : List V} {E : XK} {tas : TA} (h : EaD K tas σ F ds)
    (hr : ∀ vs F1 H1, Ex F F1 → Ex F1 H1 → DpAll K F1 vs ds → ∀ Q : VK, (∀ x F' H', Gr F1 H1 F' H' → Dp K F' x d → Q x H') → sp (vs ++ dvs) H1 Q E) : EvD K (tCall sp dvs E tas) σ F d := fun H eH Q q =>
  h H eH _ fun vs F1 H1 g1 hv => hr vs F1 H1 g1.fx g1.fh hv Q fun x F' H' g3 hx => q x F' H' (g1.trans g3) hx
/-- a def that answers data to data: told by f where the arguments are as pre says -/
def spD (K : PySem.W.Frag) (f : List PyData → PyData → Prop) : Sp := fun vs H Q _ => ∃ F ds d, Ex F H ∧ DpAll K F vs ds ∧ f ds d ∧ ∀ v F' H', Gr F H F' H' → Dp K F' v d → Q v H'
theorem ev_callD {f : List PyData → PyData → Prop} {E : XK} {tas : TA} (h : EaD K tas σ F ds) (hf : f ds d) : EvD K (tCall (spD K f) [] E tas) σ F d :=
  ev_call h fun vs F1 H1 _ e hv Q q => ⟨F1, ds, d, e, by rw [List.append_nil]; exact hv, hf, q⟩
/-- one that makes a new list -/
def spN (K : PySem.W.Frag) (f : List PyData → List PyData → Prop) : Sp := fun vs H Q _ => ∃ F ds es, Ex F H ∧ DpAll K F vs ds ∧ f ds es ∧ ∀ p ws F' H', Gr F H F' H' → H p = none → F' p = none → H' p = some (.lst ws) → DpAll K F' ws es → Q (.ref p) H'
theorem el_callN {f : List PyData → List PyData → Prop} {E : XK} {tas : TA} (h : EaD K tas σ F ds) (hf : f ds es) : EvL K (tCall (spN K f) [] E tas) σ F es := fun H eH Q q =>
  h H eH _ fun vs F1 H1 g1 hv => ⟨F1, ds, es, g1.fh, by rw [List.append_nil]; exact hv, hf, fun p ws F' H' g2 h1 h2 h3 h4 => q p ws F' H' (g1.trans g2) (ex_none g1.hx h1) h2 h3 h4⟩
/-! ### walks -/
variable (K) in
def WD (J : It) (F : Hp) (ds : List PyData) : Prop := ∃ G Y, Walk J ds.length G Y ∧ (∀ H, Ex F H → G H) ∧ ∀ F1 i H x H', i < ds.length → Ex F F1 → Ex F1 H → Y i H x H' → ∃ F2 d, ds[i]? = some d ∧ Gr F1 H F2 H' ∧ Dp K F2 x d
variable (K) in
def ItD (wi : TI) (σ : L2.St) (F : Hp) (ds : List PyData) : Prop := ∀ H, Ex F H → ∀ R : It → Hp → Prop, (∀ J F' H', Gr F H F' H' → WD K J F' ds → R J H') → wi σ H R
/-- a target: what it sets of a datum -/
theorem lc_rule {α : Type} {wi : TI} {g : TG} {vs : List Nat} (xs : List α) (enc h : α → PyData) (f : α → Bool) (hi : ItD K wi σ F (xs.map enc)) (hz : xs.length ≤ 40000)
    (hb : ∀ x, x ∈ xs → ∀ v F1, Ex F F1 → Dp K F1 v (enc x) → ∃ σ2, (∀ H, Ex F1 H → ∀ Q : L2.St → Hp → Prop, Q σ2 H → g v (wipe σ vs) H Q) ∧ wipe σ2 vs = wipe σ vs ∧ EtD tt σ2 F1 (f x) ∧ (f x = true → EvD K te σ2 F1 (h x))) :
    EvL K (tLc wi g tt te vs) σ F ((xs.filter f).map h) := fun H eH Q q => hi H eH _ fun J F1 H1 g1 wd => by
  obtain ⟨G, Y, W, hG, hY⟩ := wd
  rw [List.length_map] at W
  intro D hD
  have fD : F1 D = none := ex_none g1.fh hD
  refine lc_it W (Pv := fun i H' => ∃ F' ws, Gr F1 H1 F' H' ∧ F' D = none ∧ H' D = some (.lst ws) ∧ DpAll K F' ws (((xs.take i).filter f).map h)) ⟨F1, [], Gr.only g1.fh hD, fD, upd_same, by rw [List.take_zero]; exact .nil⟩
    (fun i H' _ p => ?_) (fun i v H2 H3 hin p y => ?_) (fun H' p => ?_)
  · obtain ⟨F', ws, g, _⟩ := p
    exact hG _ (g.fx.trans g.fh)
  · obtain ⟨F2, ws, g2, f2, h2, hw⟩ := p
    obtain ⟨F3, d, hd, g3, hv⟩ := hY F2 i H2 v H3 (by rw [List.length_map]; exact hin) g2.fx g2.fh y
    rw [List.getElem?_map, List.getElem?_eq_getElem hin] at hd
    cases hd
    have hx : xs[i] ∈ xs := List.getElem_mem hin
    obtain ⟨σ2, hg, hwp, ht, he⟩ := hb xs[i] hx v F3 (g1.fx.trans (g2.fx.trans g3.fx)) hv
    refine hg H3 g3.fh _ ⟨hwp, ht H3 g3.fh _ fun F4 H4 g4 => ?_⟩
    have k3 := (g3.trans g4).keep h2 f2
    have tk : (xs.take (i + 1)) = xs.take i ++ [xs[i]] := List.take_succ_eq_append_getElem hin
    have wl : ws.length ≤ 40000 := by
      rw [dps_len hw, List.length_map]
      have := List.length_filter_le f (xs.take i)
      rw [List.length_take] at this
      omega
    cases hf : f xs[i] with
    | true =>
      show te σ2 H4 _
      refine ((he hf).mono g4.fx) H4 g4.fh _ fun v' F5 H5 g5 hv' => ?_
      have k5 := g5.keep k3.1 k3.2
      refine ⟨ws, k5.1, sz_lt (by omega), F5, ws ++ [v'], (g2.trans ((g3.trans g4).trans g5)).mut hD k5.2, k5.2, upd_same, ?_⟩
      rw [tk, List.filter_append, List.map_append, List.filter_cons, if_pos hf]
      exact dps_app (dps_ex ((g3.fx.trans g4.fx).trans g5.fx) hw) (.cons hv' .nil)
    | false =>
      show ∃ F' ws, _
      refine ⟨F4, ws, g2.trans (g3.trans g4), k3.2, k3.1, ?_⟩
      rw [tk, List.filter_append, List.map_append, List.filter_cons, if_neg (by rw [hf]; decide)]
      show DpAll K F4 ws (_ ++ [])
      rw [List.append_nil]
      exact dps_ex (g3.fx.trans g4.fx) hw
  · obtain ⟨F', ws, g, fd, hd, hw⟩ := p
    rw [List.take_length] at hw
    exact q D ws F' H' (g1.trans g) (ex_none g1.hx hD) fd hd hw
end
end Dv

set_option Elab.async false
set_option linter.all false
set_option maxRecDepth 100000
set_option maxHeartbeats 4000000
namespace Dv
open PySem L2 Evl
section
variable {K : PySem.W.Frag} {σ : L2.St} {F F1 H H1 : Hp} {te ta tb : TE} {d a b : PyData} {ds es : List PyData} {i j : Int} {tt tu : TT} {p q : Bool}
/-! ### what is walked -/
theorem dps_get {vs : List V} {i : Nat} {v : V} (h : DpAll K F vs ds) (e : vs[i]? = some v) : ∃ d, ds[i]? = some d ∧ Dp K F v d := by
  have hi : i < ds.length := by
    rw [← dps_len h]
    exact (List.getElem?_eq_some_iff.mp e).1
  obtain ⟨v', h1, h2⟩ := dps_at h (List.getElem?_eq_getElem hi)
  rw [e] at h1
  cases h1
  exact ⟨_, List.getElem?_eq_getElem hi, h2⟩
theorem it_list (h : EvD K te σ F (.list ds)) : ItD K (iList K te) σ F ds := fun H eH R q => h H eH _ fun v F1 H1 g1 hv => by
  cases hv with
  | lst hs hd =>
    rename_i p xs
    refine ⟨p, rfl, ⟨xs, ex_l g1.fh hs⟩, q _ F1 H1 g1 ⟨_, _, by rw [← dps_len hd]; exact walk_list (xs := xs), fun H e => ex_l e hs, fun F2 i H2 x H3 _ e1 e2 y => ?_⟩⟩
    obtain ⟨rfl, hx⟩ := y
    obtain ⟨d, h1, h2⟩ := dps_get hd hx
    exact ⟨F2, d, h1, Gr.refl e2, dp_ex e1 h2⟩
theorem it_tup (h : EvD K te σ F (.tuple ds)) : ItD K (iTup K te) σ F ds := fun H eH R q => h H eH _ fun v F1 H1 g1 hv => by
  cases hv with
  | tup hs hd =>
    rename_i p xs
    refine ⟨p, rfl, ⟨xs, ex_t g1.fh hs⟩, q _ F1 H1 g1 ⟨_, _, by rw [← dps_len hd]; exact walk_tup (xs := xs), fun H e => ex_t e hs, fun F2 i H2 x H3 _ e1 e2 y => ?_⟩⟩
    obtain ⟨rfl, hx⟩ := y
    obtain ⟨d, h1, h2⟩ := dps_get hd hx
    exact ⟨F2, d, h1, Gr.refl e2, dp_ex e1 h2⟩
theorem it_rng1 {tas : TA} {n : Int} (h : EaD K tas σ F [.int n]) (h0 : -100000 ≤ n) (h1 : n ≤ 100000) : ItD K (iRng1 tas) σ F ((List.range n.toNat).map fun i : Nat => PyData.int (i : Int)) := fun H eH R q => h H eH _ fun vs F1 H1 g1 hv => by
  cases hv with
  | cons hv hr =>
    cases hr
    cases hv
    refine ⟨n, rfl, by omega, by omega, q _ F1 H1 g1 ⟨_, _, by rw [List.length_map, List.length_range]; exact walk_range, fun _ _ => trivial, fun F2 i H2 x H3 hi _ e2 y => ?_⟩⟩
    obtain ⟨rfl, rfl⟩ := y
    rw [List.length_map, List.length_range] at hi
    refine ⟨F2, .int (i : Int), by rw [List.getElem?_map, List.getElem?_range hi] <;> rfl, Gr.refl e2, ?_⟩
    show Dp K F2 (.int (0 + (i : Int))) _
    rw [Int.zero_add]
    exact .int _
theorem it_rng2 {tas : TA} {m n : Int} (h : EaD K tas σ F [.int m, .int n]) (h0 : -100000 ≤ m ∧ m ≤ 100000) (h1 : -100000 ≤ n ∧ n ≤ 100000) : ItD K (iRng2 tas) σ F ((List.range (n - m).toNat).map fun i : Nat => PyData.int (m + (i : Int))) := fun H eH R q => h H eH _ fun vs F1 H1 g1 hv => by
  cases hv with
  | cons hv hr =>
    cases hr with
    | cons hu hr =>
      cases hr
      cases hv
      cases hu
      refine ⟨m, n, rfl, by omega, q _ F1 H1 g1 ⟨_, _, by rw [List.length_map, List.length_range]; exact walk_range, fun _ _ => trivial, fun F2 i H2 x H3 hi _ e2 y => ?_⟩⟩
      obtain ⟨rfl, rfl⟩ := y
      rw [List.length_map, List.length_range] at hi
      exact ⟨F2, .int (m + (i : Int)), by rw [List.getElem?_map, List.getElem?_range hi] <;> rfl, Gr.refl e2, .int _⟩
theorem walk_zipS {a b : Addr} {xs ys : List V} (hl : xs.length = ys.length) : Walk (Itzs K a b) xs.length (fun H => SqL K H a xs ∧ SqL K H b ys) (YPair (fun i => xs[i]?) (fun i => ys[i]?)) :=
  ⟨fun i H hi q => ⟨xs, ys, xs[i], ys[i]'(by omega), q.1, q.2, List.getElem?_eq_getElem hi, List.getElem?_eq_getElem (by omega)⟩, fun H q => ⟨xs, ys, q.1, q.2, Nat.le_refl _, by omega⟩, fun i H x H' hi q y => by
    obtain ⟨T, x, y, rfl, hT, rfl, f1, f2⟩ := y
    exact ⟨T, x, y, rfl, hT, rfl, f1 xs q.1, f2 ys q.2⟩⟩
theorem pair_wd {J : It} {n : Nat} {G : Hp → Prop} {xs ys : List V} {ds es : List PyData} (W : Walk J n G (YPair (fun i => xs[i]?) (fun i => ys[i]?))) (hG : ∀ H, Ex F H → G H) (hx : DpAll K F xs ds) (hy : DpAll K F ys es) (hn : n = min ds.length es.length) :
    WD K J F ((ds.zip es).map fun z => .tuple [z.1, z.2]) := by
  refine ⟨G, _, by rw [List.length_map, List.length_zip, ← hn]; exact W, hG, fun F2 i H2 x H3 hi e1 e2 y => ?_⟩
  obtain ⟨T, x, y, rfl, hT, rfl, f1, f2⟩ := y
  obtain ⟨d1, a1, b1⟩ := dps_get hx f1
  obtain ⟨d2, a2, b2⟩ := dps_get hy f2
  refine ⟨_, .tuple [d1, d2], ?_, Gr.new e2 hT, .tup (st_of upd_same) (.cons (dp_ex (e1.trans (Ex.new (ex_none e2 hT))) b1) (.cons (dp_ex (e1.trans (Ex.new (ex_none e2 hT))) b2) .nil))⟩
  have hz : (ds.zip es)[i]? = some (d1, d2) := by
    rw [List.getElem?_zip_eq_some]
    exact ⟨a1, a2⟩
  rw [List.getElem?_map, hz] <;> rfl
theorem it_zipS {tas : TA} (h : EaD K tas σ F [.list ds, .list es]) (hl : ds.length = es.length) : ItD K (iZipS K tas) σ F ((ds.zip es).map fun z => .tuple [z.1, z.2]) := fun H eH R q => h H eH _ fun vs F1 H1 g1 hv => by
  cases hv with
  | cons hv hr =>
    cases hr with
    | cons hu hr =>
      cases hr
      cases hv with
      | lst hs hd =>
        cases hu with
        | lst hs2 hd2 =>
          have l1 := dps_len hd
          have l2 := dps_len hd2
          refine ⟨_, _, _, _, rfl, ex_l g1.fh hs, ex_l g1.fh hs2, q _ F1 H1 g1 (pair_wd (walk_zipS (by omega)) (fun H e => ⟨ex_l e hs, ex_l e hs2⟩) hd hd2 (by omega))⟩
theorem it_zip {tas : TA} (h : EaD K tas σ F [.list ds, .list es]) : ItD K (iZip K tas) σ F ((ds.zip es).map fun z => .tuple [z.1, z.2]) := fun H eH R q => h H eH _ fun vs F1 H1 g1 hv => by
  cases hv with
  | cons hv hr =>
    cases hr with
    | cons hu hr =>
      cases hr
      cases hv with
      | lst hs hd =>
        cases hu with
        | lst hs2 hd2 =>
          have l1 := dps_len hd
          have l2 := dps_len hd2
          refine ⟨_, _, _, _, rfl, ex_l g1.fh hs, ex_l g1.fh hs2, q _ F1 H1 g1 (pair_wd (walk_zip (n := min ds.length es.length) (by omega)) (fun H e => ⟨ex_l e hs, ex_l e hs2⟩) hd hd2 rfl)⟩
theorem it_is {wi : TI} (h : ItD K wi σ F ds) (e : ds = es) : ItD K wi σ F es := e ▸ h
/-! ### targets -/
/-- x1, x2 = a pair -/
theorem tup2 {v : V} (h : Dp K F v (.tuple [a, b])) : ∃ x y, Dp K F x a ∧ Dp K F y b ∧ ∀ (i j : Nat) (σ : L2.St) (H : Hp), Ex F H → ∀ Q : L2.St → Hp → Prop, Q ((σ.set i (some x)).set j (some y)) H → gTup K 2 (gCons (gName i) (gCons (gName j) gNil)) v σ H Q := by
  cases h with
  | tup hs hd =>
    cases hd with
    | cons h1 hr =>
      cases hr with
      | cons h2 hr =>
        cases hr
        exact ⟨_, _, h1, h2, fun i j σ H e Q q => ⟨_, _, rfl, ex_t e hs, rfl, _, _, rfl, _, _, rfl, rfl, q⟩⟩
theorem tup3 {v : V} {c : PyData} (h : Dp K F v (.tuple [a, b, c])) : ∃ x y z, Dp K F x a ∧ Dp K F y b ∧ Dp K F z c ∧
    ∀ (i j k : Nat) (σ : L2.St) (H : Hp), Ex F H → ∀ Q : L2.St → Hp → Prop, Q (((σ.set i (some x)).set j (some y)).set k (some z)) H → gTup K 3 (gCons (gName i) (gCons (gName j) (gCons (gName k) gNil))) v σ H Q := by
  cases h with
  | tup hs hd =>
    cases hd with
    | cons h1 hr =>
      cases hr with
      | cons h2 hr =>
        cases hr with
        | cons h3 hr =>
          cases hr
          exact ⟨_, _, _, h1, h2, h3, fun i j k σ H e Q q => ⟨_, _, rfl, ex_t e hs, rfl, _, _, rfl, _, _, rfl, _, _, rfl, rfl, q⟩⟩
/-! ### statements -/
variable {D : Ends} {ts tw : TS} {g : TG}
theorem s_asg {i : Nat} (h : EvD K te σ F d) (e : Ex F H) (k : ∀ v F' H', Gr F H F' H' → Dp K F' v d → D.nx (σ.set i (some v)) H') : tAsg te (gName i) D σ H := h H e _ fun v F' H' g hv => k v F' H' g hv
theorem s_asgL {i : Nat} (h : EvL K te σ F ds) (e : Ex F H) (k : ∀ p vs F' H', Gr F H F' H' → H p = none → F' p = none → H' p = some (.lst vs) → DpAll K F' vs ds → D.nx (σ.set i (some (.ref p))) H') : tAsg te (gName i) D σ H :=
  h H e _ fun p vs F' H' g h1 h2 h3 h4 => k p vs F' H' g h1 h2 h3 h4
theorem s_ret (h : EvD K te σ F d) (e : Ex F H) (k : ∀ v F' H', Gr F H F' H' → Dp K F' v d → D.rt v H') : tRet te D σ H := h H e _ k
theorem s_retL (h : EvL K te σ F ds) (e : Ex F H) (k : ∀ p vs F' H', Gr F H F' H' → H p = none → F' p = none → H' p = some (.lst vs) → DpAll K F' vs ds → D.rt (.ref p) H') : tRet te D σ H :=
  h H e _ fun p vs F' H' g h1 h2 h3 h4 => k p vs F' H' g h1 h2 h3 h4
theorem s_if (h : EtD tt σ F p) (e : Ex F H) (h1 : p = true → ∀ F' H', Gr F H F' H' → ts D σ H') (h2 : p = false → ∀ F' H', Gr F H F' H' → tw D σ H') : tIfS tt ts tw D σ H := h H e _ fun F' H' g => by
  cases p with
  | true =>
    show ts D σ H'
    exact h1 rfl F' H' g
  | false =>
    show tw D σ H'
    exact h2 rfl F' H' g
theorem s_par {i j : Nat} {tas : TA} (h : EaD K tas σ F [a, b]) (e : Ex F H) (k : ∀ v u F' H', Gr F H F' H' → Dp K F' v a → Dp K F' u b → D.nx ((σ.set i (some v)).set j (some u)) H') : tPar i j tas D σ H := h H e _ fun vs F' H' g hv => by
  cases hv with
  | cons h1 hr =>
    cases hr with
    | cons h2 hr =>
      cases hr
      exact ⟨_, _, rfl, k _ _ F' H' g h1 h2⟩
/-- xs.append(e), xs a list of H alone -/
theorem s_app {l : Addr} {xs : List V} {i : Nat} (hl : H l = some (.lst xs)) (fl : F l = none) (hi : σ[i]? = some (some (.ref l))) (h : EvD K te σ F d) (e : Ex F H) (hz : xs.length < 100000)
    (k : ∀ v F' H', Gr F H F' H' → Dp K F' v d → F' l = none → H' l = some (.lst xs) → D.nx σ (upd H' l (.lst (xs ++ [v])))) : tDrop (tBM K "list" rAppend (tVar i) (tCons te tNil)) D σ H :=
  ⟨_, hi, Or.inl ⟨rfl, xs, sq_of hl⟩, h H e _ fun v F' H' g hv => ⟨l, xs, v, rfl, rfl, (g.keep hl fl).1, sz_lt hz, k v F' H' g hv (g.keep hl fl).2 (g.keep hl fl).1⟩⟩
/-- a for over data: Pv by the turn, the slots, F and H -/
def NxP (Fb : Hp) (Pv : L2.St → Hp → Hp → Prop) : L2.St → Hp → Prop := fun σ H => ∃ F', Ex Fb F' ∧ Ex F' H ∧ Pv σ F' H
theorem s_for {wi : TI} (h : ItD K wi σ F ds) (e : Ex F H) (Pv : Nat → L2.St → Hp → Hp → Prop) (h0 : ∀ F' H', Gr F H F' H' → Pv 0 σ F' H')
    (hs : ∀ Fb, Ex F Fb → ∀ n σ' F' H' v d F2 H2, ds[n]? = some d → Ex Fb F' → Ex F' H' → Pv n σ' F' H' → Gr F' H' F2 H2 → Dp K F2 v d →
      g v σ' H2 fun σ2 H3 => ts { D with nx := NxP Fb (Pv (n + 1)), ct := NxP Fb (Pv (n + 1)), bk := D.nx } σ2 H3)
    (hd : ∀ σ' F' H', Ex F F' → Ex F' H' → Pv ds.length σ' F' H' → D.nx σ' H') : tFor wi g ts D σ H := h H e _ fun J F1 H1 g1 wd => by
  obtain ⟨G, Y, W, hG, hY⟩ := wd
  exact for_it W (fun n => NxP F1 (Pv n)) ⟨F1, Ex.refl _, g1.fh, h0 F1 H1 g1⟩ (fun n σ' H' _ p => by
    obtain ⟨F', e1, e2, p⟩ := p
    exact hG _ (e1.trans e2)) (fun n v σ' H' H2 hn p y => by
    obtain ⟨F', e1, e3, p⟩ := p
    obtain ⟨F2, d, hd, g2, hv⟩ := hY F' n H' v H2 hn e1 e3 y
    exact hs F1 g1.fx n σ' F' H' v d F2 H2 hd e1 e3 p g2 hv) (fun σ' H' p => by
    obtain ⟨F', e1, e2, p⟩ := p
    exact hd σ' F' H' (g1.fx.trans e1) e2 p)
/-- while, by a word that falls -/
theorem s_while (W : Nat → L2.St → Hp → Hp → Prop) (m0 : Nat) (h0 : W m0 σ F H) (e : Ex F H)
    (hs : ∀ m σ' F' H', W m σ' F' H' → Ex F F' → Ex F' H' → ∃ b, EtD tt σ' F' b ∧ (b = true → ∀ F1 H1, Gr F' H' F1 H1 → ∃ N : L2.St → Hp → Prop, (∀ σ2 H2, N σ2 H2 → ∃ m' F2, m' < m ∧ W m' σ2 F2 H2 ∧ Ex F F2 ∧ Ex F2 H2) ∧ ts { D with nx := N, ct := N, bk := D.nx } σ' H1) ∧
      (b = false → ∀ F1 H1, Gr F' H' F1 H1 → D.nx σ' H1)) : tWhile tt ts D σ H :=
  ⟨fun m σ H => ∃ F', W m σ F' H ∧ Ex F F' ∧ Ex F' H, ⟨m0, F, h0, Ex.refl F, e⟩, fun m σ' H' hw => by
    obtain ⟨F', w, e1, e2⟩ := hw
    obtain ⟨b, hb, h1, h2⟩ := hs m σ' F' H' w e1 e2
    refine hb H' e2 _ fun F1 H1 g => ?_
    cases b with
    | true =>
      obtain ⟨N, n1, n2⟩ := h1 rfl F1 H1 g
      exact ⟨N, fun σ2 H2 n => let ⟨m', F2, a, b, c, d⟩ := n1 σ2 H2 n; ⟨m', a, F2, b, c, d⟩, n2⟩
    | false => exact h2 rfl F1 H1 g⟩
end
end Dv

set_option Elab.async false
set_option linter.all false
set_option maxRecDepth 100000
set_option maxHeartbeats 4000000
/-! An own exception over ValueError whose __init__(self, f=None) says super().__init__(f) and self.f = f: made, read, told by isinstance. -/
namespace PySem
namespace Xn
open PySem.W PySem.Calls PyProof.Rows PySem.HandSPX
/-! ### the text of __init__ -/
def iA (fld : Str) (p1 p2 p3 : Pos) : Arguments := { posonlyargs := [], args := [{ arg := "self", annotation := none, pos := p1 }, { arg := fld, annotation := none, pos := p2 }], vararg := none, kwonlyargs := [], kw_defaults := [], kwarg := none, defaults := [.Constant .none 0 p3] }
def iB (fld : Str) (q : Nat → Pos) : List Stmt :=
  [.Expr (.Call (.Attribute (.Call (.Name "super" (q 0)) [] [] (q 1)) "__init__" (q 2)) [.Name fld (q 3)] [] (q 4)) (q 4),
   .Assign [.Attribute (.Name "self" (q 5)) fld (q 6)] (.Name fld (q 7)) (q 8)]
def iS (fld : Str) : Scope := { kind := .function, names := [(PySem.Str.ofString "self", .local), (fld, .local), (PySem.Str.ofString "__class__", .free), (PySem.Str.ofString "super", .globalImplicit)], isGenerator := false, isCoroutine := false, more := [] }
/-- what is asked of the places in the text: closed by rfl where they are written -/
structure TextOk (fld : Str) (q : Nat → Pos) : Prop where
  ev : ∃ pl : Sem Bool, ∀ env : Env, eval (.Call (.Attribute (.Call (.Name "super" (q 0)) [] [] (q 1)) "__init__" (q 2)) [.Name fld (q 3)] [] (q 4)) env = (do
      let ov ← attributeBase (.Call (.Name "super" (q 0)) [] [] (q 1)) "__init__" env (eval (.Call (.Name "super" (q 0)) [] [] (q 1)) env)
      standAt (q 2).atName
      let (f, first) ← holding [ov] (getMethod ov "__init__" pl)
      callWith (q 4) f first (backTo (q 4) (starEach [.Name fld (q 3)] env)) [])
  sw1 : ∀ env : Env, swapsWith (.Call (.Attribute (.Call (.Name "super" (q 0)) [] [] (q 1)) "__init__" (q 2)) [.Name fld (q 3)] [] (q 4)) none (q 4).line env = pure false
  st : ∀ env : Env, starEach [.Name fld (q 3)] env = (false, eval (.Name fld (q 3)) env) :: starEach [] env
  pl : ∀ env : Env, (backTo (q 4) (starEach [] env)).any (·.1) = false
  sw2 : ∀ env : Env, swapsWith (.Name fld (q 7)) (some (.Attribute (.Name "self" (q 5)) fld (q 6))) (q 8).line env = pure false
/-- how its arguments are bound -/
structure BindOk (fld : Str) (fd : FuncData) (da : Addr) : Prop where
  two : ∀ x v : Value, ∃ k, bindArgs fd ⟨[x, v], []⟩ = seqItems? (.ref da) >>= k ∧ k (some #[.none]) = pure [(("self" : Str), x), (fld, v)]
  kw : ∀ x v : Value, ∃ k, bindArgs fd ⟨[x], [(fld, v)]⟩ = seqItems? (.ref da) >>= k ∧ k (some #[.none]) = pure [(("self" : Str), x), (fld, v)]
  one : ∀ x : Value, ∃ k, bindArgs fd ⟨[x], []⟩ = seqItems? (.ref da) >>= k ∧ k (some #[.none]) = pure [(("self" : Str), x), (fld, Value.none)]
/-- what the written part says of the class at C, field fld, its __init__ at fI -/
structure ExT (P : Program) (K : Frag) (mg : Str → Option Value) (cn fld : Str) (C fI : Addr) : Prop where
  gC : mg cn = some (.ref C)
  cls : ∃ nm q N bs bm sn sub ab col dd k0 k1 k2 k3 k5, K.lookup C = some (excClassObj nm q C N bs bm true sn sub ab col dd k0 k1 k2 k3 k5 "ValueError.__new__") ∧ refsVE bm = true ∧ alongIn K "__init__" bm = some (some (.builtin "ValueError.__init__"))
  sa : findIn K (.ref C) "__setattr__" = some (some (.builtin "object.__setattr__"))
  ga : findIn K (.ref C) "__getattribute__" = some (some (.builtin "BaseException.__getattribute__"))
  gg : findIn K (.ref C) "__getattr__" = some none
  noN : findIn K (.ref C) fld = some none
  iC : findIn K (.ref C) "__init__" = some (some (.ref fI))
  tC : typeIn K (.ref fI) = some (.type "function")
  kC : keepIn K (.ref C) = true
  exC : subIn K (.ref C) (.type "BaseException") = some true
  exV : subIn K (.ref C) (.type "ValueError") = some true
  exO : mroIn K C (.ref C) = some true
  tyC : typeIn K (.ref C) = some (.type "type")
  hdC : hasDictIn K C = true
  opq : nsIn K cStatics "thirdparty.any" = some none
  noS : mg "super" = none
  fn : ∃ (oc : Value) (od : Option Addr) (qual : Str) (dV doc pm : Value) (an : Option Addr) (cda cc : Addr) (ct : Value) (osl : Array (Option Value)) (p1 p2 p3 : Pos) (q : Nat → Pos)
    (ccl : Value) (cdd : Option Addr) (vs : Array Value) (ccs : Array (Option Value)) (file : Str) (tf : Tok) (cl : Value) (cld : Option Addr) (csl : Array (Option Value)) (dcl : Value) (ddi : Option Addr) (dn : Nat) (dsl : Array (Option Value)) (da : Addr),
    K.lookup fI = some ⟨oc, od, .func (ksFn "__init__" qual (iA fld p1 p2 p3) (iB fld q) (iS fld) dV .none doc pm an (.ref cda) ct cc), osl⟩ ∧ codeIn K (.ref cda) qual = true ∧
    K.lookup cda = some ⟨ccl, cdd, .fields vs, ccs⟩ ∧ vs[2]? = some (.str file tf) ∧ ((P.main.file : Str) == file) = true ∧
    K.lookup cc = some ⟨cl, cld, .cell (some (.ref C)), csl⟩ ∧ TextOk fld q ∧ BindOk fld (ksFn "__init__" qual (iA fld p1 p2 p3) (iB fld q) (iS fld) dV .none doc pm an (.ref cda) ct cc) da ∧ dV = .ref da ∧ K.lookup da = some ⟨dcl, ddi, .seq #[.none] dn, dsl⟩
  nclash : (fld == ("__debug__" : Str)) = false ∧ ¬ (fld = ("self" : Str)) ∧ ¬ (fld = ("__class__" : Str)) ∧ ¬ (fld = ("super" : Str))
theorem one_size (v : Value) : [v].length ≤ sizeLine := by
  rw [sizeLine_eq]
  exact (by decide : 1 ≤ 16777216)
/-- what __init__ leaves of a fresh exception at x -/
structure InitEnd (h h' : Heap) (x C dx t1 : Addr) (fld : Str) (v : Value) : Prop where
  keep : ∀ b o, b ≠ x → h.get? b = some o → h'.get? b = some o
  obj : h'.get? x = some { cls := .ref C, dict := some dx, data := .fields #[.ref t1, .none, .none, .none, .bool false, .none] }
  dbig : h.objs.size ≤ dx
  dne : dx ≠ x
  ns : h'.Ns1 dx (fun y => if y = fld then some v else none)
/-- a made one -/
structure OwnMade (h h' : Heap) (e C d : Addr) (fld : Str) (v : Value) : Prop where
  keep : ∀ b o, h.get? b = some o → h'.get? b = some o
  new : h.objs.size ≤ e
  obj : ∃ t1, h'.get? e = some { cls := .ref C, dict := some d, data := .fields #[.ref t1, .none, .none, .none, .bool false, .none] }
  dbig : h.objs.size ≤ d
  dne : d ≠ e
  ns : h'.Ns1 d (fun y => if y = fld then some v else none)
/-- the module's names and the built-in ones, by the heap -/
structure Nms (h : Heap) (mg : Str → Option Value) : Prop where
  g : h.Ns mainGlobals mg
  b : ∃ mb, h.Ns builtinsNs mb ∧ ∀ x : Str, x ≠ "__name__" → mb x = bootBuiltins x
theorem Nms.keeps {h h' : Heap} {mg : Str → Option Value} (n : Nms h mg) (k : ∀ b o, h.get? b = some o → h'.get? b = some o) : Nms h' mg :=
  ⟨n.g.keeps k, let ⟨mb, a, b⟩ := n.b; ⟨mb, a.keeps k, b⟩⟩
section
variable {prog : Program} {w : World} {A : Around} {E : Value → Shared → Prop} {R : Result → Shared → Prop} {s : Shared} {K : Frag} {mg : Str → Option Value} {cn fld : Str} {C fI : Addr}
theorem call_mw {h : Heap} {g : Array GenState} {d : Drawn} {t : Nat} {os : OsState} {nm q : Str} {N : Addr} {bs bm : List Value} {hdct : Bool} {sn : List Str} {sub : List Value} {ab : Bool} {col : Option Bool} {dd : Option Addr} {k0 k1 k2 k3 k5 : Option Value} {u e t0 : Addr} {rest : List Value} {Q : Value → Shared → Prop}
    (hC : h.get? C = some (excClassObj nm q C N bs bm hdct sn sub ab col dd k0 k1 k2 k3 k5 "ValueError.__new__")) (he : h.get? e = some (excO C t0)) (hu : h.get? u = some (kxs_mw "ValueError.__init__" e)) (hrest : rest.length ≤ sizeLine)
    (hq : ∀ h' t1, (∀ b o, b ≠ e → h.get? b = some o → h'.get? b = some o) → h'.get? e = some (excO C t1) → Q .none ⟨h', g, d, t, os⟩) :
    wpAny (model prog w) A (call (.ref u) rest) Q E ⟨h, g, d, t, os⟩ := by
  refine wpAny_call (codeAny_of_tree ?_)
  show wpAny _ A.in1 (callAny (.ref u) ⟨rest, []⟩) _ _ _
  simp only [callAny]
  refine wpAny_bind (wpAny_load hu ?_)
  simp only [kxs_mw, show (Value.type "method-wrapper" == Value.type "method" || Value.type "method-wrapper" == Value.type "builtin_function_or_method" || Value.type "method-wrapper" == Value.type "method-wrapper") = true by decide, if_true]
  refine W.KFB.if_so (by decide) ?_
  refine wpAny_bind (check_bound_init F.excBase_ValueError.toExcCallFacts hC he rfl ?_)
  refine wpAny_bind (wpAny_pure (wpAny_pure ?_))
  refine ⟨Code.quiet_builtin _ (by decide +kernel), codeAny_builtin F.excBase_ValueError.initEntry ?_⟩
  rw [Around.under_plainId F.excBase_ValueError.init.plain _]
  wp_walk
  refine hq _ h.objs.size (fun b o hb ho => ?_) ?_
  · rw [Heap.get?_update_other _ _ (Ne.symm hb)]
    exact Heap.get?_push_of_some _ ho
  · rw [Heap.get?_update_self _ (Heap.get?_push_of_some _ he) rfl]
    rfl

theorem kept_but {K : Frag} {h h' : Heap} {x : Addr} (X : K.In h) (hx : K.lookup x = none) (k : ∀ b o, b ≠ x → h.get? b = some o → h'.get? b = some o) : K.In h' := fun a o e =>
  k a o (fun z => by rw [z, hx] at e; cases e) (X a o e)
theorem xn_init (T : ExT prog K mg cn fld C fI) {x t0 : Addr} {v : Value} (X : K.In s.heap) (G : Nms s.heap mg) (hlim : s.heap.NoLimit) (hx : s.heap.get? x = some (excO C t0)) (hnx : K.lookup x = none) (hroom : A.depth < recursionLimit)
    (htop : (prog.main.scope.names.lookup ("super" : Str)).isSome = false)
    {args : Args} (hbind : ∀ fd : FuncData, (∃ o : Obj, K.lookup fI = some o ∧ o.data = .func fd) → BindsTo s fd args [("self", .ref x), (fld, v)])
    (hq : ∀ h' tk dx t1, InitEnd s.heap h' x C dx t1 fld v → R (.ok (.ret .none)) { s with heap := h', toks := tk }) :
    codeAny (model prog w) A (.call (.ref fI) args) R s := by
  obtain ⟨oc, od, qual, dV, doc, pm, an, cda, cc, ct, osl, p1, p2, p3, q, ccl, cdd, vs, ccs, file, tf, cl, cld, csl, dcl, ddi, dn, dsl, da, ho, hcd, hcda, hvs, hfile, hcc, hTx, hBd, hdV, hda⟩ := T.fn
  obtain ⟨pl, hev⟩ := hTx.ev
  obtain ⟨nm, qn, N, bs, bm, sn, sub, ab, col, dd, k0, k1, k2, k3, k5, hC, hbm, hal⟩ := T.cls
  obtain ⟨n1, n2, n3, n4⟩ := T.nclash
  have n2' : ¬ (("self" : Str) = fld) := fun e => n2 e.symm
  have hcl : clsIn K C = some { name := nm, bases := bs, mro := .ref C :: bm, ns := N, qualname := qn, hasDict := true, slotNames := sn, subclasses := sub, abstract := ab, collection := col, hasDel := false } := by unfold clsIn; rw [hC] <;> rfl
  have lkS : (iS fld).names.lookup ("self" : Str) = some .local := by simp [iS, List.lookup]
  have lkF : (iS fld).names.lookup fld = some .local := by
    show List.lookup fld [(PySem.Str.ofString "self", NameKind.local), (fld, .local), (PySem.Str.ofString "__class__", .free), (PySem.Str.ofString "super", .globalImplicit)] = _
    have e : (fld == PySem.Str.ofString "self") = false := by simpa using n2
    rw [List.lookup_cons, e, List.lookup_cons]
    simp
  have lkC : (iS fld).names.lookup ("__class__" : Str) = some .free := by
    show List.lookup (PySem.Str.ofString "__class__") [(PySem.Str.ofString "self", NameKind.local), (fld, .local), (PySem.Str.ofString "__class__", .free), (PySem.Str.ofString "super", .globalImplicit)] = _
    have e : (PySem.Str.ofString "__class__" == PySem.Str.ofString "self") = false := by decide +kernel
    have e2 : (PySem.Str.ofString "__class__" == fld) = false := by simpa using fun e => n3 e.symm
    rw [List.lookup_cons, e, List.lookup_cons, e2, List.lookup_cons]
    simp
  have lkSu : (iS fld).names.lookup ("super" : Str) = some .globalImplicit := by
    show List.lookup (PySem.Str.ofString "super") [(PySem.Str.ofString "self", NameKind.local), (fld, .local), (PySem.Str.ofString "__class__", .free), (PySem.Str.ofString "super", .globalImplicit)] = _
    have e : (PySem.Str.ofString "super" == PySem.Str.ofString "self") = false := by decide +kernel
    have e2 : (PySem.Str.ofString "super" == fld) = false := by simpa using fun e => n4 e.symm
    have e3 : (PySem.Str.ofString "super" == PySem.Str.ofString "__class__") = false := by decide +kernel
    rw [List.lookup_cons, e, List.lookup_cons, e2, List.lookup_cons, e3, List.lookup_cons]
    simp
  have hcellN : ∀ y ∈ (iS fld).names, y.2 ≠ .cell := by
    intro y hy
    rcases List.mem_cons.mp hy with rfl | hy
    · intro z; cases z
    rcases List.mem_cons.mp hy with rfl | hy
    · intro z; cases z
    rcases List.mem_cons.mp hy with rfl | hy
    · intro z; cases z
    rcases List.mem_cons.mp hy with rfl | hy
    · intro z; cases z
    · cases hy
  refine ks_codeAny_call_defAt (fd := ksFn "__init__" qual (iA fld p1 p2 p3) (iB fld q) (iS fld) dV .none doc pm an (.ref cda) ct cc) (body := iB fld q) (binds := [("self", .ref x), (fld, v)]) hroom (X _ _ ho) rfl hlim (codeRec_of X hcd) rfl
    (hbind _ ⟨_, ho, rfl⟩) hcellN (fun y hy => ?_) (fun h₁ hns hk₁ => ?_) rfl rfl rfl
  · rcases List.mem_cons.mp hy with rfl | hy
    · exact lkS
    · rcases List.mem_cons.mp hy with rfl | hy
      · exact lkF
      · cases hy
  have X₁ : K.In h₁ := X.keeps hk₁
  have G₁ : Nms h₁ mg := G.keeps hk₁
  have hx₁ := hk₁ _ _ hx
  have mS : (fun y => ([(("self" : Str), Value.ref x), (fld, v)] : List (Str × Value)).reverse.lookup y) "self" = some (.ref x) := by
    show List.lookup ("self" : Str) [(fld, v), (("self" : Str), Value.ref x)] = _
    have e : (("self" : Str) == fld) = false := by simpa using n2'
    rw [List.lookup_cons, e, List.lookup_cons]
    simp
  have mF : (fun y => ([(("self" : Str), Value.ref x), (fld, v)] : List (Str × Value)).reverse.lookup y) fld = some v := by
    show List.lookup fld [(fld, v), (("self" : Str), Value.ref x)] = _
    rw [List.lookup_cons]
    simp
  have hL : s.heap.objs.size ≠ x := Nat.ne_of_gt (Heap.lt_size hx)
  have hLlt : s.heap.objs.size < h₁.objs.size := hns.lt
  obtain ⟨mb, hb, hbb⟩ := G₁.b
  have hcC₁ := X₁ _ _ hC
  have iV : Looks (model prog w) h₁ (isInstance (.ref x) (.type "ValueError")) true := by
    have I : InstAt h₁ x (excO C t0) C none := ⟨hx₁, rfl, rfl, trivial⟩
    exact I.type.andThen (looks_subIn X₁ T.exV)
  -- super().__init__(value)
  unfold iB
  refine ks_wpAt_execs_cons (ks_wpAt_Expr_any (ks_wpAt_MethodCall (pl := pl) ?_ (hev _)) rfl (hTx.sw1 _))
  refine ks_wpAt_super_base (env := ksEnv qual (iS fld) s.heap.objs.size fI (.ref cda) cc) lkSu lkC rfl rfl (X₁ _ _ ho) rfl rfl rfl (X₁ _ _ hcda) rfl hvs hfile htop ?_
  refine ks_loadName_global rfl lkSu (loadGlobal_builtin (env := ksEnv qual (iS fld) s.heap.objs.size fI (.ref cda) cc) G₁.g T.noS hb ((hbb _ (by decide +kernel)).trans (by first | boot_by_name | rfl | kernel_rfl)) ⟨rfl, ?_⟩)
  refine wpAny_loadName_free rfl lkC rfl ⟨_, X₁ _ _ hcc, rfl⟩ ?_
  refine wpAny_loadName_local rfl lkS hns mS ?_
  refine ks_wpAny_isType_cls hcC₁ rfl ⟨rfl, ?_⟩
  refine ks_wpAny_call_super hcC₁ rfl hx₁ rfl (fun c e => by cases e) (looks_mroIn X₁ T.exO) (fun h₂ e₂ k₂ => ?_)
  have X₂ : K.In h₂ := X₁.keeps k₂
  refine kxs_getMethod kxs_ValueError e₂ (looks_opaque X₂ T.opq) (l₀ := .ref C :: bm) ?_ (l := bm) (by simp [List.dropWhile_cons]) X₂ hal (iV.keeps k₂) ?_ (by decide +kernel) ?_
  · exact fun A Q E s k q => wpAny_bind ((looks_clsIn X₂ hcl) A _ E s k (wpAny_pure q))
  · rintro rfl
    rw [hcC₁] at hx₁
    cases hx₁
  -- the argument, the call
  have hx₂ := k₂ _ _ hx₁
  have k₃ : ∀ b o, h₂.get? b = some o → (h₂.push (kxs_mw "ValueError.__init__" x)).get? b = some o := fun b o e => Heap.get?_push_of_some _ e
  have hu : (h₂.push (kxs_mw "ValueError.__init__" x)).get? h₂.objs.size = some (kxs_mw "ValueError.__init__" x) := Heap.get?_push_at rfl rfl
  have X₃ := X₂.keeps k₃
  show wpAny _ _ (callWith (q 4) (.ref h₂.objs.size) [] (backTo (q 4) (starEach [.Name fld (q 3)] _)) []) _ _ _
  rw [hTx.st]
  refine kxs_callWith (i := "ValueError.__init__") (x := x) (by show (false || (backTo (q 4) (starEach [] _)).any (·.1)) = false; rw [hTx.pl]; rfl) ?_
  refine evalArgs_plain ?_
  refine Calls.spliced_cons ?_
  refine ESX.ldL (v := v) (hns.keeps fun b o e => k₃ b o (k₂ b o e)) mF ?_ rfl lkF n1
  refine Calls.spliced_nil ?_
  refine ⟨hu, ?_⟩
  refine call_mw (X₃ _ _ hC) (k₃ _ _ hx₂) hu (one_size v) fun h₄ t₁ k₄ hx₄ => ?_
  have kk : ∀ b o, b ≠ x → h₁.get? b = some o → h₄.get? b = some o := fun b o hb e => k₄ b o hb (k₃ b o (k₂ b o e))
  have X₄ : K.In h₄ := kept_but X₁ hnx kk
  have hns₄ : h₄.Ns s.heap.objs.size (fun y => ([(("self" : Str), Value.ref x), (fld, v)] : List (Str × Value)).reverse.lookup y) := by
    obtain ⟨o, es, ep, e, r⟩ := hns
    exact ⟨o, es, ep, kk _ _ hL e, r⟩
  refine wpAt_of_wpAny ?_
  show wpAny _ _ (execs [_] _) _ _ _
  refine wpAny_execs_cons (plainObj_wpAny_Assign_Attribute ?_ (hTx.sw2 _))
  refine ESX.ldL (v := v) hns₄ mF (ESX.ldL (v := .ref x) hns₄ mS ?_ rfl lkS (by decide)) rfl lkF n1
  refine set_plain X₄ (ox := excO C t₁) (od := none) ⟨hx₄, rfl, rfl, trivial⟩ T.sa ?_
  refine exc_osa X₄ hx₄ hcl (show refsVE (.ref C :: bm) = true from hbm) rfl T.noN (fun h₅ tk₅ dx k₅ dn dne hx₅ hn₅ => ?_)
  show wpAny _ _ (execs _ _) _ _ _
  have z1 : s.heap.objs.size ≤ h₄.objs.size := Nat.le_of_lt hns₄.lt
  exact wpAny_execs_nil (hq h₅ tk₅ dx t₁ ⟨fun b o hb e => k₅ b o hb (kk b o hb (hk₁ b o e)), hx₅, Nat.le_trans z1 dn, dne, hn₅⟩)
end

/-! ### C(f=v): the call with the field's name -/
section
variable {M : Model} {A : Around} {E : Value → Shared → Prop} {h : Heap} {g : Array GenState} {d : Drawn} {t : Nat} {os : OsState}
variable {nm q : Str} {C N : Addr} {bs bm bmB : List Value} {hdct : Bool} {sn : List Str} {sub : List Value} {ab : Bool} {col : Option Bool} {dd : Option Addr} {k0 k1 k2 k3 k5 : Option Value} {B newId initId : String}
theorem check_new_ownK (F : ExcBaseFacts B newId initId bmB) (hT : ∀ X : String, bm.contains (.type X) = bmB.contains (.type X)) {rest : List Value} {kw : List (Str × Value)} {Q : Unit → Shared → Prop}
    (hC : h.get? C = some (excClassObj nm q C N bs bm hdct sn sub ab col dd k0 k1 k2 k3 k5 newId)) (hq : Q () ⟨h, g, d, t, os⟩) : wpAny M A (checkBuiltinCall newId ⟨.ref C :: rest, kw⟩) Q E ⟨h, g, d, t, os⟩ := by
  have hcont : (Value.ref C :: bm).contains (.type B) = true := by rw [List.contains_cons, hT, F.hasB, Bool.or_true]
  have hstar := F.noStar
  simp only [checkBuiltinCall, F.newKind, F.newSplit, F.newRow]
  repeat (first | refine wpAny_loadPart_at hC ?_ | (refine wpAny_isSubtype_exc hC ?_; rw [hcont]) | refine wpAny_staticBase_exc hC ?_ | refine wpAny_madeBy_exc hC ?_ | simp only [bne_self_eq_false, Bool.false_eq_true, if_false] | wp_step)
  exact hq
end
section
variable {prog : Program} {w : World} {A : Around} {E : Value → Shared → Prop} {R : Result → Shared → Prop} {h : Heap} {g : Array GenState} {d : Drawn} {t : Nat} {os : OsState}
variable {nm q : Str} {C N : Addr} {bs bm bmB : List Value} {hdct : Bool} {sn : List Str} {sub : List Value} {ab : Bool} {col : Option Bool} {dd : Option Addr} {k0 k1 k2 k3 k5 : Option Value} {B newId initId : String}
theorem new_ownK (F : ExcBaseFacts B newId initId bmB) (hT : ∀ X : String, bm.contains (.type X) = bmB.contains (.type X)) {rest : List Value} {kw : List (Str × Value)}
    (hC : h.get? C = some (excClassObj nm q C N bs bm hdct sn sub ab col dd k0 k1 k2 k3 k5 newId))
    (hq : R (.ok (.ret (.ref (h.objs.size + 1)))) ⟨(h.push { cls := .type "tuple", data := .seq rest.toArray }).push
      { cls := .ref C, data := .fields #[.ref h.objs.size, .none, .none, .none, .bool false, .none] }, g, d, t, os⟩) (hrest : rest.length ≤ sizeLine) :
    codeAny (model prog w) A (.builtin newId ⟨.ref C :: rest, kw⟩) R ⟨h, g, d, t, os⟩ := by
  have hends := F.ends
  have hcB : (Value.ref C :: bm).contains (.type B) = true := by rw [List.contains_cons, hT, F.hasB, Bool.or_true]
  have hcA : (Value.ref C :: bm).contains (.type "AttributeError") = false := by rw [List.contains_cons, hT, F.noAttr]; rfl
  have hcN : (Value.ref C :: bm).contains (.type "NameError") = false := by rw [List.contains_cons, hT, F.noName]; rfl
  refine codeAny_builtinAt F.entry ?_
  unfold Builtin.«BaseException.__new__»
  refine wpAt_bind ?_
  show wpAt _ _ _ (stack >>= _) _ _ _
  refine wpAt_bind (wpAt_stack fun p below => wpAt_of_wpAny ?_)
  wp_walk
  refine wpAt_of_wpAny ?_
  rw [F.owner]
  repeat (first | with_reducible refine wpAny_madeHere_exc F.canon hC ?_ | with_reducible refine wpAny_loadPart_at hC ?_ | (with_reducible refine wpAny_isSubtype_exc hC ?_; first | rw [hcB] | rw [hcA] | rw [hcN]) | wp_step)
  show R _ _
  rw [Heap.size_push]
  exact hq
theorem type_call_ownK (F : ExcBaseFacts B newId initId bmB) (hT : ∀ X : String, bm.contains (.type X) = bmB.contains (.type X)) {rest : List Value} {kw : List (Str × Value)} {fI : Addr} {Q : Fin → Shared → Prop}
    (hC : h.get? C = some (excClassObj nm q C N bs bm hdct sn sub ab col dd k0 k1 k2 k3 k5 newId))
    (hi : W.Looks (model prog w) h (typeLookup (.ref C) "__init__") (some (.ref fI))) (hb : ∀ self, W.Looks (model prog w) h (bindSpecial (.ref fI) self) (.ref fI, [self])) (hrest : rest.length ≤ sizeLine)
    (hq : codeAny (model prog w) A (.call (.ref fI) ⟨.ref (h.objs.size + 1) :: rest, kw⟩)
      (fun r s' => match r with | .ok (.ret v) => v = .none ∧ Q (.done (.ret (.ref (h.objs.size + 1)))) s' | .ok _ => False | .error e => E e s')
      ⟨(h.push (W.kdv_tup rest)).push (excO C h.objs.size), g, d, t, os⟩) :
    wpAny (model prog w) A (Builtin.«type.__call__» ⟨.ref C :: rest, kw⟩) Q E ⟨h, g, d, t, os⟩ := by
  repeat (first | with_reducible refine wpAny_loadPart_at hC ?_ | with_reducible refine wpAny_madeBy_exc hC ?_ | wp_step)
  refine codeAny_call_builtin_code (Code.quiet_builtin _ F.quiet) (check_new_ownK F hT hC ?_)
  refine new_ownK F hT hC ?_ hrest
  show wpAny _ _ _ _ _ _
  have k : ∀ b o, h.get? b = some o → ((h.push (W.kdv_tup rest)).push (excO C h.objs.size)).get? b = some o := fun b o e => Heap.get?_push_of_some _ (Heap.get?_push_of_some _ e)
  have hC₁ := k _ _ hC
  have hget : ((h.push (W.kdv_tup rest)).push (excO C h.objs.size)).get? (h.objs.size + 1) = some (excO C h.objs.size) := by heap_get
  have hcC : (Value.ref C :: bm).contains (.ref C) = true := by simp
  have i1 := hi.keeps k
  have b1 := (hb (.ref (h.objs.size + 1))).keeps k
  unfold isInstance
  repeat (first | with_reducible refine wpAny_loadPart_at hget ?_ | (with_reducible refine wpAny_isSubtype_exc hC₁ ?_; rw [hcC]) | wp_step)
  show wpAny _ _ (typeLookup (.ref C) _) _ _ _
  refine i1.at ?_
  refine wpAny_holding (wpAny_bind (b1.at ?_))
  refine wpAny_bind (wpAny_call (codeAny_mono hq fun r s' z => ?_))
  rcases r with e | (v | _ | _ | _) <;> first | exact z | exact z.elim | skip
  obtain ⟨rfl, z⟩ := z
  first
    | exact wpAny_pure (wpAny_pure z)
    | (wp_walk; exact z)
theorem call_ownK (F : ExcBaseFacts B newId initId bmB) (hT : ∀ X : String, bm.contains (.type X) = bmB.contains (.type X)) {rest : List Value} {kw : List (Str × Value)} {fI : Addr}
    (hC : h.get? C = some (excClassObj nm q C N bs bm hdct sn sub ab col dd k0 k1 k2 k3 k5 newId))
    (hi : W.Looks (model prog w) h (typeLookup (.ref C) "__init__") (some (.ref fI))) (hb : ∀ self, W.Looks (model prog w) h (bindSpecial (.ref fI) self) (.ref fI, [self])) (hrest : rest.length ≤ sizeLine)
    (hq : codeAny (model prog w) (A.under (.builtin "type.__call__" ⟨.ref C :: rest, kw⟩)) (.call (.ref fI) ⟨.ref (h.objs.size + 1) :: rest, kw⟩) (W.InitBack (h.objs.size + 1) R)
      ⟨(h.push (W.kdv_tup rest)).push (excO C h.objs.size), g, d, t, os⟩) :
    codeAny (model prog w) A (.call (.ref C) ⟨rest, kw⟩) R ⟨h, g, d, t, os⟩ := by
  have f1 := tc_lookup
  have f2 := tc_bind (.ref C)
  have f3 := tc_sub
  have hTy : (⟨h, g, d, t, os⟩ : Shared).TypeIs (.ref C) "type" := ⟨_, hC, rfl⟩
  refine codeAny_of_tree ?_
  show wpAny _ _ (callAny (.ref C) _) _ _ _
  repeat (any_goals (first | assumption | with_reducible refine wpAny_loadPart_at hC ?_ | wp_step))
  refine ⟨rfl, ?_⟩
  have typ : W.Looks (model prog w) h (isInstance (.ref C) (.type "type")) true := by
    intro A' Q' E' s' k' q'
    have hT' : s'.TypeIs (.ref C) "type" := ⟨_, k' _ _ hC, rfl⟩
    unfold isInstance
    refine wpAny_bind (wpAny_typeOf hT' ?_)
    refine wpAny_of_eq tc_sub ?_
    exact q'

  refine codeAny_call_builtin_at (Code.quiet_builtin _ (by decide +kernel)) entry_typeCall (W.check_slot tc_kind tc_split typ (W.tc_args _ _ _) (type_call_ownK F hT hC hi hb hrest ?_))
  refine codeAny_mono hq fun r s' z => ?_
  rcases r with e | (v | _ | _ | _) <;> exact z
end

end Xn
end PySem

set_option Elab.async false
set_option linter.all false
set_option maxRecDepth 100000
set_option maxHeartbeats 4000000
namespace PySem
namespace Xn
open PySem.W PySem.Calls PyProof.Rows PySem.HandSPX

section
variable {prog : Program} {w : World} {A : Around} {R : Result → Shared → Prop} {s : Shared} {K : Frag} {mg : Str → Option Value} {cn fld : Str} {C fI : Addr}
/-- a new exception of the class: by position (args [v], no keyword), by name, or bare -/
theorem xn_made (T : ExT prog K mg cn fld C fI) {v : Value} {rest : List Value} {kw : List (Str × Value)} (hform : (rest = [v] ∧ kw = []) ∨ (rest = [] ∧ kw = [(fld, v)]) ∨ (rest = [] ∧ kw = [] ∧ v = .none))
    (X : K.In s.heap) (G : Nms s.heap mg) (hlim : s.heap.NoLimit) (hroom : A.depth + 1 < recursionLimit) (htop : (prog.main.scope.names.lookup ("super" : Str)).isSome = false)
    (hq : ∀ h' tk e d, OwnMade s.heap h' e C d fld v → R (.ok (.ret (.ref e))) { s with heap := h', toks := tk }) :
    codeAny (model prog w) A (.call (.ref C) ⟨rest, kw⟩) R s := by
  obtain ⟨nm, q, N, bs, bm, sn, sub, ab, col, dd, k0, k1, k2, k3, k5, hC, hbm, hal⟩ := T.cls
  obtain ⟨hp, g, dr, tk, os⟩ := s
  have k : ∀ b o, hp.get? b = some o → ((hp.push (kdv_tup rest)).push (excO C hp.objs.size)).get? b = some o := fun b o e => Heap.get?_push_of_some _ (Heap.get?_push_of_some _ e)
  have hget : ((hp.push (kdv_tup rest)).push (excO C hp.objs.size)).get? (hp.objs.size + 1) = some (excO C hp.objs.size) := by heap_get
  have hnx : K.lookup (hp.objs.size + 1) = none := by
    cases e : K.lookup (hp.objs.size + 1) with
    | none => rfl
    | some o =>
      have z : hp.get? (hp.objs.size + 1) = some o := X _ _ e
      exact absurd (Nat.lt_of_succ_lt (Heap.lt_size z)) (Nat.lt_irrefl _)
  have hrest : rest.length ≤ sizeLine := by
    rcases hform with ⟨rfl, _⟩ | ⟨rfl, _⟩ | ⟨rfl, _⟩
    · exact one_size v
    · exact Nat.zero_le _
    · exact Nat.zero_le _
  refine call_ownK F.excBase_ValueError (fun X => refsVE_contains X bm hbm) (X _ _ hC) (looks_findIn X T.iC) (fun self => bind_fn X self T.tC) hrest ?_
  refine xn_init (v := v) (s := ⟨(hp.push (kdv_tup rest)).push (excO C hp.objs.size), g, dr, tk, os⟩) T (X.keeps k) (G.keeps k) (hlim.keeps k) hget hnx ?_ htop ?_ fun h' tk' dx t1 ⟨k', hx, dn, dne, hns⟩ => ?_
  · show (A.under _).depth < recursionLimit
    have : (A.under (.builtin "type.__call__" ⟨.ref C :: rest, kw⟩)).depth = A.depth + 1 := by
      first | rfl | simp [Around.under, Code.weight, Code.isCreation, Code.isGuard, Code.isCaller, Code.frames, Code.isFrame, guardIds]
    rw [this]
    exact hroom
  · intro fd ⟨o, ho, hfd⟩
    obtain ⟨oc, od, qual, dV, doc, pm, an, cda, cc, ct, osl, p1, p2, p3, q, ccl, cdd, vs, ccs, file, tf, cl, cld, csl, dcl, ddi, dn, dsl, da, ho', hcd, hcda, hvs, hfile, hcc, hTx, hBd, hdV, hda⟩ := T.fn
    rw [ho] at ho'
    cases ho'
    cases hfd
    have X' := X.keeps k
    rcases hform with ⟨rfl, rfl⟩ | ⟨rfl, rfl⟩ | ⟨rfl, rfl, rfl⟩
    · obtain ⟨kk, e1, e2⟩ := hBd.two (.ref (hp.objs.size + 1)) v
      exact L2.BindsTo.of_looks fun M => by rw [e1]; exact L2.looks_items X' hda rfl (.of_pure e2)
    · obtain ⟨kk, e1, e2⟩ := hBd.kw (.ref (hp.objs.size + 1)) v
      exact L2.BindsTo.of_looks fun M => by rw [e1]; exact L2.looks_items X' hda rfl (.of_pure e2)
    · obtain ⟨kk, e1, e2⟩ := hBd.one (.ref (hp.objs.size + 1))
      exact L2.BindsTo.of_looks fun M => by rw [e1]; exact L2.looks_items X' hda rfl (.of_pure e2)
  · have old : ∀ b o, hp.get? b = some o → h'.get? b = some o := fun b o e => k' b o (Nat.ne_of_lt (Nat.lt_succ_of_lt (Heap.lt_size e))) (k b o e)
    have z : hp.objs.size + 1 + 1 ≤ dx := by
      first
        | (simpa only [Heap.size_push] using dn)
        | exact dn
        | (have q := dn; rw [Heap.size_push, Heap.size_push] at q; exact q)
    exact ⟨rfl, hq h' tk' (hp.objs.size + 1) dx ⟨old, Nat.le_succ _, ⟨t1, hx⟩, Nat.le_trans (Nat.le_trans (Nat.le_succ _) (Nat.le_succ _)) z, dne, hns⟩⟩
end
end Xn
end PySem

set_option Elab.async false
set_option linter.all false
set_option maxRecDepth 100000
set_option maxHeartbeats 4000000
namespace L2
open PySem PySem.Spec PyProof.Rows
/-- an exception object of the class at C, its own dict at d, at a -/
def ExI (C d a : Addr) : HO := .ext fun h => ∃ t1, h.get? a = some { cls := .ref C, dict := some d, data := .fields #[.ref t1, .none, .none, .none, .bool false, .none] }
theorem exI_ok {P : Program} {w : World} {H : Hp} {h : Heap} {C d a : Addr} {t1 : Addr} (e : h.get? a = some { cls := .ref C, dict := some d, data := .fields #[.ref t1, .none, .none, .none, .bool false, .none] }) : ObjOk P w H h a (ExI C d a) :=
  ⟨⟨t1, e⟩, ⟨_, e⟩, fun _ _ ⟨t, q⟩ k => ⟨t, k _ q⟩⟩
theorem relO_one {fld : Str} {v : V} {v' : Value} (r : RelV v v') (f : Str) : RelO (List.lookup f [(fld, v)]) (if f = fld then some v' else none) := by
  by_cases hw : f = fld
  · subst hw
    rw [if_pos rfl]
    have q : List.lookup f [(f, v)] = some v := by simp [List.lookup]
    rw [q]
    exact r
  · rw [if_neg hw]
    have qw : (f == fld) = false := by simpa using hw
    have q2 : List.lookup f [(fld, v)] = none := by simp [List.lookup, qw]
    rw [q2]
    trivial
/-- C(v) in every form -/
def tXn (C : Addr) (fld : Str) (ta : St → Hp → (V → Hp → Prop) → Prop) : TE := fun σ H Q => ta σ H fun v H1 => ∀ e d, H1 e = none → H1 d = none → d ≠ e →
  Q (.ref e) (upd (upd H1 d (.xd [(fld, v)])) e (ExI C d e))
section
variable {X : Cx} {cn fld : Str} {C fI : Addr} {k : Nat}
theorem xn_fin (T : PySem.Xn.ExT X.prog X.K X.mg cn fld C fI) {pins : List (Addr × Obj)} {σ : St} {H : Hp} {s : Shared} {Q : VK} {v : V} {v' : Value} {h' : Heap} {tk : Nat} {e d : Addr} (I : Inv X pins σ H s) (rv : RelV v v') (M : PySem.Xn.OwnMade s.heap h' e C d fld v')
    (q : ∀ e d, H e = none → H d = none → d ≠ e → Q (.ref e) (upd (upd H d (.xd [(fld, v)])) e (ExI C d e))) : EP X pins σ Q (.ref e) { s with heap := h', toks := tk } := by
  obtain ⟨t1, hoe⟩ := M.obj
  have hns := M.ns
  obtain ⟨hp, g, dr, tk0, os⟩ := s
  obtain ⟨G', g1, g2⟩ := restrict h' fun b => decide (b ≠ e)
  have gk : ∀ b, b ≠ e → G'.get? b = h'.get? b := fun b hb => g1 b (decide_eq_true hb)
  have ge : G'.get? e = none := g2 e (by simp)
  have old : ∀ b o, hp.get? b = some o → G'.get? b = some o := fun b o q => (gk b (Nat.ne_of_lt (Nat.lt_of_lt_of_le (Heap.lt_size q) M.new))).trans (M.keep b o q)
  have ob : ObjOk X.prog X.w (upd H d (.xd [(fld, v)])) G' d (.xd [(fld, v)]) :=
    ⟨_, hns.at (fun o q => (gk d M.dne).trans q), fun f => relO_one rv f⟩
  have J : Inv X pins σ (upd H d (.xd [(fld, v)])) ⟨G', g, dr, tk, os⟩ := I.laid (t' := tk) old M.dbig ob
  have hne : (upd H d (.xd [(fld, v)])) e = none := by
    rw [upd_ne (Ne.symm M.dne)]
    exact I.hok.fresh M.new
  have J2 : Inv X pins σ (upd (upd H d (.xd [(fld, v)])) e (ExI C d e)) ⟨h', g, dr, tk, os⟩ :=
    J.laidN (t' := tk) (h' := h') (fun b o q => by
      by_cases hb : b = e
      · have q' : G'.get? b = some o := q
        rw [hb, ge] at q'; cases q'
      · exact (gk b hb).symm.trans q) ge hne (exI_ok hoe)
  exact ⟨.ref e, _, J2, rfl, q e d (I.hok.fresh M.new) (I.hok.fresh M.dbig) M.dne⟩
theorem Inv.nms {pins : List (Addr × Obj)} {σ : St} {H : Hp} {s : Shared} (I : Inv X pins σ H s) : PySem.Xn.Nms s.heap X.mg :=
  ⟨I.mod.glob.keeps I.bk, let ⟨mb, a, b⟩ := I.mod.blt; ⟨mb, a.keeps I.bk, b⟩⟩
/-- C(e) -/
def t1A (ta : TA) : St → Hp → (V → Hp → Prop) → Prop := fun σ H Q => ta σ H fun vs H1 => ∃ v, vs = [v] ∧ Q v H1
theorem pe_xn1 {a : Expr} {ta : TA} {p pos : Pos} (T : PySem.Xn.ExT X.prog X.K X.mg cn fld C fI) (hr : Room k X.A) (ht : (X.prog.main.scope.names.lookup ("super" : Str)).isSome = false) (ha : PA X [a] ta) (hg : Gl X cn := by rfl) (hdb : (cn == ("__debug__" : Str)) = false := by decide)
    (he : starEach (a :: []) X.env = (false, eval a X.env) :: starEach [] X.env := by rfl) (hpl : (backTo pos (starEach [] X.env)).any (·.1) = false := by rfl) :
    PE X (.Call (.Name cn p) [a] [] pos) (tXn C fld (t1A ta)) := by
  refine ⟨fun pins s σ H Q I h => ?_⟩
  refine wpAny_Call_Name_kw (ld_glob I hg T.gC ?_ hdb)
  refine PySem.W.callWith_K (h₀ := X.base) I.ok.mod.kin T.kC (thn (ha.run pos pins s σ H _ I h) fun us s1 hh => ?_) he hpl
  obtain ⟨vs, H1, I1, r1, v, ev, q1⟩ := hh
  subst ev
  refine ⟨I1.kIn, ?_⟩
  cases r1 with
  | cons rv rn =>
    rename_i v' us'
    cases rn
    show wpAny _ _ (call (.ref C) [v']) _ _ _
    exact wpAny_call (PySem.Xn.xn_made T (.inl ⟨rfl, rfl⟩) I1.kIn I1.nms I1.nolimit (by have := hr.dp; omega) ht fun h' tk' e d M => xn_fin T I1 rv M q1)
/-- C() -/
theorem pe_xn0 {p pos : Pos} (T : PySem.Xn.ExT X.prog X.K X.mg cn fld C fI) (hr : Room k X.A) (ht : (X.prog.main.scope.names.lookup ("super" : Str)).isSome = false) (hg : Gl X cn := by rfl) (hdb : (cn == ("__debug__" : Str)) = false := by decide) :
    PE X (.Call (.Name cn p) [] [] pos) (tXn C fld fun _ H Q => Q .non H) := by
  refine ⟨fun pins s σ H Q I h => ?_⟩
  refine wpAny_Call_Name_kw (ld_glob I hg T.gC ?_ hdb)
  refine PySem.W.callWith_K0 I.kIn T.kC ?_
  show wpAny _ _ (call (.ref C) []) _ _ _
  exact wpAny_call (PySem.Xn.xn_made T (v := .none) (.inr (.inr ⟨rfl, rfl, rfl⟩)) I.kIn I.nms I.nolimit (by have := hr.dp; omega) ht fun h' tk' e d M => xn_fin T I (v := .non) rfl M h)
/-- C(f=e) -/
theorem pe_xnK {kws : List Keyword} {tk : TA} {p pos : Pos} (T : PySem.Xn.ExT X.prog X.K X.mg cn fld C fI) (hr : Room k X.A) (ht : (X.prog.main.scope.names.lookup ("super" : Str)).isSome = false) (hkw : PK X kws tk) (hg : Gl X cn := by rfl) (hdb : (cn == ("__debug__" : Str)) = false := by decide)
    (hall : (backToKw pos (keywordEach kws X.env)).all (·.1.isSome) = true := by rfl) (hks : (backToKw pos (keywordEach kws X.env)).filterMap (·.1) = [fld] := by rfl)
    (hpl : ((backTo pos (starEach [] X.env)).any (·.1) || (backToKw pos (keywordEach kws X.env)).any (·.1.isNone)) = false := by rfl) :
    PE X (.Call (.Name cn p) [] kws pos) (tXn C fld (t1A tk)) := by
  refine ⟨fun pins s σ H Q I h => ?_⟩
  refine wpAny_Call_Name_kw (ld_glob I hg T.gC ?_ hdb)
  refine PySem.W.callWith_KW0 (h₀ := X.base) I.ok.mod.kin T.kC hall ?_ hpl
  refine thn (hkw.run pos pins s σ H _ I h) fun ws s2 hh => ?_
  obtain ⟨zs, H2, I2, rz, v, ev, q2⟩ := hh
  subst ev
  refine ⟨I2.kIn, ?_⟩
  rw [hks]
  cases rz with
  | cons rv rn =>
    rename_i v' us'
    cases rn
    show wpAny _ _ (call (.ref C) [] [(fld, v')]) _ _ _
    exact wpAny_call (PySem.Xn.xn_made T (.inr (.inl ⟨rfl, rfl⟩)) I2.kIn I2.nms I2.nolimit (by have := hr.dp; omega) ht fun h' tk' e d M => xn_fin T I2 rv M q2)
/-- e.f of a made exception that stands in H -/
def tXnF (K : PySem.W.Frag) (f : Str) (te : TE) : TE := fun σ H Q => te σ H fun x H1 => ∃ (a C d : Addr) (fs : List (Str × V)) (v : V), x = .ref a ∧ H1 a = some (ExI C d a) ∧ H1 d = some (.xd fs) ∧ fs.lookup f = some v ∧ XfC K C ∧ PySem.W.findIn K (.ref C) f = some none ∧ Q v H1
theorem pe_xnF {e : Expr} {te : TE} {pos : Pos} {n : Str} (he : PE X e te) (hb : attributeBase e n X.env (eval e X.env) = eval e X.env := by rfl) : PE X (.Attribute e n pos) (tXnF X.K n te) := by
  refine ⟨fun pins s σ H Q I h => ?_⟩
  refine attr_of hb (thn (he.run pins s σ H _ I h) fun u s1 hh => ?_)
  obtain ⟨x, H1, I1, rx, a, C, dd, fs, v, ex, ha, ea, l, T, hno, q⟩ := hh
  subst ex
  obtain rfl : u = Value.ref a := rx
  obtain ⟨⟨t1, hoa⟩, _, _⟩ := I1.hok a _ ha
  have hx : ObjOk X.prog X.w H1 s1.heap dd (.xd fs) := I1.hok dd _ ea
  obtain ⟨mA, hns, hr⟩ := hx
  obtain ⟨od, ho, hl⟩ := lookIn_ns hns
  obtain ⟨u, hu, ru⟩ := RelO.some_of (v := v) (o := mA n) (by rw [← l]; exact hr n)
  have J : PySem.W.InstAt s1.heap a _ C (some od) := ⟨hoa, rfl, rfl, ho⟩
  exact HandSPX.exc_get I1.kIn J T.ga T.gg T.exC (PySem.W.findObj_own T.hdC hno rfl (by rw [hl, hu])) (handed_of ru) ⟨v, H1, I1.tok _, ru, q⟩
/-- isinstance(e, c) of a made exception that stands in H -/
structure ExC (K : PySem.W.Frag) (C : Addr) : Prop where
  hcl : (PySem.W.clsIn K C).isSome = true
  hg : PySem.W.findIn K (.ref C) "__getattribute__" = some (some (.builtin "BaseException.__getattribute__"))
  hk : PySem.W.findIn K (.ref C) "__getattr__" = some none
  hs : PySem.W.subIn K (.ref C) (.type "BaseException") = some true
  ha : PySem.W.findIn K (.ref C) "__class__" = some (some (.builtin "object.__class__"))
  hn : PySem.W.specialIn K (.builtin "object.__class__") "__get__" = some (some (.builtin "getset_descriptor.__get__"))
  ht : PySem.W.takesIn K (.builtin "object.__class__") = some true
  hm : PySem.W.mroIn K C (.type "object") = some true
def rIsX (K : PySem.W.Frag) : List V → Hp → VK → Prop := fun xs H Q => ∃ (a C d : Addr) (c : V) (cv : Value) (b : Bool), xs = [.ref a, c] ∧ H a = some (ExI C d a) ∧ (∃ fs, H d = some (.xd fs)) ∧ ClsV c cv ∧ ExC K C ∧ PySem.W.kitOne K (.ref C) cv = some b ∧ Q (.bl b) H
theorem call_isX : CallR X (.builtin "isinstance") (rIsX X.K) := by
  intro pins s σ H xs us Q I r h
  obtain ⟨a, C, d, c, cv, b, rfl, ha, ⟨fs, hd⟩, hcv, T, e, q⟩ := h
  obtain ⟨u1, u2, rfl, r1, r2⟩ := vals2 r
  have e2 := hcv.eq r2
  subst e2
  obtain rfl : u1 = Value.ref a := r1
  obtain ⟨⟨t1, hoa⟩, _, _⟩ := I.hok a _ ha
  obtain ⟨mA, hns, _⟩ : ObjOk X.prog X.w H s.heap d (.xd fs) := I.hok d _ hd
  obtain ⟨od, hod, _⟩ := lookIn_ns hns
  have J : PySem.W.InstAt s.heap a _ C (some od) := ⟨hoa, rfl, rfl, hod⟩
  exact PySem.W.kia_one (PySem.W.kitx_exc T.hcl T.hg T.hk T.hs T.ha T.hn T.ht T.hm) I.kIn J e (fun z => nomatch z) fun tk => ⟨.bl b, H, I.tok tk, rfl, q⟩
end
end L2

set_option Elab.async false
set_option linter.all false
set_option maxRecDepth 100000
set_option maxHeartbeats 4000000
/-! The hand layer's calls once more, where it is told that no repr runs around (A.guards). -/
namespace L2
open PySem PySem.Spec PyProof.Rows
abbrev RoomG (k : Nat) (A : Around) : Prop := Room k A ∧ A.guards = some []
theorem RoomG.mono {j k : Nat} {A : Around} (r : RoomG k A) (h : j ≤ k) : RoomG j A := ⟨r.1.mono h, r.2⟩
structure FnOkG (P : Program) (w : World) (K : PySem.W.Frag) (mg : Str → Option Value) (base : Heap) (CX : CXT) (k : Nat) (f : Addr) (fd : FuncData) (ps : List Str) (sp : Sp) : Prop where
  len : ∀ vs H Q E, sp vs H Q E → vs.length = ps.length
  run : ∀ (A : Around) (outer : List Env) (s : Shared) (H : Hp) (args : Args) (us : List Value) (vs : List V) (Q : VK) (E : XK), RoomG k A → Env0 P w K mg base A outer s H → BindsTo s fd args (ps.zip us) → Vals vs us → sp vs H Q E →
    codeAny (model P w) A (.call (.ref f) args) (CR CX outer P w H s Q E) s
theorem FnOk.g {P : Program} {w : World} {K : PySem.W.Frag} {mg : Str → Option Value} {base : Heap} {CX : CXT} {k : Nat} {f : Addr} {fd : FuncData} {ps : List Str} {sp : Sp} (F : FnOk P w K mg base CX k f fd ps sp) : FnOkG P w K mg base CX k f fd ps sp :=
  ⟨F.len, fun A outer s H args us vs Q E hr => F.run A outer s H args us vs Q E hr.1⟩
theorem FnOkG.imp {P : Program} {w : World} {K : PySem.W.Frag} {mg : Str → Option Value} {base : Heap} {CX : CXT} {k : Nat} {f : Addr} {fd : FuncData} {ps : List Str} {sp sp' : Sp} (F : FnOkG P w K mg base CX k f fd ps sp)
    (h : ∀ vs H Q E, sp' vs H Q E → sp vs H Q E) : FnOkG P w K mg base CX k f fd ps sp' :=
  ⟨fun vs H Q E q => F.len vs H Q E (h _ _ _ _ q), fun A outer s H args us vs Q E hr he hb hv hs => F.run A outer s H args us vs Q E hr he hb hv (h _ _ _ _ hs)⟩
section
variable {X : Cx} {CX : CXT} {k : Nat} {f C : Addr} {fd : FuncData} {ps : List Str} {sp : Sp} {dvs : List V} {ds : List Value} {E : XK} {x m : Str} {p pos apos : Pos} {e o : Expr} {es : List Expr} {ta : TE} {t : TA}
theorem run_fnG {pins : List (Addr × Obj)} {σ : St} {H : Hp} {s : Shared} {Q : VK} {us : List Value} {vs : List V} (F : FnOkG X.prog X.w X.K X.mg X.base CX k f fd ps sp) (hr : RoomG k X.A) (hb : Binds X.K fd ps ds) (hd : Vals dvs ds) (hx : Passes CX X E)
    (I : Inv X pins σ H s) (r : Vals vs us) (h : sp (vs ++ dvs) H Q E) : wpAny (model X.prog X.w) X.A (call (.ref f) us) (EP X pins σ Q) X.xe s := by
  have r2 : Vals (vs ++ dvs) (us ++ ds) := r.append hd
  have hl : (us ++ ds).length = ps.length := by rw [← r2.length]; exact F.len _ _ _ _ h
  refine wpAny_call (codeAny_mono (F.run X.A X.stack s H ⟨us, []⟩ (us ++ ds) (vs ++ dvs) Q E hr I.env0 (hb s us I.kIn hl) r2 h) fun r s' hq => ?_)
  cases r with
  | error e => exact hx pins σ H s e s' I hq
  | ok fl =>
    cases fl with
    | ret u => exact I.after hq
    | next => exact False.elim hq
    | brk => exact False.elim hq
    | cont => exact False.elim hq

theorem pe_callG (F : FnOkG X.prog X.w X.K X.mg X.base CX k f fd ps sp) (hr : RoomG k X.A) (hg : Gl X x) (hm : X.mg x = some (.ref f)) (hk : PySem.W.keepIn X.K (.ref f) = true) (hb : Binds X.K fd ps ds) (hd : Vals dvs ds) (hx : Passes CX X E)
    (ha : PA X (e :: es) t) (hdb : (x == ("__debug__" : Str)) = false := by decide) (he : starEach (e :: es) X.env = (false, eval e X.env) :: starEach es X.env := by rfl) (hpl : (backTo pos (starEach es X.env)).any (·.1) = false := by rfl) :
    PE X (.Call (.Name x p) (e :: es) [] pos) (tCall sp dvs E t) := by
  refine ⟨fun pins s σ H Q I h => ?_⟩
  refine wpAny_Call_Name_kw (ld_glob I hg hm ?_ hdb)
  refine PySem.W.callWith_K (h₀ := X.base) I.ok.mod.kin hk (thn (ha.run pos pins s σ H _ I h) fun us s1 ⟨vs, H1, I1, r, q⟩ => ⟨I1.kIn, ?_⟩) he hpl
  exact run_fnG F hr hb hd hx I1 r q
theorem pe_call0G (F : FnOkG X.prog X.w X.K X.mg X.base CX k f fd ps sp) (hr : RoomG k X.A) (hg : Gl X x) (hm : X.mg x = some (.ref f)) (hk : PySem.W.keepIn X.K (.ref f) = true) (hb : Binds X.K fd ps ds) (hd : Vals dvs ds) (hx : Passes CX X E)
    (hdb : (x == ("__debug__" : Str)) = false := by decide) : PE X (.Call (.Name x p) [] [] pos) (tCall sp dvs E tNil) := by
  refine ⟨fun pins s σ H Q I h => ?_⟩
  refine wpAny_Call_Name_kw (ld_glob I hg hm ?_ hdb)
  exact PySem.W.callWith_K0 I.kIn hk (run_fnG (us := []) F hr hb hd hx I .nil h)

/-- o.m(e, ..) -/
theorem pe_methG {pl : Sem Bool} (he : PE X o ta) (c : Cls X.K C) (hm : Meth X.K C m f) (F : FnOkG X.prog X.w X.K X.mg X.base CX k f fd ps sp) (hr : RoomG k X.A) (hb : Binds X.K fd ps ds) (hd : Vals dvs ds) (hx : Passes CX X E) (ha : PA X (e :: es) t)
    (hst : starEach (e :: es) X.env = (false, eval e X.env) :: starEach es X.env := by rfl) (hpl : (backTo pos (starEach es X.env)).any (·.1) = false := by rfl)
    (ht : eval (.Call (.Attribute o m apos) (e :: es) [] pos) X.env = (do
      let ov ← eval o X.env
      standAt apos.atName
      let (f, first) ← holding [ov] (getMethod ov m pl)
      callWith pos f first (backTo pos (starEach (e :: es) X.env)) (backToKw pos (keywordEach [] X.env))) := by rfl) :
    PE X (.Call (.Attribute o m apos) (e :: es) [] pos) (tMeth C m sp dvs E ta t) := by
  refine ⟨fun pins s σ H Q I h => ?_⟩
  refine PySem.W.methodCall_KW (pl := pl) (thn (he.run pins s σ H _ I h) fun u s1 ⟨x, H1, I1, rx, a, dx, fs, ex, ea, l, q⟩ => ?_) ht
  subst ex
  obtain rfl : u = Value.ref a := rx
  refine getmeth_ok I1 ea c hm l ?_
  refine PySem.W.callWith_K (first := [.ref a]) (h₀ := X.base) I.ok.mod.kin hm.kp (thn (ha.run pos pins s1 σ H1 _ I1 q) fun us s2 ⟨vs, H2, I2, r, q2⟩ => ⟨I2.kIn, ?_⟩) hst hpl
  exact run_fnG (us := .ref a :: us) (vs := .ref a :: vs) F hr hb hd hx I2 (.cons rfl r) q2
/-- o.m() -/
theorem pe_meth0G {pl : Sem Bool} (he : PE X o ta) (c : Cls X.K C) (hm : Meth X.K C m f) (F : FnOkG X.prog X.w X.K X.mg X.base CX k f fd ps sp) (hr : RoomG k X.A) (hb : Binds X.K fd ps ds) (hd : Vals dvs ds) (hx : Passes CX X E)
    (ht : eval (.Call (.Attribute o m apos) [] [] pos) X.env = (do
      let ov ← eval o X.env
      standAt apos.atName
      let (f, first) ← holding [ov] (getMethod ov m pl)
      callWith pos f first (backTo pos (starEach [] X.env)) (backToKw pos (keywordEach [] X.env))) := by rfl) :
    PE X (.Call (.Attribute o m apos) [] [] pos) (tMeth C m sp dvs E ta tNil) := by
  refine ⟨fun pins s σ H Q I h => ?_⟩
  refine PySem.W.methodCall_KW (pl := pl) (thn (he.run pins s σ H _ I h) fun u s1 ⟨x, H1, I1, rx, a, dx, fs, ex, ea, l, q⟩ => ?_) ht
  subst ex
  obtain rfl : u = Value.ref a := rx
  refine getmeth_ok I1 ea c hm l ?_
  exact PySem.W.callWith_K0 (first := [.ref a]) I1.kIn hm.kp (run_fnG (us := [.ref a]) (vs := [.ref a]) F hr hb hd hx I1 (.cons rfl .nil) q)

theorem run_makeG {pins : List (Addr × Obj)} {σ : St} {H : Hp} {s : Shared} {Q : VK} {us : List Value} {vs : List V} (M : Mk X.K C f) (F : FnOkG X.prog X.w X.K X.mg X.base CX k f fd ps sp) (hr : RoomG (k + 1) X.A) (hb : Binds X.K fd ps ds) (hd : Vals dvs ds)
    (hx : Passes CX X E) (I : Inv X pins σ H s) (r : Vals vs us)
    (h : ∀ x dx, H x = none → H dx = none → dx ≠ x → sp (.ref x :: (vs ++ dvs)) (upd (upd H dx (.own x)) x (.ins C dx [])) (fun v H2 => v = .non ∧ Q (.ref x) H2) E) :
    wpAny (model X.prog X.w) X.A (call (.ref C) us) (EP X pins σ Q) X.xe s := by
  have hq := h (s.heap.objs.size + 1) s.heap.objs.size (I.hok.fresh (Nat.le_succ _)) (I.hok.fresh (Nat.le_refl _)) (Nat.ne_of_lt (Nat.lt_succ_self _))
  have I2 := Inv.made (C := C) I
  have r2 : Vals (V.ref (s.heap.objs.size + 1) :: (vs ++ dvs)) (Value.ref (s.heap.objs.size + 1) :: (us ++ ds)) := .cons rfl (r.append hd)
  have hl : (Value.ref (s.heap.objs.size + 1) :: us ++ ds).length = ps.length := by
    have e := r2.length
    rw [F.len _ _ _ _ hq] at e
    exact e.symm
  refine wpAny_call (make_map (f := f) I.kIn M.makes M.init (beq_iff_eq.mp M.fn) (codeAny_mono (F.run _ X.stack _ _ ⟨Value.ref (s.heap.objs.size + 1) :: us, []⟩ (Value.ref (s.heap.objs.size + 1) :: (us ++ ds)) _ _ E ⟨hr.1.make C us [], hr.2⟩
    (I2.env0.make C us []) (hb _ (Value.ref (s.heap.objs.size + 1) :: us) I2.kIn hl) r2 hq) fun r s' hq' => ?_))
  cases r with
  | error e => exact hx pins σ _ _ e s' I2 hq'
  | ok fl =>
    cases fl with
    | ret u =>
      obtain ⟨v, H', I3, rv, ev, q3⟩ := I2.after hq'
      subst ev
      exact ⟨rv, ⟨V.ref (s.heap.objs.size + 1), H', I3, rfl, q3⟩⟩
    | next => exact False.elim hq'
    | brk => exact False.elim hq'
    | cont => exact False.elim hq'
theorem pe_makeG (M : Mk X.K C f) (F : FnOkG X.prog X.w X.K X.mg X.base CX k f fd ps sp) (hr : RoomG (k + 1) X.A) (hg : Gl X x) (hm : X.mg x = some (.ref C)) (hb : Binds X.K fd ps ds) (hd : Vals dvs ds) (hx : Passes CX X E)
    (ha : PA X (e :: es) t) (hdb : (x == ("__debug__" : Str)) = false := by decide) (he : starEach (e :: es) X.env = (false, eval e X.env) :: starEach es X.env := by rfl) (hpl : (backTo pos (starEach es X.env)).any (·.1) = false := by rfl) :
    PE X (.Call (.Name x p) (e :: es) [] pos) (tMake C sp dvs E t) := by
  refine ⟨fun pins s σ H Q I h => ?_⟩
  refine wpAny_Call_Name_kw (ld_glob I hg hm ?_ hdb)
  refine PySem.W.callWith_K (h₀ := X.base) I.ok.mod.kin M.kp (thn (ha.run pos pins s σ H _ I h) fun us s1 ⟨vs, H1, I1, r, q⟩ => ⟨I1.kIn, ?_⟩) he hpl
  exact run_makeG M F hr hb hd hx I1 r q
theorem pe_make0G (M : Mk X.K C f) (F : FnOkG X.prog X.w X.K X.mg X.base CX k f fd ps sp) (hr : RoomG (k + 1) X.A) (hg : Gl X x) (hm : X.mg x = some (.ref C)) (hb : Binds X.K fd ps ds) (hd : Vals dvs ds) (hx : Passes CX X E)
    (hdb : (x == ("__debug__" : Str)) = false := by decide) : PE X (.Call (.Name x p) [] [] pos) (tMake C sp dvs E tNil) := by
  refine ⟨fun pins s σ H Q I h => ?_⟩
  refine wpAny_Call_Name_kw (ld_glob I hg hm ?_ hdb)
  exact PySem.W.callWith_K0 I.kIn M.kp (run_makeG (us := []) M F hr hb hd hx I .nil h)
end
theorem fn_ofG {CX : CXT} {P : Program} {w : World} {K : PySem.W.Frag} {mg : Str → Option Value} {base : Heap} {k : Nat} {f : Addr} {name qual : Str} {params : Arguments} {body : List Stmt} {scope : Scope} {dV kV doc pm cdv ct oc : Value} {an od : Option Addr}
    {osl : Array (Option Value)} {N ps : List Str} {sp : Sp} (lk : K.lookup f = some ⟨oc, od, .func (PySem.W.fnOf name qual params body scope dV kV doc pm an cdv ct), osl⟩) (hcd : PySem.W.codeIn K cdv qual = true) (S : FnScope N ps scope)
    (len : ∀ vs H Q E, sp vs H Q E → vs.length = ps.length)
    (hbody : ∀ (A : Around) (outer : List Env) (s : Shared) (H : Hp) (vs : List V) (Q : VK) (E : XK), RoomG k (A.deeper (envOfC qual scope s.heap.objs.size f cdv)) → sp vs H Q E →
      ∃ t, PSs (cxOf CX P w K mg base N qual scope f cdv A outer s H E) body t ∧ t { nx := fun _ H' => Q .non H', rt := Q } (start N vs) H) :
    FnOkG P w K mg base CX (k + 1) f (PySem.W.fnOf name qual params body scope dV kV doc pm an cdv ct) ps sp := by
  refine ⟨len, fun A outer s H args us vs Q E hr e0 hb r hsp => ?_⟩
  have hl := len _ _ _ _ hsp
  have KX : K.In s.heap := e0.mod.kin.keeps fun b o e => (e0.bs b o e).1
  have lim : s.heap.NoLimit := e0.mod.nolimit.keeps fun b o e => (e0.bs b o e).1
  have hkind : ∀ y ∈ ps.zip us, scope.names.lookup y.1 = some .local ∨ (scope.names.lookup y.1 = some .cell ∧ ((cellsFrom (s.heap.objs.size + 1) scope.names []).lookup y.1).isSome = true) := fun ⟨n, v⟩ hy => by
    rcases S.par n (List.of_mem_zip hy).1 with q | q
    · exact .inl q
    · exact .inr ⟨q, PySem.W.cellsFrom_some _ _ _ (.inl q)⟩
  refine codeAny_call_function hr.1.depth (KX _ _ lk) rfl S.co S.gen rfl (PySem.W.codeRec_of KX hcd) (hb _ _ _ _ ?_)
  refine wpAny_newFunctionEnv_cells S.kind hkind fun env he s1 x => ?_
  subst he
  refine ⟨lim.keeps x.toInCall.keep, codeAny_func ?_⟩
  obtain ⟨t, ht, hq⟩ := hbody A outer s H vs Q E ⟨hr.1.deeper _, hr.2⟩ hsp
  have I : Inv (cxOf CX P w K mg base N qual scope f cdv A outer s H E) [] (start N vs) H s1 := inv_start S hr.1.hd e0 hl r x
  refine wpAny_mono (ht.run [] s1 (start N vs) H _ I hq) (fun fl s' hs => ?_) fun e s' hs => hs
  have fin : ∀ {σ' : St} {H' : Hp} {v : V} {u : Value}, Inv (cxOf CX P w K mg base N qual scope f cdv A outer s H E) [] σ' H' s' → RelV v u → Q v H' → CE outer P w H s Q u s' :=
    fun {σ' H' v u} J rv q => ⟨v, H', J.os, J.bare, J.base, J.hok, rv, q⟩
  cases fl with
  | ret u =>
    obtain ⟨v, σ', H', J, rv, q⟩ := hs
    exact fin J rv q
  | next =>
    obtain ⟨σ', H', J, q⟩ := hs
    exact fin (v := V.non) (u := Value.none) J rfl q
  | brk =>
    obtain ⟨_, _, _, q⟩ := hs
    exact False.elim q
  | cont =>
    obtain ⟨_, _, _, q⟩ := hs
    exact False.elim q

theorem Fun.okG {P : Program} {w : World} {K : PySem.W.Frag} {mg : Str → Option Value} {base : Heap} {x qual : Str} {st : Stmt} {f : Addr} {fd : FuncData} {N ps : List Str} {k : Nat} {sp : Sp} (F : Fun K x qual st f fd) (S : FnScope N ps (defScope st)) (len : ∀ vs H Q E, sp vs H Q E → vs.length = ps.length)
    (hbody : ∀ (cdv : Value) (A : Around) (outer : List Env) (s : Shared) (H : Hp) (vs : List V) (Q : VK) (E : XK), RoomG k (A.deeper (envOfC qual (defScope st) s.heap.objs.size f cdv)) → sp vs H Q E →
      ∃ t, PSs (cxOf CX0 P w K mg base N qual (defScope st) f cdv A outer s H E).nox (defBody st) t ∧ t { nx := fun _ H' => Q .non H', rt := Q } (start N vs) H) : FnOkG P w K mg base CX0 (k + 1) f fd ps sp := by
  obtain ⟨oc, od, kV, doc, pm, an, cdv, ct, osl, rfl, lk, hcd⟩ := F.ex
  refine fn_ofG lk hcd S len fun A outer s H vs Q E hr hsp => ?_
  obtain ⟨t, h, q⟩ := hbody cdv A outer s H vs Q E hr hsp
  exact ⟨t, h.nox, q⟩
theorem Fun.okXG {P : Program} {w : World} {K : PySem.W.Frag} {mg : Str → Option Value} {base : Heap} {x qual : Str} {st : Stmt} {f : Addr} {fd : FuncData} {N ps : List Str} {k : Nat} {sp : Sp} (F : Fun K x qual st f fd) (S : FnScope N ps (defScope st)) (len : ∀ vs H Q E, sp vs H Q E → vs.length = ps.length)
    (hbody : ∀ (cdv : Value) (A : Around) (outer : List Env) (s : Shared) (H : Hp) (vs : List V) (Q : VK) (E : XK), RoomG k (A.deeper (envOfC qual (defScope st) s.heap.objs.size f cdv)) → sp vs H Q E →
      ∃ t, PSs (cxOf (L2.CX P w) P w K mg base N qual (defScope st) f cdv A outer s H E) (defBody st) t ∧ t { nx := fun _ H' => Q .non H', rt := Q } (start N vs) H) : FnOkG P w K mg base (L2.CX P w) (k + 1) f fd ps sp := by
  obtain ⟨oc, od, kV, doc, pm, an, cdv, ct, osl, rfl, lk, hcd⟩ := F.ex
  exact fn_ofG lk hcd S len fun A outer s H vs Q E hr hsp => hbody cdv A outer s H vs Q E hr hsp
theorem law_callG {P : Program} {w : World} {K : PySem.W.Frag} {mg mb : Str → Option Value} {CX : CXT} {k : Nat} {fa a : Addr} {fd : FuncData} {x : Str} {sp : Sp} {s₁ : Shared} {vs : List Value} {ns : List Int}
    (KX : K.In s₁.heap) (hns : s₁.heap.Ns mainGlobals mg) (hb : s₁.heap.Ns builtinsNs mb) (hbb : ∀ x : Str, x ≠ "__name__" → mb x = bootBuiltins x) (hlim : s₁.heap.NoLimit) (hg : s₁.gens = #[])
    (ha : s₁.heap.get? a = some { cls := .type "list", data := .seq vs.toArray }) (hi : IntsAre vs ns) (hl : ns.length ≤ sizeLine) (hr : Room k callerA)
    (F : ∀ base : Heap, K.In base → base.Ns mainGlobals mg → FnOkG P w K mg base CX k fa fd [x] sp) (hbind : ∀ (s : Shared) (u : Value), BindsTo s fd ⟨[u], []⟩ [(x, u)])
    (hsp : ∀ H : Hp, Only H → SqL K H a (ns.map V.int) → sp [.ref a] H (fun v _ => v = .bl true) fun _ _ _ => False)
    (hCX : ∀ H e s', CX [] H s₁ (fun _ _ _ => False) e s' → False) :
    codeAny (model P w) callerA (.call (.ref fa) ⟨[.ref a], []⟩) (fun r s' => r = .ok (.ret (.bool true)) ∧ OldK s₁.heap s'.heap ∧ s'.os = s₁.os ∧ AllBare s'.gens) s₁ := by
  have rv := vals_ints hi
  have lenV := hi.length
  -- from an abstract heap in which nothing but the script may be tracked
  have core : ∀ H : Hp, Only H → SqL K H a (ns.map V.int) → HOk P w H s₁.heap → (∀ b, H b ≠ none → b = a) → (H a ≠ none → K.lookup a = none) →
      codeAny (model P w) callerA (.call (.ref fa) ⟨[.ref a], []⟩) (fun r s' => r = .ok (.ret (.bool true)) ∧ OldK s₁.heap s'.heap ∧ s'.os = s₁.os ∧ AllBare s'.gens) s₁ := by
    intro H hO hS hok hA hK
    have base_of : ∀ {b : Addr} {o : Obj}, s₁.heap.get? b = some o → H b = none → (hidT s₁.heap H).get? b = some o := fun e n => hidT_get e n
    have noA : ∀ {b : Addr} {o : Obj} {es : Array DictEntry} {ep : Nat}, s₁.heap.get? b = some o → o.data = .dict es ep → H b = none := fun {b o es ep} e d => by
      cases q : H b with
      | none => rfl
      | some u =>
        have e' : b = a := hA b (by rw [q]; simp)
        subst e'
        rw [ha] at e; cases e
        have d' : Data.seq vs.toArray _ = Data.dict es ep := d
        cases d'
    have nsK : ∀ {b : Addr} {m : Str → Option Value}, s₁.heap.Ns b m → (hidT s₁.heap H).Ns b m := fun {b m} ⟨o, es, ep, e, d, r⟩ => ⟨o, es, ep, base_of e (noA e d), d, r⟩
    have hKb : K.In (hidT s₁.heap H) := fun b o e => base_of (KX b o e) (by
      cases q : H b with
      | none => rfl
      | some u =>
        have e' : b = a := hA b (by rw [q]; simp)
        subst e'
        rw [hK (by rw [q]; simp)] at e; cases e)
    have hM : Mod K mg (hidT s₁.heap H) := ⟨hKb, nsK hns, ⟨mb, nsK hb, hbb⟩, let ⟨mc, h1, h2⟩ := hlim; ⟨mc, nsK h1, h2⟩⟩
    have e0 : Env0 P w K mg (hidT s₁.heap H) callerA [] s₁ H := ⟨rfl, hM, fun b o e => of_hidT e, Nat.le_of_eq (hidT_size _ _), trivial, fun b hb => absurd (show b ∈ ([] : List Addr) from hb) (by simp), hok, .of_eq hg⟩
    refine codeAny_mono ((F _ hKb (nsK hns)).run callerA [] s₁ H ⟨[.ref a], []⟩ [.ref a] [.ref a] _ _ ⟨hr, rfl⟩ e0 (hbind s₁ (.ref a)) (.cons rfl .nil) (hsp H hO hS)) fun r s' h => ?_
    cases r with
    | error e => exact (hCX H e s' h).elim
    | ok fl =>
      cases fl with
      | next => exact False.elim h
      | brk => exact False.elim h
      | cont => exact False.elim h
      | ret u =>
        obtain ⟨v, H', os, bare, un, hok', r', q⟩ := h
        have q' : v = .bl true := q
        subst q'
        obtain rfl : u = Value.bool true := r'
        refine ⟨rfl, OldK.of_keep fun b o e => ?_, os, bare⟩
        cases q : H b with
        | none => exact un.keep b o e q (by intro z; exact absurd (show b ∈ ([] : List Addr) from z) (by simp)) (by simp)
        | some u =>
          rcases hO b with z | ⟨ob, xs, z⟩
          · rw [q] at z; cases z
          · have z2 := un.frzs b ob _ z
            obtain ⟨e1, _⟩ := hok b _ z
            obtain ⟨e2, _⟩ := hok' b _ z2
            rw [e] at e1; cases e1
            exact e2
  cases hk : K.lookup a with
  | some o =>
    -- the script is one of the module's own objects
    have e := KX a o hk
    rw [ha] at e
    cases e
    refine core (fun _ => none) (fun _ => .inl rfl) (.inr ⟨_, vs.toArray, _, hk, rfl, rfl, rfl, by rw [List.size_toArray, lenV]; exact hl, by simpa using rv⟩) (fun b u z => by have z' : (none : Option HO) = some u := z; cases z') (fun b z => absurd rfl z) fun z => absurd rfl z
  | none =>
    refine core (fun b => if b = a then some (.frz { cls := .type "list", data := .seq vs.toArray } (.lst (ns.map V.int))) else none) (fun b => ?_) (.inl (.inr ⟨{ cls := .type "list", data := .seq vs.toArray }, if_pos rfl⟩)) (fun b u z => ?_) (fun b z => ?_) fun _ => hk
    · by_cases hb : b = a
      · exact .inr ⟨_, _, if_pos hb⟩
      · exact .inl (if_neg hb)
    · by_cases hb : b = a
      · have z' := (if_pos hb).symm.trans z
        cases z'
        subst hb
        exact ⟨ha, by rw [List.length_map]; exact hl, vs, _, rv, ha⟩
      · have z' := (if_neg hb).symm.trans z
        cases z'
    · by_cases hb : b = a
      · exact hb
      · exact absurd (if_neg hb) z
theorem walk_ofG {l : PySem.W.OpenLaw} {n k : Nat} {q : Program} {loose : List Str} {XP : (Str → Option Value) → Heap → Prop} {YP : World → Heap → Prop} {d : DefRec} {K : Params → PySem.W.Frag} {CX : World → CXT} {sp : World → Sp} {x : Str}
    (hn : l.most = some n) (hn2 : n ≤ sizeLine) (hdf : d.params.defaults = []) (hr : Room k callerA)
    (hY : ∀ (w : World) (h : Heap), YP w h → (K w.params).In h)
    (F : ∀ (w : World) (mg : Str → Option Value) (fa : Addr) (h : Heap), (K w.params).In h → h.Ns mainGlobals mg → mg d.name = some (.ref fa) →
      ∃ fd : FuncData, (∀ (s : Shared) (u : Value), BindsTo s fd ⟨[u], []⟩ [(x, u)]) ∧
        ∀ base : Heap, (K w.params).In base → base.Ns mainGlobals mg → FnOkG l.prog w (K w.params) mg base (CX w) k fa fd [x] (sp w))
    (hsp : ∀ (w : World) (H : Hp) (a : Addr) (ns : List Int), ns.length ≤ n → Only H → SqL (K w.params) H a (ns.map V.int) → sp w [.ref a] H (fun v _ => v = .bl true) fun _ _ _ => False)
    (hCX : ∀ (w : World) (H : Hp) (s : Shared) (e : Value) (s' : Shared), CX w [] H s (fun _ _ _ => False) e s' → False) :
    PySem.W.WalkO q loose XP YP l.row.toRowW d [] (fun f vs => PySem.call f vs) := by
  refine Att.attach_call hn hdf fun w s₀ s₁ mg mb fa o pm cd doc a vs ns G Y ho hd hcd hmg hobj hints hlen hg => ?_
  have KX := hY w _ Y
  obtain ⟨fd, hb, hF⟩ := F w mg fa _ KX G.T.g hmg
  exact law_callG KX G.T.g G.T.b G.T.builtins G.T.nolimit hg hobj hints (Nat.le_trans hlen hn2) hr hF hb (fun H hO hS => hsp w H a ns hlen hO hS) fun H e s' => hCX w H s₁ e s'

end L2

set_option Elab.async false
set_option linter.all false
set_option maxRecDepth 100000
set_option maxHeartbeats 4000000
namespace L2
open PySem PySem.Spec PyProof.Rows
def keyD : Key → PyData
  | .inl i => .int i
  | .inr x => .str x
/-- a scalar -/
inductive Sc : V → PyData → Prop
  | non : Sc .non .none
  | bl (b : Bool) : Sc (.bl b) (.bool b)
  | int (i : Int) : Sc (.int i) (.int i)
  | str (x : Str) : Sc (.str x) (.str x)
theorem Sc.reads {h : Heap} : ∀ {v : V} {d : PyData} {u : Value}, Sc v d → RelV v u → Reads h u d []
  | _, _, _, .non, r => by cases r; exact .none
  | _, _, _, .bl b, r => by cases r; exact .bool b
  | _, _, _, .int i, r => by obtain ⟨t, rfl⟩ := r; exact .int i t
  | _, _, _, .str x, r => by obtain ⟨t, rfl⟩ := r; exact .str x t
theorem Sc.readsAll {h : Heap} : ∀ {vs : List V} {ds : List PyData} {us : List Value}, Paired Sc vs ds → Vals vs us → ReadsAll h us ds []
  | _, _, _, .nil, .nil => .nil
  | _, _, _, .cons a b, .cons r t => by
    have := ReadsAll.cons (a.reads (h := h) r) (Sc.readsAll b t)
    simpa using this
/-- repr of data without dicts, or of a dict of scalars -/
def rReprD (K : PySem.W.Frag) : List V → Hp → VK → Prop := fun xs H Q => ∃ (v : V) (d : PyData), xs = [v] ∧
  ((Dp K H v d ∧ d.hasDict = false) ∨ ∃ (a : Addr) (kvs : List (Key × V)) (ds : List PyData), v = .ref a ∧ H a = some (.dK kvs) ∧ Paired Sc (kvs.map (·.2)) ds ∧ d = .dict ((kvs.map fun p => keyD p.1).zip ds)) ∧
  d.showable = true ∧ d.shown.length ≤ sizeLine ∧ d.depth ≤ 50 ∧ Q (.str d.shown) H
theorem keys_read {P : Program} {w : World} {h : Heap} : ∀ {es : List DictEntry} {kvs : List (Key × Value)}, Pairs (mixKind P w) es kvs → ReadsAll h (es.map (·.key)) (kvs.map fun p => keyD p.1) [] ∧ es.map (·.val) = kvs.map (·.2)
  | _, _, .nil => ⟨.nil, rfl⟩
  | _, _, .cons (e := e) (kv := kv) a b c => by
    obtain ⟨r1, r2⟩ := keys_read c
    refine ⟨?_, by rw [List.map_cons, List.map_cons, b, r2]⟩
    have k1 : Reads h e.key (keyD kv.1) [] := by
      rcases keyIs_shape (show keyIs kv.1 e.key = true from a) with ⟨i, t, e1, e2⟩ | ⟨x, t, e1, e2⟩
      · rw [e1, e2]
        exact .int i t
      · rw [e1, e2]
        exact .str x t
    have := ReadsAll.cons k1 r1
    simpa using this
section
variable {X : Cx}
theorem call_reprD (hg : X.A.guards = some []) (hu : X.A.units + 64 < cLine) : CallR X (.builtin "repr") (rReprD X.K) := by
  intro pins s σ H xs us Q I r h
  obtain ⟨v, d, rfl, hv, hs, hz, hdp, q⟩ := h
  obtain ⟨u, rfl, rv⟩ := vals1 r
  have fin : ∀ (as : List Addr), Reads s.heap u d as → (d.hasDict = true → sysModules ∉ as) → wpAny (model X.prog X.w) X.A (call (.builtin "repr") [u]) (EP X pins σ Q) X.xe s := by
    intro as hr hno
    cases hr with
    | none => exact PySem.P.repr_of_none ⟨.str _, H, I.tok _, ⟨_, rfl⟩, q⟩
    | bool b => exact PySem.P.repr_of_bool ⟨.str _, H, I.tok _, ⟨_, rfl⟩, q⟩
    | int i t => exact PySem.P.repr_of_int (by simpa [PyData.showable] using hs) ⟨.str _, H, I.tok _, ⟨_, rfl⟩, q⟩
    | str x t => exact PySem.P.repr_of_str ⟨.str _, H, I.tok _, ⟨_, rfl⟩, q⟩ hz
    | list a b c e => exact repr_of_reads' (.list a b c e) hs hno hg (by omega) (fun _ _ z => z) (fun h' u' tk k => ⟨.str _, H, I.kept (t' := tk) k, ⟨_, rfl⟩, q⟩) hz
    | tuple a b c e => exact repr_of_reads' (.tuple a b c e) hs hno hg (by omega) (fun _ _ z => z) (fun h' u' tk k => ⟨.str _, H, I.kept (t' := tk) k, ⟨_, rfl⟩, q⟩) hz
    | dict a b c e f => exact repr_of_reads' (.dict a b c e f) hs hno hg (by omega) (fun _ _ z => z) (fun h' u' tk k => ⟨.str _, H, I.kept (t' := tk) k, ⟨_, rfl⟩, q⟩) hz
  rcases hv with ⟨hd, hno⟩ | ⟨a, kvs, ds, rfl, ha, hp, rfl⟩
  · obtain ⟨as, hr⟩ := Dp.reads I d v u hd rv
    exact fin as hr fun z => by rw [hno] at z; cases z
  · obtain rfl : u = Value.ref a := rv
    obtain ⟨_, hsys, vs, kv, o, es, ep, ho, hE, hD, _, hP, _⟩ : ObjOk X.prog X.w H s.heap a (.dK kvs) := I.hok a _ ha
    obtain ⟨kr, vr⟩ := keys_read (h := s.heap) hP
    have e1 : ∀ {l1 : List (Key × V)} {l2 : List (Key × Value)}, KV l1 l2 → (l2.map fun p => keyD p.1) = (l1.map fun p => keyD p.1) ∧ Vals (l1.map (·.2)) (l2.map (·.2)) := by
      intro l1 l2 hk
      induction hk with
      | nil => exact ⟨rfl, .nil⟩
      | cons a _ ih => exact ⟨by rw [List.map_cons, List.map_cons, a.1, ih.1], .cons a.2 ih.2⟩
    obtain ⟨ek, ev⟩ := e1 kv
    have hlen : (kvs.map fun p => keyD p.1).length = ds.length := by
      have := Paired.length hp
      simpa using this
    have vr2 : ReadsAll s.heap (es.toList.map (·.val)) ds [] := by
      rw [vr]
      exact Sc.readsAll hp ev
    have R : Reads s.heap (.ref a) (.dict ((kvs.map fun p => keyD p.1).zip ds)) (a :: [] ++ []) :=
      .dict ho hE.1 hD (by rw [List.map_fst_zip (Nat.le_of_eq hlen), ← ek]; exact kr) (by rw [List.map_snd_zip (Nat.le_of_eq hlen.symm)]; exact vr2)
    exact fin _ R fun _ z => by
      have : sysModules = a := by simpa using z
      rw [this] at hsys
      simp at hsys
end
end L2

set_option Elab.async false
set_option linter.all false
set_option maxRecDepth 100000
set_option maxHeartbeats 4000000
namespace Dv
open PySem L2 Evl
/-- the type of a datum by its name -/
def tyD : PyData → String
  | .none => "NoneType"
  | .bool _ => "bool"
  | .int _ => "int"
  | .str _ => "str"
  | .list _ => "list"
  | .tuple _ => "tuple"
  | .dict _ => "dict"
def isD (d : PyData) (T : String) : Bool := tyD d == T || (T == "int" && tyD d == "bool")
section
variable {K : PySem.W.Frag} {σ : L2.St} {F F1 H H1 : Hp} {te ta tb : TE} {d a b : PyData} {ds es : List PyData} {i j : Int} {tt tu : TT} {p q : Bool}
theorem tyx_of {v : V} (h : Dp K H v d) : TyX K H v (.type (tyD d)) := by
  cases h with
  | non => exact .base .non
  | bl b => exact .base (.bl b)
  | int i => exact .base (.int i)
  | str x => exact .base (.str x)
  | lst hs _ =>
    rcases hs with (h | ⟨o, h⟩) | ⟨o, its, n, hk, hc, _⟩
    · exact .base (.lst h)
    · exact .base (.frz h)
    · exact .kList hk hc
  | tup hs _ =>
    rcases hs with (h | ⟨o, h⟩) | ⟨o, its, n, hk, hc, _⟩
    · exact .base (.tup h)
    · exact .fTuple h
    · exact .kTuple hk hc
/-- the answers of isinstance for the built-in types -/
def tys : List String := ["int", "bool", "str", "list", "tuple", "dict"]
theorem kit_ty {T : String} (hT : T ∈ tys) (hd : ∀ kv, d ≠ .dict kv) : PySem.W.kitOne K (.type (tyD d)) (.type T) = some (isD d T) := by
  have e : ∀ t ∈ ["NoneType", "bool", "int", "str", "list", "tuple"], ∀ T ∈ tys, PySem.W.kitOne ([] : PySem.W.Frag) (.type t) (.type T) = some (t == T || (T == "int" && t == "bool")) := by decide +kernel
  have e2 : PySem.W.kitOne K (.type (tyD d)) (.type T) = PySem.W.kitOne ([] : PySem.W.Frag) (.type (tyD d)) (.type T) := rfl
  rw [e2]
  refine e _ ?_ T hT
  cases d <;> simp [tyD]
  exact absurd rfl (hd _)
theorem dp_nodict {v : V} (h : Dp K H v d) : ∀ kv, d ≠ .dict kv := by
  intro kv e
  subst e
  cases h
theorem ev_isi {T : String} (h : EvD K ta σ F d) (hT : T ∈ tys) : EvD K (tCB (rIsi K) (tCons ta (tCons (tC (.ty T)) tNil))) σ F (.bool (isD d T)) := fun H e Q q =>
  h H e _ fun v F' H' g hv => ⟨v, .ty T, _, _, _, rfl, .ty T, tyx_of (dp_ex g.fh hv), kit_ty hT (dp_nodict hv), q _ F' H' g (.bl _)⟩
theorem ev_abs (h : EvD K ta σ F (.int i)) : EvD K (tCB (fun xs H Q => ∃ i, xs = [.int i] ∧ Q (.int (if i < 0 then -i else i)) H) (tCons ta tNil)) σ F (.int (i.natAbs : Int)) := fun H e Q q =>
  h H e _ fun v F' H' g hv => by
    cases hv
    refine ⟨i, rfl, q _ F' H' g ?_⟩
    have : (if i < 0 then -i else i) = (i.natAbs : Int) := by split <;> omega
    rw [this]
    exact .int _
theorem ev_int1 (h : EvD K ta σ F (.int i)) : EvD K (tCB (fun xs H Q => (∃ i, xs = [.int i] ∧ Q (.int i) H) ∨ ∃ k, xs = [.bl k] ∧ Q (.int (if k then 1 else 0)) H) (tCons ta tNil)) σ F (.int i) := fun H e Q q =>
  h H e _ fun v F' H' g hv => by
    cases hv
    exact .inl ⟨i, rfl, q _ F' H' g (.int _)⟩
/-- len -/
def lenD : PyData → Option Nat
  | .list ds => some ds.length
  | .tuple ds => some ds.length
  | .str x => some x.length
  | _ => none
theorem ev_len {n : Nat} (h : EvD K ta σ F d) (hl : lenD d = some n) (hn : n ≤ 100000) : EvD K (tCB (fun xs H Q => ∃ x n, xs = [x] ∧ LenV K x H n ∧ Q (.int n) H) (tCons ta tNil)) σ F (.int (n : Int)) := fun H e Q q =>
  h H e _ fun v F' H' g hv => by
    refine ⟨v, n, rfl, ?_, q _ F' H' g (.int _)⟩
    have hv' := dp_ex g.fh hv
    cases hv' with
    | str x => cases hl; exact ⟨sz_of hn, rfl⟩
    | lst hs ha => cases hl; exact .inl ⟨_, hs, (dps_len ha).symm⟩
    | tup hs ha => cases hl; exact .inr ⟨_, hs, (dps_len ha).symm⟩
    | non => cases hl
    | bl b => cases hl
    | int i => cases hl
/-- list(..) of a list or a tuple: a new list; tuple(..) of a list -/
theorem el_list (h : EvD K ta σ F d) (hd : d = .list ds ∨ d = .tuple ds) : EvL K (tCB (fun xs H Q => ∃ p ys, xs = [.ref p] ∧ (SqL K H p ys ∨ SqT K H p ys) ∧ ∀ l, H l = none → Q (.ref l) (upd H l (.lst ys))) (tCons ta tNil)) σ F ds := fun H e Q q =>
  h H e _ fun v F' H' g hv => by
    rcases hd with rfl | rfl
    · cases hv with
      | lst hs ha => exact ⟨_, _, rfl, .inl (ex_l g.fh hs), fun l hl => q l _ F' _ (g.trans (Gr.only g.fh hl)) (ex_none g.hx hl) (ex_none g.fh hl) upd_same ha⟩
    · cases hv with
      | tup hs ha => exact ⟨_, _, rfl, .inr (ex_t g.fh hs), fun l hl => q l _ F' _ (g.trans (Gr.only g.fh hl)) (ex_none g.hx hl) (ex_none g.fh hl) upd_same ha⟩
theorem ev_tuple (h : EvD K ta σ F (.list ds)) : EvD K (tCB (fun xs H Q => ∃ p ys, xs = [.ref p] ∧ ((SqL K H p ys ∧ ∀ l, H l = none → Q (.ref l) (upd H l (.tup ys))) ∨ (SqT K H p ys ∧ Q (.ref p) H))) (tCons ta tNil)) σ F (.tuple ds) := fun H e Q q =>
  h H e _ fun v F' H' g hv => by
    cases hv with
    | lst hs ha => exact ⟨_, _, rfl, .inl ⟨ex_l g.fh hs, fun l hl => q _ _ _ (g.trans (Gr.new g.fh hl)) (.tup (st_of upd_same) (dps_ex (Ex.new (ex_none g.fh hl)) ha))⟩⟩
/-- slices of a list -/
def cutD (ds : List PyData) (lo hi : Option Int) : List PyData := (ds.drop (HT.sIx ds.length 0 lo)).take (HT.sIx ds.length ds.length hi - HT.sIx ds.length 0 lo)
theorem dps_drop : ∀ (n : Nat) {ds : List PyData} {vs : List V}, DpAll K F vs ds → DpAll K F (vs.drop n) (ds.drop n)
  | 0, _, _, h => h
  | n + 1, [], _, h => by cases h; exact .nil
  | n + 1, _ :: _, _, h => by cases h with | cons h1 h2 => exact dps_drop n h2
theorem dps_take : ∀ (n : Nat) {ds : List PyData} {vs : List V}, DpAll K F vs ds → DpAll K F (vs.take n) (ds.take n)
  | 0, _, _, _ => .nil
  | n + 1, [], _, h => by cases h; exact .nil
  | n + 1, _ :: _, _, h => by cases h with | cons h1 h2 => exact .cons h1 (dps_take n h2)
theorem el_sl {tl th : TO} {lo hi : Option Int} (h : EvD K te σ F (.list ds)) (h1 : EoD tl σ F lo) (h2 : EoD th σ F hi) : EvL K (tSl (rSlL K) te tl th) σ F (cutD ds lo hi) := fun H e Q q =>
  h H e _ fun v F1 H1 g1 hv => (h1.mono g1.fx) H1 g1.fh _ fun F2 H2 g2 => (h2.mono (g1.fx.trans g2.fx)) H2 g2.fh _ fun F3 H3 g3 => by
    cases hv with
    | lst hs ha =>
      have e3 := (g2.fx.trans g3.fx)
      have l := dps_len ha
      refine ⟨_, _, rfl, ex_l (e3.trans g3.fh) hs, fun p hp => q p _ F3 _ ((g1.trans (g2.trans g3)).trans (Gr.only g3.fh hp)) (ex_none (g1.trans (g2.trans g3)).hx hp) (ex_none g3.fh hp) upd_same ?_⟩
      unfold cutV cutD
      rw [l]
      exact dps_take _ (dps_drop _ (dps_ex e3 ha))
end
end Dv

set_option Elab.async false
set_option linter.all false
set_option maxRecDepth 100000
set_option maxHeartbeats 4000000
namespace Dv
open PySem PySem.Spec PyProof.Rows L2 Evl
/-- a def that can be called: its name stands for it, and it does what sp says -/
structure Cal (P : Program) (w : World) (K : PySem.W.Frag) (mg : Str → Option Value) (base : Heap) (nm : Str) (ps : List Str) (k : Nat) (sp : Sp) : Prop where
  ex : ∃ f fd, mg nm = some (.ref f) ∧ PySem.W.keepIn K (.ref f) = true ∧ Binds K fd ps [] ∧ FnOkG P w K mg base CX0 k f fd ps sp ∧ ∃ oc od osl, K.lookup f = some ⟨oc, od, .func fd, osl⟩
/-- what the module says of a def -/
structure Def (K : PySem.W.Frag) (mg : Str → Option Value) (nm : Str) (st : Stmt) (ps : List Str) : Prop where
  ex : ∃ f fd, mg nm = some (.ref f) ∧ Fun K nm nm st f fd ∧ Binds K fd ps []
section
variable {P : Program} {w : World} {K : PySem.W.Frag} {mg : Str → Option Value} {base : Heap} {nm : Str} {st : Stmt} {N ps : List Str} {k : Nat} {sp : Sp}
theorem cal_mk (D : Def K mg nm st ps) (S : FnScope N ps (defScope st)) (len : ∀ vs H Q E, sp vs H Q E → vs.length = ps.length)
    (hbody : ∀ (f : Addr) (cdv : Value) (A : Around) (outer : List Env) (s : Shared) (H : Hp) (vs : List V) (Q : VK) (E : XK), RoomG k (A.deeper (envOfC nm (defScope st) s.heap.objs.size f cdv)) → sp vs H Q E →
      ∃ t, PSs (cxOf CX0 P w K mg base N nm (defScope st) f cdv A outer s H E).nox (defBody st) t ∧ t { nx := fun _ H' => Q .non H', rt := Q } (start N vs) H) : Cal P w K mg base nm ps (k + 1) sp := by
  obtain ⟨f, fd, g, F, b⟩ := D.ex
  obtain ⟨oc, od, kV, doc, pm, an, cdv, ct, osl, e, lk, hcd⟩ := F.ex
  exact ⟨f, fd, g, F.kp, b, F.okG S len (hbody f), oc, od, osl, lk⟩
theorem len_D {f : List PyData → PyData → Prop} {n : Nat} (h : ∀ ds d, f ds d → ds.length = n) : ∀ vs H Q E, spD K f vs H Q E → vs.length = n := fun _ _ _ _ ⟨_, _, _, _, hv, hf, _⟩ => (dps_len hv).trans (h _ _ hf)
theorem len_N {f : List PyData → List PyData → Prop} {n : Nat} (h : ∀ ds d, f ds d → ds.length = n) : ∀ vs H Q E, spN K f vs H Q E → vs.length = n := fun _ _ _ _ ⟨_, _, _, _, hv, hf, _⟩ => (dps_len hv).trans (h _ _ hf)
end
section
variable {X : Cx} {x : Str} {p pos : Pos} {e : Expr} {es : List Expr} {t : TA} {k j : Nat} {ps : List Str} {sp : Sp}
theorem pe_callC (C : Cal X.prog X.w X.K X.mg X.base x ps k sp) (hr : RoomG j X.A) (ha : PA X (e :: es) t) (hg : Gl X x := by rfl) (hj : k ≤ j := by decide) (hdb : (x == ("__debug__" : Str)) = false := by decide)
    (he : starEach (e :: es) X.env = (false, eval e X.env) :: starEach es X.env := by rfl) (hpl : (backTo pos (starEach es X.env)).any (·.1) = false := by rfl) : PE X (.Call (.Name x p) (e :: es) [] pos) (tCall sp [] E0 t) := by
  obtain ⟨f, fd, g, kp, b, G, _⟩ := C.ex
  exact pe_callG G (hr.mono hj) hg g kp b .nil pass0 ha hdb he hpl
end
section
variable {K : PySem.W.Frag} {σ : L2.St} {F : Hp} {te ta tb : TE} {d a b : PyData} {tt tu : TT} {p q : Bool}
/-! ### tests whose first part decides -/
theorem et_orT (h : EtD tt σ F true) : EtD (tOr tt tu) σ F true := et_or (q := true) h fun z => nomatch z
theorem et_orF (h : EtD tt σ F false) (h2 : EtD tu σ F q) : EtD (tOr tt tu) σ F q := et_or h fun _ => h2
theorem et_andF (h : EtD tt σ F false) : EtD (tAnd tt tu) σ F false := et_and (q := false) h fun z => nomatch z
theorem et_andT (h : EtD tt σ F true) (h2 : EtD tu σ F q) : EtD (tAnd tt tu) σ F q := et_and h fun _ => h2
theorem ev_orT (h : EvD K ta σ F (.bool true)) : EvD K (tOrV ta tb) σ F (.bool true) := ev_orV (q := true) h fun z => nomatch z
theorem ev_orF (h : EvD K ta σ F (.bool false)) (h2 : EvD K tb σ F (.bool q)) : EvD K (tOrV ta tb) σ F (.bool q) := ev_orV h fun _ => h2
theorem ev_andF (h : EvD K ta σ F (.bool false)) : EvD K (tAndV ta tb) σ F (.bool false) := ev_andV (q := false) h fun z => nomatch z
theorem ev_andT (h : EvD K ta σ F (.bool true)) (h2 : EvD K tb σ F (.bool q)) : EvD K (tAndV ta tb) σ F (.bool q) := ev_andV h fun _ => h2
theorem ev_ifT (h : EtD tt σ F true) (h1 : EvD K ta σ F d) : EvD K (tIf tt ta tb) σ F d := ev_if h (fun _ => h1) fun z => nomatch z
theorem ev_ifF (h : EtD tt σ F false) (h1 : EvD K tb σ F d) : EvD K (tIf tt ta tb) σ F d := ev_if h (fun z => nomatch z) fun _ => h1
theorem s_ifT {ts tw : TS} {D : Ends} {H : Hp} (h : EtD tt σ F true) (e : Ex F H) (k : ∀ F' H', Gr F H F' H' → ts D σ H') : tIfS tt ts tw D σ H := s_if h e (fun _ => k) fun z => nomatch z
theorem s_ifF {ts tw : TS} {D : Ends} {H : Hp} (h : EtD tt σ F false) (e : Ex F H) (k : ∀ F' H', Gr F H F' H' → tw D σ H') : tIfS tt ts tw D σ H := s_if h e (fun z => nomatch z) fun _ => k
theorem et_notT (h : EtD tt σ F true) : EtD (tNot tt) σ F false := et_not h
theorem et_notF (h : EtD tt σ F false) : EtD (tNot tt) σ F true := et_not h
theorem et_v (h : EvD K te σ F d) (e : d = .bool p) : EtD (tTest te) σ F p := et_test (by rw [← e]; exact h)
theorem one {vs : List V} {a : PyData} (h : DpAll K F vs [a]) : ∃ x, vs = [x] ∧ Dp K F x a := by
  cases h with
  | cons h1 h =>
  cases h
  exact ⟨_, rfl, h1⟩
theorem two {vs : List V} {a b : PyData} (h : DpAll K F vs [a, b]) : ∃ x y, vs = [x, y] ∧ Dp K F x a ∧ Dp K F y b := by
  cases h with
  | cons h1 h =>
  cases h with
  | cons h2 h =>
  cases h
  exact ⟨_, _, rfl, h1, h2⟩
theorem three {vs : List V} {a b c : PyData} (h : DpAll K F vs [a, b, c]) : ∃ x y z, vs = [x, y, z] ∧ Dp K F x a ∧ Dp K F y b ∧ Dp K F z c := by
  cases h with
  | cons h1 h =>
  obtain ⟨x, y, rfl, h2, h3⟩ := two h
  exact ⟨_, _, _, rfl, h1, h2, h3⟩
end
end Dv

set_option Elab.async false
set_option linter.all false
set_option maxRecDepth 100000
set_option maxHeartbeats 4000000
namespace R3
open PySem PySem.Spec PyProof.Rows L2 Dv
def top (i : Nat) : Stmt := PySem.Challenge.pw_wholemills_k10_mills_made.main.body.getD i (.Pass ⟨0, 0, 0, 0⟩)
abbrev sIsWhole : Stmt := top 9
abbrev sIsName : Stmt := top 10
abbrev sCheckSize : Stmt := top 16
abbrev sIsNumber : Stmt := top 17
abbrev sIsStuff : Stmt := top 18
abbrev sAreParts : Stmt := top 19
abbrev sIsRecipe : Stmt := top 20
abbrev sCheckMill : Stmt := top 21
abbrev sTurned : Stmt := top 22
abbrev sLawHash : Stmt := top 24
abbrev sLawRandom : Stmt := top 25
abbrev sLawPartsDrawn : Stmt := top 26
abbrev sLawMillDrawn : Stmt := top 27
abbrev sLawCell : Stmt := top 28
abbrev sLawGenerator : Stmt := top 29
abbrev sLawCopied : Stmt := top 30
abbrev sLawCaught : Stmt := top 31
abbrev sLawMadeRight : Stmt := top 32
abbrev sLawTwo : Stmt := top 33
abbrev sLawUnlikeRight : Stmt := top 34
abbrev sLawOddNames : Stmt := top 35
abbrev sLawOddStuffs : Stmt := top 36
abbrev sLawOddRecipes : Stmt := top 37
abbrev sLawRefused : Stmt := top 38
abbrev sLawTwiceRefused : Stmt := top 39
abbrev sLaw : Stmt := top 40
/-- the built-in names that the module does not hold -/
structure Bl (mg : Str → Option Value) : Prop where
  int : mg "int" = none
  bool : mg "bool" = none
  str : mg "str" = none
  list : mg "list" = none
  tuple : mg "tuple" = none
  dict : mg "dict" = none
  len : mg "len" = none
  range : mg "range" = none
  sum : mg "sum" = none
  max : mg "max" = none
  abs : mg "abs" = none
  isi : mg "isinstance" = none
  repr : mg "repr" = none
  zip : mg "zip" = none
  enum : mg "enumerate" = none
section
variable {P : Program} {w : World} {K : PySem.W.Frag} {mg : Str → Option Value} {base : Heap}
/-! ### common_divisor, fraction -/
def spGcd : Sp := fun vs H Q _ => ∃ a b : Nat, vs = [.int a, .int b] ∧ Q (.int (Nat.gcd a b : Nat)) H
theorem ev_gcd {σ : L2.St} {F : Hp} {ta tb : TE} {i j : Int} {E : XK} (hi : 0 ≤ i) (hj : 0 ≤ j) (ha : EvD K ta σ F (.int i)) (hb : EvD K tb σ F (.int j)) : EvD K (tCall spGcd [] E (tCons ta (tCons tb tNil))) σ F (.int (Nat.gcd i.natAbs j.natAbs : Nat)) :=
  ev_call (Dv.ea_cons ha (Dv.ea_cons hb Dv.ea_nil)) fun vs F1 H1 _ e1 hv Q q => by
    cases hv with
    | cons h1 hv =>
    cases hv with
    | cons h2 hv =>
    cases hv
    cases h1
    cases h2
    refine ⟨i.natAbs, j.natAbs, ?_, q _ F1 H1 (Gr.refl e1) (.int _)⟩
    rw [show ((i.natAbs : Nat) : Int) = i by omega, show ((j.natAbs : Nat) : Int) = j by omega] <;> rfl
/-- top over under, in least terms -/
def frac (t : Int) (u : Int) : Int × Int := (t / (Nat.gcd t.natAbs u.natAbs : Int), u / (Nat.gcd t.natAbs u.natAbs : Int))
def encF (x : Int × Int) : PyData := .tuple [.int x.1, .int x.2]
def fFrac : List PyData → PyData → Prop := fun ds d => ∃ t u : Int, ds = [.int t, .int u] ∧ 0 < u ∧ u < 1073741824 ∧ d = encF (frac t u)
theorem two {F : Hp} {vs : List V} {a b : PyData} (h : DpAll K F vs [a, b]) : ∃ x y, vs = [x, y] ∧ Dp K F x a ∧ Dp K F y b := by
  cases h with
  | cons h1 h =>
  cases h with
  | cons h2 h =>
  cases h
  exact ⟨_, _, rfl, h1, h2⟩
theorem one {F : Hp} {vs : List V} {a : PyData} (h : DpAll K F vs [a]) : ∃ x, vs = [x] ∧ Dp K F x a := by
  cases h with
  | cons h1 h =>
  cases h
  exact ⟨_, rfl, h1⟩
/-! ### plus, scaled -/
def fplus (x y : Int × Int) : Int × Int := frac (x.1 * y.2 + y.1 * x.2) (x.2 * y.2)
def fscaled (x : Int × Int) (n : Int) : Int × Int := frac (x.1 * n) x.2
/-- a fraction whose numbers are small -/
def Sm (x : Int × Int) : Prop := 0 < x.2 ∧ x.2 < 32768 ∧ -1000000000000 < x.1 ∧ x.1 < 1000000000000
def fPlus : List PyData → PyData → Prop := fun ds d => ∃ x y : Int × Int, ds = [encF x, encF y] ∧ Sm x ∧ Sm y ∧ d = encF (fplus x y)
end
end R3

set_option Elab.async false
set_option linter.all false
set_option maxRecDepth 100000
set_option maxHeartbeats 4000000
namespace R3
open PySem PySem.Spec PyProof.Rows L2 Dv
section
variable {P : Program} {w : World} {K : PySem.W.Frag} {mg : Str → Option Value} {base : Heap}
theorem one_times {n : Int} (x : Int × Int) : True := trivial
def fScaled : List PyData → PyData → Prop := fun ds d => ∃ (x : Int × Int) (n : Int), ds = [encF x, .int n] ∧ 0 < x.2 ∧ x.2 < 1073741824 ∧ (-1000000000000 < n ∧ n < 1000000000000) ∧ d = encF (fscaled x n)
/-! ### is_whole, is_fraction, is_amount -/
def isWhole (d : PyData) : Bool := isD d "int" && !isD d "bool"
def fWhole : List PyData → PyData → Prop := fun ds d => ∃ x, ds = [x] ∧ d = .bool (isWhole x)
theorem sc_is_whole : FnScope (["value"] : List Str) (["value"] : List Str) (defScope sIsWhole) := ⟨rfl, rfl, rfl, by decide +kernel, rfl, by decide +kernel, by decide +kernel⟩
theorem ok_is_whole (D : Def K mg "is_whole" sIsWhole ["value"]) (B : Bl mg) : Cal P w K mg base "is_whole" ["value"] 1 (spD K fWhole) := by
  refine cal_mk D sc_is_whole (len_D (by rintro _ _ ⟨t, rfl, _⟩; rfl)) (fun f cdv A outer s H vs Q E hr h => ?_)
  obtain ⟨F, ds, d, e, hv, ⟨d, rfl, rfl⟩, q⟩ := h
  obtain ⟨x, rfl, h1⟩ := Dv.one hv
  refine ⟨_, (pss_one (ps_ret (pe_and (pe_callB call_isi (by rfl) B.isi (by decide +kernel) (pa_cons (pv 0) (pa_cons (pe_bltn (v := .ty "int") (by rfl) B.int (by decide +kernel) rfl) pa_nil))) (pe_one (pe_not (pe_callB call_isi (by rfl) B.isi (by decide +kernel) (pa_cons (pv 0) (pa_cons (pe_bltn (v := .ty "bool") (by rfl) B.bool (by decide +kernel) rfl) pa_nil)))))))), ?_⟩
  exact Dv.s_ret (K := K) (d := .bool (isWhole d)) (Dv.ev_andV (ev_isi (Dv.ev_var rfl h1) (by decide)) fun _ => Dv.ev_notV (ev_isi (Dv.ev_var rfl h1) (by decide))) e fun v F2 H2 g2 hv => q v F2 H2 g2 hv
theorem whole_int {d : PyData} (h : isWhole d = true) : ∃ i, d = .int i := by
  cases d <;> first | exact ⟨_, rfl⟩ | (simp [isWhole, isD, tyD] at h)
/-- a fraction in least terms -/
def isFrac : PyData → Bool
  | .tuple [.int a, .int b] => decide (1 ≤ b) && (Nat.gcd a.natAbs b.natAbs == 1)
  | _ => false
def fIsFrac : List PyData → PyData → Prop := fun ds d => ∃ x, ds = [x] ∧ (∀ es, x = .tuple es → es.length ≤ 100000) ∧ d = .bool (isFrac x)
def isAmt (d : PyData) : Bool := isFrac d && (match d with | .tuple (.int a :: _) => decide (0 ≤ a) | _ => false)
def fIsAmt : List PyData → PyData → Prop := fun ds d => ∃ x, ds = [x] ∧ (∀ es, x = .tuple es → es.length ≤ 100000) ∧ d = .bool (isAmt x)
theorem frac_shape {d : PyData} (h : isFrac d = true) : ∃ a b : Int, d = .tuple [.int a, .int b] ∧ 1 ≤ b := by
  unfold isFrac at h
  split at h
  · rename_i a b
    rw [Bool.and_eq_true] at h
    exact ⟨a, b, rfl, of_decide_eq_true h.1⟩
  · cases h
end
end R3

set_option Elab.async false
set_option linter.all false
set_option maxRecDepth 100000
set_option maxHeartbeats 4000000
namespace Dv
open PySem L2 Evl
section
variable {K : PySem.W.Frag} {σ : L2.St} {F F1 H H1 : Hp} {te ta tb tc : TE} {d a b : PyData} {ds es : List PyData} {i j k : Int} {p q : Bool}
/-- a <= b <= c -/
theorem ev_chI {f g : Int → Int → Bool} (ha : EvD K ta σ F (.int i)) (hb : EvD K tb σ F (.int j)) (hc : EvD K tc σ F (.int k)) : EvD K (tChain (rI0 fun i j => .bl (f i j)) (rI0 fun i j => .bl (g i j)) ta tb tc) σ F (.bool (f i j && g j k)) := fun H e Q q =>
  ha H e _ fun v F1 H1 g1 hv => (hb.mono g1.fx) H1 g1.fh _ fun u F2 H2 g2 hu => by
    cases hv
    cases hu
    refine ⟨i, j, rfl, rfl, f i j, rfl, ?_⟩
    cases hf : f i j with
    | true =>
      show tc σ H2 _
      refine (hc.mono (g1.fx.trans g2.fx)) H2 g2.fh _ fun w F3 H3 g3 hw => ?_
      cases hw
      exact ⟨j, k, rfl, rfl, q _ F3 H3 (g1.trans (g2.trans g3)) (by rw [hf]; exact .bl _)⟩
    | false =>
      show Q (.bl false) H2
      exact q _ F2 H2 (g1.trans g2) (by rw [hf]; exact .bl _)
theorem et_chI {f g : Int → Int → Bool} (ha : EvD K ta σ F (.int i)) (hb : EvD K tb σ F (.int j)) (hc : EvD K tc σ F (.int k)) (e : (f i j && g j k) = p) : EtD (tTest (tChain (rI0 fun i j => .bl (f i j)) (rI0 fun i j => .bl (g i j)) ta tb tc)) σ F p :=
  et_v (ev_chI ha hb hc) (by rw [e])
theorem ev_notInS {c : Nat} {x : Str} (ha : EvD K ta σ F (.str ⟨#[c]⟩)) (hb : EvD K tb σ F (.str x)) : EvD K (tOp rNotInS ta tb) σ F (.bool (!decide (c ∈ x.cps.toList))) :=
  ev_op ha hb fun v u F1 H1 _ e hv hu Q q => by
    cases hv
    cases hu
    exact ⟨c, x, rfl, rfl, q _ F1 H1 (Gr.refl e) (.bl _)⟩
theorem ev_addS {x y : Str} (hl : x.length + y.length ≤ 100000) (ha : EvD K ta σ F (.str x)) (hb : EvD K tb σ F (.str y)) : EvD K (tOp (fun x y H Q => ∃ i j, x = .str i ∧ y = .str j ∧ i.length + j.length ≤ sizeLine ∧ Q (.str (i ++ j)) H) ta tb) σ F (.str (x ++ y)) :=
  ev_op ha hb fun v u F1 H1 _ e hv hu Q q => by
    cases hv
    cases hu
    exact ⟨x, y, rfl, rfl, sz_of hl, q _ F1 H1 (Gr.refl e) (.str _)⟩
theorem it_str {x : Str} (h : EvD K te σ F (.str x)) : ItD K (iStr te) σ F (x.cps.toList.map fun c => PyData.str ⟨#[c]⟩) := fun H eH R q => h H eH _ fun v F1 H1 g1 hv => by
  cases hv
  refine ⟨x, rfl, q _ F1 H1 g1 ⟨_, _, by rw [List.length_map, Array.length_toList]; exact walk_str, fun _ _ => trivial, fun F2 i H2 v H3 hi e1 e2 y => ?_⟩⟩
  obtain ⟨rfl, c, hc, rfl⟩ := y
  refine ⟨F2, .str ⟨#[c]⟩, ?_, Gr.refl e2, .str _⟩
  rw [List.getElem?_map, Array.getElem?_toList, hc] <;> rfl
theorem lay_strs : ∀ cs : List Nat, (∀ c ∈ cs, c < 0x110000) → PyData.canLayAll0 (cs.map fun c => PyData.str ⟨#[c]⟩) = true
  | [], _ => by simp [PyData.canLayAll0]
  | c :: cs, h => by
    have h1 := lay_strs cs fun c hc => h c (List.mem_cons_of_mem _ hc)
    have h2 := h c List.mem_cons_self
    simp [PyData.canLayAll0, PyData.canLay0, h1, PyData.strOk, h2]
theorem dep_strs : ∀ cs : List Nat, PyData.depthAll (cs.map fun c => PyData.str ⟨#[c]⟩) = 0
  | [] => by simp [PyData.depthAll]
  | c :: cs => by simp [PyData.depthAll, PyData.depth, dep_strs cs]
theorem shaped_strs (cs : List Nat) (h : ∀ c ∈ cs, c < 0x110000) : SeqAt.shaped (.list (cs.map fun c => PyData.str ⟨#[c]⟩)) = true := by
  show ((PyData.list _).canLay0 && decide ((PyData.list _).depth ≤ 64)) = true
  simp [PyData.canLay0, PyData.depth, lay_strs cs h, dep_strs]
theorem shaped_nil : SeqAt.shaped (.list []) = true := by decide +kernel
theorem eqv_nil (ds : List PyData) : PyData.eqv (.list ds) (.list []) = ds.isEmpty := by
  cases ds <;> simp [PyData.eqv, PyData.eqvAll]
end
end Dv
namespace R3
open PySem PySem.Spec PyProof.Rows L2 Dv
section
variable {P : Program} {w : World} {K : PySem.W.Frag} {mg : Str → Option Value} {base : Heap}
/-- the module's own numbers and texts -/
structure Cst (mg : Str → Option Value) : Prop where
  letters : ∃ t, mg "LETTERS" = some (.str "abcdefghijklmnopqrstuvwxyz" t)
  figures : ∃ t, mg "FIGURES" = some (.str "0123456789" t)
  mostName : ∃ t, mg "MOST_NAME" = some (.int 8 t)
  mostStuffs : ∃ t, mg "MOST_STUFFS" = some (.int 8 t)
  mostRecipes : ∃ t, mg "MOST_RECIPES" = some (.int 8 t)
  mostNumber : ∃ t, mg "MOST_NUMBER" = some (.int 1000000 t)
def letters : Str := "abcdefghijklmnopqrstuvwxyz"
def figures : Str := "0123456789"
def nameS (x : Str) : Bool := decide (1 ≤ x.length) && decide (x.length ≤ 8) && (match x.cps.toList with | c :: _ => decide (c ∈ letters.cps.toList) | [] => false) && x.cps.toList.all fun c => decide (c ∈ (letters ++ figures).cps.toList)
def isName : PyData → Bool
  | .str x => nameS x
  | _ => false
def fIsName : List PyData → PyData → Prop := fun ds d => ∃ x, ds = [x] ∧ (∀ y, x = .str y → y.length ≤ 30000 ∧ PyData.strOk y = true) ∧ d = .bool (isName x)
theorem sc_is_name : FnScope (["value", "sign"] : List Str) (["value"] : List Str) (defScope sIsName) := ⟨rfl, rfl, rfl, by decide +kernel, rfl, by decide +kernel, by decide +kernel⟩
theorem ok_is_name (D : Def K mg "is_name" sIsName ["value"]) (B : Bl mg) (CC : Cst mg) : Cal P w K mg base "is_name" ["value"] 1 (spD K fIsName) := by
  refine cal_mk D sc_is_name (len_D (by rintro _ _ ⟨t, rfl, _⟩; rfl)) (fun f cdv A outer s H vs Q E hr h => ?_)
  obtain ⟨F, ds, d, e, hv, ⟨d, rfl, hsz, rfl⟩, q⟩ := h
  obtain ⟨x, rfl, h1⟩ := Dv.one hv
  obtain ⟨t1, c1⟩ := CC.letters
  obtain ⟨t2, c2⟩ := CC.figures
  obtain ⟨t3, c3⟩ := CC.mostName
  refine ⟨_, (pss_cons (ps_if (PW.pt (pw_or (pt_not (pt_val (pe_callB call_isi (by rfl) B.isi (by decide +kernel) (pa_cons (pv 0) (pa_cons (pe_bltn (v := .ty "str") (by rfl) B.str (by decide +kernel) rfl) pa_nil))))) (pw_or (pt_not (pt_chain op_le op_le pe_int (pe_callB call_len (by rfl) B.len (by decide +kernel) (pa_cons (pv 0) pa_nil)) (pe_glob (v := .int 8) rfl c3 ⟨_, rfl⟩))) (pw_or1 (pt_cmpR op_notInS (pe_ix ix_str (pv 0) pe_int (fun _ _ => rfl)) (pe_glob (v := .str letters) rfl c1 ⟨_, rfl⟩) (by rfl)))))) (pss_one (ps_ret pe_bl)) pss_nil)
      (pss_one (ps_ret (pe_cmpR (op_eqD hr.1.units) (pe_lc (own := [("sign", 1)]) (g := gName 1) rfl sc_is_name.nd (pi_str (pv 0)) (blkOk_by (own := [("sign", 1)]) (N := ["value", "sign"]) (sc := defScope sIsName) (by decide +kernel)) (fun _ _ _ _ _ => (pg_name (i := 1) sc_is_name.nd rfl (.inl rfl)))  (fun _ _ _ _ _ => (pts_one (pt_cmpR op_notInS (pv 1) (pe_op op_add_str (pe_glob (v := .str letters) rfl c1 ⟨_, rfl⟩) (pe_glob (v := .str figures) rfl c2 ⟨_, rfl⟩)) (by rfl)))) (fun _ _ _ _ _ => (pv 1))) (pe_lst pa_nil) (nomark _))))), ?_⟩
  have no : isName d = false → ∀ F1 H1, Gr F H F1 H1 → Q (.bl false) H1 := fun h F1 H1 g => q _ F1 H1 g (by rw [h]; exact .bl false)
  have vx := Dv.ev_var (σ := [some x, none]) (i := 0) rfl h1
  by_cases ht : ∃ y, d = .str y
  · obtain ⟨y, rfl⟩ := ht
    obtain ⟨hl, hok⟩ := hsz y rfl
    have t1 := et_notT (et_v (p := true) (ev_isi (T := "str") vx (by decide)) rfl)
    have ln := ev_chI (f := fun i j => decide (i ≤ j)) (g := fun i j => decide (i ≤ j)) (Dv.ev_int 1) (ev_len vx rfl (show y.length ≤ 100000 by omega)) (Dv.ev_int 8)
    by_cases h2 : 1 ≤ y.length ∧ y.length ≤ 8
    · have e2 : (decide ((1 : Int) ≤ (y.length : Int)) && decide ((y.length : Int) ≤ 8)) = true := by
        rw [Bool.and_eq_true]
        exact ⟨decide_eq_true (by omega), decide_eq_true (by omega)⟩
      have t2 := et_notT (et_v ln (by rw [e2]))

      obtain ⟨c, cs, hc⟩ : ∃ c cs, y.cps.toList = c :: cs := by
        cases hq : y.cps.toList with
        | nil =>
          have : y.length = y.cps.toList.length := by rw [Array.length_toList] <;> rfl
          rw [hq] at this
          exact absurd h2.1 (by rw [this]; decide)
        | cons c cs => exact ⟨c, cs, rfl⟩
      have vc := Dv.ev_ixS (i := 0) (c := c) vx (Dv.ev_int 0) (show y.length ≤ 100000 by omega) (by rw [hc]; simp [atI, ixN])
      have t3 := Dv.ev_notInS vc (Dv.ev_c (.str letters))
      by_cases h3 : c ∈ letters.cps.toList
      · refine s_ifF (et_orF t1 (et_orF t2 (et_v t3 (by rw [decide_eq_true h3]; rfl)))) e fun F1 H1 g1 => ?_
        have hn : isName (.str y) = (y.cps.toList.filter fun c => !decide (c ∈ (letters ++ figures).cps.toList)).isEmpty := by
          show nameS y = _
          unfold nameS
          rw [decide_eq_true h2.1, decide_eq_true h2.2, hc]
          show ((true && true && decide (c ∈ letters.cps.toList)) && _) = _
          rw [decide_eq_true h3]
          simp only [Bool.true_and]
          rw [Bool.eq_iff_iff, List.isEmpty_iff, List.filter_eq_nil_iff, List.all_eq_true]
          simp
        refine Dv.s_ret (K := K) (d := .bool (isName (.str y))) (Dv.ev_is (Dv.ev_eqD (EvL.ev (lc_rule y.cps.toList (fun c => PyData.str ⟨#[c]⟩) (fun c => PyData.str ⟨#[c]⟩) (fun c => !decide (c ∈ (letters ++ figures).cps.toList)) (it_str (vx.mono g1.fx)) (by
          rw [Array.length_toList]
          show y.length ≤ _
          omega) (fun c _ v F2 e2 hv => ⟨[some x, some v], fun _ _ _ q => q, rfl, et_v (Dv.ev_notInS (Dv.ev_var rfl hv) (Dv.ev_addS (by decide +kernel) (Dv.ev_c (.str letters)) (Dv.ev_c (.str figures)))) rfl, fun _ => Dv.ev_var rfl hv⟩))) (EvL.ev (Dv.el_lst Dv.ea_nil (by simp))) (by
          refine shaped_strs (y.cps.toList.filter fun c => !decide (c ∈ (letters ++ figures).cps.toList)) fun c hc => ?_
          have hm := Array.mem_toList_iff.mp (List.mem_filter.mp hc).1
          have := Array.all_eq_true_iff_forall_mem.mp hok c hm
          exact of_decide_eq_true this) shaped_nil) (by
          rw [eqv_nil, hn, List.isEmpty_map])) g1.fh fun v F2 H2 g2 hv => q v F2 H2 (g1.trans g2) hv
      · have e0 : isName (.str y) = false := by
          show nameS y = false
          unfold nameS
          rw [hc]
          show ((_ && _ && decide (c ∈ letters.cps.toList)) && _) = _
          rw [decide_eq_false h3]
          simp
        exact s_ifT (et_orF t1 (et_orF t2 (et_v t3 (by rw [decide_eq_false h3]; rfl)))) e fun F1 H1 g1 => no e0 F1 H1 g1
    · have e2 : (decide ((1 : Int) ≤ (y.length : Int)) && decide ((y.length : Int) ≤ 8)) = false := by
        rw [Bool.and_eq_false_iff]
        by_cases h3 : 1 ≤ y.length
        · exact .inr (decide_eq_false (by omega))
        · exact .inl (decide_eq_false (by omega))
      have e0 : isName (.str y) = false := by
        show nameS y = false
        unfold nameS
        by_cases h3 : 1 ≤ y.length
        · rw [decide_eq_false (show ¬ y.length ≤ 8 by omega)]
          simp
        · rw [decide_eq_false h3]
          simp
      exact s_ifT (et_orF t1 (et_orT (et_notF (et_v ln (by rw [e2]))))) e fun F1 H1 g1 => no e0 F1 H1 g1
  · have e0 : isName d = false := by
      cases d <;> first | rfl | exact absurd ⟨_, rfl⟩ ht
    have e1 : isD d "str" = false := by
      cases d <;> first | rfl | exact absurd ⟨_, rfl⟩ ht
    exact s_ifT (et_orT (et_notF (et_v (ev_isi (T := "str") vx (by decide)) (by rw [e1])))) e fun F1 H1 g1 => no e0 F1 H1 g1
end
end R3

set_option Elab.async false
set_option linter.all false
set_option maxRecDepth 100000
set_option maxHeartbeats 4000000
namespace Dv
open PySem L2 Evl
mutual
/-- texts that can be laid, nothing of great length -/
def gd : PyData → Bool
  | .str x => decide (x.length ≤ 30000) && PyData.strOk x
  | .list xs => decide (xs.length ≤ 30000) && gds xs
  | .tuple xs => decide (xs.length ≤ 30000) && gds xs
  | _ => true
def gds : List PyData → Bool
  | [] => true
  | x :: xs => gd x && gds xs
end
theorem gd_str {x : Str} (h : gd (.str x) = true) : x.length ≤ 30000 ∧ PyData.strOk x = true := by
  rw [gd, Bool.and_eq_true] at h
  exact ⟨of_decide_eq_true h.1, h.2⟩
theorem gd_tup {xs : List PyData} (h : gd (.tuple xs) = true) : xs.length ≤ 30000 ∧ gds xs = true := by
  rw [gd, Bool.and_eq_true] at h
  exact ⟨of_decide_eq_true h.1, h.2⟩
theorem gd_list {xs : List PyData} (h : gd (.list xs) = true) : xs.length ≤ 30000 ∧ gds xs = true := by
  rw [gd, Bool.and_eq_true] at h
  exact ⟨of_decide_eq_true h.1, h.2⟩
theorem gds_mem : ∀ {xs : List PyData} {x : PyData}, gds xs = true → x ∈ xs → gd x = true
  | [], _, _, h => nomatch h
  | y :: ys, x, g, h => by
    rw [gds, Bool.and_eq_true] at g
    rcases List.mem_cons.mp h with rfl | h
    · exact g.1
    · exact gds_mem g.2 h
section
variable {K : PySem.W.Frag} {σ : L2.St} {F F1 H H1 : Hp} {te ta tb tc : TE} {d a b : PyData} {ds es : List PyData} {i j k : Int} {p q : Bool}
def nonB : PyData → Bool
  | .none => true
  | _ => false
theorem dec_non {v : V} (h : Dp K F v d) : decide (v = .non) = nonB d := by
  cases h <;> simp [nonB]
theorem ev_isNR (ha : EvD K ta σ F d) : EvD K (tOp rIsN ta (tC .non)) σ F (.bool (nonB d)) := fun H e Q q => ha H e _ fun v F1 H1 g1 hv => by
  refine ⟨rfl, q _ F1 H1 g1 ?_⟩
  rw [dec_non hv]
  exact .bl _
end
end Dv
namespace R3
open PySem PySem.Spec PyProof.Rows L2 Dv
section
variable {P : Program} {w : World} {K : PySem.W.Frag} {mg : Str → Option Value} {base : Heap}
def isNum (d : PyData) (l : Int) : Bool := isWhole d && (match d with | .int i => decide (l ≤ i) && decide (i ≤ 1000000) | _ => false)
def fIsNum : List PyData → PyData → Prop := fun ds d => ∃ x l, ds = [x, .int l] ∧ d = .bool (isNum x l)
theorem sc_is_number : FnScope (["value", "least"] : List Str) (["value", "least"] : List Str) (defScope sIsNumber) := ⟨rfl, rfl, rfl, by decide +kernel, rfl, by decide +kernel, by decide +kernel⟩
theorem ok_is_number (D : Def K mg "is_number" sIsNumber ["value", "least"]) (CC : Cst mg) (C_is_whole : Cal P w K mg base "is_whole" ["value"] 1 (spD K fWhole)) : Cal P w K mg base "is_number" ["value", "least"] 2 (spD K fIsNum) := by
  refine cal_mk D sc_is_number (len_D (by rintro _ _ ⟨t, l, rfl, _⟩; rfl)) (fun f cdv A outer s H vs Q E hr h => ?_)
  obtain ⟨F, ds, d, e, hv, ⟨d, l, rfl, rfl⟩, q⟩ := h
  obtain ⟨x, y, rfl, h1, h2⟩ := Dv.two hv
  obtain ⟨t3, c3⟩ := CC.mostNumber
  refine ⟨_, (pss_one (ps_ret (pe_and (pe_callC C_is_whole hr (pa_cons (pv 0) pa_nil)) (pe_one (pe_chain op_le op_le (pv 1) (pv 0) (pe_glob (v := .int 1000000) rfl c3 ⟨_, rfl⟩)))))), ?_⟩
  refine Dv.s_ret (K := K) (d := .bool (isNum d l)) (Dv.ev_andV (ev_callD (Dv.ea_cons (Dv.ev_var rfl h1) Dv.ea_nil) ⟨_, rfl, rfl⟩) fun hw => ?_) e fun v F2 H2 g2 hv => q v F2 H2 g2 hv
  obtain ⟨i, rfl⟩ := whole_int hw
  exact ev_chI (f := fun i j => decide (i ≤ j)) (g := fun i j => decide (i ≤ j)) (Dv.ev_var rfl h2) (Dv.ev_var rfl h1) (Dv.ev_int 1000000)
def isStuff : PyData → Bool
  | .tuple [n, r] => isName n && (nonB r || isNum r 0)
  | _ => false
def fIsStuff : List PyData → PyData → Prop := fun ds d => ∃ x, ds = [x] ∧ gd x = true ∧ d = .bool (isStuff x)
theorem sc_is_stuff : FnScope (["value"] : List Str) (["value"] : List Str) (defScope sIsStuff) := ⟨rfl, rfl, rfl, by decide +kernel, rfl, by decide +kernel, by decide +kernel⟩
theorem ok_is_stuff (D : Def K mg "is_stuff" sIsStuff ["value"]) (B : Bl mg) (C_is_name : Cal P w K mg base "is_name" ["value"] 1 (spD K fIsName)) (C_is_number : Cal P w K mg base "is_number" ["value", "least"] 2 (spD K fIsNum)) :
    Cal P w K mg base "is_stuff" ["value"] 3 (spD K fIsStuff) := by
  refine cal_mk D sc_is_stuff (len_D (by rintro _ _ ⟨t, rfl, _⟩; rfl)) (fun f cdv A outer s H vs Q E hr h => ?_)
  obtain ⟨F, ds, d, e, hv, ⟨d, rfl, hg, rfl⟩, q⟩ := h
  obtain ⟨x, rfl, h1⟩ := Dv.one hv
  refine ⟨_, (pss_cons (ps_if (PW.pt (pw_or (pt_not (pt_val (pe_callB call_isi (by rfl) B.isi (by decide +kernel) (pa_cons (pv 0) (pa_cons (pe_bltn (v := .ty "tuple") (by rfl) B.tuple (by decide +kernel) rfl) pa_nil))))) (pw_or (pt_cmpR op_ne (pe_callB call_len (by rfl) B.len (by decide +kernel) (pa_cons (pv 0) pa_nil)) pe_int (nomark _)) (pw_or1 (pt_not (pt_val (pe_callC C_is_name hr (pa_cons (pe_ix ix_tup (pv 0) pe_int (fun _ _ => rfl)) pa_nil)))))))) (pss_one (ps_ret pe_bl)) pss_nil)
      (pss_one (ps_ret (pe_or (pe_cmpR op_isN (pe_ix ix_tup (pv 0) pe_int (fun _ _ => rfl)) pe_non (nomark _)) (pe_one (pe_callC C_is_number hr (pa_cons (pe_ix ix_tup (pv 0) pe_int (fun _ _ => rfl)) (pa_cons pe_int pa_nil)))))))), ?_⟩
  have no : isStuff d = false → ∀ F1 H1, Gr F H F1 H1 → Q (.bl false) H1 := fun h F1 H1 g => q _ F1 H1 g (by rw [h]; exact .bl false)
  have vx := Dv.ev_var (σ := [some x]) (i := 0) rfl h1
  by_cases ht : ∃ es, d = .tuple es
  · obtain ⟨es, rfl⟩ := ht
    obtain ⟨hl, hgs⟩ := gd_tup hg
    have tT := et_notT (et_v (p := true) (ev_isi (T := "tuple") vx (by decide)) rfl)
    by_cases h2 : es.length = 2
    · match es, h2 with
      | [a, b], _ =>
        have ln := et_v (p := false) (Dv.ev_neI (ev_len vx rfl (by simp)) (Dv.ev_int 2)) rfl
        have va := Dv.ev_ixT (d := a) vx (Dv.ev_int 0) rfl
        have vb := Dv.ev_ixT (d := b) vx (Dv.ev_int 1) rfl
        have ga : gd a = true := gds_mem hgs (by simp)
        have nm := ev_callD (E := E0) (Dv.ea_cons va Dv.ea_nil) (show fIsName [a] (.bool (isName a)) from ⟨a, rfl, fun y hy => gd_str (by rw [← hy]; exact ga), rfl⟩)
        cases hn : isName a with
        | true =>
          refine s_ifF (et_orF tT (et_orF ln (et_notT (et_v nm (by rw [hn]))))) e fun F1 H1 g1 => ?_
          refine Dv.s_ret (K := K) (d := .bool (isStuff (.tuple [a, b]))) (Dv.ev_is (Dv.ev_orV (ev_isNR (vb.mono g1.fx)) fun _ => ev_callD (Dv.ea_cons (vb.mono g1.fx) (Dv.ea_cons (Dv.ev_int 0) Dv.ea_nil)) ⟨_, _, rfl, rfl⟩) (by
            show _ = PyData.bool (isName a && _)
            rw [hn, Bool.true_and])) g1.fh fun v F2 H2 g2 hv => q v F2 H2 (g1.trans g2) hv
        | false =>
          exact s_ifT (et_orF tT (et_orF ln (et_notF (et_v nm (by rw [hn]))))) e fun F1 H1 g1 => no (by show (isName a && _) = false; rw [hn] <;> rfl) F1 H1 g1
    · have e0 : isStuff (.tuple es) = false := by
        unfold isStuff
        split
        · rename_i q
          cases q
          exact absurd rfl h2
        · rfl
      exact s_ifT (et_orF tT (et_orT (et_v (Dv.ev_neI (ev_len vx rfl (by omega)) (Dv.ev_int 2)) (by
        congr 1
        simp only [bne_iff_ne, ne_eq]
        omega)))) e fun F1 H1 g1 => no e0 F1 H1 g1
  · have e0 : isStuff d = false := by
      unfold isStuff
      split
      · exact absurd ⟨_, rfl⟩ ht
      · rfl
    have e1 : isD d "tuple" = false := by
      cases d <;> first | rfl | exact absurd ⟨_, rfl⟩ ht
    exact s_ifT (et_orT (et_notF (et_v (ev_isi (T := "tuple") vx (by decide)) (by rw [e1])))) e fun F1 H1 g1 => no e0 F1 H1 g1
end
end R3

set_option Elab.async false
set_option linter.all false
set_option maxRecDepth 100000
set_option maxHeartbeats 4000000
namespace Dv
open PySem L2 Evl
section
variable {K : PySem.W.Frag} {σ : L2.St} {F F1 H H1 : Hp} {te ta tb tc : TE} {d a b : PyData} {ds es : List PyData} {i j k : Int} {p q : Bool} {tu : TT}
/-- not isinstance(x, tuple) or len(x) != n or .. -/
theorem et_tupn {n : Nat} (vx : EvD K te σ F d) (hl : ∀ es, d = .tuple es → es.length ≤ 100000) (h1 : ∀ es, d = .tuple es → es.length = n → EtD tu σ F p) (h2 : (¬ ∃ es, d = .tuple es ∧ es.length = n) → p = true) :
    EtD (tOr (tNot (tTest (tCB (rIsi K) (tCons te (tCons (tC (.ty "tuple")) tNil)))))
      (tOr (tTest (tOp rNe (tCB (fun xs H Q => ∃ x n, xs = [x] ∧ LenV K x H n ∧ Q (.int n) H) (tCons te tNil)) (tC (.int (n : Int))))) tu)) σ F p := by
  by_cases ht : ∃ es, d = .tuple es
  · obtain ⟨es, rfl⟩ := ht
    have tT := et_notT (et_v (p := true) (ev_isi (T := "tuple") vx (by decide)) rfl)
    have hl' := hl es rfl
    by_cases hn : es.length = n
    · exact et_orF tT (et_orF (et_v (ev_neI (ev_len vx rfl hl') (ev_int n)) (by
        congr 1
        simp only [bne_eq_false_iff_eq]
        omega)) (h1 es rfl hn))
    · have e0 := h2 (fun ⟨es', e, h⟩ => by cases e; exact hn h)
      subst e0
      exact et_orF tT (et_orT (et_v (ev_neI (ev_len vx rfl hl') (ev_int n)) (by
        congr 1
        simp only [bne_iff_ne, ne_eq]
        omega)))
  · have e0 := h2 (fun ⟨es', e, h⟩ => ht ⟨es', e⟩)
    subst e0
    have e1 : isD d "tuple" = false := by
      cases d <;> first | rfl | exact absurd ⟨_, rfl⟩ ht
    exact et_orT (et_notF (et_v (ev_isi (T := "tuple") vx (by decide)) (by rw [e1])))
theorem len2 {es : List PyData} (h : es.length = 2) : ∃ a b, es = [a, b] := match es, h with | [a, b], _ => ⟨a, b, rfl⟩
theorem len3 {es : List PyData} (h : es.length = 3) : ∃ a b c, es = [a, b, c] := match es, h with | [a, b, c], _ => ⟨a, b, c, rfl⟩
/-- x not in d, d a dict of F -/
theorem et_dnotin {ad : Addr} {kvs : List (Key × V)} {x : Str} (ha : EvD K ta σ F (.str x)) (hb : ∀ F1 H1, Ex F F1 → Ex F1 H1 → ∀ Q : VK, Q (.ref ad) H1 → tb σ H1 Q) (hd : F ad = some (.dK kvs)) : EtD (tB (tDNotIn ta tb)) σ F (!(valV kvs (.inr x)).isSome) := fun H e Q q =>
  ha H e _ fun v F1 H1 g1 hv => by
    cases hv
    exact hb F1 H1 g1.fx g1.fh _ ⟨ad, _, rfl, DGet.k (k := .inr x) (g1.fh _ _ (g1.fx _ _ hd)), _, rfl, q F1 H1 g1⟩
/-- x in xs, texts, xs a list of H alone -/
theorem et_inStrs {al : Addr} {xs : List Str} {x : Str} {l : Nat} (ha : EvD K ta σ F (.str x)) (hi : σ[l]? = some (some (.ref al))) (H : Hp) (e : Ex F H) (hl : H al = some (.lst (xs.map V.str))) (fl : F al = none) (Q : Bool → Hp → Prop)
    (q : ∀ F' H', Gr F H F' H' → Q (decide (x ∈ xs)) H') : tTest (tOp (rIn K false) ta (tVar l)) σ H Q := ha H e _ fun v F1 H1 g1 hv => by
  cases hv
  refine ⟨_, hi, al, xs.map V.str, rfl, .inl (sq_of (g1.keep hl fl).1), rfl, by simp [flatV], _, rfl, ?_⟩
  have : (if false = true then !inV (V.str x) (xs.map V.str) else inV (V.str x) (xs.map V.str)) = decide (x ∈ xs) := by
    rw [if_neg (by decide)]
    unfold inV
    rw [Bool.eq_iff_iff, List.any_eq_true, decide_eq_true_iff]
    constructor
    · rintro ⟨y, hy, he⟩
      obtain ⟨z, hz, rfl⟩ := List.mem_map.mp hy
      have : z = x := by simpa [eqV] using he
      exact this ▸ hz
    · intro hx
      exact ⟨_, List.mem_map.mpr ⟨x, hx, rfl⟩, by simp [eqV]⟩
  rw [this]
  exact q F1 H1 g1
end
end Dv
namespace R3
open PySem PySem.Spec PyProof.Rows L2 Dv
section
variable {P : Program} {w : World} {K : PySem.W.Frag} {mg : Str → Option Value} {base : Heap}
def partOk : PyData → Bool
  | .tuple [a, k] => isName a && isNum k 1
  | _ => false
theorem part_shape {d : PyData} (h : partOk d = true) : ∃ n k, d = .tuple [.str n, k] ∧ nameS n = true ∧ isNum k 1 = true := by
  unfold partOk at h
  split at h
  · rename_i a k
    rw [Bool.and_eq_true] at h
    obtain ⟨h1, h2⟩ := h
    cases a <;> first | (cases h1; done) | skip
    exact ⟨_, k, rfl, h1, h2⟩
  · cases h
def nameAt : PyData → Str
  | .tuple (.str n :: _) => n
  | _ => ""
def partsGo (names : List Str) : List PyData → List Str → Bool
  | [], _ => true
  | d :: r, seen => partOk d && decide (nameAt d ∈ names) && !decide (nameAt d ∈ seen) && partsGo names r (seen ++ [nameAt d])
def areParts (names : List Str) : PyData → Bool
  | .list xs => partsGo names xs []
  | _ => false
/-- the spots: a dict of names -/
def SpotsAt (F : Hp) (a : Addr) (names : List Str) : Prop := ∃ kvs : List (Key × V), F a = some (.dK kvs) ∧ ∀ x : Str, (valV kvs (.inr x)).isSome = decide (x ∈ names)
theorem SpotsAt.ex {F F1 : Hp} {a : Addr} {names : List Str} (e : Evl.Ex F F1) (h : SpotsAt F a names) : SpotsAt F1 a names := let ⟨k, h1, h2⟩ := h; ⟨k, e _ _ h1, h2⟩
def spParts (K : PySem.W.Frag) : Sp := fun vs H Q _ => ∃ (F : Hp) (v : V) (d : PyData) (sp : Addr) (names : List Str), vs = [v, .ref sp] ∧ Evl.Ex F H ∧ Dp K F v d ∧ gd d = true ∧ SpotsAt F sp names ∧ ∀ F' H', Gr F H F' H' → Q (.bl (areParts names d)) H'
theorem sc_are_parts : FnScope (["value", "spots", "seen", "item"] : List Str) (["value", "spots"] : List Str) (defScope sAreParts) := ⟨rfl, rfl, rfl, by decide +kernel, rfl, by decide +kernel, by decide +kernel⟩
theorem ok_are_parts (D : Def K mg "are_parts" sAreParts ["value", "spots"]) (B : Bl mg) (C_is_name : Cal P w K mg base "is_name" ["value"] 1 (spD K fIsName)) (C_is_number : Cal P w K mg base "is_number" ["value", "least"] 2 (spD K fIsNum)) :
    Cal P w K mg base "are_parts" ["value", "spots"] 3 (spParts K) := by
  refine cal_mk D sc_are_parts (fun vs H Q E h => ?_) (fun f cdv A outer s H vs Q E hr h => ?_)
  · obtain ⟨F, v, d, sp, names, rfl, _⟩ := h
    rfl
  obtain ⟨F, v, d, sp, names, rfl, e, hv, hg, hsp, q⟩ := h
  have hu := hu_of hr.1
  refine ⟨_, (pss_cons (ps_if (pt_not (pt_val (pe_callB call_isi (by rfl) B.isi (by decide +kernel) (pa_cons (pv 0) (pa_cons (pe_bltn (v := .ty "list") (by rfl) B.list (by decide +kernel) rfl) pa_nil))))) (pss_one (ps_ret pe_bl)) pss_nil)
      (pss_cons (ps_set (i := 2) sc_are_parts.nd rfl (.inl rfl) (pe_lst pa_nil))
      (pss_cons (ps_for PassesOwn.never rfl (pi_list (pv 0)) (pg_name (i := 3) sc_are_parts.nd rfl (.inl rfl)) (pss_cons (ps_if (PW.pt (pw_or (pt_not (pt_val (pe_callB call_isi (by rfl) B.isi (by decide +kernel) (pa_cons (pv 3) (pa_cons (pe_bltn (v := .ty "tuple") (by rfl) B.tuple (by decide +kernel) rfl) pa_nil))))) (pw_or (pt_cmpR op_ne (pe_callB call_len (by rfl) B.len (by decide +kernel) (pa_cons (pv 3) pa_nil)) pe_int (nomark _)) (pw_or (pt_not (pt_val (pe_callC C_is_name hr (pa_cons (pe_ix ix_tup (pv 3) pe_int (fun _ _ => rfl)) pa_nil)))) (pw_or1 (pt_not (pt_val (pe_callC C_is_number hr (pa_cons (pe_ix ix_tup (pv 3) pe_int (fun _ _ => rfl)) (pa_cons pe_int pa_nil)))))))))) (pss_one (ps_ret pe_bl)) pss_nil)
      (pss_cons (ps_if (PW.pt (pw_or (pt_cmp (pc_dnotin hu (pe_ix ix_tup (pv 3) pe_int (fun _ _ => rfl)) (pv 1)) (by rfl)) (pw_or1 (pt_cmpR op_in_seq (pe_ix ix_tup (pv 3) pe_int (fun _ _ => rfl)) (pv 2) (by rfl))))) (pss_one (ps_ret pe_bl)) pss_nil)
      (pss_one (ps_expr (pe_bm PySem.F.plainAttrs_list PySem.F.slot_list_append PySem.F.type_list_append mt_append (pv 2) (pa_cons (pe_ix ix_tup (pv 3) pe_int (fun _ _ => rfl)) pa_nil)))))))
      (pss_one (ps_ret pe_bl))))), ?_⟩
  have vx := Dv.ev_var (K := K) (σ := [some v, some (.ref sp), none, none]) (i := 0) rfl hv
  by_cases ht : ∃ xs, d = .list xs
  · obtain ⟨xs, rfl⟩ := ht
    obtain ⟨hxl, hgs⟩ := gd_list hg
    refine s_ifF (et_notT (et_v (p := true) (ev_isi (T := "list") vx (by decide)) rfl)) e fun F0 H0 g0 => ?_
    refine Dv.s_asgL (K := K) (Dv.el_lst Dv.ea_nil (by simp)) g0.fh fun p ws F1 H1 g1 hp0 fp hp1 hws => ?_
    cases hws
    have g01 := g0.trans g1
    refine Dv.s_for (it_list (Dv.ev_var rfl (dp_ex g01.fx hv))) g1.fh
      (fun n σ F' H' => ∃ (it : Option V) (seen : List Str), σ = [some v, some (.ref sp), some (.ref p), it] ∧ F' p = none ∧ H' p = some (.lst (seen.map V.str)) ∧ seen.length ≤ n ∧ partsGo names xs [] = partsGo names (xs.drop n) seen ∧ Gr F H F' H')
      (fun F2 H2 g2 => ?_) ?_ (fun σ' F2 H2 e2 e3 p2 => ?_)
    · have k := g2.keep hp1 fp
      exact ⟨none, [], rfl, k.2, k.1, Nat.le_refl _, rfl, g01.trans g2⟩
    · rintro Fb eb n σ' F2 H2 u du F3 H3 hdu e2 e3 ⟨it, seen, rfl, fp2, hp2, hsl, hpg, gg⟩ g3 hu3
      have hp3 := g3.keep hp2 fp2
      have gg3 := gg.trans g3
      have hn : n < xs.length := (List.getElem?_eq_some_iff.mp hdu).1
      have hdrop : xs.drop n = du :: xs.drop (n + 1) := by
        rw [List.drop_eq_getElem_cons hn]
        congr 1
        exact (List.getElem?_eq_some_iff.mp hdu).2
      rw [hdrop] at hpg
      have hgd : gd du = true := gds_mem hgs (List.mem_of_getElem? hdu)
      have vu := Dv.ev_var (K := K) (σ := [some v, some (.ref sp), some (.ref p), some u]) (i := 3) rfl hu3
      show tSeq _ _ _ [some v, some (.ref sp), some (.ref p), some u] H3
      have t1 : ∀ a k, du = .tuple [a, k] → EvD K (tCall (spD K fIsName) [] E0 (tCons (tOp (rIxT K) (tVar 3) (tC (.int 0))) tNil)) [some v, some (.ref sp), some (.ref p), some u] F3 (.bool (isName a)) := by
        intro a k hd
        subst hd
        have ga : gd a = true := gds_mem (gd_tup hgd).2 (by simp)
        exact ev_callD (Dv.ea_cons (Dv.ev_ixT (d := a) vu (Dv.ev_int 0) rfl) Dv.ea_nil) ⟨a, rfl, fun y hy => gd_str (by rw [← hy]; exact ga), rfl⟩
      have t2 : ∀ a k, du = .tuple [a, k] → EvD K (tCall (spD K fIsNum) [] E0 (tCons (tOp (rIxT K) (tVar 3) (tC (.int 1))) (tCons (tC (.int 1)) tNil))) [some v, some (.ref sp), some (.ref p), some u] F3 (.bool (isNum k 1)) := by
        intro a k hd
        subst hd
        exact ev_callD (Dv.ea_cons (Dv.ev_ixT (d := k) vu (Dv.ev_int 1) rfl) (Dv.ea_cons (Dv.ev_int 1) Dv.ea_nil)) ⟨_, _, rfl, rfl⟩
      cases hpo : partOk du with
      | false =>
        refine s_ifT (et_tupn (n := 2) vu (fun es he => by subst he; exact Nat.le_trans (gd_tup hgd).1 (by decide)) (fun es he hl => ?_) fun _ => rfl) g3.fh fun F4 H4 g4 => ?_
        · obtain ⟨a, k, rfl⟩ := len2 hl
          subst he
          have z : (isName a && isNum k 1) = false := hpo
          cases ha : isName a with
          | false => exact et_orT (et_notF (et_v (t1 a k rfl) (by rw [ha])))
          | true =>
            rw [ha, Bool.true_and] at z
            exact et_orF (et_notT (et_v (t1 a k rfl) (by rw [ha]))) (et_notF (et_v (t2 a k rfl) (by rw [z])))
        · have := q F4 H4 (gg3.trans g4)
          rw [show areParts names (.list xs) = partsGo names xs [] from rfl, hpg, partsGo, hpo] at this
          exact this
      | true =>
        obtain ⟨nm, k, rfl, hnm, hk⟩ := part_shape hpo
        refine s_ifF (et_tupn (n := 2) vu (fun es he => by cases he; exact (by simp : 2 ≤ 100000)) (fun es he hl => ?_) fun no => absurd ⟨_, rfl, rfl⟩ no) g3.fh fun F4 H4 g4 => ?_
        · cases he
          exact et_orF (et_notT (et_v (t1 _ _ rfl) (by rw [show isName (.str nm) = true from hnm]))) (et_notT (et_v (t2 _ _ rfl) (by rw [hk])))
        have hp4 := g4.keep hp3.1 hp3.2
        have gg4 := gg3.trans g4
        have v0 := Dv.ev_ixT (d := .str nm) (vu.mono g4.fx) (Dv.ev_int 0) rfl
        obtain ⟨kvs, hkv, hks⟩ := hsp.ex gg4.fx
        have nI := et_dnotin (tb := tVar 1) v0 (fun F1 H1 _ _ Q q => ⟨_, rfl, q⟩) hkv
        rw [hks] at nI
        have hpg' : partsGo names xs [] = (decide (nm ∈ names) && !decide (nm ∈ seen) && partsGo names (xs.drop (n + 1)) (seen ++ [nm])) := by
          rw [hpg, partsGo, hpo, Bool.true_and] <;> rfl
        have no : (decide (nm ∈ names) && !decide (nm ∈ seen)) = false → ∀ F5 H5, Gr F4 H4 F5 H5 → Q (.bl false) H5 := fun h F5 H5 g5 => by
          have := q F5 H5 (gg4.trans g5)
          rw [show areParts names (.list xs) = partsGo names xs [] from rfl, hpg', h, Bool.false_and] at this
          exact this
        by_cases hin : nm ∈ names
        · rw [decide_eq_true hin] at nI
          -- then the second part of the or
          refine nI H4 g4.fh _ fun F5 H5 g5 => ?_
          rw [if_neg (show ¬ ((!true) = true) by decide)]
          have hp5 := g5.keep hp4.1 hp4.2
          refine et_inStrs (v0.mono g5.fx) rfl H5 g5.fh hp5.1 hp5.2 _ fun F6 H6 g6 => ?_
          by_cases hs : nm ∈ seen
          · rw [decide_eq_true hs]
            exact iteT (no (by rw [decide_eq_true hs]; simp) F6 H6 (g5.trans g6))
          · rw [decide_eq_false hs]
            refine iteF ?_
            have hp6 := g6.keep hp5.1 hp5.2
            have g56 := g5.trans g6
            refine Dv.s_app (xs := seen.map V.str) (d := .str nm) hp6.1 hp6.2 rfl (v0.mono g56.fx) g6.fh (by rw [List.length_map]; omega) fun y F7 H7 g7 hy f7 h7 => ?_
            cases hy
            have hH : H p = none := ex_none g0.hx hp0
            refine ⟨F7, e2.trans (g3.fx.trans (g4.fx.trans (g56.fx.trans g7.fx))), ?_, some u, seen ++ [nm], rfl, f7, by rw [upd_same, List.map_append] <;> rfl, by rw [List.length_append]; simp; omega, ?_, ?_⟩
            · exact Evl.Ex.mut g7.fh f7
            · rw [hpg', decide_eq_true hin, decide_eq_false hs] <;> rfl
            · exact ((gg4.trans g56).trans g7).mut hH f7
        · rw [decide_eq_false hin] at nI
          refine nI H4 g4.fh _ fun F5 H5 g5 => ?_
          rw [if_pos (show (!false) = true from rfl)]
          exact iteT (no (by rw [decide_eq_false hin]; rfl) F5 H5 g5)
    · obtain ⟨it, seen, rfl, _, _, _, hpg, gg⟩ := p2
      dsimp only
      refine Dv.s_ret (K := K) (d := .bool true) (Dv.ev_bl true) e3 fun y F4 H4 g4 hy => ?_
      cases hy
      have := q F4 H4 (gg.trans g4)
      rw [show areParts names (.list xs) = partsGo names xs [] from rfl, hpg, List.drop_length] at this
      exact this
  · have e0 : areParts names d = false := by
      cases d <;> first | rfl | exact absurd ⟨_, rfl⟩ ht
    have e1 : isD d "list" = false := by
      cases d <;> first | rfl | exact absurd ⟨_, rfl⟩ ht
    refine s_ifT (et_notF (et_v (ev_isi (T := "list") vx (by decide)) (by rw [e1]))) e fun F1 H1 g1 => ?_
    have := q F1 H1 g1
    rw [e0] at this
    exact this
end
end R3

set_option Elab.async false
set_option linter.all false
set_option maxRecDepth 100000
set_option maxHeartbeats 4000000
namespace R3
open PySem PySem.Spec PyProof.Rows L2 Dv
section
variable {P : Program} {w : World} {K : PySem.W.Frag} {mg : Str → Option Value} {base : Heap}
theorem ev_parts {σ : L2.St} {F : Hp} {te : TE} {d : PyData} {sp : Addr} {names : List Str} {j : Nat} {E : XK} (h : EvD K te σ F d) (hj : σ[j]? = some (some (.ref sp))) (hs : SpotsAt F sp names) (hg : gd d = true) :
    EvD K (tCall (spParts K) [] E (tCons te (tCons (tVar j) tNil))) σ F (.bool (areParts names d)) := fun H e Q q =>
  h H e _ fun v F1 H1 g1 hv => ⟨_, hj, F1, v, d, sp, names, rfl, g1.fh, hv, hg, hs.ex g1.fx, fun F' H' g => q _ F' H' (g1.trans g) (.bl _)⟩
def isRecipe (names : List Str) : PyData → Bool
  | .tuple [n, t, g] => isName n && areParts names t && areParts names g
  | _ => false
def spRecipe (K : PySem.W.Frag) : Sp := fun vs H Q _ => ∃ (F : Hp) (v : V) (d : PyData) (sp : Addr) (names : List Str), vs = [v, .ref sp] ∧ Evl.Ex F H ∧ Dp K F v d ∧ gd d = true ∧ SpotsAt F sp names ∧ ∀ F' H', Gr F H F' H' → Q (.bl (isRecipe names d)) H'
theorem sc_is_recipe : FnScope (["value", "spots"] : List Str) (["value", "spots"] : List Str) (defScope sIsRecipe) := ⟨rfl, rfl, rfl, by decide +kernel, rfl, by decide +kernel, by decide +kernel⟩
theorem ok_is_recipe (D : Def K mg "is_recipe" sIsRecipe ["value", "spots"]) (B : Bl mg) (C_is_name : Cal P w K mg base "is_name" ["value"] 1 (spD K fIsName)) (C_are_parts : Cal P w K mg base "are_parts" ["value", "spots"] 3 (spParts K)) :
    Cal P w K mg base "is_recipe" ["value", "spots"] 4 (spRecipe K) := by
  refine cal_mk D sc_is_recipe (fun vs H Q E h => ?_) (fun f cdv A outer s H vs Q E hr h => ?_)
  · obtain ⟨F, v, d, sp, names, rfl, _⟩ := h
    rfl
  obtain ⟨F, v, d, sp, names, rfl, e, hv, hg, hsp, q⟩ := h
  refine ⟨_, (pss_cons (ps_if (PW.pt (pw_or (pt_not (pt_val (pe_callB call_isi (by rfl) B.isi (by decide +kernel) (pa_cons (pv 0) (pa_cons (pe_bltn (v := .ty "tuple") (by rfl) B.tuple (by decide +kernel) rfl) pa_nil))))) (pw_or (pt_cmpR op_ne (pe_callB call_len (by rfl) B.len (by decide +kernel) (pa_cons (pv 0) pa_nil)) pe_int (nomark _)) (pw_or1 (pt_not (pt_val (pe_callC C_is_name hr (pa_cons (pe_ix ix_tup (pv 0) pe_int (fun _ _ => rfl)) pa_nil)))))))) (pss_one (ps_ret pe_bl)) pss_nil)
      (pss_one (ps_ret (pe_and (pe_callC C_are_parts hr (pa_cons (pe_ix ix_tup (pv 0) pe_int (fun _ _ => rfl)) (pa_cons (pv 1) pa_nil))) (pe_one (pe_callC C_are_parts hr (pa_cons (pe_ix ix_tup (pv 0) pe_int (fun _ _ => rfl)) (pa_cons (pv 1) pa_nil)))))))), ?_⟩
  have vx := Dv.ev_var (K := K) (σ := [some v, some (.ref sp)]) (i := 0) rfl hv
  have nm : ∀ a t g, d = .tuple [a, t, g] → EvD K (tCall (spD K fIsName) [] E0 (tCons (tOp (rIxT K) (tVar 0) (tC (.int 0))) tNil)) [some v, some (.ref sp)] F (.bool (isName a)) := by
    intro a t g hd
    subst hd
    have ga : gd a = true := gds_mem (gd_tup hg).2 (by simp)
    exact ev_callD (Dv.ea_cons (Dv.ev_ixT (d := a) vx (Dv.ev_int 0) rfl) Dv.ea_nil) ⟨a, rfl, fun y hy => gd_str (by rw [← hy]; exact ga), rfl⟩
  have hlen : ∀ es, d = .tuple es → es.length ≤ 100000 := fun es he => by
    subst he
    exact Nat.le_trans (gd_tup hg).1 (by decide)
  by_cases hs : ∃ a t g, d = .tuple [a, t, g] ∧ isName a = true
  · obtain ⟨a, t, g, rfl, hn⟩ := hs
    have gt : gd t = true := gds_mem (gd_tup hg).2 (by simp)
    have gg : gd g = true := gds_mem (gd_tup hg).2 (by simp)
    refine s_ifF (et_tupn (n := 3) vx hlen (fun es he _ => et_notT (et_v (nm a t g rfl) (by rw [hn]))) fun no => absurd ⟨_, rfl, rfl⟩ no) e fun F1 H1 g1 => ?_
    refine Dv.s_ret (K := K) (d := .bool (isRecipe names (.tuple [a, t, g]))) (Dv.ev_is (Dv.ev_andV (ev_parts (j := 1) (Dv.ev_ixT (d := t) (vx.mono g1.fx) (Dv.ev_int 1) rfl) rfl (hsp.ex g1.fx) gt) fun _ => ev_parts (j := 1) (Dv.ev_ixT (d := g) (vx.mono g1.fx) (Dv.ev_int 2) rfl) rfl (hsp.ex g1.fx) gg) (by
      show _ = PyData.bool (isName a && areParts names t && areParts names g)
      rw [hn, Bool.true_and])) g1.fh fun y F2 H2 g2 hy => ?_
    cases hy
    exact q F2 H2 (g1.trans g2)
  · have e0 : isRecipe names d = false := by
      unfold isRecipe
      split
      · rename_i a t g
        cases hn : isName a with
        | true => exact absurd ⟨a, t, g, rfl, hn⟩ hs
        | false => rfl
      · rfl
    refine s_ifT (et_tupn (n := 3) vx hlen (fun es he hl => ?_) fun _ => rfl) e fun F1 H1 g1 => ?_
    · obtain ⟨a, t, g, rfl⟩ := len3 hl
      cases hn : isName a with
      | true => exact absurd ⟨a, t, g, he, hn⟩ hs
      | false => exact et_notF (et_v (nm a t g he) (by rw [hn]))
    · have := q F1 H1 g1
      rw [e0] at this
      exact this
def spSize (K : PySem.W.Frag) : Sp := fun vs H Q _ => ∃ (F : Hp) (v : V) (xs : List PyData) (l m : Int), vs = [v, .int l, .int m] ∧ Evl.Ex F H ∧ Dp K F v (.list xs) ∧ l ≤ xs.length ∧ (xs.length : Int) ≤ m ∧ xs.length ≤ 100000 ∧ ∀ F' H', Gr F H F' H' → Q .non H'
theorem sc_check_size : FnScope (["value", "least", "most"] : List Str) (["value", "least", "most"] : List Str) (defScope sCheckSize) := ⟨rfl, rfl, rfl, by decide +kernel, rfl, by decide +kernel, by decide +kernel⟩
theorem ok_check_size (D : Def K mg "check_size" sCheckSize ["value", "least", "most"]) (B : Bl mg) : Cal P w K mg base "check_size" ["value", "least", "most"] 1 (spSize K) := by
  refine cal_mk D sc_check_size (fun vs H Q E h => ?_) (fun f cdv A outer s H vs Q E hr h => ?_)
  · obtain ⟨F, v, xs, l, m, rfl, _⟩ := h
    rfl
  obtain ⟨F, v, xs, l, m, rfl, e, hv, h1, h2, h3, q⟩ := h
  refine ⟨_, (pss_one (ps_if (PW.pt (pw_or (pt_not (pt_val (pe_callB call_isi (by rfl) B.isi (by decide +kernel) (pa_cons (pv 0) (pa_cons (pe_bltn (v := .ty "list") (by rfl) B.list (by decide +kernel) rfl) pa_nil))))) (pw_or1 (pt_not (pt_chain op_le op_le (pv 1) (pe_callB call_len (by rfl) B.len (by decide +kernel) (pa_cons (pv 0) pa_nil)) (pv 2)))))) (pss_one ps_never) pss_nil)), ?_⟩
  have vx := Dv.ev_var (K := K) (σ := [some v, some (.int l), some (.int m)]) (i := 0) rfl hv
  refine s_ifF (et_orF (et_notT (et_v (p := true) (ev_isi (T := "list") vx (by decide)) rfl)) (et_notT (et_chI (f := fun i j => decide (i ≤ j)) (g := fun i j => decide (i ≤ j)) (Dv.ev_var rfl (.int l)) (ev_len vx rfl h3) (Dv.ev_var rfl (.int m)) (by
    rw [decide_eq_true h1, decide_eq_true h2] <;> rfl)))) e fun F1 H1 g1 => q F1 H1 g1
end
end R3

set_option Elab.async false
set_option linter.all false
set_option maxRecDepth 100000
set_option maxHeartbeats 4000000
/-! enumerate(d), d a dict that is locked. -/
namespace PySem
namespace EK
open Sem (wp)
section
variable {prog : Program} {w : World} {A : Around} {E : Value → Shared → Prop} {s : Shared}
theorem nextOf_key_item {it d : Addr} {i n ep : Nat} {od : Obj} {es : Array DictEntry} {en : DictEntry} {Q : Value → Shared → Prop} (hit : s.heap.IsKeyIter it d i n ep) (hod : s.heap.get? d = some od) (hdd : od.data = .dict es ep)
    (hsz : es.size = n) (hx : es[i]? = some en) (hQ : ∀ h', h'.IsKeyIter it d (i + 1) n ep → Heap.SameBut it s.heap h' → Q en.key { s with heap := h' }) : wpAny (model prog w) A (Builtin.SmallTypes.nextOf (.ref it)) Q E s := by
  obtain ⟨o, ho, hc, hd⟩ := id hit
  unfold Builtin.SmallTypes.nextOf
  refine wpAny_bind (wpAny_callSpecial?_slot (name := Str.ofString "__next__") hit.typeIs F.slot_dict_keyiterator_next
    (wpAny_call_entry F.slot_dict_keyiterator_next hit.typeIs F.entry_dict_keyiterator_next ?_ (F.args_dict_keyiterator_next_1 _)))
  refine wpAny_bind (wpAny_pure ?_)
  refine wpAny_bind ?_
  refine wpAny_bind ?_
  first | refine wpAny_bind (wpAny_typeNameOfWhole_keyiter hit.typeIs (wpAny_pure ?_)) | refine wpAny_bind (wpAny_typeNameOf_keyiter hit.typeIs (wpAny_pure ?_))
  refine wpAny_bind (wpAny_fieldsOf ho hd ?_)
  have hown : Builtin.Dict_items.ownsTuple "dict_keyiterator" = false := by decide
  simp only [hown, Bool.false_eq_true, if_false]
  show wpAny _ _ (if (Value.ref d == Value.none) = true then _ else _) _ _ s
  rw [if_neg (show ¬ ((Value.ref d == Value.none) = true) from Bool.false_ne_true)]
  refine wpAny_bind (wpAny_pure ?_)
  refine wpAny_bind (wpAny_dictEntries hod hdd ?_)
  rw [if_neg (by rw [hsz]; simp)]
  refine wpAny_bind (wpAny_pure ?_)
  refine wpAny_bind (wpAny_dictEpoch hod hdd ?_)
  rw [if_neg (by simp)]
  refine wpAny_pure ?_
  obtain ⟨hlt', hen⟩ := Array.getElem?_eq_some_iff.mp hx
  simp only [show ¬ ((i : Int) < 0) from by omega, if_false, Int.toNat_natCast, Array.getElem?_eq_getElem hlt']
  refine wpAny_bind ?_
  first | refine wpAny_bind (wpAny_typeNameOfWhole_keyiter hit.typeIs (wpAny_pure ?_)) | refine wpAny_bind (wpAny_typeNameOf_keyiter hit.typeIs (wpAny_pure ?_))
  refine wpAny_bind (wpAny_isOneOf_keyiter hit.typeIs ?_)
  show wpAny _ _ (setField (.ref it) 1 (rawInt ((i : Int) + 1)) >>= _) _ _ s
  refine wpAny_bind (wpAny_setField ho hd (by simp) ?_)
  have hit' : (s.heap.update it (Obj.mapFields (·.setIfInBounds 1 (rawInt ((i : Int) + 1))))).IsKeyIter it d (i + 1) n ep :=
    ⟨_, Heap.get?_update_self _ ho (Obj.isFreed_of_fields (Obj.data_mapFields hd _)), (Obj.cls_mapFields ..).trans hc, by rw [Obj.data_mapFields hd]; simp [rawInt]⟩
  refine wpAny_bind (wpAny_holding ?_)
  refine wpAny_bind (wpAny_isOneOf_keyiter (s := { s with heap := s.heap.update it (Obj.mapFields (·.setIfInBounds 1 (rawInt ((i : Int) + 1)))) }) hit'.typeIs ?_)
  show wpAny _ _ (pure es[i].key) _ _ _
  rw [hen]
  exact wpAny_pure (wpAny_pure ⟨_, rfl, wpAny_pure (hQ _ hit' (Heap.SameBut.update ..))⟩)
theorem nextOf_key_end {it d : Addr} {i n ep : Nat} {od : Obj} {es : Array DictEntry} {Q : Value → Shared → Prop} (hh : A.handled = none) (hit : s.heap.IsKeyIter it d i n ep) (hod : s.heap.get? d = some od) (hdd : od.data = .dict es ep)
    (hsz : es.size = n) (hge : n ≤ i) (hE : ∀ h' e, Heap.ExtBut it s.heap h' → (∃ o, h'.get? e = some o ∧ o.cls = .type "StopIteration") → E (.ref e) { s with heap := h' }) : wpAny (model prog w) A (Builtin.SmallTypes.nextOf (.ref it)) Q E s := by
  obtain ⟨o, ho, hc, hd⟩ := id hit
  unfold Builtin.SmallTypes.nextOf
  refine wpAny_bind (wpAny_callSpecial?_slot (name := Str.ofString "__next__") hit.typeIs F.slot_dict_keyiterator_next
    (wpAny_call_entry F.slot_dict_keyiterator_next hit.typeIs F.entry_dict_keyiterator_next ?_ (F.args_dict_keyiterator_next_1 _)))
  refine wpAny_bind (wpAny_pure ?_)
  refine wpAny_bind ?_
  refine wpAny_bind ?_
  first | refine wpAny_bind (wpAny_typeNameOfWhole_keyiter hit.typeIs (wpAny_pure ?_)) | refine wpAny_bind (wpAny_typeNameOf_keyiter hit.typeIs (wpAny_pure ?_))
  refine wpAny_bind (wpAny_fieldsOf ho hd ?_)
  have hown : Builtin.Dict_items.ownsTuple "dict_keyiterator" = false := by decide
  simp only [hown, Bool.false_eq_true, if_false]
  show wpAny _ _ (if (Value.ref d == Value.none) = true then _ else _) _ _ s
  rw [if_neg (show ¬ ((Value.ref d == Value.none) = true) from Bool.false_ne_true)]
  refine wpAny_bind (wpAny_pure ?_)
  refine wpAny_bind (wpAny_dictEntries hod hdd ?_)
  rw [if_neg (by rw [hsz]; simp)]
  refine wpAny_bind (wpAny_pure ?_)
  refine wpAny_bind (wpAny_dictEpoch hod hdd ?_)
  rw [if_neg (by simp)]
  refine wpAny_pure ?_
  have hge' : es.size ≤ i := by rw [hsz]; exact hge
  simp only [show ¬ ((i : Int) < 0) from by omega, if_false, Int.toNat_natCast, Array.getElem?_eq_none hge']
  refine wpAny_bind ?_
  first | refine wpAny_bind (wpAny_typeNameOfWhole_keyiter hit.typeIs (wpAny_pure ?_)) | refine wpAny_bind (wpAny_typeNameOf_keyiter hit.typeIs (wpAny_pure ?_))
  show wpAny _ _ (setField (.ref it) 0 .none >>= _) _ _ s
  refine wpAny_bind (wpAny_setField ho hd (by simp) ?_)
  show wpAny _ _ (newExc (.type "StopIteration") [] >>= _) _ _ _
  refine wpAny_bind ?_
  simp only [newExc, newTuple]
  refine wpAny_bind (wpAny_newObj_type ?_ (by size_fits))
  refine wpAny_bind (m := firstArgMember _ _) (wpAny_of_eq (a := Value.none) (by first | rfl | (simp only [firstArgMember]; rfl)) ?_)
  refine wpAny_newObj_type ?_ (by size_fits)
  simp only [raiseNew]
  refine wpAny_bind (wpAny_handled ?_)
  rw [show A.in1.handled = none from hh]
  refine wpAny_bind (wpAny_pure (wpAny_throw ?_))
  exact hE _ _ (((Heap.SameBut.update ..).extBut.push _).push _) ⟨_, Heap.get?_push_size _ rfl, rfl⟩
end
theorem draws_keys {prog : Program} {w : World} {A : Around} {it d : Addr} {n ep : Nat} {od : Obj} {es : Array DictEntry} (hh : A.handled = none) (hdd : od.data = .dict es ep) (hsz : es.size = n) (hne : d ≠ it) :
    Draws prog w A it [it, d] n (fun i v => ∃ en, es[i]? = some en ∧ v = en.key) (fun i h => h.IsKeyIter it d i n ep ∧ h.get? d = some od) where
  live := fun i h st => let ⟨⟨o, ho, _⟩, _⟩ := st; ⟨o, ho⟩
  frame := fun i h h' st k => let ⟨⟨o, ho, r⟩, hd⟩ := st; ⟨⟨o, k it (by simp) o ho, r⟩, k d (by simp) _ hd⟩
  item := fun i s Q E hi st hQ => by
    obtain ⟨hit, hod⟩ := st
    have hx : es[i]? = some es[i] := Array.getElem?_eq_getElem (by omega)
    exact nextOf_key_item hit hod hdd hsz hx fun h' hit' sb => hQ _ h' s.toks ⟨_, hx, rfl⟩ ⟨hit', (sb.2 d hne).trans hod⟩ sb
  done := fun s Q E st hE => nextOf_key_end hh st.1 st.2 hdd hsz (Nat.le_refl _) hE
theorem meets_new (d : Addr) (o : Obj) (es : Array DictEntry) (ep : Nat) (hs : (d == sysModules) = false) (hc : o.ExactDict) (hdat : o.data = .dict es ep) :
    Meets (Builtin.«enumerate.__new__» ⟨[.type "enumerate", .ref d], []⟩) (fun _ R s => s.heap.get? d = some o ∧
      R (.ok (.ret (.ref (s.heap.push { cls := .type "dict_keyiterator", data := .fields #[.ref d, .int 0 0, .int es.size 0, .int ep 0] }).objs.size)))
        { s with heap := (s.heap.push { cls := .type "dict_keyiterator", data := .fields #[.ref d, .int 0 0, .int es.size 0, .int ep 0] }).push { cls := .type "enumerate", data := .fields #[.none, .bool false, .ref s.heap.objs.size, rawInt 0, .none, .none] } }) :=
  .of_wp fun prog w A R s h => by
    obtain ⟨hp, g, dr, tk, os⟩ := s; obtain ⟨hl, h⟩ := h
    have hsub := sub_enumerate
    have hL : (Shared.mk hp g dr tk os).heap.get? d = some o := hl
    wp_walk using AutoSeq1.wpAny_loadPart' hl
    refine wpAny_stack_any fun st => wpAny_pure ?_
    split
    · rename_i c _ _ _ _ _
      cases (c == Value.type "enumerate")
      · wp_walk using AutoSeq1.wpAny_loadPart' hl, L2.iter_keys hs hL hc hdat
        exact ⟨_, rfl, h⟩
      · wp_walk using AutoSeq1.wpAny_loadPart' hl, L2.iter_keys hs hL hc hdat
        exact ⟨_, rfl, h⟩
    · wp_walk using AutoSeq1.wpAny_loadPart' hl, L2.iter_keys hs hL hc hdat
      exact ⟨_, rfl, h⟩
section
variable {prog : Program} {w : World} {A : Around} {E : Value → Shared → Prop} {s : Shared}
theorem call_enumK {d : Addr} {o : Obj} {es : Array DictEntry} {ep : Nat} {Q : Value → Shared → Prop} (hs : (d == sysModules) = false) (hd : s.heap.get? d = some o) (hc : o.ExactDict) (hdat : o.data = .dict es ep)
    (h : ∀ h', IsEnum h' (s.heap.objs.size + 1) s.heap.objs.size 0 .none → h'.IsKeyIter s.heap.objs.size d 0 es.size ep → h'.objs.size = s.heap.objs.size + 2 →
      (∀ b o, s.heap.get? b = some o → h'.get? b = some o) → Q (.ref (s.heap.objs.size + 1)) { s with heap := h' }) :
    wpAny (model prog w) A (call (.type "enumerate") [.ref d]) Q E s := by
  refine callType_new F.called_enumerate (by decide) (F.typeCall_enumerate_1 _) (F.newCall_enumerate_1 _) (fun obj => F.args_object_init_2 obj _) F.entry_enumerate_new
    (meets_new d o es ep hs hc hdat) ⟨hd, ?_⟩
  have hz : (s.heap.push { cls := .type "dict_keyiterator", data := .fields #[.ref d, .int 0 0, .int es.size 0, .int ep 0] }).objs.size = s.heap.objs.size + 1 := Heap.size_push ..
  show _ ∧ _
  rw [hz]
  have he : IsEnum ((s.heap.push { cls := .type "dict_keyiterator", data := .fields #[.ref d, .int 0 0, .int es.size 0, .int ep 0] }).push
      { cls := .type "enumerate", data := .fields #[.none, .bool false, .ref s.heap.objs.size, rawInt 0, .none, .none] }) (s.heap.objs.size + 1) s.heap.objs.size 0 .none := by
    rw [← hz]
    exact Heap.get?_push_size _ rfl
  refine ⟨⟨_, he, rfl⟩, h _ he ⟨_, Heap.get?_push_of_some _ (Heap.get?_push_size _ rfl), rfl, rfl⟩ (by rw [Heap.size_push, hz]) fun b o' e => Heap.get?_push_of_some _ (Heap.get?_push_of_some _ e)⟩
end
end EK
end PySem

set_option Elab.async false
set_option linter.all false
set_option maxRecDepth 100000
set_option maxHeartbeats 4000000
namespace L2
open PySem PySem.Spec PyProof.Rows
/-- the places and the keys of the locked dict at d, each a new tuple -/
def Itek (d : Addr) (o : Obj) (kvs : List (Key × V)) : It :=
  ⟨fun i H => H d = some (.frz o (.dK kvs)) ∧ i < kvs.length, fun i H x H' => ∃ T k v, kvs[i]? = some (k, v) ∧ x = .ref T ∧ H T = none ∧ H' = upd H T (.tup [.int (i : Nat), kV k]), fun i H => H d = some (.frz o (.dK kvs)) ∧ kvs.length ≤ i⟩
section
variable {P : Program} {w : World} {K : PySem.W.Frag} {d : Addr} {o : Obj} {es : Array DictEntry} {ep : Nat}
theorem turn_enumK {kvs : List (Key × V)} {elts : List Expr} {kk : Nat} {tpos : Pos} (e it : Addr) (hod : o.data = .dict es ep) (hde : d ≠ e) (hdi : d ≠ it) :
    Turn P w K (.Tuple elts kk tpos) (Itek d o kvs) [e, it] e (fun i h => (∃ old, IsEnum h e it ((i : Nat) : Int) old) ∧ h.IsKeyIter it d i kvs.length ep ∧ e ≠ it) where
  mem := by simp
  obj := fun i h st b hb => by
    obtain ⟨⟨old, he⟩, ⟨o, ho, hc, hd⟩, _⟩ := st
    have e' : b = e ∨ b = it := by simpa using hb
    rcases e' with z | z
    · rw [z]; exact ⟨_, he, fun v q => nomatch q⟩
    · rw [z]; exact ⟨o, ho, fun v q => by rw [hd] at q; cases q⟩
  keep := fun i h h' st k => let ⟨⟨old, he⟩, ⟨oi, ho, r⟩, hne⟩ := st; ⟨⟨old, k e (by simp) _ he⟩, ⟨oi, k it (by simp) oi ho, r⟩, hne⟩
  item := by
    intro X hP hw hK hc i pins s σ H E I hf st hg
    subst hP hw hK
    obtain ⟨⟨old, he⟩, hit, hne⟩ := st
    obtain ⟨hd, hi⟩ := hg
    obtain ⟨hs, hgd, hx, es', ep', vs, hdt, hsz, kv, hm⟩ := I.frzK hd
    obtain ⟨rfl, rfl⟩ := dict_ep hod hdt
    obtain ⟨⟨k, v⟩, hkv⟩ : ∃ p, kvs[i]? = some p := ⟨kvs[i], List.getElem?_eq_getElem hi⟩
    obtain ⟨u, hu, ru⟩ := kv_get kv hkv
    have hl : kvs.length = vs.length := Paired.length kv
    have hel : e < s.heap.objs.size := Heap.lt_size he
    have hil : it < s.heap.objs.size := by obtain ⟨_, q, _⟩ := hit; exact Heap.lt_size q
    refine wpAny_pyNext_enum_itemD (EK.draws_keys (prog := X.prog) (w := X.w) (A := X.A.in1) (it := it) (I.ok.hd hc) hod hsz hdi) he ⟨hit, hgd⟩ hi hne (by simpa using ⟨hne, Ne.symm hde⟩) fun x h' tk hP ho hst hT hsz' hk => ?_
    obtain ⟨en, hen, rfl⟩ := hP
    obtain ⟨od2, es2, hod2, _, hdd2, _, hp, _⟩ := hm
    rw [hgd] at hod2
    cases hod2
    obtain ⟨rfl, _⟩ := dict_ep hod hdd2
    have hkey : keyIs k en.key = true := (hp.get? (e := en) (by simpa using hen) hu).1
    refine ⟨_, rfl, wpAny_letOwnedTupleGo_enum (s := { s with heap := h', toks := tk + 1 }) ho fun h'' he' sb => ?_⟩
    have hT2 : h''.get? s.heap.objs.size = some { cls := .type "tuple", data := .seq #[.int i tk, en.key] } := (sb.2 _ (Nat.ne_of_gt hel)).trans hT
    have new : ObjOk X.prog X.w (upd H s.heap.objs.size (.tup [.int (i : Nat), kV k])) h'' s.heap.objs.size (.tup [.int (i : Nat), kV k]) :=
      ⟨by show 2 ≤ sizeLine; decide, [.int i tk, en.key], .cons ⟨_, rfl⟩ (.cons (relV_key hkey) .nil), ⟨_, hT2, rfl, _, rfl⟩⟩
    have I1 : Inv X pins σ (upd H s.heap.objs.size (.tup [.int (i : Nat), kV k])) { s with heap := h'', toks := tk + 1 } :=
      I.turnedNew (ch := [e, it]) (fun b ob hb q => (sb.2 b (fun z => hb (by simp [z]))).trans (hk b ob (fun z => hb (by simp [z])) (fun z => hb (by simp [z])) q)) hf (Nat.le_refl _) new
    obtain ⟨⟨oi, hoi, ri⟩, _⟩ := hst
    refine ⟨.ref s.heap.objs.size, _, I1, rfl, ⟨_, k, v, hkv, rfl, I.hok.fresh (Nat.le_refl _), rfl⟩, ⟨⟨en.key, ?_⟩, ⟨oi, (sb.2 it (Ne.symm hne)).trans hoi, ri⟩, hne⟩, fun b hb => ?_⟩
    · have e1 : ((i + 1 : Nat) : Int) = (i : Int) + 1 := by omega
      rw [e1]; exact he'
    · have hb' : b < s.heap.objs.size := by
        have e' : b = e ∨ b = it := by simpa using hb
        rcases e' with z | z
        · rw [z]; exact hel
        · rw [z]; exact hil
      rw [upd_ne (Nat.ne_of_lt hb')]
      exact (hf b hb).1
  done := by
    intro X hP hw hK hc i pins s σ H E I hf st hg
    subst hP hw hK
    obtain ⟨⟨old, he⟩, hit, hne⟩ := st
    obtain ⟨hd, hi⟩ := hg
    obtain ⟨hs, hgd, hx, es', ep', vs, hdt, hsz, kv, hm⟩ := I.frzK hd
    obtain ⟨rfl, rfl⟩ := dict_ep hod hdt
    obtain ⟨f0, f1, f2, f3, f4, f5⟩ := hf it (by simp)
    have hT : s.TypeIs (.ref e) "enumerate" := ⟨_, he, rfl⟩
    unfold pyNext
    refine wpAny_bind (wpAny_attempt (wpAny_callSpecial?_slot (name := Str.ofString "__next__") hT F.slot_enumerate_next
      (wpAny_call_entry F.slot_enumerate_next hT F.entry_enumerate_next ?_ (F.args_enumerate_next_1 _))))
    show wpAny _ _ (field (.ref e) 2 >>= _) _ _ _
    refine wpAny_bind (wpAny_field he rfl (x := .ref it) rfl ?_)
    refine wpAny_bind (EK.nextOf_key_end (show X.A.in1.handled = none from I.ok.hd hc) hit hgd hdt hsz hi fun h' x he' hx' => ?_)
    obtain ⟨ox, hox, hcx⟩ := hx'
    refine wpAny_bind (wpAny_isInstance (T := "StopIteration") (b := true) ⟨ox, hox, hcx⟩ isSubtype_stop ?_)
    exact wpAny_pure ⟨rfl, I.turned (t' := s.toks) (fun b ob hb q => he' b ob hb q) f0 f1 f3 f4 f5⟩
  self := fun A i s Q E st h => let ⟨⟨_, he⟩, _⟩ := st; wpAny_pyIter_enum he h
end
def iEnumK (ta : TA) : TI := fun σ H R => ta σ H fun vs H1 => ∃ d o kvs, vs = [.ref d] ∧ H1 d = some (.frz o (.dK kvs)) ∧ R (Itek d o kvs) H1
theorem pi_enumK {X : Cx} {e : Expr} {ta : TA} {p pos tpos : Pos} {elts : List Expr} {kk : Nat} (hg : Gl X "enumerate") (hm : X.mg "enumerate" = none) (ha : PA X [e] ta) (hs : starEach [e] X.env = [(false, eval e X.env)] := by rfl) :
    PI X (.Tuple elts kk tpos) (.Call (.Name "enumerate" p) [e] [] pos) (iEnumK ta) := by
  refine ⟨fun pins s σ H R I h => ?_⟩
  refine Call_ (ld_blt I hg hm boot_enumerate (PyProof.Rows.callWith_type1 (thn (ha.run pos pins s σ H _ I h) fun us s1 ⟨vs, H1, I1, r1, q1⟩ => ?_) hs rfl))
  obtain ⟨d, o, kvs, ex, hq, q⟩ := q1
  subst ex
  cases r1 with
  | cons r rr =>
    cases rr
    cases r
    obtain ⟨hs', hgd, hx, es, ep, vs, hdt, hsz, kv, hmm⟩ := I1.frzK hq
    have hlt : d < s1.heap.objs.size := Heap.lt_size hgd
    refine EK.call_enumK hs' hgd hx hdt fun h' he hit hsz' hk => wpAny_pyIter_enum he ?_
    have I2 : Inv X pins σ H1 { s1 with heap := h' } := I1.kept (t' := s1.toks) hk
    rw [hsz] at hit
    refine ⟨s1.heap.objs.size + 1, [s1.heap.objs.size + 1, s1.heap.objs.size], _, _, H1, rfl, I2, turn_enumK (s1.heap.objs.size + 1) s1.heap.objs.size hdt (Nat.ne_of_lt (Nat.lt_succ_of_lt hlt)) (Nat.ne_of_lt hlt), ⟨⟨.none, he⟩, hit, Nat.succ_ne_self _⟩, fun b hb => ?_, q⟩
    have e' : b = s1.heap.objs.size + 1 ∨ b = s1.heap.objs.size := by simpa using hb
    have hle : s1.heap.objs.size ≤ b := by
      rcases e' with z | z
      · rw [z]; exact Nat.le_add_right _ _
      · rw [z]; exact Nat.le_refl _
    exact I1.fpOk hle (I1.hok.fresh hle)
theorem walk_enumK {d : Addr} {o : Obj} {kvs : List (Key × V)} : Walk (Itek d o kvs) kvs.length (fun H => H d = some (.frz o (.dK kvs))) (YPair (fun i => some (.int (i : Nat))) (fun i => kvs[i]?.map fun kv => kV kv.1)) :=
  ⟨fun i H hi q => ⟨q, hi⟩, fun H q => ⟨q, Nat.le_refl _⟩, fun i H x H' hi q y => by
    obtain ⟨T, k, v, hkv, rfl, hT, rfl⟩ := y
    exact ⟨T, _, kV k, rfl, hT, rfl, rfl, by show Option.map _ kvs[i]? = _; rw [hkv] <;> rfl⟩⟩
end L2

set_option Elab.async false
set_option linter.all false
set_option maxRecDepth 100000
set_option maxHeartbeats 4000000
namespace Dv
open PySem L2 Evl
section
variable {K : PySem.W.Frag} {σ : L2.St} {F F1 H H1 : Hp} {te ta tb tc : TE} {d a b : PyData} {ds es : List PyData} {ad : Addr} {kvs : List (Key × V)}
/-- what stands at a dict's address is not seen by data -/
def NoSq (o : Option HO) : Prop := ∀ xs, o ≠ some (.lst xs) ∧ o ≠ some (.tup xs) ∧ ∀ ob, o ≠ some (.frz ob (.lst xs)) ∧ o ≠ some (.frz ob (.tup xs))
theorem noSq_dK : NoSq (some (.dK kvs)) := fun xs => ⟨(fun z => by cases z), (fun z => by cases z), fun ob => ⟨(fun z => by cases z), (fun z => by cases z)⟩⟩
theorem noSq_frz {o : Obj} : NoSq (some (.frz o (.dK kvs))) := fun xs => ⟨(fun z => by cases z), (fun z => by cases z), fun ob => ⟨(fun z => by cases z), (fun z => by cases z)⟩⟩
theorem noSq_none : NoSq none := fun xs => ⟨(fun z => by cases z), (fun z => by cases z), fun ob => ⟨(fun z => by cases z), (fun z => by cases z)⟩⟩
theorem sqL_put {p : Addr} {xs : List V} {o : HO} (h : NoSq (F ad)) (hs : SqL K F p xs) : SqL K (upd F ad o) p xs := by
  rcases hs with (q | ⟨ob, q⟩) | q
  · refine .inl (.inl ?_)
    rw [upd_ne (fun z => (h xs).1 (by rw [← z]; exact q))]
    exact q
  · refine .inl (.inr ⟨ob, ?_⟩)
    rw [upd_ne (fun z => ((h xs).2.2 ob).1 (by rw [← z]; exact q))]
    exact q
  · exact .inr q
theorem sqT_put {p : Addr} {xs : List V} {o : HO} (h : NoSq (F ad)) (hs : SqT K F p xs) : SqT K (upd F ad o) p xs := by
  rcases hs with (q | ⟨ob, q⟩) | q
  · refine .inl (.inl ?_)
    rw [upd_ne (fun z => (h xs).2.1 (by rw [← z]; exact q))]
    exact q
  · refine .inl (.inr ⟨ob, ?_⟩)
    rw [upd_ne (fun z => ((h xs).2.2 ob).2 (by rw [← z]; exact q))]
    exact q
  · exact .inr q
mutual
theorem dp_put {o : HO} (h : NoSq (F ad)) : ∀ {d : PyData} {v : V}, Dp K F v d → Dp K (upd F ad o) v d
  | .none, _, e => by cases e; exact .non
  | .bool b, _, e => by cases e; exact .bl b
  | .int i, _, e => by cases e; exact .int i
  | .str x, _, e => by cases e; exact .str x
  | .list ds, _, e => by
    cases e with
    | lst hs ha => exact .lst (sqL_put h hs) (dps_put h ha)
  | .tuple ds, _, e => by
    cases e with
    | tup hs ha => exact .tup (sqT_put h hs) (dps_put h ha)
  | .dict _, _, e => by cases e
theorem dps_put {o : HO} (h : NoSq (F ad)) : ∀ {ds : List PyData} {vs : List V}, DpAll K F vs ds → DpAll K (upd F ad o) vs ds
  | [], _, e => by cases e; exact .nil
  | d :: ds, _, e => by
    cases e with
    | cons h1 h2 => exact .cons (dp_put h h1) (dps_put h h2)
end
theorem ex_upd {F H : Hp} {p : Addr} {o : HO} (e : Ex F H) : Ex (upd F p o) (upd H p o) := fun a u h => by
  by_cases q : a = p
  · subst q
    rw [upd_same] at h ⊢
    exact h
  · rw [upd_ne q] at h ⊢
    exact e a u h
/-- from the locked heaps back -/
theorem Gr.unlock {F H F' H' : Hp} {o u : HO} (hd : F ad = some u) (e : Ex F H) (g : Gr (upd F ad o) (upd H ad o) F' H') : F' ad = some o ∧ H' ad = some o ∧ Gr F H (upd F' ad u) (upd H' ad u) := by
  have f1 : F' ad = some o := g.fx ad o upd_same
  refine ⟨f1, g.fh ad o f1, ?_, ex_upd g.fh, ?_, ?_⟩
  · intro a w h
    by_cases q : a = ad
    · subst q
      rw [upd_same]
      exact hd.symm.trans h
    · rw [upd_ne q]
      exact g.fx a w (by rw [upd_ne q]; exact h)
  · intro a w h
    by_cases q : a = ad
    · subst q
      rw [upd_same]
      exact (e _ _ hd).symm.trans h
    · rw [upd_ne q]
      exact g.hx a w (by rw [upd_ne q]; exact h)
  · intro a h1 h2
    by_cases q : a = ad
    · subst q
      rw [hd] at h1
      cases h1
    · rw [upd_ne q] at h2
      have := g.fr a (by rw [upd_ne q]; exact h1) h2
      rw [upd_ne q] at this
      exact this
/-- a comprehension over a dict of F: within, the dict is locked -/
theorem el_lock (hd : F ad = some (.dK kvs)) (h : ∀ od, EvL K te σ (upd F ad (.frz od (.dK kvs))) ds) : EvL K (tLockE te) σ F ds := fun H e Q q =>
  ⟨ad, _, e _ _ hd, trivial, fun od => h od (upd H ad (.frz od (.dK kvs))) (ex_upd e) _ fun p vs F' H' g h1 h2 h3 h4 => by
    obtain ⟨f1, f2, gg⟩ := Gr.unlock hd e g
    have hp : p ≠ ad := fun z => by
      subst z
      rw [upd_same] at h1
      cases h1
    refine ⟨f2, q p vs _ _ gg (by rw [upd_ne hp] at h1; exact h1) (by rw [upd_ne hp]; exact h2) (by rw [upd_ne hp]; exact h3) (dps_put (by rw [f1]; exact noSq_frz) h4)⟩⟩
/-! ### a locked dict walked -/
variable {o : Obj} {td : TE}
theorem it_vals (ht : ∀ H1, Ex F H1 → ∀ Q : VK, Q (.ref ad) H1 → td σ H1 Q) (hd : F ad = some (.frz o (.dK kvs))) (hv : DpAll K F (kvs.map Prod.snd) ds) : ItD K (iVals td) σ F ds := fun H e R q =>
  ht H e _ ⟨ad, o, kvs, rfl, e _ _ hd, q _ F H (Gr.refl e) ⟨_, _, by rw [← dps_len hv, List.length_map]; exact walk_values, fun H' e' => e' _ _ hd, fun F2 i H2 x H3 hi e1 e2 y => by
    obtain ⟨rfl, k, hk⟩ := y
    obtain ⟨d, h1, h2⟩ := dps_get hv (v := x) (i := i) (by rw [List.getElem?_map, hk] <;> rfl)
    exact ⟨F2, d, h1, Gr.refl e2, dp_ex e1 h2⟩⟩⟩
theorem it_enumK {tas : TA} {names : List Str} (ht : ∀ H1, Ex F H1 → ∀ Q : List V → Hp → Prop, Q [.ref ad] H1 → tas σ H1 Q) (hd : F ad = some (.frz o (.dK kvs))) (hn : kvs.map Prod.fst = names.map Sum.inr) :
    ItD K (iEnumK tas) σ F (names.zipIdx.map fun z => .tuple [.int z.2, .str z.1]) := fun H e R q =>
  ht H e _ ⟨ad, o, kvs, rfl, e _ _ hd, q _ F H (Gr.refl e) ⟨_, _, by
    have : kvs.length = names.length := by
      have := congrArg List.length hn
      rwa [List.length_map, List.length_map] at this
    rw [List.length_map, List.length_zipIdx, ← this]
    exact walk_enumK, fun H' e' => e' _ _ hd, fun F2 i H2 x H3 hi e1 e2 y => by
    obtain ⟨T, x, y, rfl, hT, rfl, f1, f2⟩ := y
    cases f1
    have hk : (names.map (Sum.inr : Str → Key))[i]? = (kvs.map Prod.fst)[i]? := by rw [hn]
    rw [List.getElem?_map, List.getElem?_map] at hk
    have f2 : Option.map (fun kv => kV kv.1) kvs[i]? = some y := f2
    cases hq : kvs[i]? with
    | none => rw [hq] at f2; cases f2
    | some kv =>
      rw [hq] at f2 hk
      cases hz : names[i]? with
      | none => rw [hz] at hk; cases hk
      | some nm =>
        rw [hz] at hk
        have hk' : (Sum.inr nm : Key) = kv.1 := Option.some.inj hk
        have f2' : kV kv.1 = y := Option.some.inj f2
        rw [← hk'] at f2'
        subst f2'
        refine ⟨_, .tuple [.int i, .str nm], ?_, Gr.new e2 hT, .tup (st_of upd_same) (.cons (.int _) (.cons (.str _) .nil))⟩
        rw [List.getElem?_map, List.getElem?_zipIdx, hz]
        simp⟩⟩
end
end Dv

set_option Elab.async false
set_option linter.all false
set_option maxRecDepth 100000
set_option maxHeartbeats 4000000
namespace L2
open PySem PySem.Spec PyProof.Rows
/-- a dict comprehension over a walk: Pv by the turn and the heap (the new dict at D within) -/
theorem dc_it {J : It} {n : Nat} {G : Hp → Prop} {Y : Nat → Hp → V → Hp → Prop} (w : Walk J n G Y) {g : TG} {tt : TT} {tk tv : TE} {vs : List Nat} {σ : St} {H1 : Hp} {D : Addr} {Qd : Hp → Prop} (Pv : Nat → Hp → Prop) (h0 : Pv 0 (upd H1 D (.dK []))) (hG : ∀ i H, i ≤ n → Pv i H → G H)
    (hs : ∀ i x H H', i < n → Pv i H → Y i H x H' → g x (wipe σ vs) H' fun σ2 H2 => wipe σ2 vs = wipe σ vs ∧ tt σ2 H2 fun b H3 =>
      if b = true then tk σ2 H3 fun y H4 => tv σ2 H4 fun z H5 => ∃ kvs k, y = kV k ∧ H5 D = some (.dK kvs) ∧ kvs.length < sizeLine ∧ Pv (i + 1) (upd H5 D (.dK (putK kvs k z))) else Pv (i + 1) H3) (hd : ∀ H, Pv n H → Qd H) :
    ∃ W : Nat → Nat → Hp → Prop, (∃ m, W 0 m (upd H1 D (.dK []))) ∧ ∀ i m H, W i m H →
      (J.stop i H ∧ Qd H) ∨ (J.go i H ∧ ∃ Nx : Hp → Prop, (∀ H', Nx H' → ∃ m', m' < m ∧ W (i + 1) m' H') ∧ ∀ x H', J.yld i H x H' → g x (wipe σ vs) H' fun σ2 H2 => wipe σ2 vs = wipe σ vs ∧ tt σ2 H2 fun b H3 =>
        if b = true then tk σ2 H3 fun y H4 => tv σ2 H4 fun z H5 => ∃ kvs k, y = kV k ∧ H5 D = some (.dK kvs) ∧ kvs.length < sizeLine ∧ Nx (upd H5 D (.dK (putK kvs k z))) else Nx H3) := by
  refine ⟨fun i m H => m = n - i ∧ i ≤ n ∧ Pv i H, ⟨n, by simp, Nat.zero_le _, h0⟩, ?_⟩
  rintro i m H ⟨rfl, hi, p⟩
  have q := hG i H hi p
  by_cases hlt : i < n
  · exact .inr ⟨w.goes i H hlt q, Pv (i + 1), fun H' p' => ⟨n - (i + 1), by omega, rfl, hlt, p'⟩, fun x H' y => hs i x H H' hlt p (w.yields i H x H' hlt q y)⟩
  · have e : i = n := by omega
    subst e
    exact .inl ⟨w.stops H q, hd H p⟩
end L2
namespace Dv
open PySem L2 Evl
section
variable {K : PySem.W.Frag} {σ : L2.St} {F F1 H H1 : Hp} {te ta tb tc : TE} {d a b : PyData} {ds es : List PyData} {ad : Addr} {kvs : List (Key × V)}
variable (K) in
/-- a new dict, not yet of F' -/
def EvK (te : TE) (σ : L2.St) (F : Hp) (ks : List Key) (ds : List PyData) : Prop := ∀ H, Ex F H → ∀ Q : VK, (∀ p vs F' H', Gr F H F' H' → H p = none → F' p = none → H' p = some (.dK (ks.zip vs)) → DpAll K F' vs ds → Q (.ref p) H') → te σ H Q
theorem ek_lock {ks : List Key} (hd : F ad = some (.dK kvs)) (h : ∀ od, EvK K te σ (upd F ad (.frz od (.dK kvs))) ks ds) : EvK K (tLockE te) σ F ks ds := fun H e Q q =>
  ⟨ad, _, e _ _ hd, trivial, fun od => h od (upd H ad (.frz od (.dK kvs))) (ex_upd e) _ fun p vs F' H' g h1 h2 h3 h4 => by
    obtain ⟨f1, f2, gg⟩ := Gr.unlock hd e g
    have hp : p ≠ ad := fun z => by
      subst z
      rw [upd_same] at h1
      cases h1
    refine ⟨f2, q p vs _ _ gg (by rw [upd_ne hp] at h1; exact h1) (by rw [upd_ne hp]; exact h2) (by rw [upd_ne hp]; exact h3) (dps_put (by rw [f1]; exact noSq_frz) h4)⟩⟩
theorem putK_new {κ : Type} [DecidableEq κ] {kvs : List (κ × V)} {k : κ} {v : V} (h : k ∉ kvs.map Prod.fst) : putK kvs k v = kvs ++ [(k, v)] := by
  unfold putK
  rw [if_neg]
  intro z
  obtain ⟨p, hp, e⟩ := List.any_eq_true.mp z
  exact h (List.mem_map.mpr ⟨p, hp, of_decide_eq_true e⟩)
theorem zip_fst : ∀ {ks : List Key} {vs : List V}, vs.length = ks.length → (ks.zip vs).map Prod.fst = ks
  | [], _, _ => by simp
  | k :: ks, [], h => by cases h
  | k :: ks, v :: vs, h => by
    rw [List.zip_cons_cons, List.map_cons, zip_fst (Nat.succ.inj h)]
theorem zip_snd : ∀ {ks : List Key} {vs : List V}, vs.length = ks.length → (ks.zip vs).map Prod.snd = vs
  | [], [], _ => rfl
  | [], _ :: _, h => by cases h
  | k :: ks, [], h => by cases h
  | k :: ks, v :: vs, h => by
    rw [List.zip_cons_cons, List.map_cons, zip_snd (Nat.succ.inj h)]
theorem zip_app {ks : List Key} {vs : List V} {k : Key} {v : V} (h : vs.length = ks.length) : ks.zip vs ++ [(k, v)] = (ks ++ [k]).zip (vs ++ [v]) := by
  rw [List.zip_append h.symm] <;> rfl
/-- {k: v for x in xs}, new texts as keys -/
theorem dc_rule {α : Type} {wi : TI} {g : TG} {vs : List Nat} {tk tv : TE} (xs : List α) (enc vf : α → PyData) (kf : α → Str) (hi : ItD K wi σ F (xs.map enc)) (hz : xs.length ≤ 40000) (hn : (xs.map kf).Nodup)
    (hb : ∀ x, x ∈ xs → ∀ v F1, Ex F F1 → Dp K F1 v (enc x) → ∃ σ2, (∀ H, Ex F1 H → ∀ Q : L2.St → Hp → Prop, Q σ2 H → g v (wipe σ vs) H Q) ∧ wipe σ2 vs = wipe σ vs ∧ EvD K tk σ2 F1 (.str (kf x)) ∧ EvD K tv σ2 F1 (vf x)) :
    EvK K (tDc wi g tYes tk tv vs) σ F (xs.map fun x => Sum.inr (kf x)) (xs.map vf) := fun H eH Q q => hi H eH _ fun J F1 H1 g1 wd => by
  obtain ⟨G, Y, W, hG, hY⟩ := wd
  rw [List.length_map] at W
  intro D hD
  have fD : F1 D = none := ex_none g1.fh hD
  refine dc_it W (Pv := fun i H' => ∃ F' ws, Gr F1 H1 F' H' ∧ F' D = none ∧ H' D = some (.dK (((xs.take i).map fun x => (Sum.inr (kf x) : Key)).zip ws)) ∧ DpAll K F' ws ((xs.take i).map vf)) ⟨F1, [], Gr.only g1.fh hD, fD, upd_same, by rw [List.take_zero]; exact .nil⟩
    (fun i H' _ p => ?_) (fun i v H2 H3 hin p y => ?_) (fun H' p => ?_)
  · obtain ⟨F', ws, g, _⟩ := p
    exact hG _ (g.fx.trans g.fh)
  · obtain ⟨F2, ws, g2, f2, h2, hw⟩ := p
    obtain ⟨F3, d, hd, g3, hv⟩ := hY F2 i H2 v H3 (by rw [List.length_map]; exact hin) g2.fx g2.fh y
    rw [List.getElem?_map, List.getElem?_eq_getElem hin] at hd
    cases hd
    have hx : xs[i] ∈ xs := List.getElem_mem hin
    obtain ⟨σ2, hg, hwp, hk, he⟩ := hb xs[i] hx v F3 (g1.fx.trans (g2.fx.trans g3.fx)) hv
    have k3 := g3.keep h2 f2
    refine hg H3 g3.fh _ ⟨hwp, ?_⟩
    unfold tYes
    refine iteT ?_
    refine hk H3 g3.fh _ fun y F4 H4 g4 hy => (he.mono g4.fx) H4 g4.fh _ fun z F5 H5 g5 hz5 => ?_
    cases hy
    have k5 := (g4.trans g5).keep k3.1 k3.2
    have tk' : (xs.take (i + 1)) = xs.take i ++ [xs[i]] := List.take_succ_eq_append_getElem hin
    have wl : ws.length = ((xs.take i).map fun x => (Sum.inr (kf x) : Key)).length := by rw [dps_len hw, List.length_map, List.length_map]
    have tl : (xs.take i).length ≤ xs.length := by rw [List.length_take]; omega
    refine ⟨_, Sum.inr (kf xs[i]), rfl, k5.1, sz_lt (by
      rw [List.length_zip, List.length_map]
      omega), F5, ws ++ [z], (g2.trans (g3.trans (g4.trans g5))).mut hD k5.2, k5.2, ?_, ?_⟩
    · rw [upd_same, putK_new, zip_app wl, tk', List.map_append] <;> try rfl
      rw [zip_fst wl]
      intro hm
      obtain ⟨x, hx', hk'⟩ := List.mem_map.mp hm
      have e1 : kf x = kf xs[i] := Sum.inr.inj hk'
      have hnd : ((xs.take i ++ [xs[i]]).map kf).Nodup := by
        rw [← tk']
        exact List.Nodup.sublist (List.Sublist.map _ (List.take_sublist _ _)) hn
      rw [List.map_append, List.nodup_append] at hnd
      exact hnd.2.2 (kf x) (List.mem_map.mpr ⟨x, hx', rfl⟩) (kf xs[i]) (by simp) e1
    · rw [tk', List.map_append]
      exact dps_app (dps_ex (g3.fx.trans (g4.fx.trans g5.fx)) hw) (.cons hz5 .nil)
  · obtain ⟨F', ws, g, fd, hd, hw⟩ := p
    rw [List.take_length] at hw hd
    exact q D ws F' H' (g1.trans g) (ex_none g1.hx hD) fd hd hw
end
end Dv

set_option Elab.async false
set_option linter.all false
set_option maxRecDepth 100000
set_option maxHeartbeats 4000000
namespace Dv
open PySem L2 Evl
/-- what __init__ of an object at x (its dict at dx) does to the heaps: F, H ahead know neither -/
structure Bx (x dx : Addr) (F H F' H' : Hp) : Prop where
  fx : Ex F F'
  fh : Ex F' H'
  hx : ∀ a o, a ≠ x → H a = some o → H' a = some o
  fr : ∀ a, F a = none → F' a ≠ none → H a = none ∨ a = x ∨ a = dx
theorem Bx.step {x dx : Addr} {F H F' H' F2 H2 : Hp} (b : Bx x dx F H F' H') (g : Gr F' H' F2 H2) : Bx x dx F H F2 H2 :=
  ⟨b.fx.trans g.fx, g.fh, fun a o h1 h2 => g.hx _ _ (b.hx a o h1 h2), fun a h1 h2 => by
    cases h : F' a with
    | some o => exact b.fr a h1 (by rw [h]; exact fun z => nomatch z)
    | none =>
      by_cases q : a = x
      · exact .inr (.inl q)
      · cases h3 : H a with
        | none => exact .inl rfl
        | some o =>
          have := g.fr a h h2
          rw [b.hx a o q h3] at this
          cases this⟩
/-- an object that is new, or x itself, set anew in both -/
theorem Bx.put {x dx p : Addr} {F H F' H' : Hp} {o : HO} (b : Bx x dx F H F' H') (hp : H p = none ∨ p = x) (fp : F p = none) : Bx x dx F H (upd F' p o) (upd H' p o) :=
  ⟨fun a u h => by
    rw [upd_ne (ne_of_none h fp)]
    exact b.fx a u h, ex_upd b.fh, fun a u h1 h2 => by
    have : a ≠ p := fun z => by
      rcases hp with hp | hp
      · rw [z, hp] at h2; cases h2
      · exact h1 (z.trans hp)
    rw [upd_ne this]
    exact b.hx a u h1 h2, fun a h1 h2 => by
    by_cases q : a = p
    · rcases hp with hp | hp
      · exact .inl (by rw [q]; exact hp)
      · exact .inr (.inl (q.trans hp))
    · rw [upd_ne q] at h2
      exact b.fr a h1 h2⟩
/-- in H' alone -/
theorem Bx.mut {x dx p : Addr} {F H F' H' : Hp} {o : HO} (b : Bx x dx F H F' H') (hp : H p = none) (fp : F' p = none) : Bx x dx F H F' (upd H' p o) :=
  ⟨b.fx, Ex.mut b.fh fp, fun a u h1 h2 => by
    rw [upd_ne (ne_of_none h2 hp)]
    exact b.hx a u h1 h2, b.fr⟩
theorem Bx.take {x dx p : Addr} {F H F' H' : Hp} {o : HO} (b : Bx x dx F H F' H') (hp : H p = none) (fp : F' p = none) (h : H' p = some o) : Bx x dx F H (upd F' p o) H' :=
  ⟨fun a u ha => by
    rw [upd_ne (ne_of_none (b.fx a u ha) fp)]
    exact b.fx a u ha, fun a u ha => by
    by_cases q : a = p
    · rw [q] at ha ⊢
      rw [upd_same] at ha
      cases ha
      exact h
    · rw [upd_ne q] at ha
      exact b.fh a u ha, b.hx, fun a h1 h2 => by
    by_cases q : a = p
    · exact .inl (by rw [q]; exact hp)
    · rw [upd_ne q] at h2
      exact b.fr a h1 h2⟩
section
variable {K : PySem.W.Frag} {σ : L2.St} {F F1 H H1 : Hp} {te ta tb tc : TE} {d a b : PyData} {ds es : List PyData} {ad : Addr} {kvs : List (Key × V)}
theorem fld_ref {C dx x : Addr} {fs : List (Str × V)} {f : Str} {v : V} {i : Nat} (hi : σ[i]? = some (some (.ref x))) (hx : F x = some (.ins C dx fs)) (c : Cls K C) (n : NoAttr K C f) (hl : fs.lookup f = some v) : ∀ H1, Ex F H1 → ∀ Q : VK, Q v H1 → tFld K (tVar i) f σ H1 Q :=
  fun H1 e Q q => ⟨_, hi, x, C, dx, fs, v, rfl, e _ _ hx, c, n, hl, q⟩
theorem valV_none {κ : Type} [DecidableEq κ] {kvs : List (κ × V)} {k : κ} (h : k ∉ kvs.map Prod.fst) : valV kvs k = none := by
  unfold valV
  cases q : kvs.find? fun kv => decide (kv.1 = k) with
  | none => rfl
  | some p =>
    have h1 := List.find?_some q
    exact absurd (List.mem_map.mpr ⟨p, List.mem_of_find?_eq_some q, of_decide_eq_true h1⟩) h
/-- for item in xs: if not call(item) or key in self.f: raise ..; self.f[key] = val -/
theorem fill_loop {α : Type} {D : Ends} {tcall : TE} {tk tv : TE} {C dx x ro : Addr} {fs : List (Str × V)} {f : Str} {vs0 : List V} (R : Hp → Hp → Prop) (xs : List α) (enc vf : α → PyData) (kf : α → Str) (σ0 : V → L2.St)
    (h0 : σ[0]? = some (some (.ref x))) (hs0 : ∀ v, (σ0 v)[0]? = some (some (.ref x))) (hset : ∀ v, σ.set 3 (some v) = σ0 v) (hset2 : ∀ v u, (σ0 v).set 3 (some u) = σ0 u)
    (hx : F x = some (.ins C dx fs)) (c : Cls K C) (n : NoAttr K C f) (hl : fs.lookup f = some (.ref ro)) (e : Ex F H) (hR : R F H)
    (hR1 : ∀ F H F' H', R F H → Gr F H F' H' → R F' H') (hR2 : ∀ F H o, R F H → F ro = none → R F (upd H ro o)) (hr : H ro = some (.dK [])) (fr : F ro = none)
    (hi : EvD K te σ F (.list (xs.map enc))) (hz : xs.length ≤ 40000) (hn : (xs.map kf).Nodup)
    (hcall : ∀ z, z ∈ xs → ∀ v F1, Ex F F1 → Dp K F1 v (enc z) → EvD K tcall (σ0 v) F1 (.bool true)) (hk : ∀ z, z ∈ xs → ∀ v F1, Ex F F1 → Dp K F1 v (enc z) → EvD K tk (σ0 v) F1 (.str (kf z)))
    (hv : ∀ z, z ∈ xs → ∀ v F1, Ex F F1 → Dp K F1 v (enc z) → EvD K tv (σ0 v) F1 (vf z))
    (hd : ∀ σ' vs F' H', (σ' = σ ∨ ∃ v, σ' = σ0 v) → R F' H' → Ex F F' → Ex F' H' → F' ro = none → H' ro = some (.dK ((xs.map fun z => (Sum.inr (kf z) : Key)).zip vs)) → DpAll K F' vs (xs.map vf) → D.nx σ' H') :
    tFor (iList K te) (gName 3) (tSeq (tIfS (tOr (tNot (tB tcall)) (tB (tDIn tk (tFld K (tVar 0) f)))) tNever tNext) (sDPut (tFld K (tVar 0) f) tk tv)) D σ H := by
  refine s_for (it_list hi) e (fun n σ' F' H' => (σ' = σ ∨ ∃ v, σ' = σ0 v) ∧ R F' H' ∧ F' ro = none ∧ ∃ vs, H' ro = some (.dK (((xs.take n).map fun z => (Sum.inr (kf z) : Key)).zip vs)) ∧ DpAll K F' vs ((xs.take n).map vf))
    (fun F' H' g => ?_) ?_ (fun σ' F' H' e1 e2 p => ?_)
  · have k := g.keep hr fr
    exact ⟨.inl rfl, hR1 _ _ _ _ hR g, k.2, [], by rw [List.take_zero]; exact k.1, by rw [List.take_zero]; exact .nil⟩
  · rintro Fb eb m σ' F' H' v du F2 H2 hdu e1 e2 ⟨hσ, hR', fr', ws, hr', hw⟩ g2 hv2
    obtain ⟨hm, hdm⟩ := List.getElem?_eq_some_iff.mp hdu
    rw [List.length_map] at hm
    have hdu' : du = enc xs[m] := by rw [← hdm, List.getElem_map]
    subst hdu'
    have hmem : xs[m] ∈ xs := List.getElem_mem hm
    have eF2 : Ex F F2 := eb.trans (e1.trans g2.fx)
    have k2 := g2.keep hr' fr'
    have es : σ'.set 3 (some v) = σ0 v := by
      rcases hσ with rfl | ⟨u, rfl⟩
      · exact hset v
      · exact hset2 u v
    show tSeq _ _ _ (σ'.set 3 (some v)) H2
    rw [es]
    have tl : (xs.take m).length ≤ xs.length := by rw [List.length_take]; omega
    have wl : ws.length = ((xs.take m).map fun z => (Sum.inr (kf z) : Key)).length := by rw [dps_len hw, List.length_map, List.length_map]
    have tk' : (xs.take (m + 1)) = xs.take m ++ [xs[m]] := List.take_succ_eq_append_getElem hm
    have hnew : (Sum.inr (kf xs[m]) : Key) ∉ (((xs.take m).map fun z => (Sum.inr (kf z) : Key)).zip ws).map Prod.fst := by
      rw [zip_fst wl]
      intro hm'
      obtain ⟨z, hz', hk'⟩ := List.mem_map.mp hm'
      have e1 : kf z = kf xs[m] := Sum.inr.inj hk'
      have hnd : ((xs.take m ++ [xs[m]]).map kf).Nodup := by
        rw [← tk']
        exact List.Nodup.sublist (List.Sublist.map _ (List.take_sublist _ _)) hn
      rw [List.map_append, List.nodup_append] at hnd
      exact hnd.2.2 (kf z) (List.mem_map.mpr ⟨z, hz', rfl⟩) (kf xs[m]) (by simp) e1
    -- the test
    show tIfS _ _ _ _ (σ0 v) H2
    refine (hcall _ hmem v F2 eF2 hv2) H2 g2.fh _ fun y F3 H3 g3 hy => ?_
    cases hy
    refine ⟨true, rfl, ?_⟩
    refine iteF ?_
    refine (hk _ hmem v F3 (eF2.trans g3.fx) (dp_ex g3.fx hv2)) H3 g3.fh _ fun y F4 H4 g4 hy => ?_
    cases hy
    have k4 := (g3.trans g4).keep k2.1 k2.2
    have hx4 := (eF2.trans (g3.fx.trans g4.fx)) _ _ hx
    refine fld_ref (hs0 v) hx4 c n hl H4 g4.fh _ ⟨ro, _, rfl, DGet.k (k := Sum.inr (kf xs[m])) k4.1, ?_⟩
    refine ⟨_, rfl, ?_⟩
    rw [valV_none hnew]
    refine iteF ?_
    -- the setting
    refine (hv _ hmem v F4 (eF2.trans (g3.fx.trans g4.fx)) (dp_ex (g3.fx.trans g4.fx) hv2)) H4 g4.fh _ fun y F5 H5 g5 hy => ?_
    have hx5 := g5.fx _ _ hx4
    refine fld_ref (hs0 v) hx5 c n hl H5 g5.fh _ ?_
    refine (hk _ hmem v F5 (eF2.trans (g3.fx.trans (g4.fx.trans g5.fx))) (dp_ex (g3.fx.trans (g4.fx.trans g5.fx)) hv2)) H5 g5.fh _ fun y2 F6 H6 g6 hy2 => ?_
    cases hy2
    have gg := g3.trans (g4.trans (g5.trans g6))
    have k6 := gg.keep k2.1 k2.2
    refine ⟨ro, _, rfl, DPut.k (k := Sum.inr (kf xs[m])) k6.1 (sz_lt (by
      rw [List.length_zip, List.length_map]
      omega)), F6, e1.trans (g2.fx.trans gg.fx), Ex.mut gg.fh k6.2, .inr ⟨v, rfl⟩, hR2 _ _ _ (hR1 _ _ _ _ hR' (g2.trans gg)) k6.2, k6.2, ws ++ [y], ?_, ?_⟩
    · rw [upd_same, putK_new hnew, zip_app wl, tk', List.map_append] <;> rfl
    · rw [tk', List.map_append]
      exact dps_app (dps_ex (g2.fx.trans gg.fx) hw) (.cons (dp_ex g6.fx hy) .nil)
  · obtain ⟨hσ, hR', fr', ws, hr', hw⟩ := p
    rw [List.length_map, List.take_length] at hr' hw
    exact hd σ' ws F' H' hσ hR' e1 e2 fr' hr' hw
end
end Dv

set_option Elab.async false
set_option linter.all false
set_option maxRecDepth 100000
set_option maxHeartbeats 4000000
namespace R3
open PySem PySem.Spec PyProof.Rows L2 Dv
abbrev sMillInit : Stmt := inClass (top 15) 0
abbrev sMillStuffs : Stmt := inClass (top 15) 1
abbrev sMillRecipes : Stmt := inClass (top 15) 2
abbrev sMillNames : Stmt := inClass (top 15) 3
abbrev sMillEq : Stmt := inClass (top 15) 4
/-! ### a mill -/
structure MillD where
  stuffs : List (Str × Option Int)
  recipes : List (Str × List (Str × Int) × List (Str × Int))
def encRoom : Option Int → PyData
  | none => .none
  | some i => .int i
def encStuff (z : Str × Option Int) : PyData := .tuple [.str z.1, encRoom z.2]
def encPart (z : Str × Int) : PyData := .tuple [.str z.1, .int z.2]
def encRecipe (z : Str × List (Str × Int) × List (Str × Int)) : PyData := .tuple [.str z.1, .list (z.2.1.map encPart), .list (z.2.2.map encPart)]
def encRule (z : Str × List (Str × Int) × List (Str × Int)) : PyData := .tuple [.tuple (z.2.1.map encPart), .tuple (z.2.2.map encPart)]
def MillD.names (m : MillD) : List Str := m.stuffs.map (·.1)
structure MillD.Ok (m : MillD) : Prop where
  s1 : 1 ≤ m.stuffs.length
  s2 : m.stuffs.length ≤ 8
  sn : m.names.Nodup
  ss : ∀ z ∈ m.stuffs, gd (encStuff z) = true ∧ isStuff (encStuff z) = true
  r2 : m.recipes.length ≤ 8
  rn : (m.recipes.map (·.1)).Nodup
  rs : ∀ z ∈ m.recipes, gd (encRecipe z) = true ∧ isRecipe m.names (encRecipe z) = true
def keysOf (xs : List Str) : List Key := xs.map Sum.inr
structure MillAt (K : PySem.W.Frag) (F : Hp) (C x : Addr) (m : MillD) : Prop where
  ex : ∃ (dx ro sp ru : Addr) (v1 v2 v3 : List V), F x = some (.ins C dx [("rooms", .ref ro), ("spots", .ref sp), ("rules", .ref ru)]) ∧
    F ro = some (.dK ((m.stuffs.map fun z => (Sum.inr z.1 : Key)).zip v1)) ∧ DpAll K F v1 (m.stuffs.map fun z => encRoom z.2) ∧
    F sp = some (.dK ((m.names.zipIdx.map fun z => (Sum.inr z.1 : Key)).zip v2)) ∧ DpAll K F v2 (m.names.zipIdx.map fun z => PyData.int z.2) ∧
    F ru = some (.dK ((m.recipes.map fun z => (Sum.inr z.1 : Key)).zip v3)) ∧ DpAll K F v3 (m.recipes.map encRule) ∧ ro ≠ ru ∧ sp ≠ ru ∧ ro ≠ sp
theorem MillAt.mono {K : PySem.W.Frag} {F F1 : Hp} {C x : Addr} {m : MillD} (e : Evl.Ex F F1) (h : MillAt K F C x m) : MillAt K F1 C x m := by
  obtain ⟨dx, ro, sp, ru, v1, v2, v3, h1, h2, h3, h4, h5, h6, h7, r⟩ := h.ex
  exact ⟨dx, ro, sp, ru, v1, v2, v3, e _ _ h1, e _ _ h2, dps_ex e h3, e _ _ h4, dps_ex e h5, e _ _ h6, dps_ex e h7, r⟩
/-- what is asked of the class Mill -/
structure MillC (K : PySem.W.Frag) (C : Addr) : Prop where
  cl : Cls K C
  rooms : NoAttr K C "rooms"
  spots : NoAttr K C "spots"
  rules : NoAttr K C "rules"
theorem names_spots {names : List Str} {vs : List V} (h : vs.length = names.length) (x : Str) : (valV ((names.zipIdx.map fun z => (Sum.inr z.1 : Key)).zip vs) (.inr x)).isSome = decide (x ∈ names) := by
  have e : (names.zipIdx.map fun z => (Sum.inr z.1 : Key)) = names.map Sum.inr := by
    show names.zipIdx.map (Sum.inr ∘ Prod.fst) = _
    rw [← List.map_map, List.zipIdx_map_fst]
  rw [e, ← valV_any]
  rw [Bool.eq_iff_iff, List.any_eq_true, decide_eq_true_iff]
  constructor
  · rintro ⟨p, hp, hk⟩
    have : p.1 ∈ names.map (Sum.inr : Str → Key) := by
      rw [← zip_fst (ks := names.map Sum.inr) (vs := vs) (by rw [List.length_map]; exact h)]
      exact List.mem_map.mpr ⟨p, hp, rfl⟩
    rw [of_decide_eq_true hk] at this
    obtain ⟨y, hy, q⟩ := List.mem_map.mp this
    exact (Sum.inr.inj q) ▸ hy
  · intro hx
    have : (Sum.inr x : Key) ∈ ((names.map (Sum.inr : Str → Key)).zip vs).map Prod.fst := by
      rw [zip_fst (by rw [List.length_map]; exact h)]
      exact List.mem_map.mpr ⟨x, hx, rfl⟩
    obtain ⟨p, hp, q⟩ := List.mem_map.mp this
    exact ⟨p, hp, decide_eq_true q⟩
def spMillInit (K : PySem.W.Frag) (C : Addr) : Sp := fun vs H Q _ => ∃ (F : Hp) (x dx : Addr) (v1 v2 : V) (m : MillD), vs = [.ref x, v1, v2] ∧ Evl.Ex F H ∧ F x = none ∧ F dx = none ∧ H x = some (.ins C dx []) ∧ (H dx).isSome = true ∧ x ≠ dx ∧
  Dp K F v1 (.list (m.stuffs.map encStuff)) ∧ Dp K F v2 (.list (m.recipes.map encRecipe)) ∧ m.Ok ∧ ∀ F' H', Bx x dx F H F' H' → MillAt K F' C x m → Q .non H'
section
variable {P : Program} {w : World} {K : PySem.W.Frag} {mg : Str → Option Value} {base : Heap}
theorem ev_size {σ : L2.St} {F : Hp} {te : TE} {xs : List PyData} {l m : Int} {E : XK} (h : EvD K te σ F (.list xs)) (h1 : l ≤ xs.length) (h2 : (xs.length : Int) ≤ m) (h3 : xs.length ≤ 100000) :
    EvD K (tCall (spSize K) [] E (tCons te (tCons (tC (.int l)) (tCons (tC (.int m)) tNil)))) σ F .none := fun H e Q q =>
  h H e _ fun v F1 H1 g1 hv => ⟨F1, v, xs, l, m, rfl, g1.fh, hv, h1, h2, h3, fun F' H' g => q _ F' H' (g1.trans g) .non⟩
theorem s_drop {σ : L2.St} {F H : Hp} {te : TE} {d : PyData} {D : Ends} (h : EvD K te σ F d) (e : Evl.Ex F H) (k : ∀ F' H', Gr F H F' H' → D.nx σ H') : tDrop te D σ H := h H e _ fun v F' H' g _ => k F' H' g
/-- self.f = {} -/
theorem s_fldNew {σ : L2.St} {F H : Hp} {D : Ends} {C dx x : Addr} {fs : List (Str × V)} {f : Str} {i : Nat} (hi : σ[i]? = some (some (.ref x))) (hx : F x = some (.ins C dx fs)) (c : Cls K C) (n : NoAttr K C f) (hl : fs.length < 1000) (e : Evl.Ex F H)
    (k : ∀ p, H p = none → p ≠ x → D.nx σ (upd (upd H p (.dK [])) x (.ins C dx (putF f (.ref p) fs)))) : sFld K (tVar i) tDNewK f D σ H := fun p hp => by
  have hpx : p ≠ x := fun z => by
    have := e _ _ hx
    rw [← z, hp] at this
    cases this
  exact ⟨_, hi, x, C, dx, fs, rfl, by rw [upd_ne (Ne.symm hpx)]; exact e _ _ hx, c, n, hl, k p hp hpx⟩
/-- self.f = a new dict -/
theorem s_fldK {σ : L2.St} {F H : Hp} {D : Ends} {C dx x : Addr} {fs : List (Str × V)} {f : Str} {i : Nat} {tv : TE} {ks : List Key} {ds : List PyData} (h : EvK K tv σ F ks ds) (hi : σ[i]? = some (some (.ref x))) (hx : F x = some (.ins C dx fs)) (c : Cls K C) (n : NoAttr K C f) (hl : fs.length < 1000) (e : Evl.Ex F H)
    (k : ∀ p vs F' H', Gr F H F' H' → H p = none → F' p = none → H' p = some (.dK (ks.zip vs)) → DpAll K F' vs ds → D.nx σ (upd H' x (.ins C dx (putF f (.ref p) fs)))) : sFld K (tVar i) tv f D σ H :=
  h H e _ fun p vs F' H' g h1 h2 h3 h4 => ⟨_, hi, x, C, dx, fs, rfl, g.hx _ _ (e _ _ hx), c, n, hl, k p vs F' H' g h1 h2 h3 h4⟩
theorem sc_Mill___init__ : FnScope (["self", "stuffs", "recipes", "item", "at", "name"] : List Str) (["self", "stuffs", "recipes"] : List Str) (defScope sMillInit) := ⟨rfl, rfl, rfl, by decide +kernel, rfl, by decide +kernel, by decide +kernel⟩
theorem ok_mill_init {f : Addr} {fd : FuncData} {C : Addr} (D : Fun K "__init__" "Mill.__init__" sMillInit f fd) (MC : MillC K C) (B : Bl mg) (CC : Cst mg)
    (C_check_size : Cal P w K mg base "check_size" ["value", "least", "most"] 1 (spSize K)) (C_is_stuff : Cal P w K mg base "is_stuff" ["value"] 3 (spD K fIsStuff)) (C_is_recipe : Cal P w K mg base "is_recipe" ["value", "spots"] 4 (spRecipe K)) :
    FnOkG P w K mg base CX0 5 f fd ["self", "stuffs", "recipes"] (spMillInit K C) := by
  refine D.okG sc_Mill___init__ (fun vs H Q E h => ?_) (fun cdv A outer s H vs Q E hr h => ?_)
  · obtain ⟨F, x, dx, v1, v2, m, rfl, _⟩ := h
    rfl
  obtain ⟨F, x, dx, v1, v2, m, rfl, e, fx, fdx, hx, hdx, hxd, hv1, hv2, ok, q⟩ := h
  obtain ⟨t1, c1⟩ := CC.mostStuffs
  obtain ⟨t2, c2⟩ := CC.mostRecipes
  have hu := hu_of hr.1
  refine ⟨_, (pss_cons (ps_expr (pe_callC C_check_size hr (pa_cons (pv 1) (pa_cons pe_int (pa_cons (pe_glob (v := .int 8) rfl c1 ⟨_, rfl⟩) pa_nil)))))
      (pss_cons (ps_fld (pv 0) pe_dnewK rfl)
      (pss_cons (ps_for PassesOwn.never rfl (pi_list (pv 1)) (pg_name (i := 3) sc_Mill___init__.nd rfl (.inl rfl)) (pss_cons (ps_if (PW.pt (pw_or (pt_not (pt_val (pe_callC C_is_stuff hr (pa_cons (pv 3) pa_nil)))) (pw_or1 (pt_cmp (pc_din hu (pe_ix ix_tup (pv 3) pe_int (fun _ _ => rfl)) (pe_fld (pv 0) rfl)) (by rfl))))) (pss_one ps_never) pss_nil)
      (pss_one (ps_dput hu (pe_fld (pv 0) rfl) (pe_ix ix_tup (pv 3) pe_int (fun _ _ => rfl)) (pe_ix ix_tup (pv 3) pe_int (fun _ _ => rfl)) rfl))))
      (pss_cons (ps_expr (pe_callC C_check_size hr (pa_cons (pv 2) (pa_cons pe_int (pa_cons (pe_glob (v := .int 8) rfl c2 ⟨_, rfl⟩) pa_nil)))))
      (pss_cons (ps_fld (pv 0) (pe_lock (pe_dc (own := [("at", 4), ("name", 5)]) (g := gTup K 2 (gCons (gName 4) (gCons (gName 5) gNil))) rfl sc_Mill___init__.nd (pi_enumK rfl B.enum (pa_cons (pe_fld (pv 0) rfl) pa_nil)) (blkOk_by (own := [("at", 4), ("name", 5)]) (N := ["self", "stuffs", "recipes", "item", "at", "name"]) (sc := defScope sMillInit) (by decide +kernel)) (fun _ _ _ _ _ => (pg_tup (by rfl) (pgs_cons (pg_name (i := 4) sc_Mill___init__.nd rfl (.inl rfl)) (pgs_cons (pg_name (i := 5) sc_Mill___init__.nd rfl (.inl rfl)) pgs_nil)))) (fun _ _ _ _ _ => pts_nil) (fun _ _ _ _ _ => (pv 5)) (fun _ _ _ _ _ => (pv 4)))) rfl)
      (pss_cons (ps_fld (pv 0) pe_dnewK rfl)
      (pss_one (ps_for PassesOwn.never rfl (pi_list (pv 2)) (pg_name (i := 3) sc_Mill___init__.nd rfl (.inl rfl)) (pss_cons (ps_if (PW.pt (pw_or (pt_not (pt_val (pe_callC C_is_recipe hr (pa_cons (pv 3) (pa_cons (pe_fld (pv 0) rfl) pa_nil))))) (pw_or1 (pt_cmp (pc_din hu (pe_ix ix_tup (pv 3) pe_int (fun _ _ => rfl)) (pe_fld (pv 0) rfl)) (by rfl))))) (pss_one ps_never) pss_nil)
      (pss_one (ps_dput hu (pe_fld (pv 0) rfl) (pe_ix ix_tup (pv 3) pe_int (fun _ _ => rfl)) (pe_tup (pa_cons (pe_callTy call_tuple_of (by rfl) B.tuple (by decide +kernel) (pa_cons (pe_ix ix_tup (pv 3) pe_int (fun _ _ => rfl)) pa_nil)) (pa_cons (pe_callTy call_tuple_of (by rfl) B.tuple (by decide +kernel) (pa_cons (pe_ix ix_tup (pv 3) pe_int (fun _ _ => rfl)) pa_nil)) pa_nil))) rfl))))))))))), ?_⟩
  have st : start ["self", "stuffs", "recipes", "item", "at", "name"] [V.ref x, v1, v2] = [some (.ref x), some v1, some v2, none, none, none] := rfl
  rw [st]
  have k1 : (("rooms" : Str) == "spots") = false := by decide +kernel
  have k2 : (("rooms" : Str) == "rules") = false := by decide +kernel
  have k3 : (("spots" : Str) == "rules") = false := by decide +kernel
  -- x into F
  have b0 : Bx x dx F H F H := ⟨Evl.Ex.refl F, e, fun _ _ _ h => h, fun a h1 h2 => absurd h1 h2⟩
  have b1 : Bx x dx F H (upd F x (.ins C dx [])) H := by
    have := b0.put (p := x) (o := .ins C dx []) (.inr rfl) fx
    rwa [show upd H x (.ins C dx []) = H from by
      funext a
      by_cases z : a = x
      · rw [z, upd_same, hx]
      · rw [upd_ne z]] at this
  have hv1' := dp_put (o := .ins C dx []) (by rw [fx]; exact noSq_none) hv1
  have hv2' := dp_put (o := .ins C dx []) (by rw [fx]; exact noSq_none) hv2
  -- check_size(stuffs, 1, MOST_STUFFS)
  refine s_drop (K := K) (F := upd F x (.ins C dx [])) (ev_size (Dv.ev_var rfl hv1') (by rw [List.length_map]; have := ok.s1; omega) (by rw [List.length_map]; have := ok.s2; omega) (by rw [List.length_map]; have := ok.s2; omega)) b1.fh fun F1 H1 g1 => ?_
  have b2 := b1.step g1
  have x1 : F1 x = some (.ins C dx []) := g1.fx _ _ upd_same
  -- self.rooms = {}
  refine s_fldNew (f := "rooms") rfl x1 MC.cl MC.rooms (by simp) b2.fh fun ro hro hrx => ?_
  have hroH : H ro = none := by
    cases z : H ro with
    | none => rfl
    | some o => rw [b2.hx ro o hrx z] at hro; cases hro
  have fro1 : F1 ro = none := ex_none b2.fh hro
  have hroF : F ro = none := ex_none e hroH
  have b3 : Bx x dx F H (upd F1 x (.ins C dx [("rooms", .ref ro)])) (upd (upd H1 ro (.dK [])) x (.ins C dx [("rooms", .ref ro)])) := (b2.mut hroH fro1).put (.inr rfl) fx
  have n1 : NoSq (F1 x) := by rw [x1]; exact fun xs => ⟨(fun z => by cases z), (fun z => by cases z), fun ob => ⟨(fun z => by cases z), (fun z => by cases z)⟩⟩
  have w1 := dp_put (o := .ins C dx [("rooms", .ref ro)]) n1 (dp_ex g1.fx hv1')
  have w2 := dp_put (o := .ins C dx [("rooms", .ref ro)]) n1 (dp_ex g1.fx hv2')
  have rr : ∀ o, (upd F1 x o) ro = none := fun o => by rw [upd_ne hrx]; exact fro1
  have hR1 : ∀ Fa Ha Fb Hb, Bx x dx F H Fa Ha → Gr Fa Ha Fb Hb → Bx x dx F H Fb Hb := fun _ _ _ _ b g => b.step g
  -- for item in stuffs
  refine fill_loop (K := K) (fs := [("rooms", V.ref ro)]) (fun Fa Ha => Bx x dx F H Fa Ha) m.stuffs encStuff (fun z => encRoom z.2) (fun z => z.1) (fun v => [some (.ref x), some v1, some v2, some v, none, none]) (vs0 := [])
    rfl (fun _ => rfl) (fun _ => rfl) (fun _ _ => rfl) upd_same MC.cl MC.rooms (by rfl) b3.fh b3 hR1 (fun _ _ o b fr => b.mut hroH fr) (by rw [upd_ne hrx, upd_same]) (rr _) (Dv.ev_var rfl w1) (by have := ok.s2; omega) ok.sn
    (fun z hz v F2 _ hv => ev_callD (Dv.ea_cons (Dv.ev_var rfl hv) Dv.ea_nil) ⟨_, rfl, (ok.ss z hz).1, by rw [(ok.ss z hz).2]⟩)
    (fun z hz v F2 _ hv => Dv.ev_ixT (d := .str z.1) (Dv.ev_var rfl hv) (Dv.ev_int 0) rfl)
    (fun z hz v F2 _ hv => Dv.ev_ixT (d := encRoom z.2) (Dv.ev_var rfl hv) (Dv.ev_int 1) rfl)
    fun σ' ws F2 H2 hσ b4 e1 e2 fro2 hro2 hw => ?_
  obtain ⟨it, rfl⟩ : ∃ it, σ' = [some (.ref x), some v1, some v2, it, none, none] := by
    rcases hσ with rfl | ⟨v, rfl⟩
    · exact ⟨none, rfl⟩
    · exact ⟨some v, rfl⟩
  have w2' := dp_ex e1 w2
  have x2 : F2 x = some (.ins C dx [("rooms", .ref ro)]) := e1 _ _ upd_same
  -- check_size(recipes, 0, MOST_RECIPES)
  refine s_drop (K := K) (F := F2) (ev_size (Dv.ev_var rfl w2') (by omega) (by rw [List.length_map]; have := ok.r2; omega) (by rw [List.length_map]; have := ok.r2; omega)) e2 fun F3 H3 g3 => ?_
  have k3' := g3.keep hro2 fro2
  have b5 := (b4.step g3).take hroH k3'.2 k3'.1
  have n3 : NoSq (F3 ro) := by rw [k3'.2]; exact noSq_none
  have w2'' := dp_put (o := .dK ((m.stuffs.map fun z => (Sum.inr z.1 : Key)).zip ws)) n3 (dp_ex g3.fx w2')
  have hw3 := dps_put (o := .dK ((m.stuffs.map fun z => (Sum.inr z.1 : Key)).zip ws)) n3 (dps_ex g3.fx hw)
  have x3 : upd F3 ro (.dK ((m.stuffs.map fun z => (Sum.inr z.1 : Key)).zip ws)) x = some (.ins C dx [("rooms", .ref ro)]) := by
    rw [upd_ne (Ne.symm hrx)]
    exact g3.fx _ _ x2
  have wl : ws.length = m.stuffs.length := by rw [dps_len hw, List.length_map]
  have hkeys : ((m.stuffs.map fun z => (Sum.inr z.1 : Key)).zip ws).map Prod.fst = m.names.map Sum.inr := by
    rw [zip_fst (by rw [List.length_map]; exact wl)]
    unfold MillD.names
    rw [List.map_map] <;> rfl
  -- self.spots = {..}
  refine s_fldK (K := K) (f := "spots") (ek_lock (K := K) (F := upd F3 ro (.dK ((m.stuffs.map fun z => (Sum.inr z.1 : Key)).zip ws))) (ks := m.names.zipIdx.map fun z => Sum.inr z.1) (ds := m.names.zipIdx.map fun z => PyData.int z.2) upd_same fun od => ?_) rfl x3 MC.cl MC.spots (by simp) b5.fh fun sp v2s F5 H5 g5 hsp fsp hsp5 hd5 => ?_
  · refine dc_rule (K := K) m.names.zipIdx (fun z => PyData.tuple [.int z.2, .str z.1]) (fun z => PyData.int z.2) (fun z => z.1) (it_enumK (fun Hq eq Q q => fld_ref rfl (by rw [upd_ne (Ne.symm hrx)]; exact x3) MC.cl MC.rooms (by rfl) Hq eq _ q) upd_same hkeys) (by
      rw [List.length_zipIdx]
      have := ok.s2
      unfold MillD.names
      rw [List.length_map]
      omega) (by rw [List.zipIdx_map_fst]; exact ok.sn) fun z _ v F6 _ hv => ?_
    obtain ⟨a, b, ha, hb, ht⟩ := tup2 hv
    exact ⟨[some (.ref x), some v1, some v2, it, some a, some b], fun Hq eq Q q => ht 4 5 _ Hq eq Q q, rfl, Dv.ev_var rfl hb, Dv.ev_var rfl ha⟩
  have b6 := b5.step g5
  have hspH : H sp = none := by
    cases z : H sp with
    | none => rfl
    | some o =>
      have hsx : sp ≠ x := fun q => by
        rw [q] at hsp
        have := b5.fh _ _ x3
        rw [hsp] at this
        cases this
      rw [b5.hx sp o hsx z] at hsp
      cases hsp
  have hspx : sp ≠ x := fun q => by
    rw [q] at hsp
    have := b5.fh _ _ x3
    rw [hsp] at this
    cases this
  have hspr : ro ≠ sp := fun q => by
    rw [← q] at hsp
    have := b5.fh _ _ upd_same
    rw [hsp] at this
    cases this
  have x5 : F5 x = some (.ins C dx [("rooms", .ref ro)]) := g5.fx _ _ x3
  have b7 := b6.take hspH fsp hsp5
  generalize hS : HO.dK ((m.names.zipIdx.map fun z => (Sum.inr z.1 : Key)).zip v2s) = oS at b7 hsp5
  have b8 := b7.put (p := x) (o := .ins C dx [("rooms", .ref ro), ("spots", .ref sp)]) (.inr rfl) fx
  have pf : putF "spots" (.ref sp) [(("rooms" : Str), V.ref ro)] = ([("rooms", V.ref ro), ("spots", V.ref sp)] : List (Str × V)) := by
    show (if ("rooms" : Str) = "spots" then _ else _) = _
    rw [if_neg (by simpa using k1)] <;> rfl
  rw [pf]
  generalize hF8 : upd (upd F5 sp oS) x (.ins C dx [("rooms", .ref ro), ("spots", .ref sp)]) = F8 at b8
  generalize hH8 : upd H5 x (.ins C dx [("rooms", .ref ro), ("spots", .ref sp)]) = H8 at b8
  have x8 : F8 x = some (.ins C dx [("rooms", .ref ro), ("spots", .ref sp)]) := by rw [← hF8]; exact upd_same
  have n5 : NoSq (F5 sp) := by rw [fsp]; exact noSq_none
  have n5x : NoSq ((upd F5 sp oS) x) := by rw [upd_ne (Ne.symm hspx), x5]; exact fun xs => ⟨(fun z => by cases z), (fun z => by cases z), fun ob => ⟨(fun z => by cases z), (fun z => by cases z)⟩⟩
  have tr : ∀ {d : PyData} {v : V}, Dp K (upd F3 ro (.dK ((m.stuffs.map fun z => (Sum.inr z.1 : Key)).zip ws))) v d → Dp K F8 v d := fun h => by
    rw [← hF8]
    exact dp_put n5x (dp_put n5 (dp_ex g5.fx h))
  have trs : ∀ {ds : List PyData} {vs : List V}, DpAll K F5 vs ds → DpAll K F8 vs ds := fun h => by
    rw [← hF8]
    exact dps_put n5x (dps_put n5 h)
  have sp8 : F8 sp = some (.dK ((m.names.zipIdx.map fun z => (Sum.inr z.1 : Key)).zip v2s)) := by
    rw [← hF8, upd_ne hspx, upd_same, hS]
  have ro8 : F8 ro = some (.dK ((m.stuffs.map fun z => (Sum.inr z.1 : Key)).zip ws)) := by
    rw [← hF8, upd_ne hrx, upd_ne hspr]
    exact g5.fx _ _ upd_same
  have w8 := tr w2''
  have hw8 : DpAll K F8 ws (m.stuffs.map fun z => encRoom z.2) := trs (dps_ex g5.fx hw3)
  have hd8 := trs hd5
  -- self.rules = {}
  refine s_fldNew (f := "rules") rfl x8 MC.cl MC.rules (by simp) b8.fh fun ru hru hrux => ?_
  have pf2 : putF "rules" (.ref ru) [(("rooms" : Str), V.ref ro), ("spots", V.ref sp)] = ([("rooms", V.ref ro), ("spots", V.ref sp), ("rules", V.ref ru)] : List (Str × V)) := by
    show (if ("rooms" : Str) = "rules" then _ else (("rooms" : Str), V.ref ro) :: (if ("spots" : Str) = "rules" then _ else _)) = _
    rw [if_neg (by simpa using k2), if_neg (by simpa using k3)] <;> rfl
  rw [pf2]
  have hruH : H ru = none := by
    cases z : H ru with
    | none => rfl
    | some o => rw [b8.hx ru o hrux z] at hru; cases hru
  have fru8 : F8 ru = none := ex_none b8.fh hru
  have b9 : Bx x dx F H (upd F8 x (.ins C dx [("rooms", .ref ro), ("spots", .ref sp), ("rules", .ref ru)])) (upd (upd H8 ru (.dK [])) x (.ins C dx [("rooms", .ref ro), ("spots", .ref sp), ("rules", .ref ru)])) := (b8.mut hruH fru8).put (.inr rfl) fx
  have n8 : NoSq (F8 x) := by rw [x8]; exact fun xs => ⟨(fun z => by cases z), (fun z => by cases z), fun ob => ⟨(fun z => by cases z), (fun z => by cases z)⟩⟩
  have w9 := dp_put (o := .ins C dx [("rooms", .ref ro), ("spots", .ref sp), ("rules", .ref ru)]) n8 w8
  have hw9 := dps_put (o := .ins C dx [("rooms", .ref ro), ("spots", .ref sp), ("rules", .ref ru)]) n8 hw8
  have hd9 := dps_put (o := .ins C dx [("rooms", .ref ro), ("spots", .ref sp), ("rules", .ref ru)]) n8 hd8
  have hrr : ro ≠ ru := fun z => by rw [← z, ro8] at fru8; cases fru8
  have hsr : sp ≠ ru := fun z => by rw [← z, sp8] at fru8; cases fru8
  have v2l : v2s.length = m.names.length := by rw [dps_len hd5, List.length_map, List.length_zipIdx]
  -- for item in recipes
  refine fill_loop (K := K) (fs := [("rooms", V.ref ro), ("spots", V.ref sp), ("rules", V.ref ru)]) (fun Fa Ha => Bx x dx F H Fa Ha) m.recipes encRecipe encRule (fun z => z.1) (fun v => [some (.ref x), some v1, some v2, some v, none, none]) (vs0 := [])
    rfl (fun _ => rfl) (fun _ => rfl) (fun _ _ => rfl) upd_same MC.cl MC.rules (by rfl) b9.fh b9 hR1 (fun _ _ o b fr => b.mut hruH fr) (by rw [upd_ne hrux, upd_same]) (by rw [upd_ne hrux]; exact fru8) (Dv.ev_var rfl w9) (by have := ok.r2; omega) ok.rn
    (fun z hz v F2 ee hv Hq eq Q q => ⟨v, rfl, fld_ref rfl (ee _ _ upd_same) MC.cl MC.spots (by rfl) Hq eq _ ⟨F2, v, _, sp, m.names, rfl, eq, hv, (ok.rs z hz).1, ⟨_, ee _ _ (by rw [upd_ne hspx]; exact sp8), names_spots v2l⟩, fun F' H' g => q _ F' H' g (by rw [(ok.rs z hz).2]; exact .bl true)⟩⟩)
    (fun z hz v F2 _ hv => Dv.ev_ixT (d := .str z.1) (Dv.ev_var rfl hv) (Dv.ev_int 0) rfl)
    (fun z hz v F2 _ hv => Dv.ev_tup (Dv.ea_cons (ev_tuple (Dv.ev_ixT (d := .list (z.2.1.map encPart)) (Dv.ev_var rfl hv) (Dv.ev_int 1) rfl)) (Dv.ea_cons (ev_tuple (Dv.ev_ixT (d := .list (z.2.2.map encPart)) (Dv.ev_var rfl hv) (Dv.ev_int 2) rfl)) Dv.ea_nil)) (by simp))
    fun σ' us F' H' hσ b10 e3 e4 fru hru' hw10 => ?_
  refine q _ _ (b10.take hruH fru hru') ?_
  have nn : NoSq (F' ru) := by rw [fru]; exact noSq_none
  refine ⟨dx, ro, sp, ru, ws, v2s, us, ?_, ?_, dps_put nn (dps_ex e3 hw9), ?_, dps_put nn (dps_ex e3 hd9), upd_same, dps_put nn hw10, hrr, hsr, hspr⟩
  · rw [upd_ne (Ne.symm hrux)]
    exact e3 _ _ upd_same
  · rw [upd_ne hrr]
    exact e3 _ _ (by rw [upd_ne hrx]; exact ro8)
  · rw [upd_ne hsr]
    exact e3 _ _ (by rw [upd_ne hspx]; exact sp8)
end
end R3

set_option Elab.async false
set_option linter.all false
set_option maxRecDepth 100000
set_option maxHeartbeats 4000000
namespace Dv
open PySem PySem.Spec PyProof.Rows L2 Evl
/-- a class that can be made: its __init__ does what sp says -/
structure Mak (P : Program) (w : World) (K : PySem.W.Frag) (mg : Str → Option Value) (base : Heap) (nm : Str) (C : Addr) (ps : List Str) (k : Nat) (sp : Sp) : Prop where
  ex : ∃ f fd, mg nm = some (.ref C) ∧ Mk K C f ∧ Binds K fd ("self" :: ps) [] ∧ FnOkG P w K mg base CX0 k f fd ("self" :: ps) sp
section
variable {X : Cx} {x : Str} {p pos : Pos} {e : Expr} {es : List Expr} {t : TA} {k j : Nat} {ps : List Str} {sp : Sp} {C : Addr}
theorem pe_makC (M : Mak X.prog X.w X.K X.mg X.base x C ps k sp) (hr : RoomG j X.A) (ha : PA X (e :: es) t) (hg : Gl X x := by rfl) (hj : k + 1 ≤ j := by decide) (hdb : (x == ("__debug__" : Str)) = false := by decide)
    (he : starEach (e :: es) X.env = (false, eval e X.env) :: starEach es X.env := by rfl) (hpl : (backTo pos (starEach es X.env)).any (·.1) = false := by rfl) : PE X (.Call (.Name x p) (e :: es) [] pos) (tMake C sp [] E0 t) := by
  obtain ⟨f, fd, g, M, b, G⟩ := M.ex
  exact pe_makeG M G (hr.mono hj) hg g b .nil pass0 ha hdb he hpl
end
section
variable {K : PySem.W.Frag} {σ : L2.St} {F F1 H H1 : Hp} {te ta tb tc : TE} {d a b : PyData} {ds es : List PyData}
/-- evaluates to an object of which Pd holds -/
def EvO (Pd : Hp → Addr → Prop) (te : TE) (σ : L2.St) (F : Hp) : Prop := ∀ H, Ex F H → ∀ Q : VK, (∀ x F' H', Gr F H F' H' → Pd F' x → Q (.ref x) H') → te σ H Q
theorem eo_var {Pd : Hp → Addr → Prop} {i : Nat} {x : Addr} (hi : σ[i]? = some (some (.ref x))) (h : Pd F x) : EvO Pd (tVar i) σ F := fun H e Q q => ⟨_, hi, q x F H (Gr.refl e) h⟩
theorem Bx.gr {x dx : Addr} {F H F' H' : Hp} {o o2 : HO} (hx : H x = none) (hdx : H dx = none) (b : Bx x dx F (upd (upd H dx o) x o2) F' H') : Gr F H F' H' :=
  ⟨b.fx, b.fh, fun a u h => by
    have h1 := ne_of_none h hx
    have h2 := ne_of_none h hdx
    exact b.hx a u h1 (by rw [upd_ne h1, upd_ne h2]; exact h), fun a h1 h2 => by
    rcases b.fr a h1 h2 with h | h | h
    · by_cases q : a = x
      · rw [q]; exact hx
      · by_cases q2 : a = dx
        · rw [q2]; exact hdx
        · rw [upd_ne q, upd_ne q2] at h
          exact h
    · rw [h]; exact hx
    · rw [h]; exact hdx⟩
theorem ex_new2 {x dx : Addr} {F H : Hp} {o o2 : HO} (e : Ex F H) (hx : H x = none) (hdx : H dx = none) : Ex F (upd (upd H dx o) x o2) := fun a u h => by
  have h' := e a u h
  rw [upd_ne (ne_of_none h' hx), upd_ne (ne_of_none h' hdx)]
  exact h'
end
end Dv

set_option Elab.async false
set_option linter.all false
set_option maxRecDepth 100000
set_option maxHeartbeats 4000000
namespace R3
open PySem PySem.Spec PyProof.Rows L2 Dv
section
variable {P : Program} {w : World} {K : PySem.W.Frag} {mg : Str → Option Value} {base : Heap}
/-- Mill(..) -/
theorem ev_mill {σ : L2.St} {F : Hp} {ta : TA} {C : Addr} {E : XK} {m : MillD} (h : EaD K ta σ F [.list (m.stuffs.map encStuff), .list (m.recipes.map encRecipe)]) (ok : m.Ok) : EvO (fun F x => MillAt K F C x m) (tMake C (spMillInit K C) [] E ta) σ F := fun H e Q q =>
  h H e _ fun vs F1 H1 g1 hv x dx hx hdx hne => by
    obtain ⟨v1, v2, rfl, h1, h2⟩ := Dv.two hv
    refine ⟨F1, x, dx, v1, v2, m, rfl, ex_new2 g1.fh hx hdx, ex_none g1.fh hx, ex_none g1.fh hdx, upd_same, by rw [upd_ne hne, upd_same] <;> rfl, Ne.symm hne, h1, h2, ok, fun F' H' b hm => ⟨rfl, q x F' H' (g1.trans (b.gr hx hdx)) hm⟩⟩
/-- the part of a mill that is not its rules -/
structure Mill0 (K : PySem.W.Frag) (F : Hp) (C x : Addr) (m : MillD) : Prop where
  ex : ∃ (dx ro sp ru : Addr) (v1 v2 : List V), F x = some (.ins C dx [("rooms", .ref ro), ("spots", .ref sp), ("rules", .ref ru)]) ∧
    F ro = some (.dK ((m.stuffs.map fun z => (Sum.inr z.1 : Key)).zip v1)) ∧ DpAll K F v1 (m.stuffs.map fun z => encRoom z.2) ∧
    F sp = some (.dK ((m.names.zipIdx.map fun z => (Sum.inr z.1 : Key)).zip v2)) ∧ DpAll K F v2 (m.names.zipIdx.map fun z => PyData.int z.2)
theorem MillAt.part {F : Hp} {C x : Addr} {m : MillD} (h : MillAt K F C x m) : Mill0 K F C x m := by
  obtain ⟨dx, ro, sp, ru, v1, v2, v3, h1, h2, h3, h4, h5, r⟩ := h.ex
  exact ⟨dx, ro, sp, ru, v1, v2, h1, h2, h3, h4, h5⟩
theorem Mill0.mono {F F1 : Hp} {C x : Addr} {m : MillD} (e : Evl.Ex F F1) (h : Mill0 K F C x m) : Mill0 K F1 C x m := by
  obtain ⟨dx, ro, sp, ru, v1, v2, h1, h2, h3, h4, h5⟩ := h.ex
  exact ⟨dx, ro, sp, ru, v1, v2, e _ _ h1, e _ _ h2, dps_ex e h3, e _ _ h4, dps_ex e h5⟩
theorem spots_val {F : Hp} {n : Str} : ∀ (names : List Str) (k : Nat) (vs : List V), DpAll K F vs ((names.zipIdx k).map fun z => PyData.int z.2) → n ∈ names →
    valV (((names.zipIdx k).map fun z => (Sum.inr z.1 : Key)).zip vs) (.inr n) = some (.int ((k + names.idxOf n : Nat) : Int))
  | [], _, _, _, h => nomatch h
  | a :: r, k, vs, hd, hm => by
    rw [List.zipIdx_cons] at hd ⊢
    cases hd with
    | cons h1 h2 =>
      cases h1
      rw [List.map_cons, List.zip_cons_cons]
      by_cases e : a = n
      · subst e
        rw [valV_pos rfl, List.idxOf_cons_self]
        rfl
      · have hm' : n ∈ r := by
          rcases List.mem_cons.mp hm with h | h
          · exact absurd h.symm e
          · exact h
        rw [valV_neg (by intro z; exact e (Sum.inr.inj z)), spots_val r (k + 1) _ h2 hm', List.idxOf_cons, show (a == n) = false by simpa using e]
        congr 2
        simp only [cond_false]
        omega
/-- one number a stuff -/
def numbersOf (names : List Str) (ps : List (Str × Int)) : List Int := ps.foldl (fun acc p => acc.set (names.idxOf p.1) p.2) (List.replicate names.length 0)
theorem dps_ints {F : Hp} : ∀ xs : List Int, DpAll K F (xs.map V.int) (xs.map PyData.int)
  | [] => .nil
  | x :: xs => .cons (.int x) (dps_ints xs)
theorem ints_of {F : Hp} : ∀ {xs : List Int} {ws : List V}, DpAll K F ws (xs.map PyData.int) → ws = xs.map V.int
  | [], _, h => by cases h; rfl
  | x :: xs, _, h => by
    cases h with
    | cons h1 h2 =>
      cases h1
      rw [ints_of h2] <;> rfl
theorem foldl_len (names : List Str) : ∀ (ps : List (Str × Int)) (acc : List Int), (ps.foldl (fun acc p => acc.set (names.idxOf p.1) p.2) acc).length = acc.length
  | [], _ => rfl
  | p :: ps, acc => by rw [List.foldl_cons, foldl_len names ps, List.length_set]
theorem numbersOf_len (names : List Str) (ps : List (Str × Int)) : (numbersOf names ps).length = names.length := by
  unfold numbersOf
  rw [foldl_len, List.length_replicate]
def spNums (K : PySem.W.Frag) (C : Addr) : Sp := fun vs H Q _ => ∃ (F : Hp) (x : Addr) (v : V) (m : MillD) (ps : List (Str × Int)), vs = [.ref x, v] ∧ Evl.Ex F H ∧ Mill0 K F C x m ∧ m.stuffs.length ≤ 8 ∧ Dp K F v (.tuple (ps.map encPart)) ∧ (∀ p ∈ ps, p.1 ∈ m.names) ∧
  ∀ p ws F' H', Gr F H F' H' → H p = none → F' p = none → H' p = some (.lst ws) → DpAll K F' ws ((numbersOf m.names ps).map PyData.int) → Q (.ref p) H'
theorem fl1 {ro sp ru : Addr} : ([("rooms", V.ref ro), ("spots", V.ref sp), ("rules", V.ref ru)] : List (Str × V)).lookup ("rooms" : Str) = some (.ref ro) := by rfl
theorem fl2 {ro sp ru : Addr} : ([("rooms", V.ref ro), ("spots", V.ref sp), ("rules", V.ref ru)] : List (Str × V)).lookup ("spots" : Str) = some (.ref sp) := by rfl
theorem fl3 {ro sp ru : Addr} : ([("rooms", V.ref ro), ("spots", V.ref sp), ("rules", V.ref ru)] : List (Str × V)).lookup ("rules" : Str) = some (.ref ru) := by rfl
end
end R3

set_option Elab.async false
set_option linter.all false
set_option maxRecDepth 100000
set_option maxHeartbeats 4000000
/-! list(d.values()) -/
namespace L2
open PySem PySem.Spec PyProof.Rows
def tListVals (td : TE) : TE := fun σ H Q => td σ H fun x H1 => ∃ a kvs, x = V.ref a ∧ H1 a = some (.dK kvs) ∧ ∀ p, H1 p = none → Q (.ref p) (upd H1 p (.lst (kvs.map Prod.snd)))
theorem pe_listVals {X : Cx} {o : Expr} {td : TE} {p pos mpos apos : Pos} (hc : X.calm = true) (hg : Gl X "list") (hm : X.mg "list" = none) (hd : PE X o td) (hbase : attributeBase o "values" X.env (eval o X.env) = eval o X.env := by rfl) (hline : (apos.endLine == mpos.line) = true := by rfl)
    (hse : starEach [Expr.Call (.Attribute o "values" apos) [] [] mpos] X.env = [(false, eval (Expr.Call (.Attribute o "values" apos) [] [] mpos) X.env)] := by rfl) :
    PE X (.Call (.Name "list" p) [.Call (.Attribute o "values" apos) [] [] mpos] [] pos) (tListVals td) := by
  refine ⟨fun pins s σ H Q I h => ?_⟩
  refine wpAny_Call_Name_kw (ld_blt I hg hm (u := .type "list") (by first | rfl | decide +kernel) ?_ (by first | decide +kernel | decide) (by first | decide +kernel | decide))
  rw [hse]
  refine PySem.callWith_type1 (wpAny_Call_method0_late hbase hline (thn (hd.run pins s σ H _ I h) fun v s1 ⟨x, H1, I1, r1, a, kvs, ex, ha, q⟩ => ?_))
  subst ex
  obtain rfl : v = Value.ref a := r1
  obtain ⟨hz, hsys, vs, rel, dof⟩ := dk_of I1.hok ha
  obtain ⟨ep, dat⟩ := dof.dictAt
  have dat' := dat
  obtain ⟨ob, es, ho, ex, hdat, hko, hpr, hnd⟩ := dat'
  refine ⟨"dict", "dict.values", F.plainAttrs_dict, F.slot_dict_values, F.type_dict_values, ⟨ob, ho, ex.1⟩, fun b e => ?_, Calls.callWith_builtin rfl (PySem.evalArgs_none ?_)⟩
  · cases e
    exact ⟨ob, ho, ex.2.1⟩
  refine call_meetsIn F.slot_dict_values ⟨ob, ho, ex.1⟩ F.entry_dict_values (F.args_dict_values_1 _) (meets_dict_values (mixKind X.prog X.w) a hsys) ⟨⟨vs, dof⟩, ?_⟩
  have k1 : ∀ b u, s1.heap.get? b = some u → (s1.heap.push { cls := .type "dict_values", data := .fields #[.ref a] }).get? b = some u := fun b u e => Heap.get?_push_of_some _ e
  have dat1 : (s1.heap.push { cls := .type "dict_values", data := .fields #[.ref a] }).DictAt (mixKind X.prog X.w) a vs ep := dat.keep k1
  have hl : kvs.length = vs.length := Paired.length rel
  have I2 : Inv X pins σ H1 { s1 with heap := s1.heap.push { cls := .type "dict_values", data := .fields #[.ref a] } } := I1.kept (t' := s1.toks) k1
  refine PySem.W.kdl_call (s := { s1 with heap := s1.heap.push { cls := .type "dict_values", data := .fields #[.ref a] } }) (PySem.W.kdl_values (knd := mixKind X.prog X.w) (kvs := vs) (ep := ep) (r := s1.heap.objs.size) (d := a)) (I.ok.hd hc) ⟨⟨_, Heap.get?_push_size _ rfl, rfl, rfl⟩, dat1⟩ (by rw [← hl]; exact hz) fun h' tk acc' c' hkeep hS hacc => ?_
  refine ⟨.ref _, upd H1 (s1.heap.push { cls := .type "dict_values", data := .fields #[.ref a] }).objs.size (.lst (kvs.map Prod.snd)), I2.laid hkeep (Nat.le_refl _) (show ObjOk X.prog X.w _ _ _ (.lst (kvs.map Prod.snd)) from ⟨?_, acc'.toList, c', ?_, ?_⟩), rfl, q _ (I2.hok.fresh (Nat.le_refl _))⟩
  · rw [List.length_map]; exact hz
  · have el : acc'.toList.length = acc'.size := by simp
    refine vals_of_at (by rw [List.length_map, el, hacc.1, hl]) fun j x w h1 h2 => ?_
    obtain ⟨k, hky⟩ := hacc.2 j w (by rw [← Array.getElem?_toList]; exact h2)
    obtain ⟨y, hy, ry⟩ := KV.at' rel hky
    rw [List.getElem?_map, hy] at h1
    cases h1
    exact ry
  · rw [Array.toArray_toList]; exact hS
end L2

set_option Elab.async false
set_option linter.all false
set_option maxRecDepth 100000
set_option maxHeartbeats 4000000
namespace Dv
open PySem L2 Evl
section
variable {K : PySem.W.Frag} {σ : L2.St} {F H : Hp} {te ta : TE} {d : PyData} {ds : List PyData}
theorem strs_of : ∀ {names : List Str} {ws : List V}, DpAll K F ws (names.map PyData.str) → ws = names.map V.str
  | [], _, h => by cases h; rfl
  | n :: r, _, h => by
    cases h with
    | cons h1 h2 =>
      cases h1
      rw [strs_of h2] <;> rfl
theorem inV_strs {x : Str} {xs : List Str} : inV (V.str x) (xs.map V.str) = decide (x ∈ xs) := by
  unfold inV
  rw [Bool.eq_iff_iff, List.any_eq_true, decide_eq_true_iff]
  constructor
  · rintro ⟨y, hy, he⟩
    obtain ⟨z, hz, rfl⟩ := List.mem_map.mp hy
    have : z = x := by simpa [eqV] using he
    exact this ▸ hz
  · intro hx
    exact ⟨_, List.mem_map.mpr ⟨x, hx, rfl⟩, by simp [eqV]⟩
theorem cutD_from (ds : List PyData) (k : Nat) : cutD ds (some (k : Int)) none = ds.drop k := by
  unfold cutD
  rw [HT.sIx_nat, HT.sIx_none]
  by_cases h : k ≤ ds.length
  · rw [Nat.min_eq_left h, List.take_of_length_le (by rw [List.length_drop]; exact Nat.le_refl _)]
  · rw [Nat.min_eq_right (by omega), List.drop_length, List.drop_of_length_le (by omega)]
    simp
/-- x not in a list of texts -/
theorem ev_notInStrs {x : Str} {xs : List Str} (ha : EvD K ta σ F (.str x)) (hb : EvD K te σ F (.list (xs.map PyData.str))) : EvD K (tOp (rIn K true) ta te) σ F (.bool (!decide (x ∈ xs))) :=
  ev_op ha hb fun v u F1 H1 _ e hv hu Q q => by
    cases hv
    cases hu with
    | lst hs hd =>
      have := strs_of hd
      subst this
      refine ⟨_, xs.map V.str, rfl, .inl (ex_l e hs), rfl, by simp [flatV], ?_⟩
      rw [if_pos rfl, inV_strs]
      exact q _ F1 H1 (Gr.refl e) (.bl _)
theorem idxOf_min {y : Str} : ∀ (xs : List Str) (m : Nat), xs[m]? = some y → xs.idxOf y ≤ m
  | [], m, h => by cases h
  | a :: r, 0, h => by
    cases h
    rw [List.idxOf_cons_self]
    exact Nat.le_refl _
  | a :: r, m + 1, h => by
    rw [List.idxOf_cons]
    have := idxOf_min r m h
    cases (a == y)
    · simp only [cond_false]
      omega
    · simp only [cond_true]
      omega
/-- names.index(x), there -/
theorem ev_indexStrs {x : Str} {xs : List Str} (hb : EvD K te σ F (.list (xs.map PyData.str))) (ha : EvD K ta σ F (.str x)) (hx : x ∈ xs) : EvD K (tBM K "list" (rIndex K) te (tCons ta tNil)) σ F (.int (xs.idxOf x : Nat)) := fun H e Q q =>
  hb H e _ fun v F1 H1 g1 hv => by
    cases hv with
    | lst hs hd =>
      have := strs_of hd
      subst this
      rename_i p
      refine ⟨.inl ⟨rfl, _, ex_l g1.fh hs⟩, (ha.mono g1.fx) H1 g1.fh _ fun u F2 H2 g2 hu => ?_⟩
      cases hu
      have hlt : xs.idxOf x < xs.length := List.idxOf_lt_length_of_mem hx
      have hget : xs[xs.idxOf x] = x := List.getElem_idxOf hlt
      refine ⟨p, xs.map V.str, .str x, xs.idxOf x, .str x, rfl, rfl, ex_l (g2.fx.trans g2.fh) hs, rfl, by simp [flatV], ?_, by simp [eqV], ?_, q _ F2 H2 (g1.trans g2) (.int _)⟩
      · rw [List.getElem?_map, List.getElem?_eq_getElem hlt, hget] <;> rfl
      · intro m z hm hz
        rw [List.getElem?_map] at hz
        obtain ⟨y, hy, rfl⟩ := Option.map_eq_some_iff.mp hz
        have hml : m < xs.length := (List.getElem?_eq_some_iff.mp hy).1
        have : y ≠ x := fun e => by
          subst e
          exact absurd (idxOf_min xs m hy) (by omega)
        simpa [eqV] using this
end
end Dv
namespace R3
open PySem PySem.Spec PyProof.Rows L2 Dv
section
variable {P : Program} {w : World} {K : PySem.W.Frag} {mg : Str → Option Value} {base : Heap}
/-- the module's NOTHING -/
structure Noth (K : PySem.W.Frag) (mg : Str → Option Value) : Prop where
  ex : ∃ a, mg "NOTHING" = some (.ref a) ∧ ∀ F, Dp K F (.ref a) (.tuple [.int 0, .int 1])
def isPair2 : PyData → Bool
  | .tuple [.str _, _] => true
  | _ => false
def brewNm : PyData → Str
  | .tuple (.str n :: _) => n
  | _ => ""
def brewAm : PyData → PyData
  | .tuple [_, a] => a
  | _ => .none
def brewGo : List Str → List PyData → Bool
  | _, [] => true
  | names, d :: r => isPair2 d && decide (brewNm d ∈ names) && isAmt (brewAm d) && !PyData.eqv (brewAm d) (.tuple [.int 0, .int 1]) && brewGo (names.drop (names.idxOf (brewNm d) + 1)) r
def isBrew (names : List Str) : PyData → Bool
  | .list xs => brewGo names xs
  | _ => false
def MillD.titles (m : MillD) : List Str := m.recipes.map (·.1)
end
end R3

set_option Elab.async false
set_option linter.all false
set_option maxRecDepth 100000
set_option maxHeartbeats 4000000
namespace R3
open PySem PySem.Spec PyProof.Rows L2 Dv
section
variable {P : Program} {w : World} {K : PySem.W.Frag} {mg : Str → Option Value} {base : Heap}
/-- a value below the last modulus, whatever it is -/
def spHash : Sp := fun vs H Q _ => ∃ s x : Int, vs = [.int s, .int x] ∧ 0 ≤ s ∧ s < 2147483647 ∧ 0 ≤ x ∧ x < 1000000 ∧ ∀ z : Int, 0 ≤ z → z < 2147483647 → Q (.int z) H
theorem sc__law_hash : FnScope (["seed", "index", "mixed"] : List Str) (["seed", "index"] : List Str) (defScope sLawHash) := ⟨rfl, rfl, rfl, by decide +kernel, rfl, by decide +kernel, by decide +kernel⟩
theorem ok_law_hash (D : Def K mg "_law_hash" sLawHash ["seed", "index"]) (B : Bl mg) : Cal P w K mg base "_law_hash" ["seed", "index"] 1 spHash := by
  refine cal_mk D sc__law_hash (fun vs H Q E h => ?_) (fun f cdv A outer s H vs Q E hr h => ?_)
  · obtain ⟨s, x, rfl, _⟩ := h
    rfl
  obtain ⟨a, x, rfl, h1, h2, h3, h4, q⟩ := h
  refine ⟨_, (pss_cons (ps_set (i := 2) sc__law_hash.nd rfl (.inl rfl) (pe_op op_mod (pe_callTy call_int1 (by rfl) B.int (by decide +kernel) (pa_cons (pe_op op_add (pe_op op_add (pe_op op_add (pe_op op_mul (pv 0) pe_int) (pe_op op_mul (pe_op op_mul pe_int (pv 1)) (pv 1))) (pe_op op_mul pe_int (pv 1))) pe_int) pa_nil)) pe_int))
      (pss_cons (ps_set (i := 2) sc__law_hash.nd rfl (.inl rfl) (pe_op op_mod (pe_callTy call_int1 (by rfl) B.int (by decide +kernel) (pa_cons (pe_op op_add (pe_op op_add (pe_op op_mul (pv 2) (pv 2)) (pe_op op_mul pe_int (pv 1))) pe_int) pa_nil)) pe_int))
      (pss_one (ps_ret (pe_op op_mod (pe_callTy call_int1 (by rfl) B.int (by decide +kernel) (pa_cons (pe_op op_mul (pv 2) pe_int) pa_nil)) pe_int))))), ?_⟩
  have e1 : 0 ≤ (a * 1299709 + 104729 * x * x + 31 * x + 7) % 2147483629 := Int.emod_nonneg _ (by decide)
  have e2 : (a * 1299709 + 104729 * x * x + 31 * x + 7) % 2147483629 < 2147483629 := Int.emod_lt_of_pos _ (by decide)
  have e3 : 0 ≤ ((a * 1299709 + 104729 * x * x + 31 * x + 7) % 2147483629 * ((a * 1299709 + 104729 * x * x + 31 * x + 7) % 2147483629) + 48271 * x + 15485863) % 2147483587 := Int.emod_nonneg _ (by decide)
  have e4 : ((a * 1299709 + 104729 * x * x + 31 * x + 7) % 2147483629 * ((a * 1299709 + 104729 * x * x + 31 * x + 7) % 2147483629) + 48271 * x + 15485863) % 2147483587 < 2147483587 := Int.emod_lt_of_pos _ (by decide)
  refine ⟨_, rfl, _, _, rfl, rfl, .inl ⟨by omega, by omega⟩, _, rfl, _, _, rfl, rfl, .inl ⟨by decide, by decide⟩, _, rfl, _, _, rfl, rfl, .inl ⟨by omega, by omega⟩, _, _, rfl, rfl, _, rfl, _, _, rfl, rfl, .inl ⟨by decide, by decide⟩, _, _, rfl, rfl, _, _, rfl, rfl, .inl ⟨_, rfl, ?_⟩⟩
  refine ⟨_, _, rfl, rfl, (by show (0 : Int) < _; decide), ?_⟩
  refine ⟨_, rfl, _, rfl, _, _, rfl, rfl, .inl ⟨by omega, by omega⟩, _, rfl, _, _, rfl, rfl, .inl ⟨by decide, by decide⟩, _, _, rfl, rfl, _, _, rfl, rfl, .inl ⟨_, rfl, ?_⟩⟩
  refine ⟨_, _, rfl, rfl, (by show (0 : Int) < _; decide), ?_⟩
  refine ⟨_, rfl, _, _, rfl, rfl, .inl ⟨by omega, by omega⟩, .inl ⟨_, rfl, ?_⟩⟩
  refine ⟨_, _, rfl, rfl, (by show (0 : Int) < _; decide), ?_⟩
  exact q _ (Int.emod_nonneg _ (by decide)) (Int.emod_lt_of_pos _ (by decide))
end
end R3

set_option Elab.async false
set_option linter.all false
set_option maxRecDepth 100000
set_option maxHeartbeats 4000000
namespace R3
open PySem PySem.Spec PyProof.Rows L2 Dv
section
variable {P : Program} {w : World} {K : PySem.W.Frag} {mg : Str → Option Value} {base : Heap}
/-- the generator: a list of three ints, kept out of what stays -/
def G3 (H : Hp) (g : Addr) (a s c : Int) : Prop := H g = some (.lst [.int a, .int s, .int c])
/-- a draw below a small bound -/
def spRandom : Sp := fun vs H Q _ => ∃ (g : Addr) (a s c b : Int), vs = [.ref g, .int b] ∧ G3 H g a s c ∧ 0 ≤ a ∧ 0 ≤ s ∧ s < 2147483647 ∧ 0 ≤ c ∧ c < 999000 ∧ 1 ≤ b ∧ b < 1000 ∧ Builtin.Int.intBits b < 30 ∧
  ∀ (r a' c' : Int), 0 ≤ r → r < b → 0 ≤ a' → c ≤ c' → c' ≤ c + 1 → Q (.int r) (upd H g (.lst [.int a', .int s, .int c']))
theorem sc__law_random : FnScope (["generator", "bound", "drawn", "turn"] : List Str) (["generator", "bound"] : List Str) (defScope sLawRandom) := ⟨rfl, rfl, rfl, by decide +kernel, rfl, by decide +kernel, by decide +kernel⟩
theorem ok_law_random (D : Def K mg "_law_random" sLawRandom ["generator", "bound"]) (B : Bl mg) (C__law_hash : Cal P w K mg base "_law_hash" ["seed", "index"] 1 spHash) : Cal P w K mg base "_law_random" ["generator", "bound"] 2 spRandom := by
  refine cal_mk D sc__law_random (fun vs H Q E h => ?_) (fun f cdv A outer s H vs Q E hr h => ?_)
  · obtain ⟨g, a, s, c, b, rfl, _⟩ := h
    rfl
  obtain ⟨g, a, sd, c, b, rfl, hg, a0, s0, s1, c0, c1, b0, b1, eb, q⟩ := h
  have hr1 : RoomG 1 _ := hr.mono (by decide)
  refine ⟨_, pss_cons (ps_if (pt_cmpR op_gt (pe_ix ix_list (pv 0) pe_int (fun _ _ => rfl)) pe_int (nomark _))
        (pss_cons (ps_set (i := 2) sc__law_random.nd rfl (.inl rfl) (pe_op op_mod (pe_callTy call_int1 (by rfl) B.int (by decide +kernel) (pa_cons (pe_ix ix_list (pv 0) pe_int (fun _ _ => rfl)) pa_nil)) (pv 1)))
        (pss_cons (ps_asg (pe_op op_fdivN (pe_ix ix_list (pv 0) pe_int (fun _ _ => rfl)) (pv 1)) (pg_sub (pv 0) pe_int set_list) )
        (pss_one (ps_ret (pv 2))))) pss_nil)
      (pss_cons (ps_set (i := 2) sc__law_random.nd rfl (.inl rfl) pe_int)
      (pss_cons (ps_for PassesOwn.never rfl (pi_range1 rfl B.range (pa_cons (pe_op op_add pe_int (pe_op op_fdiv (pe_bits (pv 1)) pe_int)) pa_nil)) (pg_name (i := 3) sc__law_random.nd rfl (.inl rfl))
        (pss_cons (ps_asg (pe_op op_add (pe_ix ix_list (pv 0) pe_int (fun _ _ => rfl)) pe_int) (pg_sub (pv 0) pe_int set_list))
        (pss_one (ps_set (i := 2) sc__law_random.nd rfl (.inl rfl) (pe_op op_add (pe_op op_mul (pv 2) pe_int) (pe_callC C__law_hash hr1 (pa_cons (pe_ix ix_list (pv 0) pe_int (fun _ _ => rfl)) (pa_cons (pe_ix ix_list (pv 0) pe_int (fun _ _ => rfl)) pa_nil))))))))
      (pss_one (ps_ret (pe_op op_mod (pe_callTy call_int1 (by rfl) B.int (by decide +kernel) (pa_cons (pv 2) pa_nil)) (pv 1)))))), ?_⟩
  have hS : SqL K H g [.int a, .int sd, .int c] := SqL.of hg
  have bp : (0 : Int) < b := by omega
  refine ⟨_, rfl, g, _, _, _, rfl, rfl, hS, atI_nat (j := 0) rfl, _, _, rfl, rfl, _, rfl, ?_⟩
  refine ite2 (fun _ => ?_) (fun _ => ?_)
  · refine ⟨_, rfl, g, _, _, _, rfl, rfl, hS, atI_nat (j := 0) rfl, .inl ⟨_, rfl, ?_⟩⟩
    refine ⟨_, rfl, _, _, rfl, rfl, bp, ?_⟩
    refine ⟨_, rfl, g, _, _, _, rfl, rfl, hS, atI_nat (j := 0) rfl, _, rfl, _, _, rfl, rfl, ⟨by omega, by omega⟩, ?_⟩
    refine ⟨_, rfl, g, _, _, 0, rfl, rfl, hg, rfl, ?_⟩
    refine ⟨_, rfl, ?_⟩
    exact q _ _ _ (Int.emod_nonneg _ (by omega)) (Int.emod_lt_of_pos _ bp) (by rw [Int.fdiv_eq_ediv_of_nonneg _ (by omega)]; exact Int.ediv_nonneg a0 (by omega)) (by omega) (by omega)
  · refine ⟨_, rfl, b, rfl, _, _, rfl, rfl, ⟨by decide, by decide⟩, _, _, rfl, rfl, ?_⟩
    have ez : (1 : Int) + ((Builtin.Int.intBits b : Nat) : Int) / 30 = 1 := by omega
    refine ⟨1, congrArg (fun z => [V.int z]) ez, by decide, by decide, for_range (lo := 0) (n := 1) (fun i σ H' => ∃ (d c' : Int) (v : Option V), σ = [some (.ref g), some (.int b), some (.int d), v] ∧ H' = upd H g (.lst [.int a, .int sd, .int c']) ∧ 0 ≤ d ∧ (i = 0 → d = 0) ∧ c' = c + i)
      ⟨0, c, none, rfl, ?_, Int.le_refl 0, fun _ => rfl, by simp⟩ ?_ ?_⟩
    · funext x
      by_cases hb : x = g
      · rw [hb, upd_same]; exact hg
      · rw [upd_ne hb]
    · rintro i σ H' hi ⟨d, c', v, rfl, rfl, d0, dz, rfl⟩
      have hS' : ∀ z : Int, SqL K (upd H g (.lst [.int a, .int sd, .int z])) g [.int a, .int sd, .int z] := fun z => SqL.of upd_same
      have z0 := dz (by omega)
      subst z0
      refine ⟨_, rfl, g, _, _, _, rfl, rfl, hS' _, atI_nat (j := 2) rfl, _, _, rfl, rfl, ?_⟩
      refine ⟨_, rfl, g, _, _, 2, rfl, rfl, upd_same, rfl, ?_⟩
      rw [upd_upd]
      refine ⟨_, rfl, _, _, rfl, rfl, .inl ⟨by omega, by omega⟩, ?_⟩
      refine ⟨_, rfl, g, _, _, _, rfl, rfl, hS' _, atI_nat (j := 1) rfl, ?_⟩
      refine ⟨_, rfl, g, _, _, _, rfl, rfl, hS' _, atI_nat (j := 2) rfl, ?_⟩
      refine ⟨sd, c + i + 1, rfl, s0, s1, by omega, by omega, fun z h1 h2 => ?_⟩
      refine ⟨_, _, rfl, rfl, ?_⟩
      exact ⟨_, _, _, rfl, rfl, by omega, fun z => by omega, by omega⟩
    · rintro σ H' ⟨d, c', v, rfl, rfl, d0, dz, rfl⟩
      refine ⟨_, rfl, .inl ⟨_, rfl, ?_⟩⟩
      refine ⟨_, rfl, _, _, rfl, rfl, bp, ?_⟩
      exact q _ _ _ (Int.emod_nonneg _ (by omega)) (Int.emod_lt_of_pos _ bp) a0 (by omega) (by omega)
end
end R3

set_option Elab.async false
set_option linter.all false
set_option maxRecDepth 100000
set_option maxHeartbeats 4000000
namespace R3
open PySem PySem.Spec PyProof.Rows L2 Dv
section
variable {P : Program} {w : World} {K : PySem.W.Frag} {mg : Str → Option Value} {base : Heap}
theorem sm_new {H : Hp} {p : Addr} {o : HO} (h : H p = none) : Same H (upd H p o) := fun b u e => by
  rw [upd_ne (ne_of_none e h)]
  exact e
def spCell (K : PySem.W.Frag) : Sp := fun vs H Q _ => ∃ (a : Addr) (ns : List Int) (n : Nat), vs = [.ref a, .int n] ∧ n ≤ 3 ∧ SqL K H a (ns.map V.int) ∧ ns.length ≤ 63 ∧ ∀ (z : Int) (H' : Hp), Same H H' → Q (.int z) H'
theorem sc__law_cell : FnScope (["script", "index"] : List Str) (["script", "index"] : List Str) (defScope sLawCell) := ⟨rfl, rfl, rfl, by decide +kernel, rfl, by decide +kernel, by decide +kernel⟩
theorem ok_law_cell (D : Def K mg "_law_cell" sLawCell ["script", "index"]) (B : Bl mg) : Cal P w K mg base "_law_cell" ["script", "index"] 1 (spCell K) := by
  refine cal_mk D sc__law_cell (fun vs H Q E h => ?_) (fun f cdv A outer s H vs Q E hr h => ?_)
  · obtain ⟨a, ns, n, rfl, _⟩ := h
    rfl
  obtain ⟨a, ns, n, rfl, hn, hS, hl, q⟩ := h
  refine ⟨_, pss_cons (ps_if (pt_cmpR op_lt (pv 1) (pe_callB call_len_seq (by rfl) B.len PySem.boot_len (pa_cons (pv 0) pa_nil)) (nomark _)) (pss_one (ps_ret (pe_ix ix_list (pv 0) (pv 1) (fun _ _ => rfl)))) pss_nil)
      (pss_one (ps_ret (pe_op op_mod (pe_callB (cr_sum rfl) (by rfl) B.sum (by decide +kernel) (pa_cons (pe_slice sl_list (pv 0) po_none (po_some pe_int)) pa_nil)) pe_int))), ?_⟩
  refine ⟨_, rfl, _, rfl, a, _, rfl, .inl hS, _, _, rfl, rfl, _, rfl, ?_⟩
  refine ite2 (fun h => ?_) (fun h => ?_)
  · rw [List.length_map] at h
    have h' : n < ns.length := by
      have := of_decide_eq_true h
      omega
    obtain ⟨z, hz⟩ : ∃ z, ns[n]? = some z := ⟨ns[n], List.getElem?_eq_getElem h'⟩
    refine ⟨_, rfl, _, rfl, a, _, _, .int z, rfl, rfl, hS, atI_nat (j := n) (by rw [List.getElem?_map, hz]; rfl), ?_⟩
    exact q z H (Same.refl H)
  · refine ⟨_, rfl, _, rfl, a, _, rfl, hS, fun p hp => ?_⟩
    refine ⟨p, ns.take 1, rfl, ?_, ?_⟩
    · have ec : cutV (ns.map V.int) none (some 1) = (ns.take 1).map V.int := by
        cases ns with
        | nil => rfl
        | cons x r =>
          have h1 : HT.sIx (r.length + 1) (r.length + 1) (some 1) = 1 := by
            simp [HT.sIx]
          simp [cutV, h1]
          try rfl
      rw [ec]
      exact SqL.of upd_same
    refine ⟨_, _, rfl, rfl, (by show (0 : Int) < _; decide), ?_⟩
    exact q _ _ (sm_new hp)
def CPowW : Int → Int → Prop := fun i j => 0 ≤ j ∧ (Builtin.Int.intBits i : Int) * j ≤ 2 ^ 27
theorem op_powW {X : Cx} : OpR X (binaryOp .Pow) (rI CPowW fun i j => .int (i ^ j.toNat)) := by
  intro pins s σ H x y v u Q I rx ry h
  obtain ⟨i, j, rfl, rfl, hc, q⟩ := h
  obtain ⟨t, rfl⟩ := rx
  obtain ⟨t', rfl⟩ := ry
  exact pow_int hc.1 hc.2 ⟨.int _, H, I.tok _, ⟨_, rfl⟩, q⟩
def spGen (K : PySem.W.Frag) : Sp := fun vs H Q _ => ∃ (a : Addr) (ns : List Int) (n : Nat), vs = [.ref a, .int n] ∧ n ≤ 3 ∧ SqL K H a (ns.map V.int) ∧ ns.length ≤ 63 ∧
  ∀ (g : Addr) (x s : Int) (H1 : Hp), Same H H1 → H1 g = none → 0 ≤ x → 0 ≤ s → s < 2147483647 → Q (.ref g) (upd H1 g (.lst [.int x, .int s, .int (1000 * (n : Int))]))
theorem sc__law_generator : FnScope (["script", "index", "seed"] : List Str) (["script", "index"] : List Str) (defScope sLawGenerator) := ⟨rfl, rfl, rfl, by decide +kernel, rfl, by decide +kernel, by decide +kernel⟩
theorem ok_law_generator (D : Def K mg "_law_generator" sLawGenerator ["script", "index"]) (B : Bl mg) (C__law_cell : Cal P w K mg base "_law_cell" ["script", "index"] 1 (spCell K)) : Cal P w K mg base "_law_generator" ["script", "index"] 2 (spGen K) := by
  refine cal_mk D sc__law_generator (fun vs H Q E h => ?_) (fun f cdv A outer s H vs Q E hr h => ?_)
  · obtain ⟨a, ns, n, rfl, _⟩ := h
    rfl
  obtain ⟨a, ns, n, rfl, hn, hS, hl, q⟩ := h
  have hr1 : RoomG 1 _ := hr.mono (by decide)
  refine ⟨_, pss_cons (ps_set (i := 2) sc__law_generator.nd rfl (.inl rfl) (pe_callC C__law_cell hr1 (pa_cons (pv 0) (pa_cons (pv 1) pa_nil))))
      (pss_one (ps_ret (pe_lst (pa_cons (pe_op op_modN (pe_callTy call_int1 (by rfl) B.int (by decide +kernel) (pa_cons (pe_callB (call_max2 rfl) (by rfl) B.max (by decide +kernel) (pa_cons (pe_op op_sub (pv 2) (pe_op op_pow pe_int pe_int)) (pa_cons pe_int pa_nil))) pa_nil)) (pe_op op_powW (pe_op op_pow pe_int pe_int) pe_int))
        (pa_cons (pe_op op_mod (pe_callTy call_int1 (by rfl) B.int (by decide +kernel) (pa_cons (pv 2) pa_nil)) pe_int)
        (pa_cons (pe_op op_mul pe_int (pv 1)) pa_nil)))))), ?_⟩
  refine ⟨_, rfl, _, rfl, a, ns, n, rfl, hn, hS, hl, fun z H1 s1 => ?_⟩
  refine ⟨_, rfl, _, _, rfl, rfl, ⟨by decide, by decide, by decide⟩, _, _, rfl, rfl, _, _, rfl, .inl ⟨_, rfl, ?_⟩⟩
  refine ⟨_, _, rfl, rfl, ⟨by decide, by decide, by decide⟩, ?_⟩
  refine ⟨_, _, rfl, rfl, ⟨by decide, by decide +kernel⟩, ?_⟩
  refine ⟨_, _, rfl, rfl, (by show (_ : Int) ≠ 0; decide +kernel), ?_⟩
  refine ⟨_, rfl, .inl ⟨_, rfl, _, _, rfl, rfl, (by show (0 : Int) < _; decide), ?_⟩⟩
  refine ⟨_, rfl, _, _, rfl, rfl, .inl ⟨by decide, by decide⟩, (by show 3 ≤ sizeLine; decide), fun p hp => ?_⟩
  exact q p _ _ _ s1 hp (Int.fmod_nonneg_of_pos _ (by decide +kernel)) (Int.emod_nonneg _ (by decide)) (Int.emod_lt_of_pos _ (by decide))
end
end R3

set_option Elab.async false
set_option linter.all false
set_option maxHeartbeats 400000
namespace Dv
open PySem PySem.Spec PyProof.Rows L2 Evl
/-! ### what grows, one object (the generator) excepted -/
/-- the heap without g -/
def er (g : Addr) (H : Hp) : Hp := fun b => if b = g then none else H b
theorem er_same {g : Addr} {H : Hp} : er g H g = none := by unfold er; rw [if_pos rfl]
theorem er_ne {g a : Addr} {H : Hp} (h : a ≠ g) : er g H a = H a := by unfold er; rw [if_neg h]
theorem er_upd {g : Addr} {H : Hp} {o : HO} : er g (upd H g o) = er g H := by
  funext b
  by_cases h : b = g
  · subst h; rw [er_same, er_same]
  · rw [er_ne h, er_ne h, upd_ne h]
/-- as Gr, g excepted -/
def GrG (g : Addr) (F H F' H' : Hp) : Prop := Gr F (er g H) F' (er g H')
theorem ex_er {g : Addr} {F H : Hp} (e : Ex F H) (f : F g = none) : Ex F (er g H) := fun a u ha => by
  have h : a ≠ g := fun q => by rw [q, f] at ha; exact nomatch ha
  rw [er_ne h]
  exact e a u ha
theorem ex_unerr {g : Addr} {F H : Hp} (e : Ex F (er g H)) : Ex F H ∧ F g = none := by
  constructor
  · intro a u ha
    have h := e a u ha
    by_cases q : a = g
    · rw [q, er_same] at h; exact nomatch h
    · rw [er_ne q] at h; exact h
  · cases h : F g with
    | none => rfl
    | some u =>
      have := e g u h
      rw [er_same] at this
      exact nomatch this
theorem GrG.fg {g : Addr} {F H F' H' : Hp} (x : GrG g F H F' H') : F' g = none := (ex_unerr x.fh).2
theorem GrG.fh {g : Addr} {F H F' H' : Hp} (x : GrG g F H F' H') : Ex F' H' := (ex_unerr (Gr.fh x)).1
theorem GrG.fx {g : Addr} {F H F' H' : Hp} (x : GrG g F H F' H') : Ex F F' := Gr.fx x
theorem GrG.refl {g : Addr} {F H : Hp} (e : Ex F H) (f : F g = none) : GrG g F H F H := Gr.refl (ex_er e f)
theorem GrG.trans {g : Addr} {F H F1 H1 F2 H2 : Hp} (a : GrG g F H F1 H1) (b : GrG g F1 H1 F2 H2) : GrG g F H F2 H2 := Gr.trans a b
/-- the draw itself -/
theorem GrG.draw {g : Addr} {F H F' H' : Hp} {o : HO} (x : GrG g F H F' H') : GrG g F H F' (upd H' g o) := by
  unfold GrG
  rw [er_upd]
  exact x
/-- a step that draws nothing -/
theorem GrG.of {g : Addr} {F H F' H' : Hp} {o : HO} (x : Gr F H F' H') (hg : H g = some o) (f : F g = none) : GrG g F H F' H' ∧ H' g = some o := by
  have k := x.keep hg f
  refine ⟨⟨x.fx, ex_er x.fh k.2, fun a u ha => ?_, fun a h1 h2 => ?_⟩, k.1⟩
  · by_cases q : a = g
    · rw [q, er_same] at ha; exact nomatch ha
    · rw [er_ne q] at ha ⊢; exact x.hx a u ha
  · by_cases q : a = g
    · rw [q, k.2] at h2
      exact absurd rfl h2
    · have := x.fr a h1 h2
      rw [er_ne q]
      exact this
/-- any other object out of F stays as it is -/
theorem GrG.keep {g p : Addr} {F H F' H' : Hp} {o : HO} (x : GrG g F H F' H') (h : H p = some o) (hf : F p = none) (hp : p ≠ g) : H' p = some o ∧ F' p = none := by
  have k := Gr.keep x (p := p) (o := o) (by rw [er_ne hp]; exact h) hf
  rw [er_ne hp] at k
  exact k
end Dv

set_option Elab.async false
set_option linter.all false
set_option maxRecDepth 100000
set_option maxHeartbeats 4000000
namespace R3
open PySem PySem.Spec PyProof.Rows L2 Evl Dv
section
variable {P : Program} {w : World} {K : PySem.W.Frag} {mg : Str → Option Value} {base : Heap}
/-- the generator stands well, its count at most c -/
def GenAt (H : Hp) (g : Addr) (c : Nat) : Prop := ∃ a s n : Int, G3 H g a s n ∧ 0 ≤ a ∧ 0 ≤ s ∧ s < 2147483647 ∧ 0 ≤ n ∧ n ≤ c
/-- te draws at most k times and gives something that stands for a d with Pd d -/
def DrD (K : PySem.W.Frag) (g : Addr) (k : Nat) (te : TE) (σ : L2.St) (F : Hp) (Pd : PyData → Prop) : Prop := ∀ (H : Hp) (c : Nat), Ex F H → F g = none → GenAt H g c → c + k < 999000 → ∀ Q : V → Hp → Prop,
  (∀ v F' H' d, GrG g F H F' H' → GenAt H' g (c + k) → Pd d → Dp K F' v d → Q v H') → te σ H Q
/-- a number is drawn -/
theorem dr_random {g : Addr} {σ : L2.St} {F : Hp} {i : Nat} {b : Int} (hi : σ[i]? = some (some (.ref g))) (b0 : 1 ≤ b) (b1 : b < 1000) (eb : Builtin.Int.intBits b < 30) :
    DrD K g 1 (tCall spRandom [] E0 (tCons (tVar i) (tCons (tC (.int b)) tNil))) σ F fun d => ∃ r : Int, d = .int r ∧ 0 ≤ r ∧ r < b := by
  intro H c e f hg hc Q q
  obtain ⟨a, s, n, h3, a0, s0, s1, n0, n1⟩ := hg
  refine ⟨_, hi, g, a, s, n, b, rfl, h3, a0, s0, s1, n0, by omega, b0, b1, eb, fun r a' c' r0 r1 a0' c0' c1' => ?_⟩
  exact q _ F _ (.int r) (GrG.refl e f).draw ⟨a', s, c', upd_same, a0', s0, s1, by omega, by omega⟩ ⟨r, rfl, r0, r1⟩ (.int r)
/-- what draws nothing -/
theorem dr_of {g : Addr} {te : TE} {σ : L2.St} {F : Hp} {d : PyData} {Pd : PyData → Prop} (h : EvD K te σ F d) (p : Pd d) : DrD K g 0 te σ F Pd := by
  intro H c e f hg hc Q q
  obtain ⟨a, s, n, h3, r⟩ := hg
  refine h H e _ fun v F' H' x hv => ?_
  have k := GrG.of x h3 f
  exact q v F' H' d k.1 ⟨a, s, n, k.2, r⟩ p hv
end
end R3

set_option Elab.async false
set_option linter.all false
set_option maxRecDepth 100000
set_option maxHeartbeats 4000000
namespace R3
open PySem PySem.Spec PyProof.Rows L2 Evl Dv
section
variable {P : Program} {w : World} {K : PySem.W.Frag} {mg : Str → Option Value} {base : Heap}
/-- one of a list, drawn -/
theorem dr_ixL {g : Addr} {k : Nat} {ta tb : TE} {σ : L2.St} {F : Hp} {ds : List PyData} (ha : EvD K ta σ F (.list ds)) (hb : ∀ F', Ex F F' → DrD K g k tb σ F' fun d => ∃ r : Int, d = .int r ∧ 0 ≤ r ∧ r < ds.length) :
    DrD K g k (tOp (rIxL K) ta tb) σ F fun d => d ∈ ds := by
  intro H c e f hg hc Q q
  obtain ⟨a, s, n, h3, rest⟩ := hg
  refine ha H e _ fun v F1 H1 x1 hv => ?_
  have k1 := GrG.of x1 h3 f
  refine hb F1 x1.fx H1 c x1.fh k1.1.fg ⟨a, s, n, k1.2, rest⟩ hc _ fun u F2 H2 d g2 hc2 hd hu => ?_
  obtain ⟨r, rfl, r0, r1⟩ := hd
  cases hu
  cases (dp_ex g2.fx hv) with
  | lst hs hd =>
    obtain ⟨j, rfl⟩ := Int.eq_ofNat_of_zero_le r0
    have hj : j < ds.length := by omega
    obtain ⟨v', hv', hd'⟩ := dps_at hd (List.getElem?_eq_getElem hj)
    exact ⟨_, _, _, v', rfl, rfl, ex_l g2.fh hs, atI_nat hv', q v' F2 H2 ds[j] (k1.1.trans g2) hc2 (List.getElem_mem hj) hd'⟩
/-- `x = (drawn)` -/
theorem sr_asg {g : Addr} {k c : Nat} {te : TE} {σ : L2.St} {F H : Hp} {Pd : PyData → Prop} {i : Nat} {D : Ends} (h : DrD K g k te σ F Pd) (e : Ex F H) (f : F g = none) (hg : GenAt H g c) (hc : c + k < 999000)
    (q : ∀ v F' H' d, GrG g F H F' H' → GenAt H' g (c + k) → Pd d → Dp K F' v d → D.nx (σ.set i (some v)) H') : tAsg te (gName i) D σ H := h H c e f hg hc _ q
end
end R3

set_option Elab.async false
set_option linter.all false
set_option maxHeartbeats 400000
namespace Dv
open PySem PySem.Spec PyProof.Rows L2 Evl
theorem er_upd_ne {g p : Addr} {H : Hp} {o : HO} (h : p ≠ g) : er g (upd H p o) = upd (er g H) p o := by
  funext b
  by_cases q : b = g
  · subst q
    rw [er_same, upd_ne (fun z => h z.symm), er_same]
  · rw [er_ne q]
    by_cases r : b = p
    · rw [r, upd_same, upd_same]
    · rw [upd_ne r, upd_ne r, er_ne q]
/-- an object that is new since H, not of F' and not the generator, may change -/
theorem GrG.mut {g p : Addr} {F H F' H' : Hp} {o : HO} (x : GrG g F H F' H') (h : H p = none) (hf : F' p = none) (hp : p ≠ g) : GrG g F H F' (upd H' p o) := by
  unfold GrG
  rw [er_upd_ne hp]
  exact Gr.mut x (by rw [er_ne hp]; exact h) hf
/-- and be taken into F' as it stands -/
theorem GrG.take {g p : Addr} {F H F' H' : Hp} {o : HO} (x : GrG g F H F' H') (h : H p = none) (hf : F' p = none) (hp : p ≠ g) (ho : H' p = some o) : GrG g F H (upd F' p o) H' :=
  Gr.take x (by rw [er_ne hp]; exact h) hf (by rw [er_ne hp]; exact ho)
end Dv

set_option Elab.async false
set_option linter.all false
set_option maxRecDepth 100000
set_option maxHeartbeats 4000000
namespace R3
open PySem PySem.Spec PyProof.Rows L2 Evl Dv
section
variable {P : Program} {w : World} {K : PySem.W.Frag} {mg : Str → Option Value} {base : Heap}
structure SideOk (names : List Str) (s : List (Str × Int)) : Prop where
  few : s.length ≤ 2
  sub : (s.map (·.1)).Sublist names
  num : ∀ z ∈ s, 1 ≤ z.2 ∧ z.2 ≤ 3
def spSides (K : PySem.W.Frag) : Sp := fun vs H Q _ => ∃ (F : Hp) (g : Addr) (c : Nat) (v : V) (names : List Str), vs = [.ref g, v, .int 2] ∧ Ex F H ∧ F g = none ∧ GenAt H g c ∧ c + names.length < 999000 ∧ Dp K F v (.list (names.map .str)) ∧
  ∀ x F' H' s, GrG g F H F' H' → GenAt H' g (c + names.length) → SideOk names s → Dp K F' x (.list (s.map encPart)) → Q x H'
theorem sc__law_parts_drawn : FnScope (["generator", "stuffs", "most", "found", "name", "number"] : List Str) (["generator", "stuffs", "most"] : List Str) (defScope sLawPartsDrawn) := ⟨rfl, rfl, rfl, by decide +kernel, rfl, by decide +kernel, by decide +kernel⟩
theorem ok_law_parts_drawn (D : Def K mg "_law_parts_drawn" sLawPartsDrawn ["generator", "stuffs", "most"]) (B : Bl mg) (C__law_random : Cal P w K mg base "_law_random" ["generator", "bound"] 2 spRandom) : Cal P w K mg base "_law_parts_drawn" ["generator", "stuffs", "most"] 3 (spSides K) := by
  refine cal_mk D sc__law_parts_drawn (fun vs H Q E h => ?_) (fun f cdv A outer s H vs Q E hr h => ?_)
  · obtain ⟨F, g, c, v, names, rfl, _⟩ := h
    rfl
  obtain ⟨F, g, c, v, names, rfl, e, fg, hg, hc, hv, q⟩ := h
  refine ⟨_, (pss_cons (ps_set (i := 3) sc__law_parts_drawn.nd rfl (.inl rfl) (pe_lst pa_nil))
      (pss_cons (ps_for PassesOwn.never rfl (pi_list (pv 1)) (pg_name (i := 4) sc__law_parts_drawn.nd rfl (.inl rfl)) (pss_cons (ps_set (i := 5) sc__law_parts_drawn.nd rfl (.inl rfl) (pe_ix ix_list (pe_lst (pa_cons pe_int (pa_cons pe_int (pa_cons pe_int (pa_cons pe_int (pa_cons pe_int (pa_cons pe_int pa_nil))))))) (pe_callC C__law_random hr (pa_cons (pv 0) (pa_cons pe_int pa_nil))) (fun _ _ => rfl)))
      (pss_one (ps_if (PW.pt (pw_and (pt_cmpR op_gt (pv 5) pe_int (nomark _)) (pw_and1 (pt_cmpR op_lt (pe_callB call_len (by rfl) B.len (by decide +kernel) (pa_cons (pv 3) pa_nil)) (pv 2) (nomark _))))) (pss_one (ps_expr (pe_bm PySem.F.plainAttrs_list PySem.F.slot_list_append PySem.F.type_list_append mt_append (pv 3) (pa_cons (pe_tup (pa_cons (pv 4) (pa_cons (pv 5) pa_nil))) pa_nil)))) pss_nil))))
      (pss_one (ps_ret (pv 3))))), ?_⟩
  have st : start ["generator", "stuffs", "most", "found", "name", "number"] [.ref g, v, .int 2] = [some (.ref g), some v, some (.int 2), none, none, none] := rfl
  rw [st]
  refine Dv.s_asgL (K := K) (Dv.el_lst Dv.ea_nil (by simp)) e fun p vs0 F1 H1 g1 p1 p2 p3 p4 => ?_
  cases p4
  obtain ⟨ga, gs, gn, g3, grest⟩ := hg
  have pg : p ≠ g := fun z => by rw [z, g3] at p1; exact nomatch p1
  have k1 := GrG.of g1 g3 fg
  refine Dv.s_for (K := K) (it_list (Dv.ev_var (i := 1) rfl (dp_ex g1.fx hv))) g1.fh (fun n σ' F' H' => (∃ y z, σ' = [some (.ref g), some v, some (.int 2), some (.ref p), y, z]) ∧ GrG g F H F' H' ∧ GenAt H' g (c + n) ∧ F' p = none ∧ ∃ vs s, H' p = some (.lst vs) ∧ SideOk (names.take n) s ∧ DpAll K F' vs (s.map encPart))
    (fun F' H' g2 => ?_) ?_ (fun σ' F' H' e1 e2 pv => ?_)
  · have k2 := GrG.of (g1.trans g2) g3 fg
    have k3 := g2.keep p3 p2
    exact ⟨⟨none, none, rfl⟩, k2.1, ⟨ga, gs, gn, k2.2, grest⟩, k3.2, [], [], k3.1, ⟨by decide, .slnil, fun z hz => nomatch hz⟩, .nil⟩
  · intro Fb eb n σ' F' H' nv d F2 H2 hd' e1 e2 pv g2 hv2
    obtain ⟨⟨y, z, rfl⟩, k2, hg2, fp, vs, s, hp, so, hds⟩ := pv
    obtain ⟨ga', gs', gn', g3', grest'⟩ := hg2
    have k3 := GrG.of g2 g3' k2.fg
    have k4 := k2.trans k3.1
    have kp := g2.keep hp fp
    have hn : n < names.length := by
      have := (List.getElem?_eq_some_iff.mp hd').1
      rwa [List.length_map] at this
    refine sr_asg (K := K) (g := g) (k := 1) (c := c + n) (dr_ixL (ds := [.int 0, .int 0, .int 1, .int 1, .int 2, .int 3]) (EvL.ev (Dv.el_lst (Dv.ea_cons (Dv.ev_int 0) (Dv.ea_cons (Dv.ev_int 0) (Dv.ea_cons (Dv.ev_int 1) (Dv.ea_cons (Dv.ev_int 1) (Dv.ea_cons (Dv.ev_int 2) (Dv.ea_cons (Dv.ev_int 3) Dv.ea_nil)))))) (by simp))) (fun F3 _ => dr_random (i := 0) rfl (by decide) (by decide) (by decide +kernel))) k4.fh k4.fg ⟨ga', gs', gn', k3.2, grest'⟩ (by omega) fun u F3 H3 d3 k5 hg5 hm hu => ?_
    have k6 := k4.trans k5
    have kp5 := k5.keep kp.1 kp.2 pg
    obtain ⟨m, rfl, m0, m3⟩ : ∃ m : Int, d3 = .int m ∧ 0 ≤ m ∧ m ≤ 3 := by
      simp only [List.mem_cons, List.not_mem_nil, or_false] at hm
      rcases hm with rfl | rfl | rfl | rfl | rfl | rfl <;> exact ⟨_, rfl, by decide, by decide⟩
    cases hu
    have en : c + n + 1 = c + (n + 1) := by omega
    rw [en] at hg5
    have en2 : names.take (n + 1) = names.take n ++ [names[n]] := by rw [List.take_succ_eq_append_getElem hn]
    have skip : SideOk (names.take (n + 1)) s := ⟨so.few, so.sub.trans (by rw [en2]; exact List.sublist_append_left _ _), so.num⟩
    refine ⟨_, rfl, _, _, rfl, rfl, _, rfl, ?_⟩
    refine ite2 (fun hpos => ?_) (fun hneg => ?_)
    · refine ⟨_, rfl, _, vs.length, rfl, .inl ⟨_, SqL.of kp5.1, rfl⟩, _, rfl, _, _, rfl, rfl, _, rfl, ?_⟩
      have hlen : vs.length = s.length := by
        have := dps_len hds
        rwa [List.length_map] at this
      have hname : d = .str names[n] := by
        rw [List.getElem?_map, List.getElem?_eq_getElem hn] at hd'
        exact (Option.some.inj hd').symm
      subst hname
      refine ite2 (fun h2 => ?_) (fun h2 => ?_)
      · have h2' : vs.length < 2 := by
          have := of_decide_eq_true h2
          omega
        have hp' : 0 < m := of_decide_eq_true hpos
        obtain ⟨ga5, gs5, gn5, g53, g5rest⟩ := hg5
        refine Dv.s_app (K := K) (F := F3) (l := p) (xs := vs) (i := 3) kp5.1 kp5.2 rfl (Dv.ev_tup (Dv.ea_cons (Dv.ev_var (i := 4) rfl (dp_ex k5.fx hv2)) (Dv.ea_cons (Dv.ev_var (i := 5) rfl (.int m)) Dv.ea_nil)) (by simp)) k5.fh (by omega) fun v2 F4 H4 k7 hv7 p7 h7 => ?_
        have k8 := GrG.of k7 g53 k5.fg
        refine ⟨F4, ((e1.trans g2.fx).trans k5.fx).trans k7.fx, Ex.mut k7.fh p7, ⟨_, _, rfl⟩, (k6.trans k8.1).mut p1 p7 pg, ⟨ga5, gs5, gn5, ?_, g5rest⟩, p7, _, s ++ [(names[n], m)], upd_same, ⟨?_, ?_, ?_⟩, ?_⟩
        · unfold G3
          rw [upd_ne (fun z => pg z.symm)]
          exact k8.2
        · rw [List.length_append]; simp; omega
        · rw [List.map_append, en2]
          exact so.sub.append (List.Sublist.refl _)
        · intro z hz
          rcases List.mem_append.mp hz with h | h
          · exact so.num z h
          · rw [List.mem_singleton.mp h]
            exact ⟨by show 1 ≤ m; omega, m3⟩
        · rw [List.map_append]
          exact dps_app (dps_ex ((g2.fx.trans k5.fx).trans k7.fx) hds) (.cons hv7 .nil)
      · exact ⟨_, (e1.trans g2.fx).trans k5.fx, k5.fh, ⟨_, _, rfl⟩, k6, hg5, kp5.2, vs, s, kp5.1, skip, dps_ex (g2.fx.trans k5.fx) hds⟩
    · exact ⟨_, (e1.trans g2.fx).trans k5.fx, k5.fh, ⟨_, _, rfl⟩, k6, hg5, kp5.2, vs, s, kp5.1, skip, dps_ex (g2.fx.trans k5.fx) hds⟩
  · obtain ⟨⟨y, z, rfl⟩, k2, hg2, fp, vs, s, hp, so, hd⟩ := pv
    rw [List.length_map] at hg2
    rw [List.length_map, List.take_length] at so
    exact ⟨_, rfl, q _ _ _ s (k2.take p1 fp pg hp) hg2 so (.lst (SqL.of upd_same) (dps_ex (Ex.new fp) hd))⟩
end
end R3

set_option Elab.async false
set_option linter.all false
set_option maxRecDepth 100000
set_option maxHeartbeats 4000000
namespace R3
open PySem PySem.Spec PyProof.Rows L2 Evl Dv
section
variable {K : PySem.W.Frag} {σ : L2.St} {F : Hp} {te : TE} {tt : TT}
/-- a comprehension that draws once an item -/
theorem dr_lc {α : Type} {g0 : Addr} {wi : TI} {g : TG} {vs : List Nat} {Pd : PyData → Prop} (xs : List α) (enc : α → PyData) (hi : ItD K wi σ F (xs.map enc)) (hz : xs.length ≤ 40000)
    (hb : ∀ x, x ∈ xs → ∀ v F1, Ex F F1 → Dp K F1 v (enc x) → ∃ σ2, (∀ H, Ex F1 H → ∀ Q : L2.St → Hp → Prop, Q σ2 H → g v (wipe σ vs) H Q) ∧ wipe σ2 vs = wipe σ vs ∧ EtD tt σ2 F1 true ∧ DrD K g0 1 te σ2 F1 Pd)
    {H : Hp} {c : Nat} (eH : Ex F H) (f : F g0 = none) (hg : GenAt H g0 c) (hc : c + xs.length < 999000) {Q : V → Hp → Prop}
    (q : ∀ p ws F' H' ds, GrG g0 F H F' H' → GenAt H' g0 (c + xs.length) → H p = none → F' p = none → p ≠ g0 → H' p = some (.lst ws) → ds.length = xs.length → (∀ d ∈ ds, Pd d) → DpAll K F' ws ds → Q (.ref p) H') :
    tLc wi g tt te vs σ H Q := hi H eH _ fun J F1 H1 g1 wd => by
  obtain ⟨ga, gs, gn, h3, rest⟩ := hg
  have k1 := GrG.of g1 h3 f
  obtain ⟨G, Y, W, hG, hY⟩ := wd
  rw [List.length_map] at W
  intro D hD
  have fD : F1 D = none := ex_none g1.fh hD
  have Dg : D ≠ g0 := fun z => by rw [z, k1.2] at hD; exact nomatch hD
  refine lc_it W (Pv := fun i H' => ∃ F' ws ds, GrG g0 F1 H1 F' H' ∧ GenAt H' g0 (c + i) ∧ F' D = none ∧ H' D = some (.lst ws) ∧ ds.length = i ∧ (∀ d ∈ ds, Pd d) ∧ DpAll K F' ws ds) ⟨F1, [], [], (GrG.refl g1.fh k1.1.fg).mut hD fD Dg, ⟨ga, gs, gn, by unfold G3; rw [upd_ne (fun z => Dg z.symm)]; exact k1.2, rest⟩, fD, upd_same, rfl, (fun d h => nomatch h), .nil⟩
    (fun i H' _ p => ?_) (fun i v H2 H3 hin p y => ?_) (fun H' p => ?_)
  · obtain ⟨F', ws, ds, g2, _⟩ := p
    exact hG _ (g2.fx.trans g2.fh)
  · obtain ⟨F2, ws, ds, g2, hg2, f2, h2, hl, hp, hw⟩ := p
    obtain ⟨F3, d, hd, g3, hv⟩ := hY F2 i H2 v H3 (by rw [List.length_map]; exact hin) g2.fx g2.fh y
    rw [List.getElem?_map, List.getElem?_eq_getElem hin] at hd
    cases hd
    obtain ⟨σ2, hgt, hwp, ht, he⟩ := hb xs[i] (List.getElem_mem hin) v F3 (g1.fx.trans (g2.fx.trans g3.fx)) hv
    refine hgt H3 g3.fh _ ⟨hwp, ht H3 g3.fh _ fun F4 H4 g4 => ?_⟩
    obtain ⟨ga2, gs2, gn2, h32, rest2⟩ := hg2
    have g4' : Gr F3 H3 F3 H4 := ⟨Ex.refl _, g4.fx.trans g4.fh, g4.hx, fun a h1 h2 => absurd h1 h2⟩
    have k34 := GrG.of (g3.trans g4') h32 g2.fg
    have kD := (g3.trans g4').keep h2 f2
    show te σ2 H4 _
    refine he H4 (c + i) (g4.fx.trans g4.fh) k34.1.fg ⟨ga2, gs2, gn2, k34.2, rest2⟩ (by omega) _ fun v' F5 H5 d5 g5 hg5 hp5 hv' => ?_
    have k5 := g5.keep kD.1 kD.2 Dg
    have wl : ws.length ≤ 40000 := by
      rw [dps_len hw, hl]
      omega
    have k6 := ((g2.trans k34.1).trans g5).mut hD k5.2 Dg (o := .lst (ws ++ [v']))
    obtain ⟨ga5, gs5, gn5, h35, rest5⟩ := hg5
    refine ⟨ws, k5.1, sz_lt (by omega), F5, ws ++ [v'], ds ++ [d5], k6, ⟨ga5, gs5, gn5, by unfold G3; rw [upd_ne (fun z => Dg z.symm)]; exact h35, rest5⟩, k5.2, upd_same, by rw [List.length_append, hl]; rfl, fun d h => ?_, dps_app (dps_ex (g3.fx.trans g5.fx) hw) (.cons hv' .nil)⟩
    rcases List.mem_append.mp h with h | h
    · exact hp d h
    · rw [List.mem_singleton.mp h]
      exact hp5
  · obtain ⟨F', ws, ds, g2, hg2, fd, hd, hl, hp, hw⟩ := p
    exact q D ws F' H' ds (k1.1.trans g2) hg2 (ex_none g1.hx hD) fd Dg hd hl hp hw
end
end R3

set_option Elab.async false
set_option linter.all false
set_option maxRecDepth 100000
set_option maxHeartbeats 4000000
namespace R3
open PySem PySem.Spec PyProof.Rows L2 Evl Dv
/-! ### the drawn mill, plain -/
def chr (s : Str) (i : Nat) : Str := ⟨#[(s.cps.toList)[i]?.getD 0]⟩
def stuffsOf (rs : List (Option Int)) : List (Str × Option Int) := (List.range rs.length).map fun i => (chr "abcd" i, rs[i]?.getD none)
theorem rooms_of : ∀ {ds : List PyData}, (∀ d ∈ ds, d ∈ [PyData.none, .none, .int 1, .int 2, .int 3, .int 0]) → ∃ rs : List (Option Int), ds = rs.map encRoom ∧ ∀ r ∈ rs, r ∈ [none, some 1, some 2, some 3, some 0]
  | [], _ => ⟨[], rfl, fun r h => nomatch h⟩
  | d :: ds, h => by
    obtain ⟨rs, e, p⟩ := rooms_of (ds := ds) fun z hz => h z (List.mem_cons_of_mem _ hz)
    have hd := h d (List.mem_cons_self ..)
    simp only [List.mem_cons, List.not_mem_nil, or_false] at hd
    have : ∃ r : Option Int, d = encRoom r ∧ r ∈ [none, some 1, some 2, some 3, some 0] := by
      rcases hd with rfl | rfl | rfl | rfl | rfl | rfl
      · exact ⟨none, rfl, by simp⟩
      · exact ⟨none, rfl, by simp⟩
      · exact ⟨some 1, rfl, by simp⟩
      · exact ⟨some 2, rfl, by simp⟩
      · exact ⟨some 3, rfl, by simp⟩
      · exact ⟨some 0, rfl, by simp⟩
    obtain ⟨r, rfl, hr⟩ := this
    refine ⟨r :: rs, by rw [e]; rfl, fun z hz => ?_⟩
    rcases List.mem_cons.mp hz with h | h
    · rw [h]; exact hr
    · exact p z h
theorem GenAt.mono {H : Hp} {g : Addr} {c d : Nat} (h : GenAt H g c) (l : c ≤ d) : GenAt H g d := by
  obtain ⟨a, s, n, h3, a0, s0, s1, n0, n1⟩ := h
  exact ⟨a, s, n, h3, a0, s0, s1, n0, by omega⟩
end R3

set_option Elab.async false
set_option linter.all false
set_option maxRecDepth 100000
set_option maxHeartbeats 4000000
namespace Dv
open PySem PySem.Spec PyProof.Rows L2 Evl
theorem GrG.weak {g : Addr} {F F1 H F' H' : Hp} (e : Ex F F1) (e1 : Ex F1 H) (f : F1 g = none) (x : GrG g F H F' H') : GrG g F1 H (uni F1 F') H' := Gr.weak e (ex_er e1 f) x
theorem filt_true {α : Type} (xs : List α) : xs.filter (fun _ => true) = xs := List.filter_eq_self.mpr fun _ _ => rfl
/-- back to what was frozen ahead -/
theorem Gr.back {F H F1 H1 F2 H2 : Hp} (a : Gr F H F1 H1) (h : Ex H1 H2) : Gr F H F1 H2 := ⟨a.fx, a.fh.trans h, a.hx.trans h, a.fr⟩
theorem par_of2 {ta tb : TE} {i j : Nat} {D : Ends} {σ : L2.St} {H : Hp} (h : ta σ H fun x H1 => tb σ H1 fun y H2 => ∃ v w, [x, y] = [v, w] ∧ D.nx ((σ.set i (some v)).set j (some w)) H2) : tPar i j (tCons ta (tCons tb tNil)) D σ H := h
theorem seq_of {t u : TS} {D : Ends} {σ : L2.St} {H : Hp} (h : t { D with nx := u D } σ H) : tSeq t u D σ H := h
end Dv
namespace R3
open PySem PySem.Spec PyProof.Rows L2 Evl Dv
/-! ### what draws: arguments, tuples, operators, calls -/
def DaD (K : PySem.W.Frag) (g : Addr) (k : Nat) (ta : TA) (σ : L2.St) (F : Hp) (Pd : List PyData → Prop) : Prop := ∀ (H : Hp) (c : Nat), Ex F H → F g = none → GenAt H g c → c + k < 999000 → ∀ Q : List V → Hp → Prop,
  (∀ vs F' H' ds, GrG g F H F' H' → GenAt H' g (c + k) → Pd ds → DpAll K F' vs ds → Q vs H') → ta σ H Q
section
variable {K : PySem.W.Frag} {g : Addr} {k j : Nat} {te tb : TE} {ta tr : TA} {σ : L2.St} {F F1 : Hp} {Pd Pb : PyData → Prop} {Ps : List PyData → Prop}
theorem DrD.mono (e : Ex F F1) (h : DrD K g k te σ F Pd) : DrD K g k te σ F1 Pd := fun H c eH f hg hc Q q => h H c (e.trans eH) (ex_none e f) hg hc Q fun v F' H' d x hg' p hv => q v _ H' d (x.weak e eH f) hg' p (dp_ex (ex_uni2 (ex_er (eH) f |>.trans (Gr.hx x)) (Gr.fh x)) hv)
theorem DaD.mono (e : Ex F F1) (h : DaD K g k ta σ F Ps) : DaD K g k ta σ F1 Ps := fun H c eH f hg hc Q q => h H c (e.trans eH) (ex_none e f) hg hc Q fun v F' H' d x hg' p hv => q v _ H' d (x.weak e eH f) hg' p (dps_ex (ex_uni2 (ex_er (eH) f |>.trans (Gr.hx x)) (Gr.fh x)) hv)
theorem DrD.imp {Pe : PyData → Prop} (h : DrD K g k te σ F Pd) (i : ∀ d, Pd d → Pe d) : DrD K g k te σ F Pe := fun H c eH f hg hc Q q => h H c eH f hg hc Q fun v F' H' d x hg' p hv => q v F' H' d x hg' (i d p) hv
theorem da_nil : DaD K g 0 tNil σ F (· = []) := fun H c eH f hg hc Q q => q [] F H [] (GrG.refl eH f) hg rfl .nil
theorem da_cons (h : DrD K g k te σ F Pd) (hr : DaD K g j tr σ F Ps) : DaD K g (k + j) (tCons te tr) σ F (fun ds => ∃ d r, ds = d :: r ∧ Pd d ∧ Ps r) := fun H c eH f hg hc Q q =>
  h H c eH f hg (by omega) _ fun v F1 H1 d x1 hg1 p1 hv => (hr.mono x1.fx) H1 (c + k) x1.fh x1.fg hg1 (by omega) _ fun vs F2 H2 r x2 hg2 p2 hvs =>
    q _ F2 H2 (d :: r) (x1.trans x2) (by rw [← Nat.add_assoc]; exact hg2) ⟨d, r, rfl, p1, p2⟩ (.cons (dp_ex x2.fx hv) hvs)
theorem dr_tup (h : DaD K g k ta σ F Ps) (hl : ∀ ds, Ps ds → ds.length ≤ 100000) : DrD K g k (tTup ta) σ F (fun d => ∃ ds, d = .tuple ds ∧ Ps ds) := fun H c eH f hg hc Q q =>
  h H c eH f hg hc _ fun vs F1 H1 ds x1 hg1 p1 hvs => ⟨by rw [dps_len hvs]; exact sz_of (hl _ p1), fun p hp => by
    obtain ⟨ga, gs, gn, g3, grest⟩ := hg1
    have pg : p ≠ g := fun z => by rw [z, g3] at hp; exact nomatch hp
    have x2 : Gr F1 H1 (upd F1 p (.tup vs)) (upd H1 p (.tup vs)) := Gr.new x1.fh hp
    have k2 := GrG.of x2 g3 x1.fg
    exact q _ _ _ (.tuple ds) (x1.trans k2.1) ⟨ga, gs, gn, k2.2, grest⟩ ⟨ds, rfl, p1⟩ (.tup (st_of upd_same) (dps_ex (Ex.new (ex_none x1.fh hp)) hvs))⟩
theorem dr_op {r : R2} {Pe : PyData → Prop} (ha : DrD K g k te σ F Pd) (hb : DrD K g j tb σ F Pb)
    (hr : ∀ v u F1 H1 a b, Ex F F1 → Ex F1 H1 → Pd a → Pb b → Dp K F1 v a → Dp K F1 u b → ∀ Q : VK, (∀ x F' H' d, Gr F1 H1 F' H' → Pe d → Dp K F' x d → Q x H') → r v u H1 Q) : DrD K g (k + j) (tOp r te tb) σ F Pe := fun H c eH f hg hc Q q =>
  ha H c eH f hg (by omega) _ fun v F1 H1 d x1 hg1 p1 hv => (hb.mono x1.fx) H1 (c + k) x1.fh x1.fg hg1 (by omega) _ fun u F2 H2 e x2 hg2 p2 hu =>
    hr v u F2 H2 d e (x1.fx.trans x2.fx) x2.fh p1 p2 (dp_ex x2.fx hv) hu Q fun y F3 H3 dd x3 p3 hy => by
      obtain ⟨ga, gs, gn, g3, grest⟩ := hg2
      have k3 := GrG.of x3 g3 x2.fg
      exact q y F3 H3 dd ((x1.trans x2).trans k3.1) ⟨ga, gs, gn, k3.2, by rw [← Nat.add_assoc]; exact grest⟩ p3 hy
/-- a + b, one or both drawn -/
theorem dr_add {m n m' n' : Int} (ha : DrD K g k te σ F fun d => ∃ i : Int, d = .int i ∧ m ≤ i ∧ i < n) (hb : DrD K g j tb σ F fun d => ∃ i : Int, d = .int i ∧ m' ≤ i ∧ i < n') :
    DrD K g (k + j) (tOp (rI0 fun i j => .int (i + j)) te tb) σ F fun d => ∃ i : Int, d = .int i ∧ m + m' ≤ i ∧ i < n + n' - 1 := dr_op ha hb fun v u F1 H1 a b _ e pa pb hv hu Q q => by
  obtain ⟨i, rfl, i0, i1⟩ := pa
  obtain ⟨j, rfl, j0, j1⟩ := pb
  cases hv
  cases hu
  exact ⟨i, j, rfl, rfl, q _ F1 H1 (.int (i + j)) (Gr.refl e) ⟨i + j, rfl, by omega, by omega⟩ (.int _)⟩
theorem dr_call {f : List PyData → PyData → Prop} {E : XK} {Pe : PyData → Prop} (h : DaD K g k ta σ F Ps) (hf : ∀ ds, Ps ds → ∃ d, f ds d ∧ Pe d) : DrD K g k (tCall (spD K f) [] E ta) σ F Pe := fun H c eH f' hg hc Q q =>
  h H c eH f' hg hc _ fun vs F1 H1 ds x1 hg1 p1 hvs => by
    obtain ⟨d, h1, h2⟩ := hf _ p1
    refine ⟨F1, ds, d, x1.fh, by rw [List.append_nil]; exact hvs, h1, fun v F2 H2 x2 hv => ?_⟩
    obtain ⟨ga, gs, gn, g3, grest⟩ := hg1
    have k2 := GrG.of x2 g3 x1.fg
    exact q v F2 H2 d (x1.trans k2.1) ⟨ga, gs, gn, k2.2, grest⟩ h2 hv
/-- xs.append(e), e drawn, xs a list of H alone -/
theorem sr_app {l : Addr} {xs : List V} {i c : Nat} {D : Ends} {H : Hp} (hl : H l = some (.lst xs)) (fl : F l = none) (lg : l ≠ g) (hi : σ[i]? = some (some (.ref l))) (h : DrD K g k te σ F Pd) (e : Ex F H) (f : F g = none) (hg : GenAt H g c) (hc : c + k < 999000) (hz : xs.length < 100000)
    (q : ∀ v F' H' d, GrG g F H F' H' → GenAt (upd H' l (.lst (xs ++ [v]))) g (c + k) → Pd d → Dp K F' v d → F' l = none → H' l = some (.lst xs) → D.nx σ (upd H' l (.lst (xs ++ [v])))) : tDrop (tBM K "list" rAppend (tVar i) (tCons te tNil)) D σ H :=
  ⟨_, hi, Or.inl ⟨rfl, xs, sq_of hl⟩, h H c e f hg hc _ fun v F' H' d x hg' p hv => ⟨l, xs, v, rfl, rfl, (x.keep hl fl lg).1, sz_lt hz, q v F' H' d x (by
    obtain ⟨ga, gs, gn, g3, grest⟩ := hg'
    exact ⟨ga, gs, gn, by unfold G3; rw [upd_ne (Ne.symm lg)]; exact g3, grest⟩) p hv (x.keep hl fl lg).2 (x.keep hl fl lg).1⟩⟩
/-- the sides of a recipe -/
theorem dr_sides {E : XK} {i j : Nat} {names : List Str} {v : V} (hi : σ[i]? = some (some (.ref g))) (hj : σ[j]? = some (some v)) (hv : Dp K F v (.list (names.map .str))) :
    DrD K g names.length (tCall (spSides K) [] E (tCons (tVar i) (tCons (tVar j) (tCons (tC (.int 2)) tNil)))) σ F fun d => ∃ s, SideOk names s ∧ d = .list (s.map encPart) := fun H c eH f hg hc Q q =>
  ⟨_, hi, _, hj, F, g, c, v, names, rfl, eH, f, hg, hc, hv, fun x F' H' s x1 hg1 so hd => q x F' H' _ x1 hg1 ⟨s, so, rfl⟩ hd⟩
end
end R3

set_option Elab.async false
set_option linter.all false
set_option maxRecDepth 100000
set_option maxHeartbeats 4000000
namespace R3
open PySem PySem.Spec PyProof.Rows L2 Evl Dv

abbrev RecD := Str × List (Str × Int) × List (Str × Int)
structure Drawn (m : MillD) (wide many : Nat) : Prop where
  st : ∃ rs : List (Option Int), rs.length = wide ∧ (∀ r ∈ rs, r ∈ [none, some 1, some 2, some 3, some 0]) ∧ m.stuffs = stuffsOf rs
  rl : m.recipes.length = many
  rn : m.recipes.map (·.1) = (List.range many).map (chr "rstu")
  ro : ∀ r ∈ m.recipes, SideOk m.names r.2.1 ∧ SideOk m.names r.2.2
def encPartsT (m : MillD) : PyData := .tuple [.list (m.stuffs.map encStuff), .list (m.recipes.map encRecipe)]
def spMillDrawn (K : PySem.W.Frag) : Sp := fun vs H Q _ => ∃ (F : Hp) (g : Addr) (c wide many : Nat), vs = [.ref g, .int wide, .int many] ∧ 1 ≤ wide ∧ wide ≤ 3 ∧ many ≤ 3 ∧ Ex F H ∧ F g = none ∧ GenAt H g c ∧ c < 990000 ∧
  ∀ x F' H' m, GrG g F H F' H' → GenAt H' g (c + 21) → Drawn m wide many → Dp K F' x (encPartsT m) → Q x H'
section
variable {P : Program} {w : World} {K : PySem.W.Frag} {mg : Str → Option Value} {base : Heap}
theorem asg_of {te : TE} {σ : L2.St} {H : Hp} {i : Nat} {D : Ends} (h : te σ H fun v H' => D.nx (σ.set i (some v)) H') : tAsg te (gName i) D σ H := h
theorem GenAt.upd {H : Hp} {g p : Addr} {c : Nat} {o : HO} (h : GenAt H g c) (n : p ≠ g) : GenAt (upd H p o) g c := by
  obtain ⟨a, s, k, h3, r⟩ := h
  exact ⟨a, s, k, by unfold G3; rw [upd_ne (Ne.symm n)]; exact h3, r⟩
theorem GenAt.of {H H' F F' : Hp} {g : Addr} {c : Nat} (h : GenAt H g c) (x : Gr F H F' H') (f : F g = none) : GrG g F H F' H' ∧ GenAt H' g c := by
  obtain ⟨a, s, k, h3, r⟩ := h
  have z := GrG.of x h3 f
  exact ⟨z.1, a, s, k, z.2, r⟩
theorem GenAt.ne {H : Hp} {g p : Addr} {c : Nat} (h : GenAt H g c) (hp : H p = none) : p ≠ g := by
  obtain ⟨a, s, k, h3, r⟩ := h
  exact fun z => by rw [z, h3] at hp; exact nomatch hp
theorem sc__law_mill_drawn : FnScope (["generator", "wide", "many", "rooms", "at", "stuffs", "names", "recipes", "name", "room", "takes", "gives"] : List Str) (["generator", "wide", "many"] : List Str) (defScope sLawMillDrawn) := ⟨rfl, rfl, rfl, by decide +kernel, rfl, by decide +kernel, by decide +kernel⟩
theorem ok_law_mill_drawn (D : Def K mg "_law_mill_drawn" sLawMillDrawn ["generator", "wide", "many"]) (B : Bl mg) (C__law_random : Cal P w K mg base "_law_random" ["generator", "bound"] 2 spRandom) (C__law_parts_drawn : Cal P w K mg base "_law_parts_drawn" ["generator", "stuffs", "most"] 3 (spSides K)) : Cal P w K mg base "_law_mill_drawn" ["generator", "wide", "many"] 4 (spMillDrawn K) := by
  refine cal_mk D sc__law_mill_drawn (fun vs H Q E h => ?_) (fun f cdv A outer s H vs Q E hr h => ?_)
  · obtain ⟨F, g, c, a, b, rfl, _⟩ := h
    rfl
  obtain ⟨F, g, c, wide, many, rfl, w1, w2, m2, e, fg, hg, hc, q⟩ := h
  refine ⟨_, (pss_cons (ps_set (i := 3) sc__law_mill_drawn.nd rfl (.inr rfl) (pe_lc (own := [("at", 4)]) (g := gName 4) rfl sc__law_mill_drawn.nd (pi_range1 rfl B.range (pa_cons (pv 1) pa_nil)) (blkOk_by (own := [("at", 4)]) (N := ["generator", "wide", "many", "rooms", "at", "stuffs", "names", "recipes", "name", "room", "takes", "gives"]) (sc := defScope sLawMillDrawn) (by decide +kernel)) (fun _ _ _ _ _ => (pg_name (i := 4) sc__law_mill_drawn.nd rfl (.inl rfl)))  (fun _ _ _ _ _ => pts_nil) (fun _ _ _ _ _ => (pe_ix (r := rIxL K) ix_list (pe_lst (pa_cons pe_non (pa_cons pe_non (pa_cons pe_int (pa_cons pe_int (pa_cons pe_int (pa_cons pe_int pa_nil))))))) (pe_callC C__law_random hr (pa_cons (pv 0) (pa_cons pe_int pa_nil))) (fun _ _ => rfl)))))
      (pss_cons (ps_setLc (i := 5) (own := [("at", 4)]) (g := gName 4) rfl sc__law_mill_drawn.nd rfl rfl rfl (pi_range1 rfl B.range (pa_cons (pv 1) pa_nil)) (blkOk_by (own := [("at", 4)]) (N := ["generator", "wide", "many", "rooms", "at", "stuffs", "names", "recipes", "name", "room", "takes", "gives"]) (sc := defScope sLawMillDrawn) (by decide +kernel)) (fun _ _ _ _ _ => (pg_name (i := 4) sc__law_mill_drawn.nd rfl (.inl rfl)))  (fun _ _ _ _ _ => pts_nil) (fun _ _ _ _ _ => (pe_tup (pa_cons (pe_ix ix_str pe_str (pv 4) (fun _ _ => rfl)) (pa_cons (pe_ix (r := rIxL K) ix_list (pv 3) (pv 4) (fun _ _ => rfl)) pa_nil)))))
      (pss_cons (ps_par (i := 6) (j := 7) (by rfl) sc__law_mill_drawn.nd rfl rfl (by decide) rfl rfl (pa_cons (pe_lc (own := [("name", 8), ("room", 9)]) (g := gTup K 2 (gCons (gName 8) (gCons (gName 9) gNil))) rfl sc__law_mill_drawn.nd (pi_list (pv 5)) (blkOk_by (own := [("name", 8), ("room", 9)]) (N := ["generator", "wide", "many", "rooms", "at", "stuffs", "names", "recipes", "name", "room", "takes", "gives"]) (sc := defScope sLawMillDrawn) (by decide +kernel)) (fun _ _ _ _ _ => (pg_tup (by rfl) (pgs_cons (pg_name (i := 8) sc__law_mill_drawn.nd rfl (.inl rfl)) (pgs_cons (pg_name (i := 9) sc__law_mill_drawn.nd rfl (.inl rfl)) pgs_nil))))  (fun _ _ _ _ _ => pts_nil) (fun _ _ _ _ _ => (pv 8))) (pa_cons (pe_lst pa_nil) pa_nil)) (by rfl))
      (pss_cons (ps_for PassesOwn.never rfl (pi_range1 rfl B.range (pa_cons (pv 2) pa_nil)) (pg_name (i := 4) sc__law_mill_drawn.nd rfl (.inl rfl)) (pss_cons (ps_par (i := 10) (j := 11) (by rfl) sc__law_mill_drawn.nd rfl rfl (by decide) rfl rfl (pa_cons (pe_callC C__law_parts_drawn hr (pa_cons (pv 0) (pa_cons (pv 6) (pa_cons pe_int pa_nil)))) (pa_cons (pe_callC C__law_parts_drawn hr (pa_cons (pv 0) (pa_cons (pv 6) (pa_cons pe_int pa_nil)))) pa_nil)) (by rfl))
      (pss_one (ps_expr (pe_bm PySem.F.plainAttrs_list PySem.F.slot_list_append PySem.F.type_list_append mt_append (pv 7) (pa_cons (pe_tup (pa_cons (pe_ix ix_str pe_str (pv 4) (fun _ _ => rfl)) (pa_cons (pv 10) (pa_cons (pv 11) pa_nil)))) pa_nil))))))
      (pss_one (ps_ret (pe_tup (pa_cons (pv 5) (pa_cons (pv 7) pa_nil))))))))), ?_⟩
  have st : start ["generator", "wide", "many", "rooms", "at", "stuffs", "names", "recipes", "name", "room", "takes", "gives"] [.ref g, .int wide, .int many] = [some (.ref g), some (.int wide), some (.int many), none, none, none, none, none, none, none, none, none] := rfl
  rw [st]
  have rl : (List.range ((wide : Int)).toNat).length = wide := by rw [List.length_range]; rfl
  refine asg_of (dr_lc (K := K) (F := F) (g0 := g) (c := c) (Pd := fun d => d ∈ [PyData.none, .none, .int 1, .int 2, .int 3, .int 0]) (List.range ((wide : Int)).toNat) (fun i : Nat => PyData.int (i : Int)) (it_rng1 (σ := [some (.ref g), some (.int wide), some (.int many), none, none, none, none, none, none, none, none, none]) (Dv.ea_cons (Dv.ev_var (i := 1) rfl (.int (wide : Int))) Dv.ea_nil) (by omega) (by omega)) (by omega) (fun x hx v F1 e1 hv => ?_) e fg hg (by omega) (fun p1 ws1 F1 H1 ds1 k1 hg1 hp1 f1 n1 h1 l1 a1 d1 => ?_))
  · exact ⟨[some (.ref g), some (.int wide), some (.int many), none, some v, none, none, none, none, none, none, none], fun H e Q q => q, rfl, fun H e Q q => q F1 H (Gr.refl e), dr_ixL (ds := [.none, .none, .int 1, .int 2, .int 3, .int 0]) (EvL.ev (Dv.el_lst (Dv.ea_cons Dv.ev_non (Dv.ea_cons Dv.ev_non (Dv.ea_cons (Dv.ev_int 1) (Dv.ea_cons (Dv.ev_int 2) (Dv.ea_cons (Dv.ev_int 3) (Dv.ea_cons (Dv.ev_int 0) Dv.ea_nil)))))) (by simp))) (fun F3 _ => dr_random (i := 0) rfl (by decide) (by decide) (by decide +kernel))⟩
  rw [rl] at l1 hg1
  obtain ⟨rs, rfl, hrs⟩ := rooms_of a1
  rw [List.length_map] at l1
  have x1 := k1.take hp1 f1 n1 h1
  have dr : Dp K (upd F1 p1 (.lst ws1)) (.ref p1) (.list (rs.map encRoom)) := .lst (SqL.of upd_same) (dps_ex (Ex.new f1) d1)
  generalize upd F1 p1 (.lst ws1) = F1' at *
  have ew : (((List.range ((wide : Int)).toNat).filter fun _ => true).map fun i : Nat => encStuff (chr "abcd" i, rs[i]?.getD none)) = (stuffsOf rs).map encStuff := by
    rw [filt_true]
    unfold stuffsOf
    rw [l1, List.map_map] <;> rfl
  have lcS := lc_rule (K := K) (F := F1') (wi := iRng1 (tCons (tVar 1) tNil)) (g := gName 4) (tt := tYes) (te := tTup (tCons (tOp rIxS (tC (.str "abcd")) (tVar 4)) (tCons (tOp (rIxL K) (tVar 3) (tVar 4)) tNil))) (vs := [4]) (σ := [some (.ref g), some (.int wide), some (.int many), some (.ref p1), none, none, none, none, none, none, none, none])
    (List.range ((wide : Int)).toNat) (fun i : Nat => PyData.int (i : Int)) (fun i : Nat => encStuff (chr "abcd" i, rs[i]?.getD none)) (fun _ => true) (it_rng1 (Dv.ea_cons (Dv.ev_var (i := 1) rfl (.int (wide : Int))) Dv.ea_nil) (by omega) (by omega)) (by omega) (fun x hx v F1 e1 hv => by
      have hx3 : x < wide := by
        have := List.mem_range.mp hx
        omega
      refine ⟨[some (.ref g), some (.int wide), some (.int many), some (.ref p1), some v, none, none, none, none, none, none, none], fun H e Q q => q, rfl, fun H e Q q => q F1 H (Gr.refl e), fun _ => ?_⟩
      have hr : (rs.map encRoom)[x]? = some (encRoom (rs[x]?.getD none)) := by
        rw [List.getElem?_map, List.getElem?_eq_getElem (by omega)] <;> rfl
      refine Dv.ev_tup (Dv.ea_cons (Dv.ev_ixS (x := ("abcd" : Str)) (c := (("abcd" : Str).cps.toList)[x]?.getD 0) (Dv.ev_str _) (Dv.ev_var rfl hv) (by decide +kernel) ?_) (Dv.ea_cons (Dv.ev_ixL (Dv.ev_var (i := 3) rfl (dp_ex e1 dr)) (Dv.ev_var rfl hv) (atI_nat hr)) Dv.ea_nil)) (by simp)
      have h4 : x < (("abcd" : Str).cps.toList).length := Nat.lt_of_lt_of_le (show x < 4 by omega) (by decide +kernel)
      exact atI_nat (by rw [List.getElem?_eq_getElem h4] <;> rfl))
  rw [ew] at lcS
  dsimp only
  show tSeq _ _ _ [some (.ref g), some (.int wide), some (.int many), some (.ref p1), none, none, none, none, none, none, none, none] H1
  refine seq_of (Dv.s_asg (K := K) (EvL.ev lcS) x1.fh fun sv F2 H2 g2 hsv => ?_)
  have k2 := hg1.of g2 x1.fg
  dsimp only
  show tSeq _ _ _ [some (.ref g), some (.int wide), some (.int many), some (.ref p1), none, some sv, none, none, none, none, none, none] H2
  have ln : (stuffsOf rs).length = wide := by unfold stuffsOf; rw [List.length_map, List.length_range, l1]
  have lcN := lc_rule (K := K) (F := F2) (te := tVar 8) (vs := [8, 9]) (tt := tYes) (g := gTup K 2 (gCons (gName 8) (gCons (gName 9) gNil))) (σ := [some (.ref g), some (.int wide), some (.int many), some (.ref p1), none, some sv, none, none, none, none, none, none]) (stuffsOf rs) encStuff (fun z => PyData.str z.1) (fun _ => true) (it_list (Dv.ev_var (i := 5) rfl hsv)) (by omega)
    (fun z hz v F4 e4 hv4 => by
      obtain ⟨y1, y2, hy1, hy2, ht⟩ := tup2 hv4
      exact ⟨[some (.ref g), some (.int wide), some (.int many), some (.ref p1), none, some sv, none, none, some y1, some y2, none, none], fun H e Q q => ht 8 9 _ H e _ q, rfl, fun H e Q q => q F4 H (Gr.refl e), fun _ => Dv.ev_var (i := 8) rfl hy1⟩)
  rw [filt_true] at lcN
  refine seq_of (par_of2 ((EvL.ev lcN) H2 g2.fh _ fun nv F3 H3 g3 hnv => ?_))
  have k3 := k2.2.of g3 k2.1.fg
  refine (Dv.el_lst (K := K) Dv.ea_nil (by simp)) H3 g3.fh _ fun p vs0 F4 H4 g4 p1n p2 p3 p4 => ?_
  cases p4
  have k4 := k3.2.of g4 k3.1.fg
  have pg : p ≠ g := k3.2.ne p1n
  refine ⟨_, _, rfl, ?_⟩
  dsimp only
  show tSeq _ _ _ [some (.ref g), some (.int wide), some (.int many), some (.ref p1), none, some sv, some nv, some (.ref p), none, none, none, none] H4
  have k14 := ((x1.trans k2.1).trans k3.1).trans k4.1
  have pH : H p = none := er_ne (H := H) pg ▸ ex_none (Gr.hx ((x1.trans k2.1).trans k3.1)) (by rw [er_ne pg]; exact p1n)
  obtain ⟨names, hnames⟩ : ∃ names, names = (stuffsOf rs).map (·.1) := ⟨_, rfl⟩
  have hnv' : Dp K F4 nv (.list (names.map .str)) := by rw [hnames, List.map_map]; exact dp_ex g4.fx hnv
  have lnm : names.length = wide := by rw [hnames, List.length_map, ln]
  refine seq_of (Dv.s_for (K := K) (F := F4) (it_rng1 (σ := [some (.ref g), some (.int wide), some (.int many), some (.ref p1), none, some sv, some nv, some (.ref p), none, none, none, none]) (Dv.ea_cons (Dv.ev_var (i := 2) rfl (.int (many : Int))) Dv.ea_nil) (by omega) (by omega)) k14.fh
    (fun n σ' F' H' => (∃ y z1 z2, σ' = [some (.ref g), some (.int wide), some (.int many), some (.ref p1), y, some sv, some nv, some (.ref p), none, none, z1, z2]) ∧ GrG g F H F' H' ∧ Ex F4 F' ∧ GenAt H' g (c + 3 + 6 * n) ∧ F' p = none ∧ ∃ (vs : List V) (rc : List RecD), H' p = some (.lst vs) ∧ DpAll K F' vs (rc.map encRecipe) ∧ rc.map (·.1) = (List.range n).map (chr "rstu") ∧ ∀ r ∈ rc, SideOk names r.2.1 ∧ SideOk names r.2.2)
    (fun F' H' g5 => ?_) ?_ (fun σ' F' H' e1 e2 pv => ?_))
  · have k5 := k4.2.of g5 k4.1.fg
    have kp5 := g5.keep p3 p2
    exact ⟨⟨none, none, none, rfl⟩, k14.trans k5.1, g5.fx, k5.2.mono (by omega), kp5.2, [], [], kp5.1, .nil, rfl, fun r hr => nomatch hr⟩
  · intro Fb eb n σ' F' H' av d F5 H5 hd' e1 e2 pv g5 hav
    obtain ⟨⟨y, z1, z2, rfl⟩, kk, e4', hg5, fp, vs, rc, hp, hds, hrn, hso⟩ := pv
    have k5 := hg5.of g5 kk.fg
    have kp5 := g5.keep hp fp
    obtain ⟨hn, hdn⟩ := List.getElem?_eq_some_iff.mp hd'
    rw [List.length_map, List.length_range] at hn
    have hdn' : d = .int (n : Int) := by rw [← hdn, List.getElem_map, List.getElem_range]
    subst hdn'
    have hn3 : n < many := by omega
    have rl2 : rc.length = n := by
      have := congrArg List.length hrn
      rwa [List.length_map, List.length_map, List.length_range] at this
    have vl : vs.length = n := by rw [dps_len hds, List.length_map, rl2]
    have h4 : n < (("rstu" : Str).cps.toList).length := Nat.lt_of_lt_of_le (show n < 4 by omega) (by decide +kernel)
    have nv5 := dp_ex (e4'.trans g5.fx) hnv'
    show tSeq _ _ _ [some (.ref g), some (.int wide), some (.int many), some (.ref p1), some av, some sv, some nv, some (.ref p), none, none, z1, z2] H5
    refine seq_of (par_of2 (dr_sides (K := K) (E := E0) (σ := [some (.ref g), some (.int wide), some (.int many), some (.ref p1), some av, some sv, some nv, some (.ref p), none, none, z1, z2]) (i := 0) (j := 6) rfl rfl nv5 H5 (c + 3 + 6 * n) g5.fh k5.1.fg k5.2 (by omega) _ fun tv F6 H6 td k6 hg6 ptd htv => ?_))
    obtain ⟨s1, so1, rfl⟩ := ptd
    refine dr_sides (K := K) (E := E0) (σ := [some (.ref g), some (.int wide), some (.int many), some (.ref p1), some av, some sv, some nv, some (.ref p), none, none, z1, z2]) (i := 0) (j := 6) rfl rfl (dp_ex k6.fx nv5) H6 _ k6.fh k6.fg hg6 (by omega) _ fun gv F7 H7 gd k7 hg7 pgd hgv => ?_
    obtain ⟨s2, so2, rfl⟩ := pgd
    refine ⟨_, _, rfl, ?_⟩
    dsimp only
    show tDrop _ _ [some (.ref g), some (.int wide), some (.int many), some (.ref p1), some av, some sv, some nv, some (.ref p), none, none, some tv, some gv] H7
    have kp7 := (k6.trans k7).keep kp5.1 kp5.2 pg
    have t1 := Dv.ev_ixS (K := K) (F := F7) (σ := [some (.ref g), some (.int wide), some (.int many), some (.ref p1), some av, some sv, some nv, some (.ref p), none, none, some tv, some gv]) (x := ("rstu" : Str)) (c := (("rstu" : Str).cps.toList)[n]?.getD 0) (Dv.ev_str _) (Dv.ev_var (i := 4) rfl (dp_ex (k6.trans k7).fx hav)) (by decide +kernel) (atI_nat (by rw [List.getElem?_eq_getElem h4] <;> rfl))
    have tr : EvD K (tTup (tCons (tOp rIxS (tC (.str "rstu")) (tVar 4)) (tCons (tVar 10) (tCons (tVar 11) tNil)))) [some (.ref g), some (.int wide), some (.int many), some (.ref p1), some av, some sv, some nv, some (.ref p), none, none, some tv, some gv] F7 (encRecipe (chr "rstu" n, s1, s2)) :=
      Dv.ev_tup (Dv.ea_cons t1 (Dv.ea_cons (Dv.ev_var rfl (dp_ex k7.fx htv)) (Dv.ea_cons (Dv.ev_var rfl hgv) Dv.ea_nil))) (by simp)
    refine Dv.s_app (K := K) (F := F7) (l := p) (xs := vs) (i := 7) kp7.1 kp7.2 rfl tr k7.fh (by omega) fun v2 F8 H8 g8 hv8 f8 h8 => ?_
    have k8 := hg7.of g8 k7.fg
    have ka := (((kk.trans k5.1).trans k6).trans k7).trans k8.1
    have xx : Ex F' F8 := (g5.fx.trans (k6.trans k7).fx).trans g8.fx
    refine ⟨F8, e1.trans xx, Ex.mut k8.1.fh f8, ⟨_, _, _, rfl⟩, ka.mut pH f8 pg, e4'.trans xx, (k8.2.upd pg).mono (by omega), f8, _, rc ++ [(chr "rstu" n, s1, s2)], upd_same, ?_, ?_, fun r hr => ?_⟩
    · rw [List.map_append]
      exact dps_app (dps_ex xx hds) (.cons hv8 .nil)
    · rw [List.map_append, hrn, List.range_succ, List.map_append] <;> rfl
    · rcases List.mem_append.mp hr with h | h
      · exact hso r h
      · rw [List.mem_singleton.mp h]
        exact ⟨so1, so2⟩
  · obtain ⟨⟨y, z1, z2, rfl⟩, kk, e4', hg5, fp, vs, rc, hp, hds, hrn, hso⟩ := pv
    rw [List.length_map, List.length_range] at hg5 hrn
    have em : ((many : Int)).toNat = many := rfl
    rw [em] at hg5 hrn
    have kt := kk.take pH fp pg hp
    have lr : rc.length = many := by
      have := congrArg List.length hrn
      rwa [List.length_map, List.length_map, List.length_range] at this
    have hrec : Dp K (upd F' p (.lst vs)) (.ref p) (.list (rc.map encRecipe)) := .lst (SqL.of upd_same) (dps_ex (Ex.new fp) hds)
    have tr : EvD K (tTup (tCons (tVar 5) (tCons (tVar 7) tNil))) [some (.ref g), some (.int wide), some (.int many), some (.ref p1), y, some sv, some nv, some (.ref p), none, none, z1, z2] (upd F' p (.lst vs)) (encPartsT ⟨stuffsOf rs, rc⟩) :=
      Dv.ev_tup (Dv.ea_cons (Dv.ev_var rfl (dp_ex ((g3.fx.trans g4.fx).trans (e4'.trans (Ex.new fp))) hsv)) (Dv.ea_cons (Dv.ev_var rfl hrec) Dv.ea_nil)) (by simp)
    refine tr H' kt.fh _ fun x F7 H7 g7 hx => ?_
    have k7 := hg5.of g7 kt.fg
    exact q x F7 H7 ⟨stuffsOf rs, rc⟩ (kt.trans k7.1) (k7.2.mono (by omega)) ⟨⟨rs, l1, hrs, rfl⟩, lr, hrn, fun r hr => by
      have := hso r hr
      rw [hnames] at this
      exact this⟩ hx
end
end R3

set_option Elab.async false
set_option linter.all false
set_option maxRecDepth 100000
set_option maxHeartbeats 4000000
namespace R3
open PySem PySem.Spec PyProof.Rows L2 Evl Dv
theorem chr_cad {i : Nat} (h : i < 3) : chr "abcd" i = "a" ∨ chr "abcd" i = "b" ∨ chr "abcd" i = "c" := by
  match i, h with
  | 0, _ => exact .inl (by decide +kernel)
  | 1, _ => exact .inr (.inl (by decide +kernel))
  | 2, _ => exact .inr (.inr (by decide +kernel))
theorem chr_sru {i : Nat} (h : i < 3) : chr "rstu" i = "r" ∨ chr "rstu" i = "s" ∨ chr "rstu" i = "t" := by
  match i, h with
  | 0, _ => exact .inl (by decide +kernel)
  | 1, _ => exact .inr (.inl (by decide +kernel))
  | 2, _ => exact .inr (.inr (by decide +kernel))
theorem range_names {s : Str} {n : Nat} {x : Str} (h : x ∈ (List.range n).map (chr s)) : ∃ i, i < n ∧ x = chr s i := by
  obtain ⟨i, hi, rfl⟩ := List.mem_map.mp h
  exact ⟨i, List.mem_range.mp hi, rfl⟩
theorem nd_cad {n : Nat} (h : n ≤ 3) : ((List.range n).map (chr "abcd")).Nodup := by
  match n, h with
  | 0, _ => decide +kernel
  | 1, _ => decide +kernel
  | 2, _ => decide +kernel
  | 3, _ => decide +kernel
theorem nd_sru {n : Nat} (h : n ≤ 3) : ((List.range n).map (chr "rstu")).Nodup := by
  match n, h with
  | 0, _ => decide +kernel
  | 1, _ => decide +kernel
  | 2, _ => decide +kernel
  | 3, _ => decide +kernel
theorem Drawn.names {m : MillD} {wide many : Nat} (d : Drawn m wide many) : m.names = (List.range wide).map (chr "abcd") := by
  obtain ⟨rs, h1, h2, h3⟩ := d.st
  unfold MillD.names
  rw [h3]
  unfold stuffsOf
  rw [List.map_map, h1]
  rfl
theorem Drawn.slen {m : MillD} {wide many : Nat} (d : Drawn m wide many) : m.stuffs.length = wide := by
  have := congrArg List.length d.names
  unfold MillD.names at this
  rwa [List.length_map, List.length_map, List.length_range] at this
theorem name_ok {x : Str} (h : x = "a" ∨ x = "b" ∨ x = "c" ∨ x = "r" ∨ x = "s" ∨ x = "t") : nameS x = true ∧ gd (.str x) = true := by
  rcases h with rfl | rfl | rfl | rfl | rfl | rfl <;> exact ⟨by decide +kernel, by decide +kernel⟩
theorem in_names {m : MillD} {wide many : Nat} (d : Drawn m wide many) (w : wide ≤ 3) {x : Str} (h : x ∈ m.names) : nameS x = true ∧ gd (.str x) = true := by
  rw [d.names] at h
  obtain ⟨i, hi, rfl⟩ := range_names h
  rcases chr_cad (i := i) (by omega) with e | e | e <;> rw [e] <;> exact name_ok (by simp)
theorem gds_nil : gds [] = true := by rw [gds]
theorem gds_cons (x : PyData) (xs : List PyData) : gds (x :: xs) = (gd x && gds xs) := by rw [gds]
theorem gd_int (k : Int) : gd (.int k) = true := by simp [gd]
theorem gd_tuple (xs : List PyData) : gd (.tuple xs) = (decide (xs.length ≤ 30000) && gds xs) := by rw [gd]
theorem gd_lst (xs : List PyData) : gd (.list xs) = (decide (xs.length ≤ 30000) && gds xs) := by rw [gd]
theorem part_is {x : Str} {k : Int} (h : nameS x = true ∧ gd (.str x) = true) (h1 : 1 ≤ k) (h3 : k ≤ 3) : partOk (encPart (x, k)) = true ∧ gd (encPart (x, k)) = true := by
  constructor
  · show (nameS x && isNum (.int k) 1) = true
    rw [h.1]
    show (true && (isWhole (.int k) && (decide (1 ≤ k) && decide (k ≤ 1000000)))) = true
    rw [decide_eq_true h1, decide_eq_true (show k ≤ 1000000 by omega)]
    rfl
  · show gd (.tuple [PyData.str x, PyData.int k]) = true
    rw [gd_tuple, gds_cons, gds_cons, gds_nil, gd_int, h.2]
    rfl
theorem side_is {m : MillD} {wide many : Nat} (d : Drawn m wide many) (w : wide ≤ 3) {s : List (Str × Int)} (h : SideOk m.names s) : areParts m.names (.list (s.map encPart)) = true ∧ gd (.list (s.map encPart)) = true := by
  have hin : ∀ p ∈ s, p.1 ∈ m.names := fun p hp => h.sub.subset (List.mem_map.mpr ⟨p, hp, rfl⟩)
  have hp : ∀ p ∈ s, partOk (encPart p) = true ∧ gd (encPart p) = true := fun p hp => part_is (in_names d w (hin p hp)) (h.num p hp).1 (h.num p hp).2
  have nd : (s.map (·.1)).Nodup := h.sub.nodup (by rw [d.names]; exact nd_cad w)
  match s, h.few, hin, hp, nd with
  | [], _, _, _, _ => exact ⟨rfl, by decide +kernel⟩
  | [a], _, hin, hp, nd =>
    have ha := hp a (List.mem_singleton.mpr rfl)
    constructor
    · show (partOk (encPart a) && decide (a.1 ∈ m.names) && !decide (a.1 ∈ ([] : List Str)) && true) = true
      rw [ha.1, decide_eq_true (hin a (List.mem_singleton.mpr rfl))]
      rfl
    · show gd (.list [encPart a]) = true
      rw [gd_lst, gds_cons, gds_nil, ha.2]
      rfl
  | [a, b], _, hin, hp, nd =>
    have ma : a ∈ [a, b] := List.mem_cons_self ..
    have mb : b ∈ [a, b] := List.mem_cons_of_mem _ (List.mem_cons_self ..)
    have ha := hp a ma
    have hb := hp b mb
    have ne : ¬ b.1 ∈ [a.1] := fun e => (List.nodup_cons.mp nd).1 (List.mem_cons.mpr (.inl (List.mem_singleton.mp e).symm))
    constructor
    · show (partOk (encPart a) && decide (a.1 ∈ m.names) && !decide (a.1 ∈ ([] : List Str)) && (partOk (encPart b) && decide (b.1 ∈ m.names) && !decide (b.1 ∈ [a.1]) && true)) = true
      rw [ha.1, hb.1, decide_eq_true (hin a ma), decide_eq_true (hin b mb), decide_eq_false ne]
      rfl
    · show gd (.list [encPart a, encPart b]) = true
      rw [gd_lst, gds_cons, gds_cons, gds_nil, ha.2, hb.2]
      rfl
theorem Drawn.ok {m : MillD} {wide many : Nat} (d : Drawn m wide many) (w1 : 1 ≤ wide) (w : wide ≤ 3) (mm : many ≤ 3) : m.Ok := by
  refine ⟨by rw [d.slen]; exact w1, by rw [d.slen]; omega, by rw [d.names]; exact nd_cad w, fun z hz => ?_, by rw [d.rl]; omega, by rw [d.rn]; exact nd_sru mm, fun z hz => ?_⟩
  · have hn := in_names d w (List.mem_map.mpr ⟨z, hz, rfl⟩ : z.1 ∈ m.names)
    obtain ⟨rs, h1, h2, h3⟩ := d.st
    have hr : z.2 ∈ [none, some 1, some 2, some 3, some 0] := by
      rw [h3] at hz
      unfold stuffsOf at hz
      obtain ⟨i, hi, rfl⟩ := List.mem_map.mp hz
      have hi' := List.mem_range.mp hi
      show rs[i]?.getD none ∈ _
      rw [List.getElem?_eq_getElem hi']
      exact h2 _ (List.getElem_mem hi')
    obtain ⟨x, r⟩ := z
    have hr' : gd (encRoom r) = true ∧ (nonB (encRoom r) || isNum (encRoom r) 0) = true := by
      simp only [List.mem_cons, List.not_mem_nil, or_false] at hr
      rcases hr with rfl | rfl | rfl | rfl | rfl <;> exact ⟨by decide +kernel, by decide +kernel⟩
    constructor
    · show gd (.tuple [.str x, encRoom r]) = true
      rw [gd_tuple, gds_cons, gds_cons, gds_nil, hr'.1, hn.2]
      rfl
    · show (nameS x && (nonB (encRoom r) || isNum (encRoom r) 0)) = true
      rw [hn.1, hr'.2]
      rfl
  · obtain ⟨s1, s2⟩ := d.ro z hz
    have a1 := side_is d w s1
    have a2 := side_is d w s2
    have hn : nameS z.1 = true ∧ gd (.str z.1) = true := by
      have : z.1 ∈ m.recipes.map (·.1) := List.mem_map.mpr ⟨z, hz, rfl⟩
      rw [d.rn] at this
      obtain ⟨i, hi, e⟩ := range_names this
      rw [e]
      rcases chr_sru (i := i) (by omega) with e | e | e <;> rw [e] <;> exact name_ok (by simp)
    constructor
    · show gd (.tuple [.str z.1, .list (z.2.1.map encPart), .list (z.2.2.map encPart)]) = true
      rw [gd_tuple, gds_cons, gds_cons, gds_cons, gds_nil, a1.2, a2.2, hn.2]
      rfl
    · show (nameS z.1 && areParts m.names (.list (z.2.1.map encPart)) && areParts m.names (.list (z.2.2.map encPart))) = true
      rw [hn.1, a1.1, a2.1]
      rfl
theorem Drawn.titles {m : MillD} {wide many : Nat} (d : Drawn m wide many) : m.titles = (List.range many).map (chr "rstu") := d.rn
theorem Drawn.rooms {m : MillD} {wide many : Nat} (d : Drawn m wide many) : ∀ z ∈ m.stuffs, ∀ r, z.2 = some r → 0 ≤ r ∧ r ≤ 3 := by
  intro z hz r hr
  obtain ⟨rs, h1, h2, h3⟩ := d.st
  rw [h3] at hz
  unfold stuffsOf at hz
  obtain ⟨i, hi, rfl⟩ := List.mem_map.mp hz
  have hi' := List.mem_range.mp hi
  have hr2 : rs[i]?.getD none ∈ [none, some 1, some 2, some 3, some (0 : Int)] := by
    rw [List.getElem?_eq_getElem hi']
    exact h2 _ (List.getElem_mem hi')
  have hr3 : rs[i]?.getD none = some r := hr
  rw [hr3] at hr2
  simp only [List.mem_cons, List.not_mem_nil, or_false, Option.some.injEq, reduceCtorEq, false_or] at hr2
  omega
theorem title_rst {m : MillD} {wide many : Nat} (d : Drawn m wide many) (mm : many ≤ 3) {x : Str} (h : x ∈ m.titles) : x = "r" ∨ x = "s" ∨ x = "t" := by
  rw [d.titles] at h
  obtain ⟨i, hi, rfl⟩ := range_names h
  exact chr_sru (by omega)
end R3

set_option Elab.async false
set_option linter.all false
set_option maxRecDepth 100000
set_option maxHeartbeats 4000000
/-! GENERAL: try: .. except X as n: suite, where the suite keeps the error (caught = n): behind it the error stands in H. -/
namespace L2
open PySem PySem.Spec PyProof.Rows
/-- an exception object of the class at C, its own dict at d, at a, raised or not -/
def ExJ (C d a : Addr) : HO := .ext fun h => ∃ oe vs, h.get? a = some oe ∧ oe.cls = .ref C ∧ oe.dict = some d ∧ oe.data = .fields vs
theorem exJ_ok {P : Program} {w : World} {H : Hp} {h : Heap} {C d a : Addr} {oe : Obj} {vs : Array Value} (e : h.get? a = some oe) (hz : Zc (.ref C) (some d) oe) (hd : oe.data = .fields vs) : ObjOk P w H h a (ExJ C d a) :=
  ⟨⟨oe, vs, e, hz.1, hz.2, hd⟩, ⟨_, e⟩, fun _ _ ⟨o, v, q, r⟩ k => ⟨o, v, k _ q, r⟩⟩
theorem Un.lay {fs ex : List Addr} {H H' : Hp} {h h' : Heap} {a : Addr} {o : HO} (u : Un fs ex H H' h h') (h0 : h.get? a = none) (hn : H' a = none) : Un fs ex H (upd H' a o) h h' where
  keep := u.keep
  slot := u.slot
  free := fun b ob e n hx => by
    rw [upd_ne (fun z => by rw [z, h0] at e; exact nomatch e)]
    exact u.free b ob e n hx
  there := u.there
  tups := fun b xs e => by
    have := u.tups b xs e
    rw [upd_ne (ne_of_none this hn)]
    exact this
  frzs := fun b ob x e => by
    have := u.frzs b ob x e
    rw [upd_ne (ne_of_none this hn)]
    exact this
  tbls := fun b ps e => by
    obtain ⟨m, this⟩ := u.tbls b ps e
    exact ⟨m, by
      rw [upd_ne (ne_of_none this hn)]
      exact this⟩
section
variable {X : Cx} {pins : List (Addr × Obj)} {σ : St} {H : Hp} {s : Shared} {a : Addr} {oe : Obj} {o : HO}
theorem Inv.layPin (I : Inv X ((a, oe) :: pins) σ H s) (h0 : X.s_0.heap.get? a = none) (hp : ∀ p ∈ X.pn ++ pins, p.1 ≠ a) (new : ObjOk X.prog X.w (upd H a o) s.heap a o) : Inv X pins σ (upd H a o) s := by
  obtain ⟨e, n, nl, nf, nc⟩ := I.pin (a, oe) (List.mem_append_right _ (List.mem_cons_self ..))
  refine ⟨I.ok, I.os, I.bare, I.base.lay h0 n, I.loc, I.cell, ?_, fun x c hc => ?_, fun p hp' => ?_, I.hok.laidN (fun _ _ z => z) n new, I.len⟩
  · rw [upd_ne (fun z => nl z.symm)]
    exact I.free
  · rw [upd_ne (fun z => ?_)]
    · exact I.freeC x c hc
    · obtain ⟨v, d, hv, hd⟩ := I.cell x c hc
      rw [z] at hv
      have e' : s.heap.get? a = some oe := e
      rw [e'] at hv
      cases hv
      exact nc v hd
  · have := I.pin p (by
      rcases List.mem_append.mp hp' with h | h
      · exact List.mem_append_left _ h
      · exact List.mem_append_right _ (List.mem_cons_of_mem _ h))
    exact ⟨this.1, by rw [upd_ne (hp p hp')]; exact this.2.1, this.2.2⟩
theorem Inv.unsuiteP {q : Addr × Obj} {pn' : List (Addr × Obj)} (I : Inv (X.suite a (q :: (X.pn ++ pins))) pn' σ H s) (ok : X.Ok) : Inv X (q :: pins) σ H s :=
  ⟨ok, I.os, I.bare, I.base, I.loc, I.cell, I.free, I.freeC, fun p hp => I.pin p (List.mem_append_left _ (by
    rcases List.mem_append.mp hp with h | h
    · exact List.mem_cons_of_mem _ (List.mem_append_left _ h)
    · rcases List.mem_cons.mp h with h | h
      · rw [h]; exact List.mem_cons_self ..
      · exact List.mem_cons_of_mem _ (List.mem_append_right _ h))), I.hok, I.len⟩
end
/-- what the clause 'except x as n' wishes, where the error is kept -/
def wKeep (K : PySem.W.Frag) (c : Value) (i : Nat) (ts : Addr → Value → Option Addr → TS) (Wout : WX) (D : Ends) : WX := fun cls d σ H =>
  ∃ b, PySem.W.exmOne K cls c = some b ∧ (b = true → ∀ a, H a = none → ts a cls d { nx := fun σ' H' => ∃ C dd, cls = .ref C ∧ d = some dd ∧ (H' a = none → D.nx (σ'.set i none) (upd H' a (ExJ C dd a))), rt := fun _ _ => False } (σ.set i (some (.ref a))) H) ∧
    (b = false → Wout cls d σ H)
section
variable {X : Cx} {x n : Str} {c : Value} {i : Nat} {body suite : List Stmt} {b₀ : Stmt} {np pos pos' : Pos} {tb : WX → TS} {ts : Addr → Value → Option Addr → TS} {Wout : WX}
theorem ps_try_keep (hs : X.stack = X.env :: X.outer) (hf : X.env.frame = some X.env.locals) (hex : X.ex = []) (hN : X.N.Nodup) (hi : X.N[i]? = some n) (hln : X.env.kindOf n = some .local) (hc : Names X x c) (tk : Takes X Wout)
    (hb : ∀ (W : WX) (pn : List (Addr × Obj)) (xe : Value → Shared → Prop), Takes (X.tr pn xe) W → PassesOwn (model X.prog X.w) X.A X.env xe → PSs (X.tr pn xe) body (tb W))
    (hsu : ∀ (a : Addr) (oe : Obj) (cls : Value) (d : Option Addr) (pn : List (Addr × Obj)), Zc cls d oe → (∃ vs, oe.data = .fields vs) → PSs (X.suite a ((a, oe) :: pn)) (b₀ :: suite) (ts a cls d)) :
    PS X (.Try body [.ExceptHandler (some (.Name x np)) (some n) (b₀ :: suite) pos'] [] [] pos) (fun D σ H => tb (wKeep X.K c i ts Wout D) D σ H) := by
  refine ⟨fun pins s σ H D I h => ?_⟩
  have ok := I.ok
  have hfr : X.A.frames = some (X.env :: X.outer) := by rw [ok.frames, hs]
  have hloc : Loc X.env.scope n := .inl hln
  refine wpAny_Try_except ?_
  refine wpAny_mono ((hb (wKeep X.K c i ts Wout D) (X.pn ++ pins) (fun e s₁ => wpAny (model X.prog X.w) X.A (noteFrame e X.env) (fun _ s₂ => wpAny (model X.prog X.w) X.A (setFlight e none) (fun _ s₃ =>
    wpAny (model X.prog X.w) X.A (handleBy e X.env [.ExceptHandler (some (.Name x np)) (some n) (b₀ :: suite) pos']) (SP X pins D) X.xe s₃) X.xe s₂) X.xe s₁) (fun u s' xx => ?_) PassesOwn.looking).run [] s σ H D (I.toTry _) h) (fun f s1 hsp => ?_) (fun e s1 he => he)
  · -- the catch
    obtain ⟨a, B, sI, pins', σ', H', cls, d, rfl, J', nb, up, sky, na, os, ag, b, hb1, hyes, hno⟩ := xx
    have J : Inv X pins σ' H' sI := J'.ofTry ok
    have sky' : Sky B (X.env :: X.outer) a (Zc cls d) X.env.locals s'.heap := by rw [← hs]; exact sky
    show wpAny (model X.prog X.w) X.A (noteFrame (.ref a) X.env) _ _ _
    refine Sky.land Zc.steady hfr hf sky' fun h3 fl3 up3 => ?_
    have J3 : Inv X pins σ' H' { s' with heap := h3 } := J.landed nb fl3.1 (up.trans up3) os ag
    obtain ⟨oe3, vs3, he3, hz3, hd3⟩ := fl3.there
    have notFr : ∀ {h : Heap} {o : Obj} {vs : Array Value}, h.FunFrames B (X.env :: X.outer) → h.get? a = some o → o.data = .fields vs → a ∉ frs (X.env :: X.outer) := fun {h o vs} ff e dd hm => by
      obtain ⟨_, o', e', hnf⟩ := ff.mem hm
      rw [e] at e'; cases e'
      exact hnf _ dd
    have nfr := notFr fl3.2.2.1 he3 hd3
    have nL : a ≠ X.env.locals := fun z => nfr (List.mem_filterMap.mpr ⟨X.env, List.mem_cons_self, by rw [hf, z]⟩)
    have nF : a ∉ X.fs := fun hm => by
      obtain ⟨e, he, q⟩ := List.mem_filterMap.mp hm
      exact nfr (List.mem_filterMap.mpr ⟨e, List.mem_cons_of_mem _ he, q⟩)
    have nI : sI.heap.get? a = none := by
      cases q : sI.heap.get? a with
      | none => rfl
      | some o =>
        have z := nb a o q (by rw [hs]; exact nfr)
        rw [fl3.2.1] at z
        cases z
    have n0 : X.s_0.heap.get? a = none := by
      cases q : X.s_0.heap.get? a with
      | none => rfl
      | some o =>
        obtain ⟨o', z⟩ := J.base.there a o q (by rw [hex]; exact fun z => nomatch z)
        rw [nI] at z
        cases z
    have nP : ∀ p ∈ X.pn ++ pins, p.1 ≠ a := fun p hp z => by
      have := (J.pin p hp).1
      rw [z, nI] at this
      cases this
    have S3 := J3.suite he3 hd3 na nL nF
    refine wpAny_handleBy_cons (codeAny_handlers_test ?_) (by intro q; cases q)
    have LT : PySem.W.Looks (model X.prog X.w) h3 (typeOf (.ref a)) cls := fun A Q E s k q => wpAny_typeOf_ref (k _ _ he3) (by rw [hz3.1]; exact q)
    have LM := PySem.W.exm_one (M := model X.prog X.w) (J3.kIn) LT hb1
    have test : ∀ {Q : Value → Shared → Prop} {E : Value → Shared → Prop}, Q c { s' with heap := h3 } → wpAny (model X.prog X.w) (X.A.mark (some (.ref a))) (eval (.Name x np) X.env) Q E { s' with heap := h3 } := fun {Q E} q => by
      obtain ⟨hg, hdbg, hm | ⟨hm, hv, hnn⟩⟩ := hc
      · exact ld_glob (X := X.suite a ((a, oe3) :: (X.pn ++ pins))) S3 hg hm q hdbg
      · exact ld_blt (X := X.suite a ((a, oe3) :: (X.pn ++ pins))) S3 hg hm hv q hnn hdbg
    refine test (LM.here ?_)
    cases b with
    | true =>
      refine codeAny_handlers_suite_as ?_
      refine HandSPX.lands_againZ fl3 fun h4 fl4 up4 => ?_
      have J4 : Inv X pins σ' H' { s' with heap := h4 } := J.landed nb fl4.1 ((up.trans up3).trans up4) os ag
      obtain ⟨oe4, vs4, he4, hz4, hd4⟩ := fl4.there
      have S4 := J4.suite he4 hd4 na nL nF
      refine store_ok (X := X.suite a ((a, oe4) :: (X.pn ++ pins))) (v := .ref a) S4 hN hi hloc rfl (fun s5 S5 => ?_) (.inr hln)
      refine wpAny_mono ((hsu a oe4 cls d (X.pn ++ pins) hz4 ⟨_, hd4⟩).run [] s5 _ H' _ S5 (hyes rfl a na)) (fun f s6 hsp => ?_) (fun _ _ z => False.elim z)
      cases f with
      | next =>
        obtain ⟨σ6, H6, S6, C, dd, rfl, rfl, q6⟩ := hsp
        refine gone_ok (S6.unsuiteP ok) hN hi hln fun s7 J7 => ?_
        obtain ⟨e7, n7, _⟩ := J7.pin (a, oe4) (List.mem_append_right _ (List.mem_cons_self ..))
        exact ⟨_, _, J7.layPin (o := ExJ C dd a) n0 nP (exJ_ok e7 hz4 hd4), q6 n7⟩
      | brk =>
        obtain ⟨σ6, H6, S6, q6⟩ := hsp
        exact q6.elim
      | cont =>
        obtain ⟨σ6, H6, S6, q6⟩ := hsp
        exact q6.elim
      | ret u =>
        obtain ⟨v6, σ6, H6, S6, r6, q6⟩ := hsp
        exact q6.elim
    | false =>
      show wpAny _ X.A (handleBy (.ref a) X.env []) _ _ _
      refine wpAny_handleBy_nil ?_
      obtain ⟨k1, k2, k3, oe, vs, T, oT, ts', he, hz, hd, h1, hr⟩ := id fl3
      unfold PySem.passOn
      refine wpAny_bind (wpAny_field he hd h1 ?_)
      rw [if_neg (show ¬ ((Value.ref T == Value.none) = true) from by simp)]
      have fin : wpAny (model X.prog X.w) X.A (setFlight (.ref a) X.env.frame) (fun _ s4 => wpAny (model X.prog X.w) X.A (throw (.ref a) : Sem Flow) (SP X pins D) X.xe s4) X.xe { s' with heap := h3 } := by
        rw [hf]
        refine HandSPX.setFlight_upZ fl3 fun h4 hh4 up4 => wpAny_throw (tk _ _ ?_)
        exact ⟨a, B, sI, pins, σ', H', cls, d, rfl, J, nb, (up.trans up3).trans up4, .inr (.inr (by rw [hs]; exact hh4)), na, os, ag, hno rfl⟩
      first
        | exact wpAny_bind (wpAny_pure (wpAny_bind fin))
        | exact wpAny_bind fin
  · cases f with
    | next =>
      obtain ⟨σ', H', J', q⟩ := hsp
      exact wpAny_execs_nil ⟨σ', H', J'.ofTry ok, q⟩
    | brk =>
      obtain ⟨σ', H', J', q⟩ := hsp
      exact ⟨σ', H', J'.ofTry ok, q⟩
    | cont =>
      obtain ⟨σ', H', J', q⟩ := hsp
      exact ⟨σ', H', J'.ofTry ok, q⟩
    | ret u =>
      obtain ⟨v, σ', H', J', r, q⟩ := hsp
      exact ⟨v, σ', H', J'.ofTry ok, r, q⟩
end
/-! ### e.f and isinstance of a kept error -/
def tXjF (K : PySem.W.Frag) (f : Str) (te : TE) : TE := fun σ H Q => te σ H fun x H1 => ∃ (a C d : Addr) (fs : List (Str × V)) (v : V), x = .ref a ∧ H1 a = some (ExJ C d a) ∧ H1 d = some (.xd fs) ∧ fs.lookup f = some v ∧ XfC K C ∧ PySem.W.findIn K (.ref C) f = some none ∧ Q v H1
theorem pe_xjF {X : Cx} {e : Expr} {te : TE} {pos : Pos} {n : Str} (he : PE X e te) (hb : attributeBase e n X.env (eval e X.env) = eval e X.env := by rfl) : PE X (.Attribute e n pos) (tXjF X.K n te) := by
  refine ⟨fun pins s σ H Q I h => ?_⟩
  refine attr_of hb (thn (he.run pins s σ H _ I h) fun u s1 hh => ?_)
  obtain ⟨x, H1, I1, rx, a, C, dd, fs, v, ex, ha, ea, l, T, hno, q⟩ := hh
  subst ex
  obtain rfl : u = Value.ref a := rx
  obtain ⟨⟨oe, vs, hoa, hc, hdi, hda⟩, _, _⟩ := I1.hok a _ ha
  have hx : ObjOk X.prog X.w H1 s1.heap dd (.xd fs) := I1.hok dd _ ea
  obtain ⟨mA, hns, hr⟩ := hx
  obtain ⟨od, ho, hl⟩ := lookIn_ns hns
  obtain ⟨u, hu, ru⟩ := RelO.some_of (v := v) (o := mA n) (by rw [← l]; exact hr n)
  have J : PySem.W.InstAt s1.heap a oe C (some od) := ⟨hoa, hc, by unfold PySem.W.notCls; rw [hda] <;> rfl, by rw [hdi]; exact ho⟩
  exact HandSPX.exc_get I1.kIn J T.ga T.gg T.exC (PySem.W.findObj_own T.hdC hno rfl (by rw [hl, hu])) (handed_of ru) ⟨v, H1, I1.tok _, ru, q⟩
def rIsJ (K : PySem.W.Frag) : List V → Hp → VK → Prop := fun xs H Q => ∃ (a C d : Addr) (c : V) (cv : Value) (b : Bool), xs = [.ref a, c] ∧ H a = some (ExJ C d a) ∧ (∃ fs, H d = some (.xd fs)) ∧ ClsV c cv ∧ ExC K C ∧ PySem.W.kitOne K (.ref C) cv = some b ∧ Q (.bl b) H
theorem call_isJ {X : Cx} : CallR X (.builtin "isinstance") (rIsJ X.K) := by
  intro pins s σ H xs us Q I r h
  obtain ⟨a, C, d, c, cv, b, rfl, ha, ⟨fs, hd⟩, hcv, T, e, q⟩ := h
  obtain ⟨u1, u2, rfl, r1, r2⟩ := vals2 r
  have e2 := hcv.eq r2
  subst e2
  obtain rfl : u1 = Value.ref a := r1
  obtain ⟨⟨oe, vs, hoa, hc, hdi, hda⟩, _, _⟩ := I.hok a _ ha
  obtain ⟨mA, hns, _⟩ : ObjOk X.prog X.w H s.heap d (.xd fs) := I.hok d _ hd
  obtain ⟨od, hod, _⟩ := lookIn_ns hns
  have J : PySem.W.InstAt s.heap a oe C (some od) := ⟨hoa, hc, by unfold PySem.W.notCls; rw [hda] <;> rfl, by rw [hdi]; exact hod⟩
  exact PySem.W.kia_one (PySem.W.kitx_exc T.hcl T.hg T.hk T.hs T.ha T.hn T.ht T.hm) I.kIn J e (fun z => nomatch z) fun tk => ⟨.bl b, H, I.tok tk, rfl, q⟩
/-! ### C(e), to be raised -/
section
variable {X : Cx} {cn fld : Str} {C fI : Addr} {k : Nat}
theorem xn_mk (T : PySem.Xn.ExT X.prog X.K X.mg cn fld C fI) (hR : Raises X (.ref C)) {pins : List (Addr × Obj)} {σ : St} {H : Hp} {s : Shared} {Q : XK} {v : V} {v' : Value} {h' : Heap} {tk : Nat} {e d : Addr} (I : Inv X pins σ H s) (rv : RelV v v') (M : PySem.Xn.OwnMade s.heap h' e C d fld v')
    (q : ∀ d, H d = none → Q (.ref C) (some d) (upd H d (.xd [(fld, v)]))) : MkP X pins σ Q (.ref e) { s with heap := h', toks := tk } := by
  obtain ⟨t1, hoe⟩ := M.obj
  have hns := M.ns
  obtain ⟨hp, g, dr, tk0, os⟩ := s
  obtain ⟨G', g1, g2⟩ := restrict h' fun b => decide (b ≠ e)
  have gk : ∀ b, b ≠ e → G'.get? b = h'.get? b := fun b hb => g1 b (decide_eq_true hb)
  have ge : G'.get? e = none := g2 e (by simp)
  have old : ∀ b o, hp.get? b = some o → G'.get? b = some o := fun b o q => (gk b (Nat.ne_of_lt (Nat.lt_of_lt_of_le (Heap.lt_size q) M.new))).trans (M.keep b o q)
  have ob : ObjOk X.prog X.w (upd H d (.xd [(fld, v)])) G' d (.xd [(fld, v)]) :=
    ⟨_, hns.at (fun o q => (gk d M.dne).trans q), fun f => relO_one rv f⟩
  have J : Inv X pins σ (upd H d (.xd [(fld, v)])) ⟨G', g, dr, tk, os⟩ := I.laid (t' := tk) old M.dbig ob
  have hne : (upd H d (.xd [(fld, v)])) e = none := by
    rw [upd_ne (Ne.symm M.dne)]
    exact I.hok.fresh M.new
  exact ⟨e, _, _, ⟨G', g, dr, tk, os⟩, _, .ref C, some d, rfl, J, fun b o qq => by
    by_cases hb : b = e
    · have q' : G'.get? b = some o := qq
      rw [hb, ge] at q'; cases q'
    · exact (gk b hb).symm.trans qq, ge, hoe, ⟨rfl, rfl⟩, rfl, rfl, hne, rfl, I.bare, hR, q d (I.hok.fresh M.dbig)⟩
/-- C(e) -/
def tMkX (C : Addr) (fld : Str) (ta : TA) : St → Hp → XK → Prop := fun σ H Q => ta σ H fun vs H1 => ∃ v, vs = [v] ∧ ∀ d, H1 d = none → Q (.ref C) (some d) (upd H1 d (.xd [(fld, v)]))
theorem pmk_xn1 {a : Expr} {ta : TA} {p pos : Pos} (T : PySem.Xn.ExT X.prog X.K X.mg cn fld C fI) (hR : Raises X (.ref C)) (hr : RoomG k X.A) (ht : (X.prog.main.scope.names.lookup ("super" : Str)).isSome = false) (ha : PA X [a] ta) (hg : Gl X cn := by rfl) (hdb : (cn == ("__debug__" : Str)) = false := by decide)
    (he : starEach (a :: []) X.env = (false, eval a X.env) :: starEach [] X.env := by rfl) (hpl : (backTo pos (starEach [] X.env)).any (·.1) = false := by rfl) :
    PMk X (.Call (.Name cn p) [a] [] pos) (tMkX C fld ta) := by
  intro pins s σ H Q I h
  refine wpAny_Call_Name_kw (ld_glob I hg T.gC ?_ hdb)
  refine PySem.W.callWith_K (h₀ := X.base) I.ok.mod.kin T.kC (thn (ha.run pos pins s σ H _ I h) fun us s1 hh => ?_) he hpl
  obtain ⟨vs, H1, I1, r1, v, ev, q1⟩ := hh
  subst ev
  refine ⟨I1.kIn, ?_⟩
  cases r1 with
  | cons rv rn =>
    rename_i v' us'
    cases rn
    show wpAny _ _ (call (.ref C) [v']) _ _ _
    exact wpAny_call (PySem.Xn.xn_made T (.inl ⟨rfl, rfl⟩) I1.kIn I1.nms I1.nolimit (by have := hr.1.dp; omega) ht fun h' tk' e d M => xn_mk T hR I1 rv M q1)
end
/-! ### calls of defs that may raise -/
section
variable {X : Cx} {CX : CXT} {k : Nat} {f : Addr} {fd : FuncData} {ps : List Str} {sp : Sp} {dvs : List V} {ds : List Value} {E : St → XK} {x : Str} {p pos : Pos} {e : Expr} {es : List Expr} {t : TA}
theorem run_fnSG {pins : List (Addr × Obj)} {σ : St} {H : Hp} {s : Shared} {Q : VK} {us : List Value} {vs : List V} (F : FnOkG X.prog X.w X.K X.mg X.base CX k f fd ps sp) (hr : RoomG k X.A) (hb : Binds X.K fd ps ds) (hd : Vals dvs ds) (hx : PassesAt CX X σ (E σ))
    (I : Inv X pins σ H s) (r : Vals vs us) (h : sp (vs ++ dvs) H Q (E σ)) : wpAny (model X.prog X.w) X.A (call (.ref f) us) (EP X pins σ Q) X.xe s := by
  have r2 : Vals (vs ++ dvs) (us ++ ds) := r.append hd
  have hl : (us ++ ds).length = ps.length := by rw [← r2.length]; exact F.len _ _ _ _ h
  refine wpAny_call (codeAny_mono (F.run X.A X.stack s H ⟨us, []⟩ (us ++ ds) (vs ++ dvs) Q (E σ) hr I.env0 (hb s us I.kIn hl) r2 h) fun r s' hq => ?_)
  cases r with
  | error e => exact hx pins H s e s' I hq
  | ok fl =>
    cases fl with
    | ret u => exact I.after hq
    | next => exact False.elim hq
    | brk => exact False.elim hq
    | cont => exact False.elim hq
theorem pe_callSG (F : FnOkG X.prog X.w X.K X.mg X.base CX k f fd ps sp) (hr : RoomG k X.A) (hg : Gl X x) (hm : X.mg x = some (.ref f)) (hk : PySem.W.keepIn X.K (.ref f) = true) (hb : Binds X.K fd ps ds) (hd : Vals dvs ds) (hx : ∀ σ, PassesAt CX X σ (E σ))
    (ha : PA X (e :: es) t) (hdb : (x == ("__debug__" : Str)) = false := by decide) (he : starEach (e :: es) X.env = (false, eval e X.env) :: starEach es X.env := by rfl) (hpl : (backTo pos (starEach es X.env)).any (·.1) = false := by rfl) :
    PE X (.Call (.Name x p) (e :: es) [] pos) (tCallSD sp dvs E t) := by
  refine ⟨fun pins s σ H Q I h => ?_⟩
  refine wpAny_Call_Name_kw (ld_glob I hg hm ?_ hdb)
  refine PySem.W.callWith_K (h₀ := X.base) I.ok.mod.kin hk (thn (ha.run pos pins s σ H _ I h) fun us s1 ⟨vs, H1, I1, r, q⟩ => ⟨I1.kIn, ?_⟩) he hpl
  exact run_fnSG F hr hb hd (hx σ) I1 r q
end
end L2

set_option Elab.async false
set_option linter.all false
set_option maxRecDepth 100000
set_option maxHeartbeats 4000000
namespace L2
open PySem PySem.Spec PyProof.Rows
section
variable {P : Program} {w : World} {K : PySem.W.Frag} {mg : Str → Option Value} {base : Heap} {CX : CXT} {k j : Nat} {f : Addr} {fd : FuncData} {ps : List Str} {sp sp' : Sp}
theorem FnOkG.or (A : FnOkG P w K mg base CX k f fd ps sp) (B : FnOkG P w K mg base CX j f fd ps sp') : FnOkG P w K mg base CX (max k j) f fd ps (fun vs H Q E => sp vs H Q E ∨ sp' vs H Q E) :=
  ⟨fun vs H Q E h => h.elim (A.len vs H Q E) (B.len vs H Q E), fun A' outer s H args us vs Q E hr e0 hb r h => h.elim (A.run A' outer s H args us vs Q E (hr.mono (Nat.le_max_left _ _)) e0 hb r) (B.run A' outer s H args us vs Q E (hr.mono (Nat.le_max_right _ _)) e0 hb r)⟩
/-- what lets nothing out may be called where things are let out -/
theorem FnOkG.up (A : FnOkG P w K mg base CX0 k f fd ps sp) : FnOkG P w K mg base CX k f fd ps sp :=
  ⟨A.len, fun A' outer s H args us vs Q E hr e0 hb r h => codeAny_mono (A.run A' outer s H args us vs Q E hr e0 hb r h) fun x s' hx => by
    cases x with
    | ok fl => cases fl <;> exact hx
    | error e => exact False.elim hx⟩
end
end L2
namespace Dv
open PySem PySem.Spec PyProof.Rows L2 Evl
/-! ### defs that may raise -/
structure CalX (P : Program) (w : World) (K : PySem.W.Frag) (mg : Str → Option Value) (base : Heap) (nm : Str) (ps : List Str) (k : Nat) (sp : Sp) : Prop where
  ex : ∃ f fd, mg nm = some (.ref f) ∧ PySem.W.keepIn K (.ref f) = true ∧ Binds K fd ps [] ∧ FnOkG P w K mg base (L2.CX P w) k f fd ps sp ∧ ∃ oc od osl, K.lookup f = some ⟨oc, od, .func fd, osl⟩
section
variable {P : Program} {w : World} {K : PySem.W.Frag} {mg : Str → Option Value} {base : Heap} {nm : Str} {st : Stmt} {N ps : List Str} {k j : Nat} {sp sp' : Sp}
theorem calX_mk (D : Def K mg nm st ps) (S : FnScope N ps (defScope st)) (len : ∀ vs H Q E, sp vs H Q E → vs.length = ps.length)
    (hbody : ∀ (f : Addr) (cdv : Value) (A : Around) (outer : List Env) (s : Shared) (H : Hp) (vs : List V) (Q : VK) (E : XK), RoomG k (A.deeper (envOfC nm (defScope st) s.heap.objs.size f cdv)) → sp vs H Q E →
      ∃ t, PSs (cxOf (L2.CX P w) P w K mg base N nm (defScope st) f cdv A outer s H E) (defBody st) t ∧ t { nx := fun _ H' => Q .non H', rt := Q } (start N vs) H) : CalX P w K mg base nm ps (k + 1) sp := by
  obtain ⟨f, fd, g, F, b⟩ := D.ex
  obtain ⟨oc, od, kV, doc, pm, an, cdv, ct, osl, e, lk, hcd⟩ := F.ex
  exact ⟨f, fd, g, F.kp, b, F.okXG S len (hbody f), oc, od, osl, lk⟩
theorem Cal.imp (A : Cal P w K mg base nm ps k sp) (h : ∀ vs H Q E, sp' vs H Q E → sp vs H Q E) : Cal P w K mg base nm ps k sp' := by
  obtain ⟨f, fd, g, kp, b, G, l⟩ := A.ex
  exact ⟨f, fd, g, kp, b, G.imp h, l⟩
theorem CalX.imp (A : CalX P w K mg base nm ps k sp) (h : ∀ vs H Q E, sp' vs H Q E → sp vs H Q E) : CalX P w K mg base nm ps k sp' := by
  obtain ⟨f, fd, g, kp, b, G, l⟩ := A.ex
  exact ⟨f, fd, g, kp, b, G.imp h, l⟩
theorem Cal.up (A : Cal P w K mg base nm ps k sp) : CalX P w K mg base nm ps k sp := by
  obtain ⟨f, fd, g, kp, b, G, l⟩ := A.ex
  exact ⟨f, fd, g, kp, b, G.up, l⟩
theorem Cal.or (A : Cal P w K mg base nm ps k sp) (B : Cal P w K mg base nm ps j sp') : Cal P w K mg base nm ps (max k j) (fun vs H Q E => sp vs H Q E ∨ sp' vs H Q E) := by
  obtain ⟨f, fd, g, kp, b, G, oc, od, osl, l⟩ := A.ex
  obtain ⟨f', fd', g', kp', b', G', oc', od', osl', l'⟩ := B.ex
  rw [g] at g'
  cases g'
  rw [l] at l'
  cases l'
  exact ⟨f, fd, g, kp, b, G.or G', oc, od, osl, l⟩
theorem CalX.or (A : CalX P w K mg base nm ps k sp) (B : CalX P w K mg base nm ps j sp') : CalX P w K mg base nm ps (max k j) (fun vs H Q E => sp vs H Q E ∨ sp' vs H Q E) := by
  obtain ⟨f, fd, g, kp, b, G, oc, od, osl, l⟩ := A.ex
  obtain ⟨f', fd', g', kp', b', G', oc', od', osl', l'⟩ := B.ex
  rw [g] at g'
  cases g'
  rw [l] at l'
  cases l'
  exact ⟨f, fd, g, kp, b, G.or G', oc, od, osl, l⟩
end
section
variable {X : Cx} {W : WX} {x : Str} {p pos : Pos} {e : Expr} {es : List Expr} {t : TA} {k j : Nat} {ps : List Str} {sp : Sp}
theorem pe_callXC (C : CalX X.prog X.w X.K X.mg X.base x ps k sp) (hr : RoomG j X.A) (tk : Takes X W) (ha : PA X (e :: es) t) (hg : Gl X x := by rfl) (hj : k ≤ j := by decide) (hdb : (x == ("__debug__" : Str)) = false := by decide)
    (he : starEach (e :: es) X.env = (false, eval e X.env) :: starEach es X.env := by rfl) (hpl : (backTo pos (starEach es X.env)).any (·.1) = false := by rfl) : PE X (.Call (.Name x p) (e :: es) [] pos) (tCallSD sp [] (WE W) t) := by
  obtain ⟨f, fd, g, kp, b, G, _⟩ := C.ex
  exact pe_callSG G (hr.mono hj) hg g kp b .nil (fun σ => passAt tk σ) ha hdb he hpl
end
/-! ### data, or an empty dict -/
inductive Dq (K : PySem.W.Frag) (F : Hp) : V → PyData → Prop
  | dat {v : V} {d : PyData} (h : Dp K F v d) : Dq K F v d
  | mt {p : Addr} (h : F p = some (.dK [])) : Dq K F (.ref p) (.dict [])
inductive DqAll (K : PySem.W.Frag) (F : Hp) : List V → List PyData → Prop
  | nil : DqAll K F [] []
  | cons {v : V} {d : PyData} {vs : List V} {ds : List PyData} (h : Dq K F v d) (t : DqAll K F vs ds) : DqAll K F (v :: vs) (d :: ds)
section
variable {K : PySem.W.Frag} {σ : L2.St} {F F1 H H1 : Hp} {te ta tb : TE} {d a b : PyData} {ds es : List PyData}
theorem dq_ex (e : Ex F F1) {v : V} (h : Dq K F v d) : Dq K F1 v d := by
  cases h with
  | dat h => exact .dat (dp_ex e h)
  | mt h => exact .mt (e _ _ h)
theorem dqs_ex (e : Ex F F1) : ∀ {ds : List PyData} {vs : List V}, DqAll K F vs ds → DqAll K F1 vs ds
  | _, _, .nil => .nil
  | _, _, .cons h t => .cons (dq_ex e h) (dqs_ex e t)
theorem dqs_of : ∀ {ds : List PyData} {vs : List V}, DpAll K F vs ds → DqAll K F vs ds
  | _, _, .nil => .nil
  | _, _, .cons h t => .cons (.dat h) (dqs_of t)
theorem dqs_len : ∀ {ds : List PyData} {vs : List V}, DqAll K F vs ds → vs.length = ds.length
  | _, _, .nil => rfl
  | _, _, .cons _ t => by rw [List.length_cons, List.length_cons, dqs_len t]
theorem dqs_app : ∀ {ds es : List PyData} {vs ws : List V}, DqAll K F vs ds → DqAll K F ws es → DqAll K F (vs ++ ws) (ds ++ es)
  | _, _, _, _, .nil, h => h
  | _, _, _, _, .cons h t, h' => .cons h (dqs_app t h')
theorem dqs_get : ∀ {ds : List PyData} {vs : List V} {i : Nat} {v : V}, DqAll K F vs ds → vs[i]? = some v → ∃ d, ds[i]? = some d ∧ Dq K F v d
  | _, _, _, _, .nil, e => by cases e
  | _, _, 0, _, .cons h t, e => by cases e; exact ⟨_, rfl, h⟩
  | _, _, i + 1, _, .cons h t, e => dqs_get (i := i) t e
theorem tyq_of {v : V} (h : Dq K H v d) : TyX K H v (.type (tyD d)) := by
  cases h with
  | dat h => exact tyx_of h
  | mt h => exact .base (.dK h)
theorem dq_int {v : V} {i : Int} (h : Dq K F v (.int i)) : v = .int i := by
  cases h with
  | dat h => cases h; rfl
variable (K) in
def EvQ (te : TE) (σ : L2.St) (F : Hp) (d : PyData) : Prop := ∀ H, Ex F H → ∀ Q : VK, (∀ v F' H', Gr F H F' H' → Dq K F' v d → Q v H') → te σ H Q
variable (K) in
/-- a new list of such, not yet of F' -/
def ElQ (te : TE) (σ : L2.St) (F : Hp) (ds : List PyData) : Prop := ∀ H, Ex F H → ∀ Q : VK, (∀ p vs F' H', Gr F H F' H' → H p = none → F' p = none → H' p = some (.lst vs) → DqAll K F' vs ds → Q (.ref p) H') → te σ H Q
variable (K) in
def EaQ (ta : TA) (σ : L2.St) (F : Hp) (ds : List PyData) : Prop := ∀ H, Ex F H → ∀ Q : List V → Hp → Prop, (∀ vs F' H', Gr F H F' H' → DqAll K F' vs ds → Q vs H') → ta σ H Q
theorem EvD.q (h : EvD K te σ F d) : EvQ K te σ F d := fun H e Q q => h H e Q fun v F' H' g hv => q v F' H' g (.dat hv)
theorem EvL.q (h : EvL K te σ F ds) : ElQ K te σ F ds := fun H e Q q => h H e Q fun p vs F' H' g h1 h2 h3 h4 => q p vs F' H' g h1 h2 h3 (dqs_of h4)
theorem EvQ.mono (e : Ex F F1) (h : EvQ K te σ F d) : EvQ K te σ F1 d := fun H eH Q q => h H (e.trans eH) Q fun v F' H' g hv => q v _ H' (g.weak e eH) (dq_ex (ex_uni2 (eH.trans g.hx) g.fh) hv)
theorem EaQ.mono {ta : TA} (e : Ex F F1) (h : EaQ K ta σ F ds) : EaQ K ta σ F1 ds := fun H eH Q q => h H (e.trans eH) Q fun v F' H' g hv => q v _ H' (g.weak e eH) (dqs_ex (ex_uni2 (eH.trans g.hx) g.fh) hv)
theorem ElQ.mono (e : Ex F F1) (h : ElQ K te σ F ds) : ElQ K te σ F1 ds := fun H eH Q q => h H (e.trans eH) Q fun p vs F' H' g h1 h2 h3 h4 => q p vs _ H' (g.weak e eH) h1 (by
  unfold uni
  rw [ex_none eH h1]
  exact h2) h3 (dqs_ex (ex_uni2 (eH.trans g.hx) g.fh) h4)
theorem eq_var {i : Nat} {v : V} (h : σ[i]? = some (some v)) (hv : Dq K F v d) : EvQ K (tVar i) σ F d := fun H eH Q q => ⟨v, h, q v F H (Gr.refl eH) hv⟩
/-- {} -/
theorem eq_mt : EvQ K tDNewK σ F (.dict []) := fun H e Q q d hd => q _ _ _ (Gr.new e hd) (.mt upd_same)
theorem eaq_nil : EaQ K tNil σ F [] := fun H eH Q q => q [] F H (Gr.refl eH) .nil
theorem eaq_cons {tr : TA} (ha : EvQ K ta σ F a) (hr : EaQ K tr σ F ds) : EaQ K (tCons ta tr) σ F (a :: ds) := fun H eH Q q =>
  ha H eH _ fun v F1 H1 g1 hv => (hr.mono g1.fx) H1 g1.fh _ fun vs F2 H2 g2 hvs => q _ F2 H2 (g1.trans g2) (.cons (dq_ex g2.fx hv) hvs)
theorem elq_lst {ta : TA} (h : EaQ K ta σ F ds) (hl : ds.length ≤ 100000) : ElQ K (tLst ta) σ F ds := fun H eH Q q =>
  h H eH _ fun vs F1 H1 g1 hv => ⟨by rw [dqs_len hv]; exact sz_of hl, fun p hp => q p vs F1 _ (g1.trans (Gr.only g1.fh hp)) (ex_none g1.hx hp) (ex_none g1.fh hp) upd_same hv⟩
/-- isinstance for the built-in types -/
theorem kitq_ty {v : V} {T : String} (hT : T ∈ tys) (hd : Dq K H v d) : PySem.W.kitOne K (.type (tyD d)) (.type T) = some (isD d T) := by
  cases hd with
  | dat h => exact kit_ty hT (dp_nodict h)
  | mt h =>
    have e : ∀ T ∈ tys, PySem.W.kitOne ([] : PySem.W.Frag) (.type "dict") (.type T) = some ("dict" == T || (T == "int" && "dict" == "bool")) := by decide +kernel
    exact e T hT
theorem eq_isi {T : String} (h : EvQ K ta σ F d) (hT : T ∈ tys) : EvD K (tCB (rIsi K) (tCons ta (tCons (tC (.ty T)) tNil))) σ F (.bool (isD d T)) := fun H e Q q =>
  h H e _ fun v F' H' g hv => ⟨v, .ty T, _, _, _, rfl, .ty T, tyq_of (dq_ex g.fh hv), kitq_ty hT (dq_ex g.fh hv), q _ F' H' g (.bl _)⟩
/-! walks over lists of such -/
variable (K) in
def WQ (J : It) (F : Hp) (ds : List PyData) : Prop := ∃ G Y, Walk J ds.length G Y ∧ (∀ H, Ex F H → G H) ∧ ∀ F1 i H x H', i < ds.length → Ex F F1 → Ex F1 H → Y i H x H' → ∃ F2 d, ds[i]? = some d ∧ Gr F1 H F2 H' ∧ Dq K F2 x d
variable (K) in
def ItQ (wi : TI) (σ : L2.St) (F : Hp) (ds : List PyData) : Prop := ∀ H, Ex F H → ∀ R : It → Hp → Prop, (∀ J F' H', Gr F H F' H' → WQ K J F' ds → R J H') → wi σ H R
theorem ItD.q {wi : TI} (h : ItD K wi σ F ds) : ItQ K wi σ F ds := fun H e R r => h H e R fun J F' H' g ⟨G, Y, w, hG, hY⟩ => r J F' H' g ⟨G, Y, w, hG, fun F1 i H x H' hi e1 e2 y => by
  obtain ⟨F2, d, h1, h2, h3⟩ := hY F1 i H x H' hi e1 e2 y
  exact ⟨F2, d, h1, h2, .dat h3⟩⟩
/-- a list that is new: taken as it stands -/
theorem itq_list (h : ElQ K te σ F ds) : ItQ K (iList K te) σ F ds := fun H eH R q => h H eH _ fun p vs F1 H1 g1 h1 h2 h3 h4 => by
  have g2 := g1.take h1 h2 h3
  refine ⟨p, rfl, ⟨vs, sq_of h3⟩, q _ _ H1 g2 ⟨_, _, by rw [← dqs_len h4]; exact walk_list (xs := vs), fun H e => sq_of (e _ _ upd_same), fun F2 i H2 x H3 _ e1 e2 y => ?_⟩⟩
  obtain ⟨rfl, hx⟩ := y
  obtain ⟨d, h1, h2⟩ := dqs_get h4 hx
  exact ⟨F2, d, h1, Gr.refl e2, dq_ex ((Ex.new (by assumption)).trans e1) h2⟩
variable {D : Ends} {ts : TS} {g : TG}
theorem s_forQ {wi : TI} (h : ItQ K wi σ F ds) (e : Ex F H) (Pv : Nat → L2.St → Hp → Hp → Prop) (h0 : ∀ F' H', Gr F H F' H' → Pv 0 σ F' H')
    (hs : ∀ Fb, Ex F Fb → ∀ n σ' F' H' v d F2 H2, ds[n]? = some d → Ex Fb F' → Ex F' H' → Pv n σ' F' H' → Gr F' H' F2 H2 → Dq K F2 v d →
      g v σ' H2 fun σ2 H3 => ts { D with nx := NxP Fb (Pv (n + 1)), ct := NxP Fb (Pv (n + 1)), bk := D.nx } σ2 H3)
    (hd : ∀ σ' F' H', Ex F F' → Ex F' H' → Pv ds.length σ' F' H' → D.nx σ' H') : tFor wi g ts D σ H := h H e _ fun J F1 H1 g1 wd => by
  obtain ⟨G, Y, W, hG, hY⟩ := wd
  exact for_it W (fun n => NxP F1 (Pv n)) ⟨F1, Ex.refl _, g1.fh, h0 F1 H1 g1⟩ (fun n σ' H' _ p => by
    obtain ⟨F', e1, e2, p⟩ := p
    exact hG _ (e1.trans e2)) (fun n v σ' H' H2 hn p y => by
    obtain ⟨F', e1, e3, p⟩ := p
    obtain ⟨F2, d, hd, g2, hv⟩ := hY F' n H' v H2 hn e1 e3 y
    exact hs F1 g1.fx n σ' F' H' v d F2 H2 hd e1 e3 p g2 hv) (fun σ' H' p => by
    obtain ⟨F', e1, e2, p⟩ := p
    exact hd σ' F' H' (g1.fx.trans e1) e2 p)
theorem s_asgLQ {i : Nat} (h : ElQ K te σ F ds) (e : Ex F H) (k : ∀ p vs F' H', Gr F H F' H' → H p = none → F' p = none → H' p = some (.lst vs) → DqAll K F' vs ds → D.nx (σ.set i (some (.ref p))) H') : tAsg te (gName i) D σ H :=
  h H e _ fun p vs F' H' g h1 h2 h3 h4 => k p vs F' H' g h1 h2 h3 h4
end
end Dv

set_option Elab.async false
set_option linter.all false
set_option maxRecDepth 100000
set_option maxHeartbeats 4000000
namespace Dv
open PySem PySem.Spec PyProof.Rows L2 Evl
section
variable {K : PySem.W.Frag} {σ : L2.St} {F F1 H H1 : Hp} {te ta tb : TE} {d a b : PyData} {ds es : List PyData}
variable (K) in
/-- a list that F tracks, or a new one taken into it -/
def EvT (te : TE) (σ : L2.St) (F : Hp) (ds : List PyData) : Prop := ∀ H, Ex F H → ∀ Q : VK, (∀ p vs F' H', Gr F H F' H' → F' p = some (.lst vs) → DpAll K F' vs ds → Q (.ref p) H') → te σ H Q
theorem EvL.t (h : EvL K te σ F ds) : EvT K te σ F ds := fun H e Q q => h H e Q fun p vs F' H' g h1 h2 h3 h4 => q p vs _ H' (g.take h1 h2 h3) upd_same (dps_ex (Ex.new h2) h4)
theorem EvT.ev (h : EvT K te σ F ds) : EvD K te σ F (.list ds) := fun H e Q q => h H e Q fun p vs F' H' g h1 h2 => q _ F' H' g (.lst (SqL.of h1) h2)
theorem evt_var {i : Nat} {p : Addr} {vs : List V} (hi : σ[i]? = some (some (.ref p))) (h : F p = some (.lst vs)) (hd : DpAll K F vs ds) : EvT K (tVar i) σ F ds := fun H e Q q => ⟨_, hi, q p vs F H (Gr.refl e) h hd⟩
theorem EvT.mono (e : Ex F F1) (h : EvT K te σ F ds) : EvT K te σ F1 ds := fun H eH Q q => h H (e.trans eH) Q fun p vs F' H' g h1 h2 => q p vs _ H' (g.weak e eH) (ex_uni2 (eH.trans g.hx) g.fh _ _ h1) (dps_ex (ex_uni2 (eH.trans g.hx) g.fh) h2)
/-- xs + ys -/
theorem el_cat (ha : EvT K ta σ F ds) (hb : EvT K tb σ F es) (hz : ds.length + es.length ≤ 100000) : EvL K (tOp rCat ta tb) σ F (ds ++ es) := fun H e Q q =>
  ha H e _ fun p vs F1 H1 g1 h1 h2 => (hb.mono g1.fx) H1 g1.fh _ fun p2 ws F2 H2 g2 h3 h4 => ⟨p, p2, vs, ws, rfl, rfl, g2.fh _ _ (g2.fx _ _ h1), g2.fh _ _ h3, by
    rw [dps_len h2, dps_len h4]
    exact sz_of hz, fun r hr => q r _ F2 _ ((g1.trans g2).trans (Gr.only g2.fh hr)) (ex_none (g1.trans g2).hx hr) (ex_none g2.fh hr) upd_same (dps_app (dps_ex g2.fx h2) h4)⟩
theorem dps_rev : ∀ {ds : List PyData} {vs : List V}, DpAll K F vs ds → DpAll K F vs.reverse ds.reverse
  | [], _, h => by cases h; exact .nil
  | d :: ds, _, h => by
    cases h with
    | cons h1 h2 =>
      rw [List.reverse_cons, List.reverse_cons]
      exact dps_app (dps_rev h2) (.cons h1 .nil)
/-- xs[::-1] -/
theorem el_rev (h : EvD K te σ F (.list ds)) : EvL K (tRevL K te) σ F ds.reverse := fun H e Q q => h H e _ fun v F1 H1 g1 hv => by
  cases hv with
  | lst hs hd => exact ⟨_, _, rfl, ex_l g1.fh hs, fun p hp => q p _ F1 _ (g1.trans (Gr.only g1.fh hp)) (ex_none g1.hx hp) (ex_none g1.fh hp) upd_same (dps_rev hd)⟩
/-- found = found + xs, found a list of H alone that holds data or empty dicts -/
theorem s_catQ {i : Nat} {p : Addr} {ws : List V} {D : Ends} (hp : H p = some (.lst ws)) (fp : F p = none) (hd : DqAll K F ws ds) (hi : σ[i]? = some (some (.ref p))) (h : EvL K tb σ F es) (e : Ex F H) (hz : ds.length + es.length ≤ 100000)
    (k : ∀ q vs F' H', Gr F H F' H' → H q = none → F' q = none → H' q = some (.lst vs) → DqAll K F' vs (ds ++ es) → D.nx (σ.set i (some (.ref q))) H') : tAsg (tOp rCat (tVar i) tb) (gName i) D σ H :=
  ⟨_, hi, h H e _ fun r vs F1 H1 g1 h1 h2 h3 h4 => by
    have kp := g1.keep hp fp
    refine ⟨p, r, ws, vs, rfl, rfl, kp.1, h3, by
      rw [dqs_len hd, dps_len h4]
      exact sz_of hz, fun q hq => k q _ F1 _ (g1.trans (Gr.only g1.fh hq)) (ex_none g1.hx hq) (ex_none g1.fh hq) upd_same (dqs_app (dqs_ex g1.fx hd) (dqs_of h4))⟩⟩
end
/-! ### data that can be compared and told -/
end Dv

set_option Elab.async false
set_option linter.all false
set_option maxRecDepth 100000
set_option maxHeartbeats 4000000
/-! GENERAL: how long the text of repr is at most. -/
namespace L2
open PySem PySem.Spec PyProof.Rows
mutual
/-- at least as many signs as the text of repr has -/
def shB : PyData → Nat
  | .none => 4
  | .bool _ => 5
  | .int i => i.natAbs.log2 + 2
  | .str x => (reprText x).length
  | .list xs => shBs xs + 3
  | .tuple xs => shBs xs + 3
  | .dict kvs => shBk kvs + 3
def shBs : List PyData → Nat
  | [] => 0
  | x :: xs => shB x + 2 + shBs xs
def shBk : List (PyData × PyData) → Nat
  | [] => 0
  | (a, b) :: r => shB a + shB b + 4 + shBk r
end
theorem shB_all : ∀ (xs : List PyData), (∀ x ∈ xs, x.shown.length ≤ shB x) → ((PyData.shownAll xs).map (·.length)).sum + 2 * (PyData.shownAll xs).length ≤ shBs xs
  | [], _ => by simp [PyData.shownAll, shBs]
  | x :: xs, h => by
    have h1 := h x (List.mem_cons_self ..)
    have h2 := shB_all xs fun y hy => h y (List.mem_cons_of_mem _ hy)
    simp only [PyData.shownAll, shBs, List.map_cons, List.sum_cons, List.length_cons]
    omega
mutual
theorem shB_le : ∀ (d : PyData), d.shown.length ≤ shB d
  | .none => by simp only [PyData.shown, shB]; decide
  | .bool b => by
    cases b
    · simp only [PyData.shown, shB]; decide
    · simp only [PyData.shown, shB]; decide
  | .int i => by
    simp only [PyData.shown, shB]
    have h := int_text_length_le (a := i) (k := i.natAbs.log2 + 1) (by omega) (by omega)
    have e : (Str.ofString (toString i)).length = (toString i).length := PySem.ofString_length _
    rw [e]
    omega
  | .str x => by simp only [PyData.shown, shB]; exact Nat.le_refl _
  | .list xs => by
    simp only [PyData.shown, shB]
    have h := listText_len_le (PyData.shownAll xs)
    have h2 := shB_les xs
    omega
  | .tuple xs => by
    simp only [PyData.shown, shB]
    have h := tupleText_len_le (PyData.shownAll xs)
    have h2 := shB_les xs
    omega
  | .dict kvs => by
    simp only [PyData.shown, shB]
    have h := dictText_len_le (PyData.shownKv kvs)
    have h2 := shB_lek kvs
    omega
theorem shB_les : ∀ (xs : List PyData), ((PyData.shownAll xs).map (·.length)).sum + 2 * (PyData.shownAll xs).length ≤ shBs xs
  | [] => by simp [PyData.shownAll, shBs]
  | x :: xs => by
    have h1 := shB_le x
    have h2 := shB_les xs
    simp only [PyData.shownAll, shBs, List.map_cons, List.sum_cons, List.length_cons]
    omega
theorem shB_lek : ∀ (kvs : List (PyData × PyData)), ((PyData.shownKv kvs).map (·.length)).sum + 2 * (PyData.shownKv kvs).length ≤ shBk kvs
  | [] => by simp [PyData.shownKv, shBk]
  | (a, b) :: r => by
    have h1 := shB_le a
    have h3 := shB_le b
    have h2 := shB_lek r
    simp only [PyData.shownKv, shBk, List.map_cons, List.sum_cons, List.length_cons]
    have e : (PyData.shown a ++ ": " ++ PyData.shown b).length = (PyData.shown a).length + 2 + (PyData.shown b).length := by
      rw [strLen_append, strLen_append]
      rfl
    omega
end
end L2

set_option Elab.async false
set_option linter.all false
set_option maxRecDepth 100000
set_option maxHeartbeats 4000000
namespace L2
open PySem PySem.Spec PyProof.Rows
section
variable {X : Cx}
theorem OpR.or2 {f : Value → Value → Sem Value} {r1 r2 : R2} (h1 : OpR X f r1) (h2 : OpR X f r2) : OpR X f (fun x y H Q => r1 x y H Q ∨ r2 x y H Q) := fun pins s σ H x y v u Q I rx ry h => h.elim (h1 pins s σ H x y v u Q I rx ry) (h2 pins s σ H x y v u Q I rx ry)
/-- two lists of the very same items: not unlike -/
def rNeSame (K : PySem.W.Frag) : R2 := fun x y H Q => ∃ (a b : Addr) (xs : List V), x = .ref a ∧ y = .ref b ∧ SqL K H a xs ∧ SqL K H b xs ∧ (∀ v ∈ xs, flatB v = true ∨ ∃ p, v = .ref p) ∧ Q (.bl false) H
theorem vals_at : ∀ {xs : List V} {us : List Value} {j : Nat} (hj : j < us.length), Vals xs us → ∃ v, xs[j]? = some v ∧ RelV v us[j]
  | _, _, _, h, .nil => absurd h (Nat.not_lt_zero _)
  | _, _, 0, _, .cons r _ => ⟨_, rfl, r⟩
  | _, _, j + 1, h, .cons _ t => vals_at (j := j) (Nat.lt_of_succ_lt_succ h) t
theorem op_neSame (hu : X.A.units + 64 < cLine) : OpR X (compareOp .NotEq) (rNeSame X.K) := by
  intro pins s σ H x y v u Q I rx ry h
  obtain ⟨a, b, xs, rfl, rfl, ha, hb, hf, q⟩ := h
  cases (show v = Value.ref a from rx)
  cases (show u = Value.ref b from ry)
  obtain ⟨us, r1, p1, _⟩ := I.list ha
  obtain ⟨ws, r2, p2, _⟩ := I.list hb
  have hsz : us.toArray.size = ws.toArray.size := by
    rw [List.size_toArray, List.size_toArray, ← r1.length, ← r2.length]
  have key := SeqAt.RcNeAt.lists (A := X.A) (e := fun _ => true) p1.isList p2.isList hsz (by omega) fun j h1 h2 => by
    obtain ⟨v1, e1, q1⟩ := vals_at (j := j) (by simpa using h1) r1
    obtain ⟨v2, e2, q2⟩ := vals_at (j := j) (by simpa using h2) r2
    have : v1 = v2 := Option.some.inj (e1.symm.trans e2)
    subst this
    have e3 : us.toArray[j] = us[j]'(by simpa using h1) := by simp
    have e4 : ws.toArray[j] = ws[j]'(by simpa using h2) := by simp
    rw [e3, e4]
    rcases hf v1 (List.mem_of_getElem? e1) with hfl | ⟨p, rfl⟩
    · exact eqAt_same q1 q2 hfl
    · have a1 : us[j]'(by simpa using h1) = Value.ref p := q1
      have a2 : ws[j]'(by simpa using h2) = Value.ref p := q2
      rw [a1, a2]
      exact SeqAt.EqAt.same _
  have e : (!(List.range us.toArray.size).all fun _ => true) = false := by
    rw [show ((List.range us.toArray.size).all fun _ => true) = true from List.all_eq_true.mpr fun _ _ => rfl]
    rfl
  rw [e] at key
  exact key X.prog X.w _ _ ⟨.bl false, H, I, rfl, q⟩
end
end L2
namespace Dv
open PySem PySem.Spec PyProof.Rows L2 Evl
section
variable {K : PySem.W.Frag} {σ : L2.St} {F F1 H H1 : Hp} {te ta tb : TE} {d a b : PyData} {ds es : List PyData}
/-- repr of a datum -/
structure Rp (d : PyData) : Prop where
  nd : d.hasDict = false
  sh : d.showable = true
  len : shB d ≤ 100000
  dep : d.depth ≤ 50
theorem ev_repr (h : EvD K te σ F d) (r : Rp d) : EvD K (tCB (rReprD K) (tCons te tNil)) σ F (.str d.shown) := fun H e Q q =>
  h H e _ fun v F' H' g hv => ⟨v, d, rfl, .inl ⟨dp_ex g.fh hv, r.nd⟩, r.sh, Nat.le_trans (shB_le d) (sz_of r.len), r.dep, q _ F' H' g (.str _)⟩
theorem ev_neS {x y : Str} (ha : EvD K ta σ F (.str x)) (hb : EvD K tb σ F (.str y)) : EvD K (tOp rNe ta tb) σ F (.bool (!decide (x = y))) :=
  ev_op ha hb fun v u F1 H1 _ e hv hu Q q => by
    cases hv
    cases hu
    refine ⟨rfl, q _ F1 H1 (Gr.refl e) ?_⟩
    have : decide (V.str x = V.str y) = decide (x = y) := by
      by_cases h : x = y
      · rw [h]; simp
      · rw [decide_eq_false h, decide_eq_false (fun z => h (V.str.inj z))]
    first
      | (rw [this]; exact .bl _)
      | (simp only [this]; exact .bl _)
/-- is, is not of truth values -/
theorem ev_notBl {p q : Bool} (ha : EvD K ta σ F (.bool p)) (hb : EvD K tb σ F (.bool q)) : EvD K (tOp rNotB ta tb) σ F (.bool (!decide (p = q))) :=
  ev_op ha hb fun v u F1 H1 _ e hv hu Q k => by
    cases hv
    cases hu
    exact ⟨p, q, rfl, rfl, k _ F1 H1 (Gr.refl e) (.bl _)⟩
theorem ev_isBl {p q : Bool} (ha : EvD K ta σ F (.bool p)) (hb : EvD K tb σ F (.bool q)) : EvD K (tOp rIsB ta tb) σ F (.bool (decide (p = q))) :=
  ev_op ha hb fun v u F1 H1 _ e hv hu Q k => by
    cases hv
    cases hu
    exact ⟨p, q, rfl, rfl, k _ F1 H1 (Gr.refl e) (.bl _)⟩
/-- what is walked, told by what its items are -/
def ItB (K : PySem.W.Frag) (wi : TI) (σ : L2.St) (F : Hp) (Pd : List PyData → Prop) : Prop := ∀ H, Ex F H → ∀ R : It → Hp → Prop, (∀ J F' H' ds, Gr F H F' H' → WQ K J F' ds → Pd ds → R J H') → wi σ H R
theorem s_forB {D : Ends} {ts : TS} {g : TG} {wi : TI} {Pd : List PyData → Prop} (h : ItB K wi σ F Pd) (e : Ex F H) (Pv : L2.St → Hp → Hp → Prop) (h0 : ∀ F' H', Gr F H F' H' → Pv σ F' H')
    (hs : ∀ Fb, Ex F Fb → ∀ ds, Pd ds → ∀ σ' F' H' v d F2 H2, d ∈ ds → Ex Fb F' → Ex F' H' → Pv σ' F' H' → Gr F' H' F2 H2 → Dq K F2 v d →
      g v σ' H2 fun σ2 H3 => ts { D with nx := NxP Fb Pv, ct := NxP Fb Pv, bk := D.nx } σ2 H3)
    (hd : ∀ σ' F' H', Ex F F' → Ex F' H' → Pv σ' F' H' → D.nx σ' H') : tFor wi g ts D σ H := h H e _ fun J F1 H1 ds g1 wd pd => by
  obtain ⟨G, Y, W, hG, hY⟩ := wd
  exact for_it W (fun n => NxP F1 Pv) ⟨F1, Ex.refl _, g1.fh, h0 F1 H1 g1⟩ (fun n σ' H' _ p => by
    obtain ⟨F', e1, e2, p⟩ := p
    exact hG _ (e1.trans e2)) (fun n v σ' H' H2 hn p y => by
    obtain ⟨F', e1, e3, p⟩ := p
    obtain ⟨F2, d, hd, g2, hv⟩ := hY F' n H' v H2 hn e1 e3 y
    exact hs F1 g1.fx ds pd σ' F' H' v d F2 H2 (List.mem_of_getElem? hd) e1 e3 p g2 hv) (fun σ' H' p => by
    obtain ⟨F', e1, e2, p⟩ := p
    exact hd σ' F' H' (g1.fx.trans e1) e2 p)
/-- a new list, told by what its items are -/
def ElB (K : PySem.W.Frag) (te : TE) (σ : L2.St) (F : Hp) (Pd : List PyData → Prop) : Prop := ∀ H, Ex F H → ∀ Q : VK, (∀ p vs F' H' ds, Gr F H F' H' → H p = none → F' p = none → H' p = some (.lst vs) → DqAll K F' vs ds → Pd ds → Q (.ref p) H') → te σ H Q
theorem itb_list {Pd : List PyData → Prop} (h : ElB K te σ F Pd) : ItB K (iList K te) σ F Pd := fun H eH R q => h H eH _ fun p vs F1 H1 ds g1 h1 h2 h3 h4 pd => by
  have g2 := g1.take h1 h2 h3
  refine ⟨p, rfl, ⟨vs, sq_of h3⟩, q _ _ H1 ds g2 ⟨_, _, by rw [← dqs_len h4]; exact walk_list (xs := vs), fun H e => sq_of (e _ _ upd_same), fun F2 i H2 x H3 _ e1 e2 y => ?_⟩ pd⟩
  obtain ⟨rfl, hx⟩ := y
  obtain ⟨d, h1, h2⟩ := dqs_get h4 hx
  exact ⟨F2, d, h1, Gr.refl e2, dq_ex ((Ex.new (by assumption)).trans e1) h2⟩
end
end Dv

set_option Elab.async false
set_option linter.all false
set_option maxRecDepth 100000
set_option maxHeartbeats 4000000
/-! GENERAL: data with empty dicts anywhere within (lists that hold such are tracked ones). -/
namespace Dv
open PySem PySem.Spec PyProof.Rows L2 Evl
mutual
inductive Dz (K : PySem.W.Frag) (F : Hp) : V → PyData → Prop
  | dat {v : V} {d : PyData} (h : Dp K F v d) : Dz K F v d
  | mt {p : Addr} (h : F p = some (.dK [])) : Dz K F (.ref p) (.dict [])
  | lst {a : Addr} {xs : List V} {ds : List PyData} (h : F a = some (.lst xs)) (t : DzAll K F xs ds) : Dz K F (.ref a) (.list ds)
  | tup {a : Addr} {xs : List V} {ds : List PyData} (h : SqT K F a xs) (t : DzAll K F xs ds) : Dz K F (.ref a) (.tuple ds)
inductive DzAll (K : PySem.W.Frag) (F : Hp) : List V → List PyData → Prop
  | nil : DzAll K F [] []
  | cons {v : V} {d : PyData} {vs : List V} {ds : List PyData} (h : Dz K F v d) (t : DzAll K F vs ds) : DzAll K F (v :: vs) (d :: ds)
end
section
variable {K : PySem.W.Frag} {σ : L2.St} {F F1 H H1 : Hp} {te ta tb : TE} {d a b : PyData} {ds es : List PyData}
mutual
theorem dz_ex (e : Ex F F1) : ∀ {d : PyData} {v : V}, Dz K F v d → Dz K F1 v d
  | _, _, .dat h => .dat (dp_ex e h)
  | _, _, .mt h => .mt (e _ _ h)
  | _, _, .lst h t => .lst (e _ _ h) (dzs_ex e t)
  | _, _, .tup h t => .tup (ex_t e h) (dzs_ex e t)
theorem dzs_ex (e : Ex F F1) : ∀ {ds : List PyData} {vs : List V}, DzAll K F vs ds → DzAll K F1 vs ds
  | _, _, .nil => .nil
  | _, _, .cons h t => .cons (dz_ex e h) (dzs_ex e t)
end
theorem dzs_of : ∀ {ds : List PyData} {vs : List V}, DpAll K F vs ds → DzAll K F vs ds
  | _, _, .nil => .nil
  | _, _, .cons h t => .cons (.dat h) (dzs_of t)
theorem dzs_len : ∀ {ds : List PyData} {vs : List V}, DzAll K F vs ds → vs.length = ds.length
  | _, _, .nil => rfl
  | _, _, .cons _ t => by rw [List.length_cons, List.length_cons, dzs_len t]
theorem dzs_app : ∀ {ds es : List PyData} {vs ws : List V}, DzAll K F vs ds → DzAll K F ws es → DzAll K F (vs ++ ws) (ds ++ es)
  | _, _, _, _, .nil, h => h
  | _, _, _, _, .cons h t, h' => .cons h (dzs_app t h')
theorem dzs_get : ∀ {ds : List PyData} {vs : List V} {i : Nat} {v : V}, DzAll K F vs ds → vs[i]? = some v → ∃ d, ds[i]? = some d ∧ Dz K F v d
  | _, _, _, _, .nil, e => by cases e
  | _, _, 0, _, .cons h t, e => by cases e; exact ⟨_, rfl, h⟩
  | _, _, i + 1, _, .cons h t, e => dzs_get (i := i) t e
theorem dzs_atI {i : Int} {vs : List V} (h : DzAll K F vs ds) (e : atI ds i = some d) : ∃ v, atI vs i = some v ∧ Dz K F v d := by
  unfold atI at e ⊢
  rw [dzs_len h]
  cases hk : ixN ds.length i with
  | none =>
    rw [hk] at e
    cases e
  | some k =>
    rw [hk] at e
    have hlt : k < vs.length := by
      rw [dzs_len h]
      exact (List.getElem?_eq_some_iff.mp e).1
    obtain ⟨d', h1, h2⟩ := dzs_get h (List.getElem?_eq_getElem hlt)
    change ds[k]? = some d at e
    rw [e] at h1
    cases h1
    exact ⟨_, List.getElem?_eq_getElem hlt, h2⟩
/-- a list that stands for such data, as it is read -/
theorem dz_lst {v : V} (h : Dz K F v (.list ds)) : ∃ p xs, v = .ref p ∧ SqL K F p xs ∧ DzAll K F xs ds := by
  cases h with
  | dat h =>
    cases h with
    | lst hs hd => exact ⟨_, _, rfl, hs, dzs_of hd⟩
  | lst h t => exact ⟨_, _, rfl, SqL.of h, t⟩
theorem dz_tup {v : V} (h : Dz K F v (.tuple ds)) : ∃ p xs, v = .ref p ∧ SqT K F p xs ∧ DzAll K F xs ds := by
  cases h with
  | dat h =>
    cases h with
    | tup hs hd => exact ⟨_, _, rfl, hs, dzs_of hd⟩
  | tup h t => exact ⟨_, _, rfl, h, t⟩
theorem tyz_of {v : V} (h : Dz K H v d) : TyX K H v (.type (tyD d)) := by
  cases h with
  | dat h => exact tyx_of h
  | mt h => exact .base (.dK h)
  | lst h _ => exact .base (.lst h)
  | tup hs _ =>
    rcases hs with (h | ⟨o, h⟩) | ⟨o, its, n, hk, hc, _⟩
    · exact .base (.tup h)
    · exact .fTuple h
    · exact .kTuple hk hc
variable (K) in
def EvZ (te : TE) (σ : L2.St) (F : Hp) (d : PyData) : Prop := ∀ H, Ex F H → ∀ Q : VK, (∀ v F' H', Gr F H F' H' → Dz K F' v d → Q v H') → te σ H Q
theorem EvD.z (h : EvD K te σ F d) : EvZ K te σ F d := fun H e Q q => h H e Q fun v F' H' g hv => q v F' H' g (.dat hv)
theorem EvZ.mono (e : Ex F F1) (h : EvZ K te σ F d) : EvZ K te σ F1 d := fun H eH Q q => h H (e.trans eH) Q fun v F' H' g hv => q v _ H' (g.weak e eH) (dz_ex (ex_uni2 (eH.trans g.hx) g.fh) hv)
theorem ez_var {i : Nat} {v : V} (h : σ[i]? = some (some v)) (hv : Dz K F v d) : EvZ K (tVar i) σ F d := fun H eH Q q => ⟨v, h, q v F H (Gr.refl eH) hv⟩
theorem ez_mt : EvZ K tDNewK σ F (.dict []) := fun H e Q q d hd => q _ _ _ (Gr.new e hd) (.mt upd_same)
variable (K) in
def EaZ (ta : TA) (σ : L2.St) (F : Hp) (ds : List PyData) : Prop := ∀ H, Ex F H → ∀ Q : List V → Hp → Prop, (∀ vs F' H', Gr F H F' H' → DzAll K F' vs ds → Q vs H') → ta σ H Q
theorem EaZ.mono {tr : TA} (e : Ex F F1) (h : EaZ K tr σ F ds) : EaZ K tr σ F1 ds := fun H eH Q q => h H (e.trans eH) Q fun v F' H' g hv => q v _ H' (g.weak e eH) (dzs_ex (ex_uni2 (eH.trans g.hx) g.fh) hv)
theorem eaz_nil : EaZ K tNil σ F [] := fun H eH Q q => q [] F H (Gr.refl eH) .nil
theorem eaz_cons {tr : TA} (ha : EvZ K ta σ F a) (hr : EaZ K tr σ F ds) : EaZ K (tCons ta tr) σ F (a :: ds) := fun H eH Q q =>
  ha H eH _ fun v F1 H1 g1 hv => (hr.mono g1.fx) H1 g1.fh _ fun vs F2 H2 g2 hvs => q _ F2 H2 (g1.trans g2) (.cons (dz_ex g2.fx hv) hvs)
theorem ez_lst {tr : TA} (h : EaZ K tr σ F ds) (hl : ds.length ≤ 100000) : EvZ K (tLst tr) σ F (.list ds) := fun H eH Q q =>
  h H eH _ fun vs F1 H1 g1 hv => ⟨by rw [dzs_len hv]; exact sz_of hl, fun p hp => q _ _ _ (g1.trans (Gr.new g1.fh hp)) (.lst upd_same (dzs_ex (Ex.new (ex_none g1.fh hp)) hv))⟩
theorem ez_tup {tr : TA} (h : EaZ K tr σ F ds) (hl : ds.length ≤ 100000) : EvZ K (tTup tr) σ F (.tuple ds) := fun H eH Q q =>
  h H eH _ fun vs F1 H1 g1 hv => ⟨by rw [dzs_len hv]; exact sz_of hl, fun p hp => q _ _ _ (g1.trans (Gr.new g1.fh hp)) (.tup (SqT.of upd_same) (dzs_ex (Ex.new (ex_none g1.fh hp)) hv))⟩
/-- isinstance for the built-in types -/
theorem kitz_ty {v : V} {T : String} (hT : T ∈ tys) (hd : Dz K H v d) : PySem.W.kitOne K (.type (tyD d)) (.type T) = some (isD d T) := by
  cases hd with
  | dat h => exact kit_ty hT (dp_nodict h)
  | mt h => exact kitq_ty hT (.mt h)
  | lst h _ => exact kit_ty hT (fun _ e => by cases e)
  | tup h _ => exact kit_ty hT (fun _ e => by cases e)
theorem ez_isi {T : String} (h : EvZ K ta σ F d) (hT : T ∈ tys) : EvD K (tCB (rIsi K) (tCons ta (tCons (tC (.ty T)) tNil))) σ F (.bool (isD d T)) := fun H e Q q =>
  h H e _ fun v F' H' g hv => ⟨v, .ty T, _, _, _, rfl, .ty T, tyz_of (dz_ex g.fh hv), kitz_ty hT (dz_ex g.fh hv), q _ F' H' g (.bl _)⟩
theorem ez_len {n : Nat} (h : EvZ K ta σ F d) (hl : lenD d = some n) (hn : n ≤ 100000) : EvD K (tCB (fun xs H Q => ∃ x n, xs = [x] ∧ LenV K x H n ∧ Q (.int n) H) (tCons ta tNil)) σ F (.int (n : Int)) := fun H e Q q =>
  h H e _ fun v F' H' g hv => by
    refine ⟨v, n, rfl, ?_, q _ F' H' g (.int _)⟩
    have hv' := dz_ex g.fh hv
    cases d with
    | list ds =>
      cases hl
      obtain ⟨p, xs, rfl, hs, ha⟩ := dz_lst hv'
      exact .inl ⟨_, hs, (dzs_len ha).symm⟩
    | tuple ds =>
      cases hl
      obtain ⟨p, xs, rfl, hs, ha⟩ := dz_tup hv'
      exact .inr ⟨_, hs, (dzs_len ha).symm⟩
    | str x =>
      cases hl
      cases hv' with
      | dat h => cases h; exact ⟨sz_of hn, rfl⟩
    | none => cases hl
    | bool b => cases hl
    | int i => cases hl
    | dict kvs => cases hl
theorem ez_op {r : R2} {k : PyData} (ha : EvZ K ta σ F a) (hb : EvZ K tb σ F b) (hr : ∀ v u F1 H1, Ex F F1 → Ex F1 H1 → Dz K F1 v a → Dz K F1 u b → ∀ Q : VK, (∀ x F' H', Gr F1 H1 F' H' → Dz K F' x k → Q x H') → r v u H1 Q) : EvZ K (tOp r ta tb) σ F k := fun H e Q q =>
  ha H e _ fun v F1 H1 g1 hv => (hb.mono g1.fx) H1 g1.fh _ fun u F2 H2 g2 hu => hr v u F2 H2 (g1.fx.trans g2.fx) g2.fh (dz_ex g2.fx hv) hu Q fun x F' H' g hx => q x F' H' ((g1.trans g2).trans g) hx
theorem ez_ixT {i : Int} (ha : EvZ K ta σ F (.tuple ds)) (hb : EvD K tb σ F (.int i)) (e : atI ds i = some d) : EvZ K (tOp (rIxT K) ta tb) σ F d :=
  ez_op ha hb.z fun v u F1 H1 _ eH hv hu Q q => by
    obtain ⟨p, xs, rfl, hs, hd⟩ := dz_tup hv
    cases hu with
    | dat hu =>
      cases hu
      obtain ⟨v, hv, hd⟩ := dzs_atI hd e
      exact ⟨_, _, i, v, rfl, rfl, ex_t eH hs, hv, q v F1 H1 (Gr.refl eH) hd⟩
theorem ez_ixL {i : Int} (ha : EvZ K ta σ F (.list ds)) (hb : EvD K tb σ F (.int i)) (e : atI ds i = some d) : EvZ K (tOp (rIxL K) ta tb) σ F d :=
  ez_op ha hb.z fun v u F1 H1 _ eH hv hu Q q => by
    obtain ⟨p, xs, rfl, hs, hd⟩ := dz_lst hv
    cases hu with
    | dat hu =>
      cases hu
      obtain ⟨v, hv, hd⟩ := dzs_atI hd e
      exact ⟨_, _, i, v, rfl, rfl, ex_l eH hs, hv, q v F1 H1 (Gr.refl eH) hd⟩
/-! walks over lists of such -/
variable (K) in
def WZ (J : It) (F : Hp) (ds : List PyData) : Prop := ∃ G Y, Walk J ds.length G Y ∧ (∀ H, Ex F H → G H) ∧ ∀ F1 i H x H', i < ds.length → Ex F F1 → Ex F1 H → Y i H x H' → ∃ F2 d, ds[i]? = some d ∧ Gr F1 H F2 H' ∧ Dz K F2 x d
variable (K) in
def ItZ (wi : TI) (σ : L2.St) (F : Hp) (ds : List PyData) : Prop := ∀ H, Ex F H → ∀ R : It → Hp → Prop, (∀ J F' H', Gr F H F' H' → WZ K J F' ds → R J H') → wi σ H R
theorem itz_list (h : EvZ K te σ F (.list ds)) : ItZ K (iList K te) σ F ds := fun H eH R q => h H eH _ fun v F1 H1 g1 hv => by
  obtain ⟨p, xs, rfl, hs, hd⟩ := dz_lst hv
  refine ⟨p, rfl, ⟨xs, ex_l g1.fh hs⟩, q _ F1 H1 g1 ⟨_, _, by rw [← dzs_len hd]; exact walk_list (xs := xs), fun H e => ex_l e hs, fun F2 i H2 x H3 _ e1 e2 y => ?_⟩⟩
  obtain ⟨rfl, hx⟩ := y
  obtain ⟨d, h1, h2⟩ := dzs_get hd hx
  exact ⟨F2, d, h1, Gr.refl e2, dz_ex e1 h2⟩
variable {D : Ends} {ts : TS} {g : TG}
theorem s_forZ {wi : TI} (h : ItZ K wi σ F ds) (e : Ex F H) (Pv : Nat → L2.St → Hp → Hp → Prop) (h0 : ∀ F' H', Gr F H F' H' → Pv 0 σ F' H')
    (hs : ∀ Fb, Ex F Fb → ∀ n σ' F' H' v d F2 H2, ds[n]? = some d → Ex Fb F' → Ex F' H' → Pv n σ' F' H' → Gr F' H' F2 H2 → Dz K F2 v d →
      g v σ' H2 fun σ2 H3 => ts { D with nx := NxP Fb (Pv (n + 1)), ct := NxP Fb (Pv (n + 1)), bk := D.nx } σ2 H3)
    (hd : ∀ σ' F' H', Ex F F' → Ex F' H' → Pv ds.length σ' F' H' → D.nx σ' H') : tFor wi g ts D σ H := h H e _ fun J F1 H1 g1 wd => by
  obtain ⟨G, Y, W, hG, hY⟩ := wd
  exact for_it W (fun n => NxP F1 (Pv n)) ⟨F1, Ex.refl _, g1.fh, h0 F1 H1 g1⟩ (fun n σ' H' _ p => by
    obtain ⟨F', e1, e2, p⟩ := p
    exact hG _ (e1.trans e2)) (fun n v σ' H' H2 hn p y => by
    obtain ⟨F', e1, e3, p⟩ := p
    obtain ⟨F2, d, hd, g2, hv⟩ := hY F' n H' v H2 hn e1 e3 y
    exact hs F1 g1.fx n σ' F' H' v d F2 H2 hd e1 e3 p g2 hv) (fun σ' H' p => by
    obtain ⟨F', e1, e2, p⟩ := p
    exact hd σ' F' H' (g1.fx.trans e1) e2 p)
end
end Dv

set_option Elab.async false
set_option linter.all false
set_option maxRecDepth 100000
set_option maxHeartbeats 4000000
/-! GENERAL: repr of data with empty dicts within (all lists tracked). -/
namespace L2
open PySem PySem.Spec PyProof.Rows
mutual
inductive Dy (K : PySem.W.Frag) (H : Hp) : V → PyData → Prop
  | non : Dy K H .non .none
  | bl (b : Bool) : Dy K H (.bl b) (.bool b)
  | int (i : Int) : Dy K H (.int i) (.int i)
  | str (x : Str) : Dy K H (.str x) (.str x)
  | mt {p : Addr} (h : H p = some (.dK [])) : Dy K H (.ref p) (.dict [])
  | lst {a : Addr} {xs : List V} {ds : List PyData} (h : H a = some (.lst xs)) (n : a ≠ sysModules) (t : DyAll K H xs ds) : Dy K H (.ref a) (.list ds)
  | tup {a : Addr} {xs : List V} {ds : List PyData} (h : SqT K H a xs) (t : DyAll K H xs ds) : Dy K H (.ref a) (.tuple ds)
inductive DyAll (K : PySem.W.Frag) (H : Hp) : List V → List PyData → Prop
  | nil : DyAll K H [] []
  | cons {v : V} {d : PyData} {vs : List V} {ds : List PyData} (h : Dy K H v d) (t : DyAll K H vs ds) : DyAll K H (v :: vs) (d :: ds)
end
section
variable {X : Cx} {pins : List (Addr × Obj)} {σ : St} {H : Hp} {s : Shared}
mutual
theorem Dy.reads (I : Inv X pins σ H s) : ∀ (d : PyData) (v : V) (u : Value), Dy X.K H v d → RelV v u → ∃ as, Reads s.heap u d as ∧ sysModules ∉ as
  | .none, _, _, h, r => by
    cases h
    cases r
    exact ⟨_, Reads.none, by simp⟩
  | .bool b, _, _, h, r => by
    cases h
    cases r
    exact ⟨_, Reads.bool b, by simp⟩
  | .int i, _, _, h, r => by
    cases h
    obtain ⟨t, rfl⟩ := r
    exact ⟨_, Reads.int i t, by simp⟩
  | .str x, _, _, h, r => by
    cases h
    obtain ⟨t, rfl⟩ := r
    exact ⟨_, Reads.str x t, by simp⟩
  | .list ds, _, _, h, r => by
    cases h with
    | lst hs nsys ha =>
      cases r
      obtain ⟨its, rv, ⟨o, n, ho, hc, _, hd⟩, _⟩ := I.list (SqL.of hs)
      obtain ⟨as, hr, hn⟩ := Dy.readsAll I ds _ its ha rv
      refine ⟨_, Reads.list ho hc hd hr, fun z => ?_⟩
      rcases List.mem_cons.mp z with z | z
      · exact nsys z.symm
      · exact hn z
  | .tuple ds, _, _, h, r => by
    cases h with
    | tup hs ha =>
      cases r
      obtain ⟨its, rv, ⟨o, ho, hc, n, hd⟩, _⟩ := I.tuple hs
      obtain ⟨as, hr, hn⟩ := Dy.readsAll I ds _ its ha rv
      exact ⟨_, Reads.tuple ho hc hd hr, hn⟩
  | .dict kvs, _, _, h, r => by
    cases h with
    | mt hp =>
      cases r
      obtain ⟨_, hsys, vs, kv, o, es, ep, ho, hE, hD, _, hP, _⟩ : ObjOk X.prog X.w H s.heap _ (.dK []) := I.hok _ _ hp
      cases kv
      have e0 : es.toList = [] := by
        generalize es.toList = l at hP
        cases hP
        rfl
      refine ⟨_, .dict (kvs := []) ho hE.1 hD (by rw [e0]; exact .nil) (by rw [e0]; exact .nil), fun z => ?_⟩
      simp at z
      rw [← z] at hsys
      simp at hsys
theorem Dy.readsAll (I : Inv X pins σ H s) : ∀ (ds : List PyData) (vs : List V) (us : List Value), DyAll X.K H vs ds → Vals vs us → ∃ as, ReadsAll s.heap us ds as ∧ sysModules ∉ as
  | [], _, _, h, r => by
    cases h
    cases r
    exact ⟨_, ReadsAll.nil, by simp⟩
  | d :: ds, _, _, h, r => by
    cases h with
    | cons h1 h2 =>
      cases r with
      | cons r1 r2 =>
        obtain ⟨as, q1, n1⟩ := Dy.reads I d _ _ h1 r1
        obtain ⟨bs, q2, n2⟩ := Dy.readsAll I ds _ _ h2 r2
        exact ⟨_, ReadsAll.cons q1 q2, fun z => (List.mem_append.mp z).elim n1 n2⟩
end
/-- repr of such -/
def rReprY (K : PySem.W.Frag) : List V → Hp → VK → Prop := fun xs H Q => ∃ (v : V) (d : PyData), xs = [v] ∧ Dy K H v d ∧ d.showable = true ∧ d.shown.length ≤ sizeLine ∧ d.depth ≤ 50 ∧ Q (.str d.shown) H
theorem call_reprY (hg : X.A.guards = some []) (hu : X.A.units + 64 < cLine) : CallR X (.builtin "repr") (rReprY X.K) := by
  intro pins s σ H xs us Q I r h
  obtain ⟨v, d, rfl, hv, hs, hz, hdp, q⟩ := h
  obtain ⟨u, rfl, rv⟩ := vals1 r
  obtain ⟨as, hr, hno⟩ := Dy.reads I d v u hv rv
  cases hr with
  | none => exact PySem.P.repr_of_none ⟨.str _, H, I.tok _, ⟨_, rfl⟩, q⟩
  | bool b => exact PySem.P.repr_of_bool ⟨.str _, H, I.tok _, ⟨_, rfl⟩, q⟩
  | int i t => exact PySem.P.repr_of_int (by simpa [PyData.showable] using hs) ⟨.str _, H, I.tok _, ⟨_, rfl⟩, q⟩
  | str x t => exact PySem.P.repr_of_str ⟨.str _, H, I.tok _, ⟨_, rfl⟩, q⟩ hz
  | list a b c e => exact repr_of_reads' (.list a b c e) hs (fun _ => hno) hg (by omega) (fun _ _ z => z) (fun h' u' tk k => ⟨.str _, H, I.kept (t' := tk) k, ⟨_, rfl⟩, q⟩) hz
  | tuple a b c e => exact repr_of_reads' (.tuple a b c e) hs (fun _ => hno) hg (by omega) (fun _ _ z => z) (fun h' u' tk k => ⟨.str _, H, I.kept (t' := tk) k, ⟨_, rfl⟩, q⟩) hz
  | dict a b c e f => exact repr_of_reads' (.dict a b c e f) hs (fun _ => hno) hg (by omega) (fun _ _ z => z) (fun h' u' tk k => ⟨.str _, H, I.kept (t' := tk) k, ⟨_, rfl⟩, q⟩) hz
/-- a list display: its address is not that of sys.modules -/
def tLstN (t : TA) : TE := fun σ H Q => t σ H fun xs H1 => xs.length ≤ sizeLine ∧ ∀ p, H1 p = none → p ≠ sysModules → Q (.ref p) (upd H1 p (.lst xs))
theorem pe_lstN {es : List Expr} {t : TA} {pos : Pos} (h : PA X es t) : PE X (.List es pos) (tLstN t) := by
  refine ⟨fun pins s σ H Q I hq => ?_⟩
  refine wpAny_List_spliced (thn (h.run pos pins s σ H _ I hq) fun us s1 ⟨xs, H1, I1, r, z, q⟩ => ⟨by rw [← r.length]; exact z, ?_⟩)
  have hf : H1 s1.heap.objs.size = none := I1.hok.fresh (Nat.le_refl _)
  refine ⟨.ref s1.heap.objs.size, upd H1 s1.heap.objs.size (.lst xs), I1.laid (t' := s1.toks) (fun b u e => Heap.get?_push_of_some _ e) (Nat.le_refl _) ?_, rfl, q _ hf (Nat.ne_of_gt I1.big)⟩
  exact ⟨z, us, 0, r, Heap.get?_push_size _ rfl⟩
end
end L2
namespace Dv
open PySem PySem.Spec PyProof.Rows L2 Evl
section
variable {K : PySem.W.Frag} {σ : L2.St} {F F1 H H1 : Hp} {te ta tb : TE} {d a b : PyData} {ds es : List PyData}
mutual
theorem dy_ex (e : Ex F F1) : ∀ {d : PyData} {v : V}, Dy K F v d → Dy K F1 v d
  | _, _, .non => .non
  | _, _, .bl b => .bl b
  | _, _, .int i => .int i
  | _, _, .str x => .str x
  | _, _, .mt h => .mt (e _ _ h)
  | _, _, .lst h n t => .lst (e _ _ h) n (dys_ex e t)
  | _, _, .tup h t => .tup (ex_t e h) (dys_ex e t)
theorem dys_ex (e : Ex F F1) : ∀ {ds : List PyData} {vs : List V}, DyAll K F vs ds → DyAll K F1 vs ds
  | _, _, .nil => .nil
  | _, _, .cons h t => .cons (dy_ex e h) (dys_ex e t)
end
mutual
theorem dy_z : ∀ {d : PyData} {v : V}, Dy K F v d → Dz K F v d
  | _, _, .non => .dat .non
  | _, _, .bl b => .dat (.bl b)
  | _, _, .int i => .dat (.int i)
  | _, _, .str x => .dat (.str x)
  | _, _, .mt h => .mt h
  | _, _, .lst h _ t => .lst h (dys_z t)
  | _, _, .tup h t => .tup h (dys_z t)
theorem dys_z : ∀ {ds : List PyData} {vs : List V}, DyAll K F vs ds → DzAll K F vs ds
  | _, _, .nil => .nil
  | _, _, .cons h t => .cons (dy_z h) (dys_z t)
end
theorem dys_len : ∀ {ds : List PyData} {vs : List V}, DyAll K F vs ds → vs.length = ds.length
  | _, _, .nil => rfl
  | _, _, .cons _ t => by rw [List.length_cons, List.length_cons, dys_len t]
variable (K) in
def EvY (te : TE) (σ : L2.St) (F : Hp) (d : PyData) : Prop := ∀ H, Ex F H → ∀ Q : VK, (∀ v F' H', Gr F H F' H' → Dy K F' v d → Q v H') → te σ H Q
variable (K) in
def EaY (ta : TA) (σ : L2.St) (F : Hp) (ds : List PyData) : Prop := ∀ H, Ex F H → ∀ Q : List V → Hp → Prop, (∀ vs F' H', Gr F H F' H' → DyAll K F' vs ds → Q vs H') → ta σ H Q
theorem EvY.z (h : EvY K te σ F d) : EvZ K te σ F d := fun H e Q q => h H e Q fun v F' H' g hv => q v F' H' g (dy_z hv)
theorem EvY.mono (e : Ex F F1) (h : EvY K te σ F d) : EvY K te σ F1 d := fun H eH Q q => h H (e.trans eH) Q fun v F' H' g hv => q v _ H' (g.weak e eH) (dy_ex (ex_uni2 (eH.trans g.hx) g.fh) hv)
theorem EaY.mono {tr : TA} (e : Ex F F1) (h : EaY K tr σ F ds) : EaY K tr σ F1 ds := fun H eH Q q => h H (e.trans eH) Q fun v F' H' g hv => q v _ H' (g.weak e eH) (dys_ex (ex_uni2 (eH.trans g.hx) g.fh) hv)
theorem ey_var {i : Nat} {v : V} (h : σ[i]? = some (some v)) (hv : Dy K F v d) : EvY K (tVar i) σ F d := fun H eH Q q => ⟨v, h, q v F H (Gr.refl eH) hv⟩
theorem ey_mt : EvY K tDNewK σ F (.dict []) := fun H e Q q d hd => q _ _ _ (Gr.new e hd) (.mt upd_same)
theorem ey_non : EvY K (tC .non) σ F .none := fun H e Q q => q _ F H (Gr.refl e) .non
theorem ey_int (i : Int) : EvY K (tC (.int i)) σ F (.int i) := fun H e Q q => q _ F H (Gr.refl e) (.int i)
theorem ey_bl (b : Bool) : EvY K (tC (.bl b)) σ F (.bool b) := fun H e Q q => q _ F H (Gr.refl e) (.bl b)
theorem ey_str (x : Str) : EvY K (tC (.str x)) σ F (.str x) := fun H e Q q => q _ F H (Gr.refl e) (.str x)
theorem eay_nil : EaY K tNil σ F [] := fun H eH Q q => q [] F H (Gr.refl eH) .nil
theorem eay_cons {tr : TA} (ha : EvY K ta σ F a) (hr : EaY K tr σ F ds) : EaY K (tCons ta tr) σ F (a :: ds) := fun H eH Q q =>
  ha H eH _ fun v F1 H1 g1 hv => (hr.mono g1.fx) H1 g1.fh _ fun vs F2 H2 g2 hvs => q _ F2 H2 (g1.trans g2) (.cons (dy_ex g2.fx hv) hvs)
theorem ey_lst {tr : TA} (h : EaY K tr σ F ds) (hl : ds.length ≤ 100000) : EvY K (tLstN tr) σ F (.list ds) := fun H eH Q q =>
  h H eH _ fun vs F1 H1 g1 hv => ⟨by rw [dys_len hv]; exact sz_of hl, fun p hp hn => q _ _ _ (g1.trans (Gr.new g1.fh hp)) (.lst upd_same hn (dys_ex (Ex.new (ex_none g1.fh hp)) hv))⟩
theorem ey_tup {tr : TA} (h : EaY K tr σ F ds) (hl : ds.length ≤ 100000) : EvY K (tTup tr) σ F (.tuple ds) := fun H eH Q q =>
  h H eH _ fun vs F1 H1 g1 hv => ⟨by rw [dys_len hv]; exact sz_of hl, fun p hp => q _ _ _ (g1.trans (Gr.new g1.fh hp)) (.tup (SqT.of upd_same) (dys_ex (Ex.new (ex_none g1.fh hp)) hv))⟩
/-- repr of such -/
structure RpZ (d : PyData) : Prop where
  sh : d.showable = true
  len : shB d ≤ 100000
  dep : d.depth ≤ 50
theorem ey_repr (h : EvY K te σ F d) (r : RpZ d) : EvD K (tCB (rReprY K) (tCons te tNil)) σ F (.str d.shown) := fun H e Q q =>
  h H e _ fun v F' H' g hv => ⟨v, d, rfl, dy_ex g.fh hv, r.sh, Nat.le_trans (shB_le d) (sz_of r.len), r.dep, q _ F' H' g (.str _)⟩
end
end Dv

set_option Elab.async false
set_option linter.all false
set_option maxRecDepth 100000
set_option maxHeartbeats 4000000
/-! is_name, is_whole, is_number over data with empty dicts within -/
namespace R3
open PySem PySem.Spec PyProof.Rows L2 Evl Dv
section
variable {P : Program} {w : World} {K : PySem.W.Frag} {mg : Str → Option Value} {base : Heap}
/-- a value of such data that is no text / no whole number -/
def spNameN (K : PySem.W.Frag) : Sp := fun vs H Q _ => ∃ (F : Hp) (v : V) (d : PyData), vs = [v] ∧ Ex F H ∧ Dz K F v d ∧ isD d "str" = false ∧ ∀ F' H', Gr F H F' H' → Q (.bl false) H'
def spNameZ (K : PySem.W.Frag) : Sp := fun vs H Q E => spD K fIsName vs H Q E ∨ spNameN K vs H Q E
theorem ok_is_nameN (D : Def K mg "is_name" sIsName ["value"]) (B : Bl mg) (CC : Cst mg) : Cal P w K mg base "is_name" ["value"] 1 (spNameN K) := by
  refine cal_mk D sc_is_name (fun vs H Q E h => ?_) (fun f cdv A outer s H vs Q E hr h => ?_)
  · obtain ⟨F, v, d, rfl, _⟩ := h
    rfl
  obtain ⟨F, v, d, rfl, e, hv, hn, q⟩ := h
  obtain ⟨t1, c1⟩ := CC.letters
  obtain ⟨t2, c2⟩ := CC.figures
  obtain ⟨t3, c3⟩ := CC.mostName
  refine ⟨_, (pss_cons (ps_if (PW.pt (pw_or (pt_not (pt_val (pe_callB call_isi (by rfl) B.isi (by decide +kernel) (pa_cons (pv 0) (pa_cons (pe_bltn (v := .ty "str") (by rfl) B.str (by decide +kernel) rfl) pa_nil))))) (pw_or (pt_not (pt_chain op_le op_le pe_int (pe_callB call_len (by rfl) B.len (by decide +kernel) (pa_cons (pv 0) pa_nil)) (pe_glob (v := .int 8) rfl c3 ⟨_, rfl⟩))) (pw_or1 (pt_cmpR op_notInS (pe_ix ix_str (pv 0) pe_int (fun _ _ => rfl)) (pe_glob (v := .str letters) rfl c1 ⟨_, rfl⟩) (by rfl)))))) (pss_one (ps_ret pe_bl)) pss_nil)
      (pss_one (ps_ret (pe_cmpR (op_eqD hr.1.units) (pe_lc (own := [("sign", 1)]) (g := gName 1) rfl sc_is_name.nd (pi_str (pv 0)) (blkOk_by (own := [("sign", 1)]) (N := ["value", "sign"]) (sc := defScope sIsName) (by decide +kernel)) (fun _ _ _ _ _ => (pg_name (i := 1) sc_is_name.nd rfl (.inl rfl)))  (fun _ _ _ _ _ => (pts_one (pt_cmpR op_notInS (pv 1) (pe_op op_add_str (pe_glob (v := .str letters) rfl c1 ⟨_, rfl⟩) (pe_glob (v := .str figures) rfl c2 ⟨_, rfl⟩)) (by rfl)))) (fun _ _ _ _ _ => (pv 1))) (pe_lst pa_nil) (nomark _))))), ?_⟩
  have st : start ["value", "sign"] [v] = [some v, none] := rfl
  rw [st]
  refine s_ifT (et_orT (et_notF (et_v (ez_isi (T := "str") (ez_var (i := 0) rfl hv) (by decide)) (by rw [hn])))) e fun F1 H1 g1 => q F1 H1 g1
theorem nameZ_of (A : Cal P w K mg base "is_name" ["value"] 1 (spD K fIsName)) (B : Cal P w K mg base "is_name" ["value"] 1 (spNameN K)) : Cal P w K mg base "is_name" ["value"] 1 (spNameZ K) := A.or B
theorem ev_nameZ {σ : L2.St} {F : Hp} {te : TE} {d : PyData} {E : XK} (h : EvZ K te σ F d) (hs : ∀ y, d = .str y → y.length ≤ 30000 ∧ PyData.strOk y = true) : EvD K (tCall (spNameZ K) [] E (tCons te tNil)) σ F (.bool (isName d)) := fun H e Q q =>
  h H e _ fun v F1 H1 g1 hv => by
    by_cases ht : ∃ y, d = .str y
    · obtain ⟨y, rfl⟩ := ht
      cases hv with
      | dat hv => exact .inl ⟨F1, [.str y], _, g1.fh, .cons hv .nil, ⟨_, rfl, hs, rfl⟩, fun x F2 H2 g2 hx => q x F2 H2 (g1.trans g2) hx⟩
    · have e0 : isName d = false := by
        cases d <;> first | rfl | exact absurd ⟨_, rfl⟩ ht
      have e1 : isD d "str" = false := by
        cases d <;> first | rfl | exact absurd ⟨_, rfl⟩ ht
      rw [e0] at q
      exact .inr ⟨F1, v, d, rfl, g1.fh, hv, e1, fun F2 H2 g2 => q _ F2 H2 (g1.trans g2) (.bl _)⟩
/-! whole numbers -/
def spWholeN (K : PySem.W.Frag) : Sp := fun vs H Q _ => ∃ (F : Hp) (v : V) (d : PyData), vs = [v] ∧ Ex F H ∧ Dz K F v d ∧ ∀ F' H', Gr F H F' H' → Q (.bl (isWhole d)) H'
theorem ok_is_wholeZ (D : Def K mg "is_whole" sIsWhole ["value"]) (B : Bl mg) : Cal P w K mg base "is_whole" ["value"] 1 (spWholeN K) := by
  refine cal_mk D sc_is_whole (fun vs H Q E h => ?_) (fun f cdv A outer s H vs Q E hr h => ?_)
  · obtain ⟨F, v, d, rfl, _⟩ := h
    rfl
  obtain ⟨F, v, d, rfl, e, hv, q⟩ := h
  refine ⟨_, (pss_one (ps_ret (pe_and (pe_callB call_isi (by rfl) B.isi (by decide +kernel) (pa_cons (pv 0) (pa_cons (pe_bltn (v := .ty "int") (by rfl) B.int (by decide +kernel) rfl) pa_nil))) (pe_one (pe_not (pe_callB call_isi (by rfl) B.isi (by decide +kernel) (pa_cons (pv 0) (pa_cons (pe_bltn (v := .ty "bool") (by rfl) B.bool (by decide +kernel) rfl) pa_nil)))))))), ?_⟩
  have st : start ["value"] [v] = [some v] := rfl
  rw [st]
  refine Dv.s_ret (K := K) (d := .bool (isWhole d)) (Dv.ev_andV (ez_isi (ez_var (i := 0) rfl hv) (by decide)) fun _ => Dv.ev_notV (ez_isi (ez_var (i := 0) rfl hv) (by decide))) e fun x F2 H2 g2 hx => ?_
  cases hx
  exact q F2 H2 g2
def spNumZ (K : PySem.W.Frag) : Sp := fun vs H Q _ => ∃ (F : Hp) (v : V) (d : PyData) (l : Int), vs = [v, .int l] ∧ Ex F H ∧ Dz K F v d ∧ ∀ F' H', Gr F H F' H' → Q (.bl (isNum d l)) H'
theorem ok_is_numberZ (D : Def K mg "is_number" sIsNumber ["value", "least"]) (CC : Cst mg) (C_is_whole : Cal P w K mg base "is_whole" ["value"] 1 (spWholeN K)) : Cal P w K mg base "is_number" ["value", "least"] 2 (spNumZ K) := by
  refine cal_mk D sc_is_number (fun vs H Q E h => ?_) (fun f cdv A outer s H vs Q E hr h => ?_)
  · obtain ⟨F, v, d, l, rfl, _⟩ := h
    rfl
  obtain ⟨F, v, d, l, rfl, e, hv, q⟩ := h
  obtain ⟨t3, c3⟩ := CC.mostNumber
  refine ⟨_, (pss_one (ps_ret (pe_and (pe_callC C_is_whole hr (pa_cons (pv 0) pa_nil)) (pe_one (pe_chain op_le op_le (pv 1) (pv 0) (pe_glob (v := .int 1000000) rfl c3 ⟨_, rfl⟩)))))), ?_⟩
  have st : start ["value", "least"] [v, .int l] = [some v, some (.int l)] := rfl
  rw [st]
  have wh : EvD K (tCall (spWholeN K) [] E0 (tCons (tVar 0) tNil)) [some v, some (.int l)] F (.bool (isWhole d)) := fun H1 e1 Q1 q1 => ⟨v, rfl, F, v, d, rfl, e1, hv, fun F2 H2 g2 => q1 _ F2 H2 g2 (.bl _)⟩
  refine Dv.s_ret (K := K) (d := .bool (isNum d l)) (Dv.ev_andV wh fun hw => ?_) e fun x F2 H2 g2 hx => ?_
  · obtain ⟨i, rfl⟩ := whole_int hw
    cases hv with
    | dat hv =>
      exact ev_chI (f := fun i j => decide (i ≤ j)) (g := fun i j => decide (i ≤ j)) (Dv.ev_var (i := 1) rfl (.int l)) (Dv.ev_var (i := 0) rfl hv) (Dv.ev_int 1000000)
  · cases hx
    exact q F2 H2 g2
theorem ez_isNR {σ : L2.St} {F : Hp} {ta : TE} {d : PyData} (ha : EvZ K ta σ F d) : EvD K (tOp rIsN ta (tC .non)) σ F (.bool (nonB d)) := fun H e Q q => ha H e _ fun v F1 H1 g1 hv => by
  refine ⟨rfl, q _ F1 H1 g1 ?_⟩
  have : decide (v = .non) = nonB d := by
    cases hv with
    | dat h => exact dec_non h
    | mt h => simp [nonB]
    | lst h _ => simp [nonB]
    | tup h _ => simp [nonB]
  rw [this]
  exact .bl _
theorem ev_numZ {σ : L2.St} {F : Hp} {te : TE} {d : PyData} {l : Int} {E : XK} (h : EvZ K te σ F d) : EvD K (tCall (spNumZ K) [] E (tCons te (tCons (tC (.int l)) tNil))) σ F (.bool (isNum d l)) := fun H e Q q =>
  h H e _ fun v F1 H1 g1 hv => ⟨F1, v, d, l, rfl, g1.fh, hv, fun F2 H2 g2 => q _ F2 H2 (g1.trans g2) (.bl _)⟩
/-! stuffs -/
def spStuffZ (K : PySem.W.Frag) : Sp := fun vs H Q _ => ∃ (F : Hp) (v : V) (d : PyData), vs = [v] ∧ Ex F H ∧ Dz K F v d ∧ gd d = true ∧ ∀ F' H', Gr F H F' H' → Q (.bl (isStuff d)) H'
theorem ok_is_stuffZ (D : Def K mg "is_stuff" sIsStuff ["value"]) (B : Bl mg) (C_is_name : Cal P w K mg base "is_name" ["value"] 1 (spNameZ K)) (C_is_number : Cal P w K mg base "is_number" ["value", "least"] 2 (spNumZ K)) :
    Cal P w K mg base "is_stuff" ["value"] 3 (spStuffZ K) := by
  refine cal_mk D sc_is_stuff (fun vs H Q E h => ?_) (fun f cdv A outer s H vs Q E hr h => ?_)
  · obtain ⟨F, v, d, rfl, _⟩ := h
    rfl
  obtain ⟨F, x, d, rfl, e, h1, hg, q⟩ := h
  refine ⟨_, (pss_cons (ps_if (PW.pt (pw_or (pt_not (pt_val (pe_callB call_isi (by rfl) B.isi (by decide +kernel) (pa_cons (pv 0) (pa_cons (pe_bltn (v := .ty "tuple") (by rfl) B.tuple (by decide +kernel) rfl) pa_nil))))) (pw_or (pt_cmpR op_ne (pe_callB call_len (by rfl) B.len (by decide +kernel) (pa_cons (pv 0) pa_nil)) pe_int (nomark _)) (pw_or1 (pt_not (pt_val (pe_callC C_is_name hr (pa_cons (pe_ix ix_tup (pv 0) pe_int (fun _ _ => rfl)) pa_nil)))))))) (pss_one (ps_ret pe_bl)) pss_nil)
      (pss_one (ps_ret (pe_or (pe_cmpR op_isN (pe_ix ix_tup (pv 0) pe_int (fun _ _ => rfl)) pe_non (nomark _)) (pe_one (pe_callC C_is_number hr (pa_cons (pe_ix ix_tup (pv 0) pe_int (fun _ _ => rfl)) (pa_cons pe_int pa_nil)))))))), ?_⟩
  have st : start ["value"] [x] = [some x] := rfl
  rw [st]
  have no : isStuff d = false → ∀ F1 H1, Gr F H F1 H1 → Q (.bl false) H1 := fun h F1 H1 g => by
    have := q F1 H1 g
    rwa [h] at this
  have vx := ez_var (K := K) (σ := [some x]) (i := 0) rfl h1
  by_cases ht : ∃ es, d = .tuple es
  · obtain ⟨es, rfl⟩ := ht
    obtain ⟨hl, hgs⟩ := gd_tup hg
    have tT := et_notT (et_v (p := true) (ez_isi (T := "tuple") vx (by decide)) rfl)
    by_cases h2 : es.length = 2
    · match es, h2 with
      | [a, b], _ =>
        have ln := et_v (p := false) (Dv.ev_neI (ez_len vx rfl (by simp)) (Dv.ev_int 2)) rfl
        have va := ez_ixT (d := a) vx (Dv.ev_int 0) rfl
        have vb := ez_ixT (d := b) vx (Dv.ev_int 1) rfl
        have ga : gd a = true := gds_mem hgs (by simp)
        have nm := ev_nameZ (K := K) (E := E0) va (fun y hy => gd_str (by rw [← hy]; exact ga))
        cases hn : isName a with
        | true =>
          refine s_ifF (et_orF tT (et_orF ln (et_notT (et_v nm (by rw [hn]))))) e fun F1 H1 g1 => ?_
          refine Dv.s_ret (K := K) (d := .bool (isStuff (.tuple [a, b]))) (Dv.ev_is (Dv.ev_orV (ez_isNR (vb.mono g1.fx)) fun _ => ev_numZ (vb.mono g1.fx)) (by
            show _ = PyData.bool (isName a && _)
            rw [hn, Bool.true_and])) g1.fh fun v F2 H2 g2 hv => ?_
          cases hv
          exact q F2 H2 (g1.trans g2)
        | false =>
          exact s_ifT (et_orF tT (et_orF ln (et_notF (et_v nm (by rw [hn]))))) e fun F1 H1 g1 => no (by show (isName a && _) = false; rw [hn] <;> rfl) F1 H1 g1
    · have e0 : isStuff (.tuple es) = false := by
        unfold isStuff
        split
        · rename_i q
          cases q
          exact absurd rfl h2
        · rfl
      exact s_ifT (et_orF tT (et_orT (et_v (Dv.ev_neI (ez_len vx rfl (by omega)) (Dv.ev_int 2)) (by
        congr 1
        simp only [bne_iff_ne, ne_eq]
        omega)))) e fun F1 H1 g1 => no e0 F1 H1 g1
  · have e0 : isStuff d = false := by
      unfold isStuff
      split
      · exact absurd ⟨_, rfl⟩ ht
      · rfl
    have e1 : isD d "tuple" = false := by
      cases d <;> first | rfl | exact absurd ⟨_, rfl⟩ ht
    exact s_ifT (et_orT (et_notF (et_v (ez_isi (T := "tuple") vx (by decide)) (by rw [e1])))) e fun F1 H1 g1 => no e0 F1 H1 g1
end
end R3

set_option Elab.async false
set_option linter.all false
set_option maxRecDepth 100000
set_option maxHeartbeats 4000000
/-! are_parts, is_recipe over data with empty dicts within (printed by gen_w5b.py from W3f, W3g) -/
namespace Dv
open PySem PySem.Spec PyProof.Rows L2 Evl
section
variable {K : PySem.W.Frag} {σ : L2.St} {F F1 H H1 : Hp} {te ta tb tc : TE} {d a b : PyData} {ds es : List PyData} {i j k : Int} {p q : Bool} {tu : TT}
theorem ez_strD {x : Str} (h : EvZ K te σ F (.str x)) : EvD K te σ F (.str x) := fun H e Q q => h H e Q fun v F' H' g hv => by
  cases hv with
  | dat hv => exact q v F' H' g hv
theorem etz_tupn {n : Nat} (vx : EvZ K te σ F d) (hl : ∀ es, d = .tuple es → es.length ≤ 100000) (h1 : ∀ es, d = .tuple es → es.length = n → EtD tu σ F p) (h2 : (¬ ∃ es, d = .tuple es ∧ es.length = n) → p = true) :
    EtD (tOr (tNot (tTest (tCB (rIsi K) (tCons te (tCons (tC (.ty "tuple")) tNil)))))
      (tOr (tTest (tOp rNe (tCB (fun xs H Q => ∃ x n, xs = [x] ∧ LenV K x H n ∧ Q (.int n) H) (tCons te tNil)) (tC (.int (n : Int))))) tu)) σ F p := by
  by_cases ht : ∃ es, d = .tuple es
  · obtain ⟨es, rfl⟩ := ht
    have tT := et_notT (et_v (p := true) (ez_isi (T := "tuple") vx (by decide)) rfl)
    have hl' := hl es rfl
    by_cases hn : es.length = n
    · exact et_orF tT (et_orF (et_v (ev_neI (ez_len vx rfl hl') (ev_int n)) (by
        congr 1
        simp only [bne_eq_false_iff_eq]
        omega)) (h1 es rfl hn))
    · have e0 := h2 (fun ⟨es', e, h⟩ => by cases e; exact hn h)
      subst e0
      exact et_orF tT (et_orT (et_v (ev_neI (ez_len vx rfl hl') (ev_int n)) (by
        congr 1
        simp only [bne_iff_ne, ne_eq]
        omega)))
  · have e0 := h2 (fun ⟨es', e, h⟩ => ht ⟨es', e⟩)
    subst e0
    have e1 : isD d "tuple" = false := by
      cases d <;> first | rfl | exact absurd ⟨_, rfl⟩ ht
    exact et_orT (et_notF (et_v (ez_isi (T := "tuple") vx (by decide)) (by rw [e1])))
end
end Dv
namespace R3
open PySem PySem.Spec PyProof.Rows L2 Dv
section
variable {P : Program} {w : World} {K : PySem.W.Frag} {mg : Str → Option Value} {base : Heap}
def spPartsZ (K : PySem.W.Frag) : Sp := fun vs H Q _ => ∃ (F : Hp) (v : V) (d : PyData) (sp : Addr) (names : List Str), vs = [v, .ref sp] ∧ Evl.Ex F H ∧ Dz K F v d ∧ gd d = true ∧ SpotsAt F sp names ∧ ∀ F' H', Gr F H F' H' → Q (.bl (areParts names d)) H'
theorem ok_are_partsZ (D : Def K mg "are_parts" sAreParts ["value", "spots"]) (B : Bl mg) (C_is_name : Cal P w K mg base "is_name" ["value"] 1 (spNameZ K)) (C_is_number : Cal P w K mg base "is_number" ["value", "least"] 2 (spNumZ K)) :
    Cal P w K mg base "are_parts" ["value", "spots"] 3 (spPartsZ K) := by
  refine cal_mk D sc_are_parts (fun vs H Q E h => ?_) (fun f cdv A outer s H vs Q E hr h => ?_)
  · obtain ⟨F, v, d, sp, names, rfl, _⟩ := h
    rfl
  obtain ⟨F, v, d, sp, names, rfl, e, hv, hg, hsp, q⟩ := h
  have hu := hu_of hr.1
  refine ⟨_, (pss_cons (ps_if (pt_not (pt_val (pe_callB call_isi (by rfl) B.isi (by decide +kernel) (pa_cons (pv 0) (pa_cons (pe_bltn (v := .ty "list") (by rfl) B.list (by decide +kernel) rfl) pa_nil))))) (pss_one (ps_ret pe_bl)) pss_nil)
      (pss_cons (ps_set (i := 2) sc_are_parts.nd rfl (.inl rfl) (pe_lst pa_nil))
      (pss_cons (ps_for PassesOwn.never rfl (pi_list (pv 0)) (pg_name (i := 3) sc_are_parts.nd rfl (.inl rfl)) (pss_cons (ps_if (PW.pt (pw_or (pt_not (pt_val (pe_callB call_isi (by rfl) B.isi (by decide +kernel) (pa_cons (pv 3) (pa_cons (pe_bltn (v := .ty "tuple") (by rfl) B.tuple (by decide +kernel) rfl) pa_nil))))) (pw_or (pt_cmpR op_ne (pe_callB call_len (by rfl) B.len (by decide +kernel) (pa_cons (pv 3) pa_nil)) pe_int (nomark _)) (pw_or (pt_not (pt_val (pe_callC C_is_name hr (pa_cons (pe_ix ix_tup (pv 3) pe_int (fun _ _ => rfl)) pa_nil)))) (pw_or1 (pt_not (pt_val (pe_callC C_is_number hr (pa_cons (pe_ix ix_tup (pv 3) pe_int (fun _ _ => rfl)) (pa_cons pe_int pa_nil)))))))))) (pss_one (ps_ret pe_bl)) pss_nil)
      (pss_cons (ps_if (PW.pt (pw_or (pt_cmp (pc_dnotin hu (pe_ix ix_tup (pv 3) pe_int (fun _ _ => rfl)) (pv 1)) (by rfl)) (pw_or1 (pt_cmpR op_in_seq (pe_ix ix_tup (pv 3) pe_int (fun _ _ => rfl)) (pv 2) (by rfl))))) (pss_one (ps_ret pe_bl)) pss_nil)
      (pss_one (ps_expr (pe_bm PySem.F.plainAttrs_list PySem.F.slot_list_append PySem.F.type_list_append mt_append (pv 2) (pa_cons (pe_ix ix_tup (pv 3) pe_int (fun _ _ => rfl)) pa_nil)))))))
      (pss_one (ps_ret pe_bl))))), ?_⟩
  have vx := ez_var (K := K) (σ := [some v, some (.ref sp), none, none]) (i := 0) rfl hv
  by_cases ht : ∃ xs, d = .list xs
  · obtain ⟨xs, rfl⟩ := ht
    obtain ⟨hxl, hgs⟩ := gd_list hg
    refine s_ifF (et_notT (et_v (p := true) (ez_isi (T := "list") vx (by decide)) rfl)) e fun F0 H0 g0 => ?_
    refine Dv.s_asgL (K := K) (Dv.el_lst Dv.ea_nil (by simp)) g0.fh fun p ws F1 H1 g1 hp0 fp hp1 hws => ?_
    cases hws
    have g01 := g0.trans g1
    refine s_forZ (K := K) (itz_list (ez_var (i := 0) rfl (dz_ex g01.fx hv))) g1.fh
      (fun n σ F' H' => ∃ (it : Option V) (seen : List Str), σ = [some v, some (.ref sp), some (.ref p), it] ∧ F' p = none ∧ H' p = some (.lst (seen.map V.str)) ∧ seen.length ≤ n ∧ partsGo names xs [] = partsGo names (xs.drop n) seen ∧ Gr F H F' H')
      (fun F2 H2 g2 => ?_) ?_ (fun σ' F2 H2 e2 e3 p2 => ?_)
    · have k := g2.keep hp1 fp
      exact ⟨none, [], rfl, k.2, k.1, Nat.le_refl _, rfl, g01.trans g2⟩
    · rintro Fb eb n σ' F2 H2 u du F3 H3 hdu e2 e3 ⟨it, seen, rfl, fp2, hp2, hsl, hpg, gg⟩ g3 hu3
      have hp3 := g3.keep hp2 fp2
      have gg3 := gg.trans g3
      have hn : n < xs.length := (List.getElem?_eq_some_iff.mp hdu).1
      have hdrop : xs.drop n = du :: xs.drop (n + 1) := by
        rw [List.drop_eq_getElem_cons hn]
        congr 1
        exact (List.getElem?_eq_some_iff.mp hdu).2
      rw [hdrop] at hpg
      have hgd : gd du = true := gds_mem hgs (List.mem_of_getElem? hdu)
      have vu := ez_var (K := K) (σ := [some v, some (.ref sp), some (.ref p), some u]) (i := 3) rfl hu3
      show tSeq _ _ _ [some v, some (.ref sp), some (.ref p), some u] H3
      have t1 : ∀ a k, du = .tuple [a, k] → EvD K (tCall (spNameZ K) [] E0 (tCons (tOp (rIxT K) (tVar 3) (tC (.int 0))) tNil)) [some v, some (.ref sp), some (.ref p), some u] F3 (.bool (isName a)) := by
        intro a k hd
        subst hd
        have ga : gd a = true := gds_mem (gd_tup hgd).2 (by simp)
        exact ev_nameZ (ez_ixT (d := a) vu (Dv.ev_int 0) rfl) fun y hy => gd_str (by rw [← hy]; exact ga)
      have t2 : ∀ a k, du = .tuple [a, k] → EvD K (tCall (spNumZ K) [] E0 (tCons (tOp (rIxT K) (tVar 3) (tC (.int 1))) (tCons (tC (.int 1)) tNil))) [some v, some (.ref sp), some (.ref p), some u] F3 (.bool (isNum k 1)) := by
        intro a k hd
        subst hd
        exact ev_numZ (ez_ixT (d := k) vu (Dv.ev_int 1) rfl)
      cases hpo : partOk du with
      | false =>
        refine s_ifT (etz_tupn (n := 2) vu (fun es he => by subst he; exact Nat.le_trans (gd_tup hgd).1 (by decide)) (fun es he hl => ?_) fun _ => rfl) g3.fh fun F4 H4 g4 => ?_
        · obtain ⟨a, k, rfl⟩ := len2 hl
          subst he
          have z : (isName a && isNum k 1) = false := hpo
          cases ha : isName a with
          | false => exact et_orT (et_notF (et_v (t1 a k rfl) (by rw [ha])))
          | true =>
            rw [ha, Bool.true_and] at z
            exact et_orF (et_notT (et_v (t1 a k rfl) (by rw [ha]))) (et_notF (et_v (t2 a k rfl) (by rw [z])))
        · have := q F4 H4 (gg3.trans g4)
          rw [show areParts names (.list xs) = partsGo names xs [] from rfl, hpg, partsGo, hpo] at this
          exact this
      | true =>
        obtain ⟨nm, k, rfl, hnm, hk⟩ := part_shape hpo
        refine s_ifF (etz_tupn (n := 2) vu (fun es he => by cases he; exact (by simp : 2 ≤ 100000)) (fun es he hl => ?_) fun no => absurd ⟨_, rfl, rfl⟩ no) g3.fh fun F4 H4 g4 => ?_
        · cases he
          exact et_orF (et_notT (et_v (t1 _ _ rfl) (by rw [show isName (.str nm) = true from hnm]))) (et_notT (et_v (t2 _ _ rfl) (by rw [hk])))
        have hp4 := g4.keep hp3.1 hp3.2
        have gg4 := gg3.trans g4
        have v0 := ez_strD (ez_ixT (d := .str nm) (vu.mono g4.fx) (Dv.ev_int 0) rfl)
        obtain ⟨kvs, hkv, hks⟩ := hsp.ex gg4.fx
        have nI := et_dnotin (tb := tVar 1) v0 (fun F1 H1 _ _ Q q => ⟨_, rfl, q⟩) hkv
        rw [hks] at nI
        have hpg' : partsGo names xs [] = (decide (nm ∈ names) && !decide (nm ∈ seen) && partsGo names (xs.drop (n + 1)) (seen ++ [nm])) := by
          rw [hpg, partsGo, hpo, Bool.true_and] <;> rfl
        have no : (decide (nm ∈ names) && !decide (nm ∈ seen)) = false → ∀ F5 H5, Gr F4 H4 F5 H5 → Q (.bl false) H5 := fun h F5 H5 g5 => by
          have := q F5 H5 (gg4.trans g5)
          rw [show areParts names (.list xs) = partsGo names xs [] from rfl, hpg', h, Bool.false_and] at this
          exact this
        by_cases hin : nm ∈ names
        · rw [decide_eq_true hin] at nI
          -- then the second part of the or
          refine nI H4 g4.fh _ fun F5 H5 g5 => ?_
          rw [if_neg (show ¬ ((!true) = true) by decide)]
          have hp5 := g5.keep hp4.1 hp4.2
          refine et_inStrs (v0.mono g5.fx) rfl H5 g5.fh hp5.1 hp5.2 _ fun F6 H6 g6 => ?_
          by_cases hs : nm ∈ seen
          · rw [decide_eq_true hs]
            exact iteT (no (by rw [decide_eq_true hs]; simp) F6 H6 (g5.trans g6))
          · rw [decide_eq_false hs]
            refine iteF ?_
            have hp6 := g6.keep hp5.1 hp5.2
            have g56 := g5.trans g6
            refine Dv.s_app (xs := seen.map V.str) (d := .str nm) hp6.1 hp6.2 rfl (v0.mono g56.fx) g6.fh (by rw [List.length_map]; omega) fun y F7 H7 g7 hy f7 h7 => ?_
            cases hy
            have hH : H p = none := ex_none g0.hx hp0
            refine ⟨F7, e2.trans (g3.fx.trans (g4.fx.trans (g56.fx.trans g7.fx))), ?_, some u, seen ++ [nm], rfl, f7, by rw [upd_same, List.map_append] <;> rfl, by rw [List.length_append]; simp; omega, ?_, ?_⟩
            · exact Evl.Ex.mut g7.fh f7
            · rw [hpg', decide_eq_true hin, decide_eq_false hs] <;> rfl
            · exact ((gg4.trans g56).trans g7).mut hH f7
        · rw [decide_eq_false hin] at nI
          refine nI H4 g4.fh _ fun F5 H5 g5 => ?_
          rw [if_pos (show (!false) = true from rfl)]
          exact iteT (no (by rw [decide_eq_false hin]; rfl) F5 H5 g5)
    · obtain ⟨it, seen, rfl, _, _, _, hpg, gg⟩ := p2
      dsimp only
      refine Dv.s_ret (K := K) (d := .bool true) (Dv.ev_bl true) e3 fun y F4 H4 g4 hy => ?_
      cases hy
      have := q F4 H4 (gg.trans g4)
      rw [show areParts names (.list xs) = partsGo names xs [] from rfl, hpg, List.drop_length] at this
      exact this
  · have e0 : areParts names d = false := by
      cases d <;> first | rfl | exact absurd ⟨_, rfl⟩ ht
    have e1 : isD d "list" = false := by
      cases d <;> first | rfl | exact absurd ⟨_, rfl⟩ ht
    refine s_ifT (et_notF (et_v (ez_isi (T := "list") vx (by decide)) (by rw [e1]))) e fun F1 H1 g1 => ?_
    have := q F1 H1 g1
    rw [e0] at this
    exact this
theorem ev_partsZ {σ : L2.St} {F : Hp} {te : TE} {d : PyData} {sp : Addr} {names : List Str} {j : Nat} {E : XK} (h : EvZ K te σ F d) (hj : σ[j]? = some (some (.ref sp))) (hs : SpotsAt F sp names) (hg : gd d = true) :
    EvD K (tCall (spPartsZ K) [] E (tCons te (tCons (tVar j) tNil))) σ F (.bool (areParts names d)) := fun H e Q q =>
  h H e _ fun v F1 H1 g1 hv => ⟨_, hj, F1, v, d, sp, names, rfl, g1.fh, hv, hg, hs.ex g1.fx, fun F' H' g => q _ F' H' (g1.trans g) (.bl _)⟩
def spRecipeZ (K : PySem.W.Frag) : Sp := fun vs H Q _ => ∃ (F : Hp) (v : V) (d : PyData) (sp : Addr) (names : List Str), vs = [v, .ref sp] ∧ Evl.Ex F H ∧ Dz K F v d ∧ gd d = true ∧ SpotsAt F sp names ∧ ∀ F' H', Gr F H F' H' → Q (.bl (isRecipe names d)) H'
theorem ok_is_recipeZ (D : Def K mg "is_recipe" sIsRecipe ["value", "spots"]) (B : Bl mg) (C_is_name : Cal P w K mg base "is_name" ["value"] 1 (spNameZ K)) (C_are_parts : Cal P w K mg base "are_parts" ["value", "spots"] 3 (spPartsZ K)) :
    Cal P w K mg base "is_recipe" ["value", "spots"] 4 (spRecipeZ K) := by
  refine cal_mk D sc_is_recipe (fun vs H Q E h => ?_) (fun f cdv A outer s H vs Q E hr h => ?_)
  · obtain ⟨F, v, d, sp, names, rfl, _⟩ := h
    rfl
  obtain ⟨F, v, d, sp, names, rfl, e, hv, hg, hsp, q⟩ := h
  refine ⟨_, (pss_cons (ps_if (PW.pt (pw_or (pt_not (pt_val (pe_callB call_isi (by rfl) B.isi (by decide +kernel) (pa_cons (pv 0) (pa_cons (pe_bltn (v := .ty "tuple") (by rfl) B.tuple (by decide +kernel) rfl) pa_nil))))) (pw_or (pt_cmpR op_ne (pe_callB call_len (by rfl) B.len (by decide +kernel) (pa_cons (pv 0) pa_nil)) pe_int (nomark _)) (pw_or1 (pt_not (pt_val (pe_callC C_is_name hr (pa_cons (pe_ix ix_tup (pv 0) pe_int (fun _ _ => rfl)) pa_nil)))))))) (pss_one (ps_ret pe_bl)) pss_nil)
      (pss_one (ps_ret (pe_and (pe_callC C_are_parts hr (pa_cons (pe_ix ix_tup (pv 0) pe_int (fun _ _ => rfl)) (pa_cons (pv 1) pa_nil))) (pe_one (pe_callC C_are_parts hr (pa_cons (pe_ix ix_tup (pv 0) pe_int (fun _ _ => rfl)) (pa_cons (pv 1) pa_nil)))))))), ?_⟩
  have vx := ez_var (K := K) (σ := [some v, some (.ref sp)]) (i := 0) rfl hv
  have nm : ∀ a t g, d = .tuple [a, t, g] → EvD K (tCall (spNameZ K) [] E0 (tCons (tOp (rIxT K) (tVar 0) (tC (.int 0))) tNil)) [some v, some (.ref sp)] F (.bool (isName a)) := by
    intro a t g hd
    subst hd
    have ga : gd a = true := gds_mem (gd_tup hg).2 (by simp)
    exact ev_nameZ (ez_ixT (d := a) vx (Dv.ev_int 0) rfl) fun y hy => gd_str (by rw [← hy]; exact ga)
  have hlen : ∀ es, d = .tuple es → es.length ≤ 100000 := fun es he => by
    subst he
    exact Nat.le_trans (gd_tup hg).1 (by decide)
  by_cases hs : ∃ a t g, d = .tuple [a, t, g] ∧ isName a = true
  · obtain ⟨a, t, g, rfl, hn⟩ := hs
    have gt : gd t = true := gds_mem (gd_tup hg).2 (by simp)
    have gg : gd g = true := gds_mem (gd_tup hg).2 (by simp)
    refine s_ifF (etz_tupn (n := 3) vx hlen (fun es he _ => et_notT (et_v (nm a t g rfl) (by rw [hn]))) fun no => absurd ⟨_, rfl, rfl⟩ no) e fun F1 H1 g1 => ?_
    refine Dv.s_ret (K := K) (d := .bool (isRecipe names (.tuple [a, t, g]))) (Dv.ev_is (Dv.ev_andV (ev_partsZ (j := 1) (ez_ixT (d := t) (vx.mono g1.fx) (Dv.ev_int 1) rfl) rfl (hsp.ex g1.fx) gt) fun _ => ev_partsZ (j := 1) (ez_ixT (d := g) (vx.mono g1.fx) (Dv.ev_int 2) rfl) rfl (hsp.ex g1.fx) gg) (by
      show _ = PyData.bool (isName a && areParts names t && areParts names g)
      rw [hn, Bool.true_and])) g1.fh fun y F2 H2 g2 hy => ?_
    cases hy
    exact q F2 H2 (g1.trans g2)
  · have e0 : isRecipe names d = false := by
      unfold isRecipe
      split
      · rename_i a t g
        cases hn : isName a with
        | true => exact absurd ⟨a, t, g, rfl, hn⟩ hs
        | false => rfl
      · rfl
    refine s_ifT (etz_tupn (n := 3) vx hlen (fun es he hl => ?_) fun _ => rfl) e fun F1 H1 g1 => ?_
    · obtain ⟨a, t, g, rfl⟩ := len3 hl
      cases hn : isName a with
      | true => exact absurd ⟨a, t, g, he, hn⟩ hs
      | false => exact et_notF (et_v (nm a t g he) (by rw [hn]))
    · have := q F1 H1 g1
      rw [e0] at this
      exact this
end
end R3

set_option Elab.async false
set_option linter.all false
set_option maxRecDepth 100000
set_option maxHeartbeats 4000000
/-! zip(a, d.values(), strict=True) of a list and a locked dict of the same length: the second iterator as Draws. -/
namespace PySem
namespace ZV
open Sem (wp)
open ZS
section
variable {prog : Program} {w : World} {A : Around} {E : Value → Shared → Prop} {s : Shared}
theorem nextOf_val_item {it d : Addr} {i n ep : Nat} {od : Obj} {es : Array DictEntry} {en : DictEntry} {Q : Value → Shared → Prop} (hit : s.heap.IsValIter it d i n ep) (hod : s.heap.get? d = some od) (hdd : od.data = .dict es ep)
    (hsz : es.size = n) (hx : es[i]? = some en) (hQ : ∀ h', h'.IsValIter it d (i + 1) n ep → Heap.SameBut it s.heap h' → Q en.val { s with heap := h' }) : wpAny (model prog w) A (Builtin.SmallTypes.nextOf (.ref it)) Q E s := by
  obtain ⟨o, ho, hc, hd⟩ := id hit
  unfold Builtin.SmallTypes.nextOf
  refine wpAny_bind (wpAny_callSpecial?_slot (name := Str.ofString "__next__") hit.typeIs F.slot_dict_valueiterator_next
    (wpAny_call_entry F.slot_dict_valueiterator_next hit.typeIs F.entry_dict_valueiterator_next ?_ (F.args_dict_valueiterator_next_1 _)))
  refine wpAny_bind (wpAny_pure ?_)
  refine wpAny_bind ?_
  refine wpAny_bind ?_
  first | refine wpAny_bind (wpAny_typeNameOfWhole_valiter hit.typeIs (wpAny_pure ?_)) | refine wpAny_bind (wpAny_typeNameOf_valiter hit.typeIs (wpAny_pure ?_))
  refine wpAny_bind (wpAny_fieldsOf ho hd ?_)
  have hown : Builtin.Dict_items.ownsTuple "dict_valueiterator" = false := by decide
  simp only [hown, Bool.false_eq_true, if_false]
  show wpAny _ _ (if (Value.ref d == Value.none) = true then _ else _) _ _ s
  rw [if_neg (show ¬ ((Value.ref d == Value.none) = true) from Bool.false_ne_true)]
  refine wpAny_bind (wpAny_pure ?_)
  refine wpAny_bind (wpAny_dictEntries hod hdd ?_)
  rw [if_neg (by rw [hsz]; simp)]
  refine wpAny_bind (wpAny_pure ?_)
  refine wpAny_bind (wpAny_dictEpoch hod hdd ?_)
  rw [if_neg (by simp)]
  refine wpAny_pure ?_
  obtain ⟨hlt', hen⟩ := Array.getElem?_eq_some_iff.mp hx
  simp only [show ¬ ((i : Int) < 0) from by omega, if_false, Int.toNat_natCast, Array.getElem?_eq_getElem hlt']
  refine wpAny_bind ?_
  first | refine wpAny_bind (wpAny_typeNameOfWhole_valiter hit.typeIs (wpAny_pure ?_)) | refine wpAny_bind (wpAny_typeNameOf_valiter hit.typeIs (wpAny_pure ?_))
  refine wpAny_bind (wpAny_isOneOf_valiter hit.typeIs ?_)
  show wpAny _ _ (setField (.ref it) 1 (rawInt ((i : Int) + 1)) >>= _) _ _ s
  refine wpAny_bind (wpAny_setField ho hd (by simp) ?_)
  have hit' : (s.heap.update it (Obj.mapFields (·.setIfInBounds 1 (rawInt ((i : Int) + 1))))).IsValIter it d (i + 1) n ep :=
    ⟨_, Heap.get?_update_self _ ho (Obj.isFreed_of_fields (Obj.data_mapFields hd _)), (Obj.cls_mapFields ..).trans hc, by rw [Obj.data_mapFields hd]; simp [rawInt]⟩
  refine wpAny_bind (wpAny_holding ?_)
  refine wpAny_bind (wpAny_isOneOf_valiter (s := { s with heap := s.heap.update it (Obj.mapFields (·.setIfInBounds 1 (rawInt ((i : Int) + 1)))) }) hit'.typeIs ?_)
  refine wpAny_bind (wpAny_isOneOf_valiter (s := { s with heap := s.heap.update it (Obj.mapFields (·.setIfInBounds 1 (rawInt ((i : Int) + 1)))) }) hit'.typeIs ?_)
  show wpAny _ _ (pure es[i].val) _ _ _
  rw [hen]
  exact wpAny_pure (wpAny_pure ⟨_, rfl, wpAny_pure (hQ _ hit' (Heap.SameBut.update ..))⟩)
theorem nextOf_val_end {it d : Addr} {i n ep : Nat} {od : Obj} {es : Array DictEntry} {Q : Value → Shared → Prop} (hh : A.handled = none) (hit : s.heap.IsValIter it d i n ep) (hod : s.heap.get? d = some od) (hdd : od.data = .dict es ep)
    (hsz : es.size = n) (hge : n ≤ i) (hE : ∀ h' e, Heap.ExtBut it s.heap h' → (∃ o, h'.get? e = some o ∧ o.cls = .type "StopIteration") → E (.ref e) { s with heap := h' }) : wpAny (model prog w) A (Builtin.SmallTypes.nextOf (.ref it)) Q E s := by
  obtain ⟨o, ho, hc, hd⟩ := id hit
  unfold Builtin.SmallTypes.nextOf
  refine wpAny_bind (wpAny_callSpecial?_slot (name := Str.ofString "__next__") hit.typeIs F.slot_dict_valueiterator_next
    (wpAny_call_entry F.slot_dict_valueiterator_next hit.typeIs F.entry_dict_valueiterator_next ?_ (F.args_dict_valueiterator_next_1 _)))
  refine wpAny_bind (wpAny_pure ?_)
  refine wpAny_bind ?_
  refine wpAny_bind ?_
  first | refine wpAny_bind (wpAny_typeNameOfWhole_valiter hit.typeIs (wpAny_pure ?_)) | refine wpAny_bind (wpAny_typeNameOf_valiter hit.typeIs (wpAny_pure ?_))
  refine wpAny_bind (wpAny_fieldsOf ho hd ?_)
  have hown : Builtin.Dict_items.ownsTuple "dict_valueiterator" = false := by decide
  simp only [hown, Bool.false_eq_true, if_false]
  show wpAny _ _ (if (Value.ref d == Value.none) = true then _ else _) _ _ s
  rw [if_neg (show ¬ ((Value.ref d == Value.none) = true) from Bool.false_ne_true)]
  refine wpAny_bind (wpAny_pure ?_)
  refine wpAny_bind (wpAny_dictEntries hod hdd ?_)
  rw [if_neg (by rw [hsz]; simp)]
  refine wpAny_bind (wpAny_pure ?_)
  refine wpAny_bind (wpAny_dictEpoch hod hdd ?_)
  rw [if_neg (by simp)]
  refine wpAny_pure ?_
  have hge' : es.size ≤ i := by rw [hsz]; exact hge
  simp only [show ¬ ((i : Int) < 0) from by omega, if_false, Int.toNat_natCast, Array.getElem?_eq_none hge']
  refine wpAny_bind ?_
  first | refine wpAny_bind (wpAny_typeNameOfWhole_valiter hit.typeIs (wpAny_pure ?_)) | refine wpAny_bind (wpAny_typeNameOf_valiter hit.typeIs (wpAny_pure ?_))
  show wpAny _ _ (setField (.ref it) 0 .none >>= _) _ _ s
  refine wpAny_bind (wpAny_setField ho hd (by simp) ?_)
  show wpAny _ _ (newExc (.type "StopIteration") [] >>= _) _ _ _
  refine wpAny_bind ?_
  simp only [newExc, newTuple]
  refine wpAny_bind (wpAny_newObj_type ?_ (by size_fits))
  refine wpAny_bind (m := firstArgMember _ _) (wpAny_of_eq (a := Value.none) (by first | rfl | (simp only [firstArgMember]; rfl)) ?_)
  refine wpAny_newObj_type ?_ (by size_fits)
  simp only [raiseNew]
  refine wpAny_bind (wpAny_handled ?_)
  rw [show A.in1.handled = none from hh]
  refine wpAny_bind (wpAny_pure (wpAny_throw ?_))
  exact hE _ _ (((Heap.SameBut.update ..).extBut.push _).push _) ⟨_, Heap.get?_push_size _ rfl, rfl⟩
end
def _root_.PySem.Heap.IsAt (h : Heap) (a : Addr) (od : Obj) : Prop := h.get? a = some od
theorem _root_.PySem.Heap.IsAt.extBut {h h' : Heap} {a c : Addr} {od : Obj} (x : h.IsAt a od) (e : Heap.ExtBut c h h') (hn : a ≠ c) : h'.IsAt a od := e a od hn x
theorem _root_.PySem.Heap.IsAt.at {h h' : Heap} {a : Addr} {od : Obj} (x : h.IsAt a od) (e : ∀ o, h.get? a = some o → h'.get? a = some o) : h'.IsAt a od := e od x
section
variable {prog : Program} {w : World} {A : Around} {E : Value → Shared → Prop} {s : Shared}
theorem nextOrEndV_item {it d : Addr} {i n ep : Nat} {od : Obj} {es : Array DictEntry} {en : DictEntry} {Q : Option Value → Shared → Prop} (hit : s.heap.IsValIter it d i n ep) (hod : s.heap.IsAt d od) (hdd : od.data = .dict es ep)
    (hsz : es.size = n) (hx : es[i]? = some en) (hQ : ∀ h', h'.IsValIter it d (i + 1) n ep → Heap.SameBut it s.heap h' → Q (some en.val) { s with heap := h' }) :
    wpAny (model prog w) A (Builtin.SmallTypes.nextOrEnd (.ref it)) Q E s := by
  unfold Builtin.SmallTypes.nextOrEnd
  refine wpAny_bind (wpAny_attempt ?_)
  exact nextOf_val_item hit hod hdd hsz hx fun h' a b => wpAny_pure (hQ h' a b)
theorem nextOrEndV_end {it d : Addr} {i n ep : Nat} {od : Obj} {es : Array DictEntry} {Q : Option Value → Shared → Prop} (hh : A.handled = none)
    (hit : s.heap.IsValIter it d i n ep) (hod : s.heap.IsAt d od) (hdd : od.data = .dict es ep) (hsz : es.size = n) (hge : n ≤ i)
    (hQ : ∀ h', Heap.ExtBut it s.heap h' → Q none { s with heap := h' }) :
    wpAny (model prog w) A (Builtin.SmallTypes.nextOrEnd (.ref it)) Q E s := by
  unfold Builtin.SmallTypes.nextOrEnd
  refine wpAny_bind (wpAny_attempt ?_)
  refine nextOf_val_end hh hit hod hdd hsz hge fun h' e hk he => ?_
  obtain ⟨o, ho, hc⟩ := he
  refine wpAny_bind (wpAny_isInstance (T := "StopIteration") (b := true) ⟨o, ho, hc⟩ isSubtype_stop ?_)
  exact wpAny_pure (hQ _ hk)
theorem next_item {z TI TO i1 i2 l1 l2 : Addr} {k1 k2 : Nat} {xs : Array Value} {n ep : Nat} {od : Obj} {es : Array DictEntry} {en : DictEntry} {x a b : Value} {Q : Value → Shared → Prop} (D : ZipApart z TI TO i1 i2 l1 l2)
    (hz : IsZipS s.heap z TI TO .none) (hTI : IsPair s.heap TI (.ref i1) (.ref i2)) (hTO : IsPair s.heap TO a b)
    (h1 : s.heap.IsListIter i1 l1 k1) (h2 : s.heap.IsValIter i2 l2 k2 n ep) (hl1 : s.heap.IsList l1 xs) (hl2 : s.heap.IsAt l2 od) (hx : xs[k1]? = some x) (hy : es[k2]? = some en) (hdd : od.data = .dict es ep) (hsz : es.size = n)
    (hQ : ∀ h', IsZipS h' z TI TO (rawInt s.heap.objs.size) → IsPair h' TO x en.val → h'.IsListIter i1 l1 (k1 + 1) → h'.IsValIter i2 l2 (k2 + 1) n ep → IsPair h' s.heap.objs.size x en.val → h'.objs.size = s.heap.objs.size + 1 →
      (∀ c o, c ≠ z → c ≠ TO → c ≠ i1 → c ≠ i2 → s.heap.get? c = some o → h'.get? c = some o) → Q (.ref s.heap.objs.size) { s with heap := h' }) :
    wpAny (model prog w) A (Builtin.«zip.__next__» ⟨[.ref z], []⟩) (fun fin s' => ∃ v, fin = .done (.ret v) ∧ Q v s') E s := by
  show wpAny _ _ (field (.ref z) 2 >>= _) _ _ _
  refine wpAny_bind (wpAny_field hz rfl (x := .bool true) rfl ?_)
  show wpAny _ _ (field (.ref z) 3 >>= _) _ _ _
  refine wpAny_bind (wpAny_field hz rfl (x := .ref TI) rfl ?_)
  refine wpAny_bind (wpAny_seqItems hTI rfl ?_)
  show wpAny _ _ (Builtin.SmallTypes.ownedTupleIsFree (.ref z) >>= _) _ _ _
  refine wpAny_bind ?_
  unfold Builtin.SmallTypes.ownedTupleIsFree
  refine wpAny_bind (wpAny_field hz rfl (x := .none) rfl (wpAny_pure ?_))
  simp only [if_true]
  refine wpAny_bind (wpAny_rule ?_)
  refine wpAny_bind (wpAny_field hz rfl (x := .ref TO) rfl ?_)
  refine wpAny_bind (wpAny_setField_rec hz (by simp) fun h₁ hz₁ hs₁ => ?_)
  replace hz₁ : IsZipS h₁ z TI TO .ellipsis := hz₁
  refine wpAny_bind ?_
  simp only [List.zipIdx_cons, List.zipIdx_nil, List.forIn_cons, List.forIn_nil]
  refine wpAny_bind (wpAny_bind (wpAny_onRaise ?_))
  show wpAny _ _ (Builtin.SmallTypes.nextOrEnd (.ref i1)) _ _ _
  refine nextOrEnd_item (h1.extBut hs₁.extBut D.i1z) (hl1.extBut hs₁.extBut D.l1z) hx fun h₂ h1₂ hs₂ => ?_
  have hTO₂ : IsPair h₂ TO a b := hs₂.extBut _ _ D.TOi1 (hs₁.extBut _ _ D.TOz hTO)
  refine wpAny_bind (wpAny_seqItems hTO₂ rfl ?_)
  refine wpAny_bind (wpAny_updateSeq_pair hTO₂ fun h₃ hTO₃ hs₃ => ?_)
  replace hTO₃ : IsPair h₃ TO x b := hTO₃
  refine wpAny_bind (wpAny_letGo (wpAny_pure ?_))
  refine wpAny_bind (wpAny_bind (wpAny_onRaise ?_))
  show wpAny _ _ (Builtin.SmallTypes.nextOrEnd (.ref i2)) _ _ _
  refine nextOrEndV_item (((h2.extBut hs₁.extBut D.i2z).extBut hs₂.extBut D.i12.symm).extBut hs₃.extBut D.TOi2.symm)
    (((hl2.extBut hs₁.extBut D.l2z).extBut hs₂.extBut D.l2i1).extBut hs₃.extBut D.l2TO) hdd hsz hy fun h₄ h2₄ hs₄ => ?_
  have hTO₄ : IsPair h₄ TO x b := hs₄.extBut _ _ D.TOi2 hTO₃
  refine wpAny_bind (wpAny_seqItems hTO₄ rfl ?_)
  refine wpAny_bind (wpAny_updateSeq_pair hTO₄ fun h₅ hTO₅ hs₅ => ?_)
  replace hTO₅ : IsPair h₅ TO x en.val := hTO₅
  refine wpAny_bind (wpAny_letGo (wpAny_pure (wpAny_pure ?_)))
  refine wpAny_bind (wpAny_seqItems hTO₅ rfl ?_)
  refine wpAny_bind (wpAny_newTuple ?_)
  have hsz5 : h₅.objs.size = s.heap.objs.size := by rw [hs₅.1, hs₄.1, hs₃.1, hs₂.1, hs₁.1]
  have hz₅ : IsZipS h₅ z TI TO .ellipsis := hs₅.extBut _ _ D.TOz.symm (hs₄.extBut _ _ D.i2z.symm (hs₃.extBut _ _ D.TOz.symm (hs₂.extBut _ _ D.i1z.symm hz₁)))
  have hk₅ : ∀ c o, c ≠ z → c ≠ TO → c ≠ i1 → c ≠ i2 → s.heap.get? c = some o → h₅.get? c = some o := fun c o c1 c2 c3 c4 e =>
    hs₅.extBut _ _ c2 (hs₄.extBut _ _ c4 (hs₃.extBut _ _ c2 (hs₂.extBut _ _ c3 (hs₁.extBut _ _ c1 e))))
  have h1₅ : h₅.IsListIter i1 l1 (k1 + 1) := ((h1₂.extBut hs₃.extBut D.TOi1.symm).extBut hs₄.extBut D.i12).extBut hs₅.extBut D.TOi1.symm
  have h2₅ : h₅.IsValIter i2 l2 (k2 + 1) n ep := h2₄.extBut hs₅.extBut D.TOi2.symm
  have hzlt : z < h₅.objs.size := Heap.lt_size hz₅
  have hTOlt : TO < h₅.objs.size := Heap.lt_size hTO₅
  have hi1lt : i1 < h₅.objs.size := by obtain ⟨_, e, _⟩ := h1₅; exact Heap.lt_size e
  have hi2lt : i2 < h₅.objs.size := by obtain ⟨_, e, _⟩ := h2₅; exact Heap.lt_size e
  show wpAny _ _ (Builtin.SmallTypes.ownedTupleHandOut (.ref z) (.ref h₅.objs.size) >>= _) _ _ _
  refine wpAny_bind ?_
  unfold Builtin.SmallTypes.ownedTupleHandOut
  have hz₆ : IsZipS (h₅.push { cls := .type "tuple", data := .seq #[x, en.val] }) z TI TO .ellipsis := Heap.get?_push_of_some _ hz₅
  refine wpAny_bind (wpAny_setField_rec hz₆ (by simp) fun h₇ hz₇ hs₇ => ?_)
  replace hz₇ : IsZipS h₇ z TI TO (rawInt h₅.objs.size) := hz₇
  refine wpAny_setField_rec hz₇ (by simp) fun h₈ hz₈ hs₈ => ?_
  replace hz₈ : IsZipS h₈ z TI TO (rawInt h₅.objs.size) := hz₈
  have up : ∀ c o, c ≠ z → h₅.get? c = some o → h₈.get? c = some o := fun c o c1 e => hs₈.extBut _ _ c1 (hs₇.extBut _ _ c1 (Heap.get?_push_of_some _ e))
  have hT₈ : IsPair h₈ h₅.objs.size x en.val := hs₈.extBut _ _ (Nat.ne_of_gt hzlt) (hs₇.extBut _ _ (Nat.ne_of_gt hzlt) (Heap.get?_push_size _ rfl))
  have hz8 : h₈.objs.size = h₅.objs.size + 1 := by rw [hs₈.1, hs₇.1, Heap.size_push]
  rw [hsz5] at hz₈ hT₈ hz8
  refine wpAny_pure ⟨_, rfl, ?_⟩
  show Q (.ref h₅.objs.size) _
  rw [hsz5]
  exact hQ h₈ hz₈ (up _ _ D.TOz hTO₅) (h1₅.at fun o e => up _ o D.i1z e) (h2₅.at fun o e => up _ o D.i2z e) hT₈ hz8 fun c o c1 c2 c3 c4 e => up c o c1 (hk₅ c o c1 c2 c3 c4 e)

theorem next_end {z TI TO i1 i2 l1 l2 : Addr} {k1 k2 : Nat} {xs : Array Value} {n ep : Nat} {od : Obj} {es : Array DictEntry} {a b : Value} {Q : Fin → Shared → Prop} (hh : A.handled = none) (D : ZipApart z TI TO i1 i2 l1 l2)
    (hz : IsZipS s.heap z TI TO .none) (hTI : IsPair s.heap TI (.ref i1) (.ref i2)) (hTO : IsPair s.heap TO a b)
    (h1 : s.heap.IsListIter i1 l1 k1) (h2 : s.heap.IsValIter i2 l2 k2 n ep) (hl1 : s.heap.IsList l1 xs) (hl2 : s.heap.IsAt l2 od) (hx : xs[k1]? = none) (hy : n ≤ k2) (hdd : od.data = .dict es ep) (hsz : es.size = n)
    (hE : ∀ h' e, (∀ c o, c ≠ z → c ≠ TO → c ≠ i1 → c ≠ i2 → s.heap.get? c = some o → h'.get? c = some o) → (∃ o, h'.get? e = some o ∧ o.cls = .type "StopIteration") → E (.ref e) { s with heap := h' }) :
    wpAny (model prog w) A (Builtin.«zip.__next__» ⟨[.ref z], []⟩) Q E s := by
  show wpAny _ _ (field (.ref z) 2 >>= _) _ _ _
  refine wpAny_bind (wpAny_field hz rfl (x := .bool true) rfl ?_)
  show wpAny _ _ (field (.ref z) 3 >>= _) _ _ _
  refine wpAny_bind (wpAny_field hz rfl (x := .ref TI) rfl ?_)
  refine wpAny_bind (wpAny_seqItems hTI rfl ?_)
  show wpAny _ _ (Builtin.SmallTypes.ownedTupleIsFree (.ref z) >>= _) _ _ _
  refine wpAny_bind ?_
  unfold Builtin.SmallTypes.ownedTupleIsFree
  refine wpAny_bind (wpAny_field hz rfl (x := .none) rfl (wpAny_pure ?_))
  simp only [if_true]
  refine wpAny_bind (wpAny_rule ?_)
  refine wpAny_bind (wpAny_field hz rfl (x := .ref TO) rfl ?_)
  refine wpAny_bind (wpAny_setField_rec hz (by simp) fun h₁ hz₁ hs₁ => ?_)
  replace hz₁ : IsZipS h₁ z TI TO .ellipsis := hz₁
  refine wpAny_bind ?_
  simp only [List.zipIdx_cons, List.zipIdx_nil, List.forIn_cons, List.forIn_nil]
  refine wpAny_bind (wpAny_bind (wpAny_onRaise ?_))
  show wpAny _ _ (Builtin.SmallTypes.nextOrEnd (.ref i1)) _ _ _
  refine nextOrEnd_end hh (h1.extBut hs₁.extBut D.i1z) (hl1.extBut hs₁.extBut D.l1z) hx fun h₂ hs₂ => ?_
  have hz₂ : IsZipS h₂ z TI TO .ellipsis := hs₂ _ _ D.i1z.symm hz₁
  refine wpAny_bind (wpAny_setField_rec hz₂ (by simp) fun h₃ hz₃ hs₃ => ?_)
  have k₃ : ∀ c o, c ≠ z → c ≠ i1 → s.heap.get? c = some o → h₃.get? c = some o := fun c o c1 c3 x => hs₃.extBut _ _ c1 (hs₂ _ _ c3 (hs₁.extBut _ _ c1 x))
  have hi2z : h₃.IsValIter i2 l2 k2 n ep := h2.at fun o q => k₃ _ o D.i2z D.i12.symm q
  have hl2z : h₃.IsAt l2 od := hl2.at fun o q => k₃ _ o D.l2z D.l2i1 q
  refine wpAny_bind ?_
  refine wpAny_bind ?_
  simp only [List.drop_succ_cons, List.drop_zero, List.zipIdx_cons, List.zipIdx_nil]
  simp only [List.forIn_cons, List.forIn_nil]
  refine wpAny_bind (wpAny_bind ?_)
  refine nextOrEndV_end hh hi2z hl2z hdd hsz hy fun h₄ hs₄ => ?_
  refine wpAny_pure ?_
  refine wpAny_pure ?_
  refine wpAny_bind (wpAny_rule ?_)
  refine stop_it hh fun h₅ e k₅ he => ?_
  exact hE h₅ e (fun c o c1 _ c3 c4 x => k₅ _ _ (hs₄ _ _ c4 (k₃ _ _ c1 c3 x))) he
theorem pyNext_item {z TI TO i1 i2 l1 l2 : Addr} {k1 k2 : Nat} {xs : Array Value} {n ep : Nat} {od : Obj} {es : Array DictEntry} {en : DictEntry} {x a b : Value} {Q : Option Value → Shared → Prop} (D : ZipApart z TI TO i1 i2 l1 l2)
    (hz : IsZipS s.heap z TI TO .none) (hTI : IsPair s.heap TI (.ref i1) (.ref i2)) (hTO : IsPair s.heap TO a b)
    (h1 : s.heap.IsListIter i1 l1 k1) (h2 : s.heap.IsValIter i2 l2 k2 n ep) (hl1 : s.heap.IsList l1 xs) (hl2 : s.heap.IsAt l2 od) (hx : xs[k1]? = some x) (hy : es[k2]? = some en) (hdd : od.data = .dict es ep) (hsz : es.size = n)
    (hQ : ∀ h', IsZipS h' z TI TO (rawInt s.heap.objs.size) → IsPair h' TO x en.val → h'.IsListIter i1 l1 (k1 + 1) → h'.IsValIter i2 l2 (k2 + 1) n ep → IsPair h' s.heap.objs.size x en.val → h'.objs.size = s.heap.objs.size + 1 →
      (∀ c o, c ≠ z → c ≠ TO → c ≠ i1 → c ≠ i2 → s.heap.get? c = some o → h'.get? c = some o) → Q (some (.ref s.heap.objs.size)) { s with heap := h' }) :
    wpAny (model prog w) A (pyNext (.ref z)) Q E s := by
  have hT : s.TypeIs (.ref z) "zip" := ⟨_, hz, rfl⟩
  unfold pyNext
  exact wpAny_bind (wpAny_attempt (wpAny_callSpecial?_slot (name := Str.ofString "__next__") hT F.slot_zip_next
    (wpAny_call_entry F.slot_zip_next hT F.entry_zip_next
      (next_item D hz hTI hTO h1 h2 hl1 hl2 hx hy hdd hsz fun h' a1 a2 a3 a4 a5 a6 a7 => wpAny_pure (hQ h' a1 a2 a3 a4 a5 a6 a7)) (F.args_zip_next_1 _))))
theorem pyNext_end {z TI TO i1 i2 l1 l2 : Addr} {k1 k2 : Nat} {xs : Array Value} {n ep : Nat} {od : Obj} {es : Array DictEntry} {a b : Value} {Q : Option Value → Shared → Prop} (hh : A.handled = none) (D : ZipApart z TI TO i1 i2 l1 l2)
    (hz : IsZipS s.heap z TI TO .none) (hTI : IsPair s.heap TI (.ref i1) (.ref i2)) (hTO : IsPair s.heap TO a b)
    (h1 : s.heap.IsListIter i1 l1 k1) (h2 : s.heap.IsValIter i2 l2 k2 n ep) (hl1 : s.heap.IsList l1 xs) (hl2 : s.heap.IsAt l2 od) (hx : xs[k1]? = none) (hy : n ≤ k2) (hdd : od.data = .dict es ep) (hsz : es.size = n)
    (hQ : ∀ h', (∀ c o, c ≠ z → c ≠ TO → c ≠ i1 → c ≠ i2 → s.heap.get? c = some o → h'.get? c = some o) → Q none { s with heap := h' }) : wpAny (model prog w) A (pyNext (.ref z)) Q E s := by
  have hT : s.TypeIs (.ref z) "zip" := ⟨_, hz, rfl⟩
  unfold pyNext
  refine wpAny_bind (wpAny_attempt (wpAny_callSpecial?_slot (name := Str.ofString "__next__") hT F.slot_zip_next
    (wpAny_call_entry F.slot_zip_next hT F.entry_zip_next (next_end hh D hz hTI hTO h1 h2 hl1 hl2 hx hy hdd hsz fun h' e hk he => ?_) (F.args_zip_next_1 _))))
  obtain ⟨o, ho, hc⟩ := he
  refine wpAny_bind (wpAny_isInstance (T := "StopIteration") (b := true) ⟨o, ho, hc⟩ isSubtype_stop ?_)
  exact wpAny_pure (hQ _ hk)
end
end ZV
end PySem

set_option Elab.async false
set_option linter.all false
set_option maxRecDepth 100000
set_option maxHeartbeats 4000000
namespace PySem
namespace ZV
open ZS
abbrev vI2 (d : Addr) (n ep : Nat) : Obj := { cls := .type "dict_valueiterator", data := .fields #[.ref d, .int 0 0, .int n 0, .int ep 0] }
abbrev vH1 (h : Heap) (l1 : Addr) : Heap := h.push { cls := .type "list_iterator", data := .fields #[.ref l1, .int 0 0] }
abbrev vH2 (h : Heap) (l1 d : Addr) (n ep : Nat) : Heap := (vH1 h l1).push (vI2 d n ep)
abbrev vH3 (h : Heap) (l1 d : Addr) (n ep : Nat) : Heap := (vH2 h l1 d n ep).push { cls := .type "tuple", data := .seq #[.ref h.objs.size, .ref (vH1 h l1).objs.size] }
abbrev vH4 (h : Heap) (l1 d : Addr) (n ep : Nat) : Heap := (vH3 h l1 d n ep).push { cls := .type "tuple", data := .seq #[.none, .none] }
abbrev vH5 (h : Heap) (l1 d : Addr) (n ep : Nat) : Heap := (vH4 h l1 d n ep).push { cls := .type "zip", data := .fields #[.none, .bool false, .bool true, .ref (vH2 h l1 d n ep).objs.size, .ref (vH3 h l1 d n ep).objs.size] }
theorem meets_newV (l1 v d : Addr) (xs : Array Value) (es : Array DictEntry) (ep : Nat) :
    Meets (Builtin.«zip.__new__» ⟨[.type "zip", .ref l1, .ref v], kwS⟩) (fun _ R s => (s.heap.IsList l1 xs ∧ s.heap.IsValuesView v d ∧ s.heap.DictRaw d es ep) ∧
      R (.ok (.ret (.ref (vH4 s.heap l1 d es.size ep).objs.size))) { s with heap := vH5 s.heap l1 d es.size ep }) :=
  .of_wp fun prog w A R s h => by
    obtain ⟨hp, g, dd, tk, os⟩ := s; obtain ⟨⟨hl1, hv, hm⟩, h⟩ := h
    have hsub := sub_zip
    have hL1 : Heap.IsList (Shared.heap ⟨hp, g, dd, tk, os⟩) l1 xs := hl1
    have hV : Heap.IsValuesView (Shared.heap ⟨vH1 hp l1, g, dd, tk, os⟩) v d := let ⟨o, ho, r⟩ := hv; ⟨o, Heap.get?_push_of_some _ ho, r⟩
    have hM : Heap.DictRaw (Shared.heap ⟨vH1 hp l1, g, dd, tk, os⟩) d es ep := let ⟨o, ho, r⟩ := hm; ⟨o, Heap.get?_push_of_some _ ho, r⟩
    wp_walk using wpAny_pyIter_list hL1, wpAny_pyIter_values_raw hV hM
    exact ⟨_, rfl, h⟩
end ZV
end PySem

set_option Elab.async false
set_option linter.all false
set_option maxRecDepth 100000
set_option maxHeartbeats 4000000
namespace PySem
namespace ZV
open ZS
section
variable {prog : Program} {w : World} {A : Around} {E : Value → Shared → Prop} {s : Shared}
theorem call_zipV {l1 v d : Addr} {xs : Array Value} {es : Array DictEntry} {ep : Nat} {Q : Value → Shared → Prop} (hl1 : s.heap.IsList l1 xs) (hv : s.heap.IsValuesView v d) (hm : s.heap.DictRaw d es ep)
    (h : ∀ h', IsZipS h' (s.heap.objs.size + 4) (s.heap.objs.size + 2) (s.heap.objs.size + 3) .none → IsPair h' (s.heap.objs.size + 2) (.ref s.heap.objs.size) (.ref (s.heap.objs.size + 1)) →
      IsPair h' (s.heap.objs.size + 3) .none .none → h'.IsListIter s.heap.objs.size l1 0 → h'.IsValIter (s.heap.objs.size + 1) d 0 es.size ep → h'.objs.size = s.heap.objs.size + 5 →
      (∀ c o, s.heap.get? c = some o → h'.get? c = some o) → Q (.ref (s.heap.objs.size + 4)) { s with heap := h' }) :
    wpAny (model prog w) A (call (.type "zip") [.ref l1, .ref v] kwS) Q E s := by
  refine ZS.callType_meets F.called_zip (typeCall_zip (.ref l1) (.ref v)) (newCall_zip (.ref l1) (.ref v)) F.entry_zip_new F.entry_object_init (meets_newV l1 v d xs es ep) (Q₁ := fun obj s₁ => s₁.TypeIs obj "zip" ∧ Q obj s₁) ⟨⟨hl1, hv, hm⟩, ?_⟩ fun obj _ hq =>
    ⟨hq.1, ZS.args_init obj _ _, _, ZS.object_init_meets F.called_zip.init.lookup F.called_zip.made (by decide), hq.1, rfl, hq.2⟩
  have z1 : (vH1 s.heap l1).objs.size = s.heap.objs.size + 1 := Heap.size_push ..
  have z2 : (vH2 s.heap l1 d es.size ep).objs.size = s.heap.objs.size + 2 := by rw [Heap.size_push, z1]
  have z3 : (vH3 s.heap l1 d es.size ep).objs.size = s.heap.objs.size + 3 := by rw [Heap.size_push, z2]
  have z4 : (vH4 s.heap l1 d es.size ep).objs.size = s.heap.objs.size + 4 := by rw [Heap.size_push, z3]
  have z5 : (vH5 s.heap l1 d es.size ep).objs.size = s.heap.objs.size + 5 := by rw [Heap.size_push, z4]
  have g5 : (vH5 s.heap l1 d es.size ep).get? (vH4 s.heap l1 d es.size ep).objs.size = some _ := Heap.get?_push_size _ rfl
  have g4 : (vH5 s.heap l1 d es.size ep).get? (vH3 s.heap l1 d es.size ep).objs.size = some _ := Heap.get?_push_of_some _ (Heap.get?_push_size _ rfl)
  have g3 : (vH5 s.heap l1 d es.size ep).get? (vH2 s.heap l1 d es.size ep).objs.size = some _ := Heap.get?_push_of_some _ (Heap.get?_push_of_some _ (Heap.get?_push_size _ rfl))
  have g2 : (vH5 s.heap l1 d es.size ep).get? (vH1 s.heap l1).objs.size = some _ := Heap.get?_push_of_some _ (Heap.get?_push_of_some _ (Heap.get?_push_of_some _ (Heap.get?_push_size _ rfl)))
  have g1 : (vH5 s.heap l1 d es.size ep).get? s.heap.objs.size = some _ := Heap.get?_push_of_some _ (Heap.get?_push_of_some _ (Heap.get?_push_of_some _ (Heap.get?_push_of_some _ (Heap.get?_push_size _ rfl))))
  show _ ∧ _
  rw [z2, z3, z4] at g5
  rw [z1, z2] at g3
  rw [z3] at g4
  rw [z1] at g2
  rw [z4]
  exact ⟨⟨_, g5, rfl⟩, h _ g5 g3 g4 ⟨_, g1, rfl, rfl⟩ ⟨_, g2, rfl, rfl⟩ z5 fun c o x =>
    Heap.get?_push_of_some _ (Heap.get?_push_of_some _ (Heap.get?_push_of_some _ (Heap.get?_push_of_some _ (Heap.get?_push_of_some _ x))))⟩
end
end ZV
end PySem
namespace L2
open PySem PySem.Spec PyProof.Rows
/-- the list at a and the values of the locked dict d, of one length -/
def Itzv (K : PySem.W.Frag) (a d : Addr) (o : Obj) (kvs : List (Key × V)) : It :=
  ⟨fun i H => ∃ (xs : List V) (x : V), SqL K H a xs ∧ xs[i]? = some x ∧ H d = some (.frz o (.dK kvs)) ∧ i < kvs.length,
    fun i H v H' => ∃ T x y, v = .ref T ∧ H T = none ∧ H' = upd H T (.tup [x, y]) ∧ (∀ xs, SqL K H a xs → xs[i]? = some x) ∧ ∃ k, kvs[i]? = some (k, y),
    fun i H => ∃ xs : List V, SqL K H a xs ∧ xs.length ≤ i ∧ H d = some (.frz o (.dK kvs)) ∧ kvs.length ≤ i⟩
theorem turn_zipV {P : Program} {w : World} {K : PySem.W.Frag} {elts : List Expr} {kk : Nat} {tpos : Pos} {a d z TI TO i1 i2 : Addr} {o : Obj} {kvs : List (Key × V)} {es : Array DictEntry} {ep : Nat} (D : ZipApart z TI TO i1 i2 a d) (hod : o.data = .dict es ep) (hsz : es.size = kvs.length) :
    Turn P w K (.Tuple elts kk tpos) (Itzv K a d o kvs) [z, TI, TO, i1, i2] z (fun i h => ZS.IsZipS h z TI TO .none ∧ IsPair h TI (.ref i1) (.ref i2) ∧ (∃ x y, IsPair h TO x y) ∧ h.IsListIter i1 a i ∧ h.IsValIter i2 d i kvs.length ep) where
  mem := by simp
  obj := fun i h st c hc => by
    obtain ⟨hz, hTI, ⟨x, y, hTO⟩, ⟨o1, e1, _, d1⟩, ⟨o2, e2, _, d2⟩⟩ := st
    have e' : c = z ∨ c = TI ∨ c = TO ∨ c = i1 ∨ c = i2 := by simpa using hc
    rcases e' with q | q | q | q | q
    · rw [q]; exact ⟨_, hz, fun v q => nomatch q⟩
    · rw [q]; exact ⟨_, hTI, fun v q => nomatch q⟩
    · rw [q]; exact ⟨_, hTO, fun v q => nomatch q⟩
    · rw [q]; exact ⟨o1, e1, fun v q => by rw [d1] at q; cases q⟩
    · rw [q]; exact ⟨o2, e2, fun v q => by rw [d2] at q; cases q⟩
  keep := fun i h h' st k => by
    obtain ⟨hz, hTI, ⟨x, y, hTO⟩, h1, h2⟩ := st
    exact ⟨k z (by simp) _ hz, k TI (by simp) _ hTI, ⟨x, y, k TO (by simp) _ hTO⟩, h1.at fun o q => k i1 (by simp) o q, h2.at fun o q => k i2 (by simp) o q⟩
  item := by
    intro X hP hw hK hc i pins s σ H E I hf st hg
    subst hP hw hK
    obtain ⟨hz, hTI, ⟨x0, y0, hTO⟩, h1, h2⟩ := st
    obtain ⟨xs, x, hqx, hx, hd, hi⟩ := hg
    obtain ⟨its, rv, p, _⟩ := I.list hqx
    obtain ⟨u, hu, ru⟩ := rv.get hx
    obtain ⟨hs, hgd, hxd, es', ep', vs, hdt, hsz', kv, hm⟩ := I.frzK hd
    obtain ⟨⟨k, y⟩, hkv⟩ : ∃ p, kvs[i]? = some p := ⟨kvs[i], List.getElem?_eq_getElem hi⟩
    obtain ⟨u2, hu2, ru2⟩ := kv_get kv hkv
    obtain ⟨en, hen, hev⟩ : ∃ en, es[i]? = some en ∧ en.val = u2 := by
      obtain ⟨od, es2, hod2, hcd, hdd, hk, hp, hn⟩ := id hm
      rw [hgd] at hod2
      cases hod2
      obtain ⟨q1, q2⟩ := dict_ep hod hdd
      subst q1
      have hlt : i < es2.size := by rw [hsz]; exact hi
      exact ⟨es2[i], Array.getElem?_eq_getElem hlt, (hp.get? (e := es2[i]) (by simp [hlt]) hu2).2⟩
    subst hev
    have hzl : z < s.heap.objs.size := Heap.lt_size hz
    refine ZV.pyNext_item D hz hTI hTO h1 h2 p.isList hgd (x := u) (by simpa using hu) hen hod hsz fun h' z' TO' h1' h2' hT hsz2 hk => ?_
    refine ⟨_, rfl, ZS.letGo_zip (s := { s with heap := h' }) z' fun h'' z'' sb => ?_⟩
    have hT2 : h''.get? s.heap.objs.size = some { cls := .type "tuple", data := .seq #[u, en.val] } := (sb.2 _ (Nat.ne_of_gt hzl)).trans hT
    have new : ObjOk X.prog X.w (upd H s.heap.objs.size (.tup [x, y])) h'' s.heap.objs.size (.tup [x, y]) :=
      ⟨by show 2 ≤ sizeLine; decide, [u, en.val], .cons ru (.cons ru2 .nil), ⟨_, hT2, rfl, _, rfl⟩⟩
    have I1 : Inv X pins σ (upd H s.heap.objs.size (.tup [x, y])) { s with heap := h'' } :=
      I.turnedNew (t' := s.toks) (ch := [z, TI, TO, i1, i2]) (fun c o hb q => (sb.2 c (fun q' => hb (by simp [q']))).trans (hk c o (fun q' => hb (by simp [q'])) (fun q' => hb (by simp [q'])) (fun q' => hb (by simp [q'])) (fun q' => hb (by simp [q'])) q)) hf (Nat.le_refl _) new
    refine ⟨.ref s.heap.objs.size, _, I1, rfl, ⟨_, x, y, rfl, I.hok.fresh (Nat.le_refl _), rfl, fun l hl => by rw [I.list_inj hl hqx]; exact hx, k, hkv⟩, ⟨z'', ?_, ⟨u, en.val, ?_⟩, ?_, ?_⟩, fun c hcm => ?_⟩
    · exact (sb.2 _ D.TIz).trans (hk _ _ D.TIz D.TITO D.TIi1 D.TIi2 hTI)
    · exact (sb.2 _ D.TOz).trans TO'
    · exact h1'.at fun o q => (sb.2 _ D.i1z).trans q
    · exact h2'.at fun o q => (sb.2 _ D.i2z).trans q
    · have hlt : c < s.heap.objs.size := by
        have e' : c = z ∨ c = TI ∨ c = TO ∨ c = i1 ∨ c = i2 := by simpa using hcm
        rcases e' with q | q | q | q | q
        · rw [q]; exact hzl
        · rw [q]; exact Heap.lt_size hTI
        · rw [q]; exact Heap.lt_size hTO
        · rw [q]; obtain ⟨_, e1, _⟩ := h1; exact Heap.lt_size e1
        · rw [q]; obtain ⟨_, e2, _⟩ := h2; exact Heap.lt_size e2
      rw [upd_ne (Nat.ne_of_lt hlt)]
      exact (hf c hcm).1
  done := by
    intro X hP hw hK hc i pins s σ H E I hf st hg
    subst hP hw hK
    obtain ⟨hz, hTI, ⟨x0, y0, hTO⟩, h1, h2⟩ := st
    obtain ⟨xs, hqx, hend, hd, hend2⟩ := hg
    obtain ⟨its, rv, p, _⟩ := I.list hqx
    obtain ⟨hs, hgd, hxd, es', ep', vs, hdt, hsz', kv, hm⟩ := I.frzK hd
    have l1 := rv.length
    have e1 : its.toArray[i]? = none := by simp; omega
    exact ZV.pyNext_end (I.ok.hd hc) D hz hTI hTO h1 h2 p.isList hgd e1 hend2 hod hsz fun h' hk => ⟨rfl, I.turnedL (t' := s.toks) (ch := [z, TI, TO, i1, i2]) (fun c o hb q =>
      hk c o (fun q' => hb (by simp [q'])) (fun q' => hb (by simp [q'])) (fun q' => hb (by simp [q'])) (fun q' => hb (by simp [q'])) q) hf⟩
  self := fun A i s Q E st h => ZS.pyIter_zip st.1 h
/-- zip(xs, d.values(), strict=True), d locked -/
def iZipV (K : PySem.W.Frag) (te td : TE) : TI := fun σ H R => te σ H fun x H1 => td σ H1 fun y H2 => ∃ a d o xs kvs, x = .ref a ∧ y = .ref d ∧ SqL K H2 a xs ∧ H2 d = some (.frz o (.dK kvs)) ∧ R (Itzv K a d o kvs) H2
theorem pi_zipV {X : Cx} {e o : Expr} {te td : TE} {p pos tpos cp kp mpos apos : Pos} {elts : List Expr} {kk ck : Nat} (hg : Gl X "zip") (hm : X.mg "zip" = none) (he : PE X e te) (ho : PE X o td)
    (hbase : attributeBase o "values" X.env (eval o X.env) = eval o X.env := by rfl) (hline : (apos.endLine == mpos.line) = true := by rfl)
    (hs0 : starEach [e, .Call (.Attribute o "values" apos) [] [] mpos] X.env = [(false, eval e X.env), (false, eval (.Call (.Attribute o "values" apos) [] [] mpos) X.env)] := by rfl)
    (hs : backTo pos (starEach [e, .Call (.Attribute o "values" apos) [] [] mpos] X.env) = (false, eval e X.env) :: backTo pos (starEach [.Call (.Attribute o "values" apos) [] [] mpos] X.env) := by rfl) (hpl : (backTo pos (starEach [e, .Call (.Attribute o "values" apos) [] [] mpos] X.env)).any (·.1) = false := by rfl) :
    PI X (.Tuple elts kk tpos) (.Call (.Name "zip" p) [e, .Call (.Attribute o "values" apos) [] [] mpos] [⟨some "strict", .Constant (.bool true) ck cp, kp⟩] pos) (iZipV X.K te td) := by
  refine ⟨fun pins s σ H R I h => ?_⟩
  refine wpAny_Call_Name_kw (ld_blt I hg hm PyProof.Rows.boot_zip (ZS.callWith_kwT ?_ hs hpl))
  rw [hs]
  refine Calls.spliced_cons (thn (he.run pins s σ H _ I h) fun u s1 ⟨x, H1, I1, rx, q1⟩ => ?_)
  show wpAny _ _ (spliced [(false, eval (Expr.Call (.Attribute o "values" apos) [] [] mpos) X.env)]) _ _ s1
  refine Calls.spliced_cons (wpAny_Call_method0_late hbase hline (thn (ho.run pins s1 σ H1 _ I1 q1) fun u2 s2 ⟨y, H2, I2, ry, a, d, od, xs, kvs, ex, ey, hqx, hd, q⟩ => ?_))
  subst ex ey
  obtain rfl : u = Value.ref a := rx
  obtain rfl : u2 = Value.ref d := ry
  obtain ⟨hs2, hgd, hxd, es, ep, vs, hdt, hsz, kv, hmd⟩ := I2.frzK hd
  refine ⟨"dict", "dict.values", F.plainAttrs_dict, F.slot_dict_values, F.type_dict_values, ⟨od, hgd, hxd.1⟩, fun b e => ?_, Calls.callWith_builtin rfl (PySem.evalArgs_none ?_)⟩
  · cases e
    exact ⟨od, hgd, hxd.2.1⟩
  refine call_meetsIn F.slot_dict_values ⟨od, hgd, hxd.1⟩ F.entry_dict_values (F.args_dict_values_1 _) (meets_dict_values (mixKind X.prog X.w) d hs2) ⟨⟨vs, hmd.dictOf⟩, ?_⟩
  refine Calls.spliced_nil ?_
  refine PyProof.Rows.kws_cons ?_
  refine wpAny_pure (PyProof.Rows.kws_nil ?_)
  have I3 : Inv X pins σ H2 { s2 with heap := s2.heap.push { cls := .type "dict_values", data := .fields #[.ref d] } } := I2.kept (t' := s2.toks) fun b ob q => Heap.get?_push_of_some _ q
  obtain ⟨its, rv, p1, _⟩ := I3.list hqx
  have hl : es.size = kvs.length := hsz
  have hgd3 : (s2.heap.push { cls := .type "dict_values", data := .fields #[.ref d] }).get? d = some od := Heap.get?_push_of_some _ hgd
  have la := p1.lt
  have lb : d < (s2.heap.push { cls := .type "dict_values", data := .fields #[.ref d] }).objs.size := Heap.lt_size hgd3
  refine ZV.call_zipV (s := { s2 with heap := s2.heap.push { cls := .type "dict_values", data := .fields #[.ref d] } }) (es := es) (ep := ep) p1.isList ⟨_, Heap.get?_push_size _ rfl, rfl, rfl⟩ ⟨od, hgd3, hxd, hdt⟩ fun h' hz hTI hTO h1 h2 hsz2 hk => ZS.pyIter_zip hz ?_
  have I4 : Inv X pins σ H2 { s2 with heap := h' } := I3.kept (t' := s2.toks) hk
  refine ⟨_, [_, _, _, _, _], _, _, H2, rfl, I4, turn_zipV (PySem.W.ktu_apart _ a d la lb) hdt hl, ⟨hz, hTI, ⟨_, _, hTO⟩, h1, by rw [hl] at h2; exact h2⟩, fun c hcm => ?_, q⟩
  generalize hS : (s2.heap.push { cls := .type "dict_values", data := .fields #[.ref d] }).objs.size = S at *
  have e' : c = S + 4 ∨ c = S + 2 ∨ c = S + 3 ∨ c = S ∨ c = S + 1 := by simpa using hcm
  have hle : S ≤ c := by
    rcases e' with z | z | z | z | z
    · rw [z]; exact Nat.le_add_right _ _
    · rw [z]; exact Nat.le_add_right _ _
    · rw [z]; exact Nat.le_add_right _ _
    · rw [z]; exact Nat.le_refl _
    · rw [z]; exact Nat.le_add_right _ _
  rw [← hS] at hle
  exact I3.fpOk hle (I3.hok.fresh hle)
end L2

set_option Elab.async false
set_option linter.all false
set_option maxRecDepth 100000
set_option maxHeartbeats 4000000
namespace Dv
open PySem PySem.Spec PyProof.Rows L2 Evl
section
variable {K : PySem.W.Frag} {σ : L2.St} {F F1 H H1 : Hp} {te td : TE} {ds es : List PyData} {ad : Addr} {kvs : List (Key × V)} {o : Obj}
theorem walk_zipV {a d : Addr} {o : Obj} {kvs : List (Key × V)} {xs : List V} (hl : xs.length = kvs.length) : Walk (Itzv K a d o kvs) xs.length (fun H => SqL K H a xs ∧ H d = some (.frz o (.dK kvs))) (YPair (fun i => xs[i]?) (fun i => (kvs.map Prod.snd)[i]?)) :=
  ⟨fun i H hi q => ⟨xs, xs[i], q.1, List.getElem?_eq_getElem hi, q.2, by omega⟩, fun H q => ⟨xs, q.1, Nat.le_refl _, q.2, by omega⟩, fun i H x H' hi q y => by
    obtain ⟨T, x, y, rfl, hT, rfl, f1, k, f2⟩ := y
    exact ⟨T, x, y, rfl, hT, rfl, f1 xs q.1, by
      show (kvs.map Prod.snd)[i]? = some y
      rw [List.getElem?_map, f2] <;> rfl⟩⟩
/-- zip(xs, d.values(), strict=True), d locked -/
theorem it_zipV (h : EvD K te σ F (.list ds)) (ht : ∀ F1 H1, Ex F F1 → Ex F1 H1 → ∀ Q : VK, Q (.ref ad) H1 → td σ H1 Q) (hd : F ad = some (.frz o (.dK kvs))) (hv : DpAll K F (kvs.map Prod.snd) es) (hl : ds.length = es.length) :
    ItD K (iZipV K te td) σ F ((ds.zip es).map fun z => .tuple [z.1, z.2]) := fun H eH R q => h H eH _ fun v F1 H1 g1 hv1 => by
  cases hv1 with
  | lst hs hds =>
    rename_i a xs
    have l1 := dps_len hds
    have l2 := dps_len hv
    rw [List.length_map] at l2
    have hd1 := g1.fx _ _ hd
    refine ht F1 H1 g1.fx g1.fh _ ⟨a, ad, o, xs, kvs, rfl, rfl, ex_l g1.fh hs, g1.fh _ _ hd1, q _ F1 H1 g1 (pair_wd (walk_zipV (by omega)) (fun H e => ⟨ex_l e hs, e _ _ hd1⟩) hds (dps_ex g1.fx hv) (by omega))⟩
/-- a statement over a dict of F: within, the dict is locked -/
theorem s_lock {t : TS} {D : Ends} (hd : F ad = some (.dK kvs)) (e : Ex F H) (h : ∀ od, t ⟨fun σ' H' => H' ad = some (.frz od (.dK kvs)) ∧ D.nx σ' (upd H' ad (.dK kvs)), fun v H' => H' ad = some (.frz od (.dK kvs)) ∧ D.rt v (upd H' ad (.dK kvs)),
    fun σ' H' => H' ad = some (.frz od (.dK kvs)) ∧ D.bk σ' (upd H' ad (.dK kvs)), fun σ' H' => H' ad = some (.frz od (.dK kvs)) ∧ D.ct σ' (upd H' ad (.dK kvs))⟩ σ (upd H ad (.frz od (.dK kvs)))) : tLock t D σ H := ⟨ad, _, e _ _ hd, trivial, h⟩
end
end Dv

set_option Elab.async false
set_option linter.all false
set_option maxRecDepth 100000
set_option maxHeartbeats 4000000
/-! check_size over data with empty dicts within: passes or raises InvalidList -/
namespace R3
open PySem PySem.Spec PyProof.Rows L2 Evl Dv
section
variable {P : Program} {w : World} {K : PySem.W.Frag} {mg : Str → Option Value} {base : Heap}
/-- an error class with the field value -/
structure ErrC (P : Program) (K : PySem.W.Frag) (mg : Str → Option Value) (cn : Str) (C : Addr) : Prop where
  ex : ∃ fI, PySem.Xn.ExT P K mg cn "value" C fI
  hs : (P.main.scope.names.lookup ("super" : Str)).isSome = false
/-- v is refused with the error at C -/
def Bad (C : Addr) (F H : Hp) (v : V) (E : XK) : Prop := ∀ F' H' dd, Gr F H F' H' → H' dd = none → E (.ref C) (some dd) (upd H' dd (.xd [("value", v)]))
def sizeOk (d : PyData) (l m : Int) : Bool := match d with
  | .list xs => decide (l ≤ xs.length) && decide ((xs.length : Int) ≤ m)
  | _ => false
def lenOk (d : PyData) : Prop := ∀ xs, d = .list xs → xs.length ≤ 100000
def spSizeZ (K : PySem.W.Frag) (CL : Addr) : Sp := fun vs H Q E => ∃ (F : Hp) (v : V) (d : PyData) (l m : Int), vs = [v, .int l, .int m] ∧ Ex F H ∧ Dz K F v d ∧ lenOk d ∧ ((sizeOk d l m = true ∧ ∀ F' H', Gr F H F' H' → Q .non H') ∨ (sizeOk d l m = false ∧ Bad CL F H v E))
theorem ok_check_sizeZ (D : Def K mg "check_size" sCheckSize ["value", "least", "most"]) (B : Bl mg) {CL : Addr} (EL : ErrC P K mg "InvalidList" CL) : CalX P w K mg base "check_size" ["value", "least", "most"] 1 (spSizeZ K CL) := by
  refine calX_mk D sc_check_size (fun vs H Q E h => ?_) (fun f cdv A outer s H vs Q E hr h => ?_)
  · obtain ⟨F, v, d, l, m, rfl, _⟩ := h
    rfl
  obtain ⟨F, v, d, l, m, rfl, e, hv, hl, h⟩ := h
  obtain ⟨fI, TL⟩ := EL.ex
  refine ⟨_, (pss_one (ps_if (PW.pt (pw_or (pt_not (pt_val (pe_callB call_isi (by rfl) B.isi (by decide +kernel) (pa_cons (pv 0) (pa_cons (pe_bltn (v := .ty "list") (by rfl) B.list (by decide +kernel) rfl) pa_nil))))) (pw_or1 (pt_not (pt_chain op_le op_le (pv 1) (pe_callB call_len (by rfl) B.len (by decide +kernel) (pa_cons (pv 0) pa_nil)) (pv 2)))))) (pss_one (ps_raise rfl (takes_of rfl rfl rfl rfl) (pmk_xn1 TL (raises_own TL.exC TL.tyC) hr EL.hs (pa_cons (pv 0) pa_nil)))) pss_nil)), ?_⟩
  have vx := ez_var (K := K) (σ := [some v, some (.int l), some (.int m)]) (i := 0) rfl hv
  have st : start ["value", "least", "most"] [v, .int l, .int m] = [some v, some (.int l), some (.int m)] := rfl
  rw [st]
  cases hb : isD d "list" with
  | false =>
    have hf : sizeOk d l m = false := by
      cases d <;> first | rfl | (simp [isD, tyD] at hb)
    rcases h with ⟨h, _⟩ | ⟨_, bad⟩
    · rw [hf] at h
      cases h
    refine s_ifT (et_orT (et_notF (et_v (p := false) (ez_isi (T := "list") vx (by decide)) (by rw [hb])))) e fun F1 H1 g1 => ?_
    exact ⟨v, rfl, v, rfl, fun dd hdd => bad F1 H1 dd g1 hdd⟩
  | true =>
    have hx : ∃ xs, d = .list xs := by
      cases d <;> first | exact ⟨_, rfl⟩ | (simp [isD, tyD] at hb)
    obtain ⟨xs, rfl⟩ := hx
    have ch : ∀ p, (decide (l ≤ (xs.length : Int)) && decide ((xs.length : Int) ≤ m)) = p → _ := fun p hp => et_chI (K := K) (σ := [some v, some (.int l), some (.int m)]) (F := F) (f := fun i j => decide (i ≤ j)) (g := fun i j => decide (i ≤ j)) (p := p) (Dv.ev_var (i := 1) rfl (.int l)) (ez_len vx rfl (hl xs rfl)) (Dv.ev_var (i := 2) rfl (.int m)) hp
    have tl := et_notT (et_v (p := true) (ez_isi (T := "list") vx (by decide)) (by rw [hb]))
    rcases h with ⟨h, q⟩ | ⟨h, bad⟩
    · exact s_ifF (et_orF tl (et_notT (ch true h))) e fun F1 H1 g1 => q F1 H1 g1
    · refine s_ifT (et_orF tl (et_notF (ch false h))) e fun F1 H1 g1 => ?_
      exact ⟨v, rfl, v, rfl, fun dd hdd => bad F1 H1 dd g1 hdd⟩
end
end R3

set_option Elab.async false
set_option linter.all false
set_option maxRecDepth 100000
set_option maxHeartbeats 4000000
/-! an object made where errors go out: __init__ may raise -/
namespace L2
open PySem PySem.Spec PyProof.Rows
def tMakeD (C : Addr) (sp : Sp) (dvs : List V) (E : L2.St → XK) (t : TA) : TE := fun σ H Q => tMake C sp dvs (E σ) t σ H Q
section
variable {CX : CXT} {X : Cx} {x : Str} {p pos : Pos} {e : Expr} {es : List Expr} {t : TA} {k : Nat} {f C : Addr} {fd : FuncData} {ps : List Str} {sp : Sp} {ds : List Value} {dvs : List V} {E : L2.St → XK}
theorem run_makeSG {pins : List (Addr × Obj)} {σ : St} {H : Hp} {s : Shared} {Q : VK} {us : List Value} {vs : List V} {E : XK} (M : Mk X.K C f) (F : FnOkG X.prog X.w X.K X.mg X.base CX k f fd ps sp) (hr : RoomG (k + 1) X.A) (hb : Binds X.K fd ps ds) (hd : Vals dvs ds)
    (hx : PassesAt CX X σ E) (I : Inv X pins σ H s) (r : Vals vs us)
    (h : ∀ x dx, H x = none → H dx = none → dx ≠ x → sp (.ref x :: (vs ++ dvs)) (upd (upd H dx (.own x)) x (.ins C dx [])) (fun v H2 => v = .non ∧ Q (.ref x) H2) E) :
    wpAny (model X.prog X.w) X.A (call (.ref C) us) (EP X pins σ Q) X.xe s := by
  have hq := h (s.heap.objs.size + 1) s.heap.objs.size (I.hok.fresh (Nat.le_succ _)) (I.hok.fresh (Nat.le_refl _)) (Nat.ne_of_lt (Nat.lt_succ_self _))
  have I2 := Inv.made (C := C) I
  have r2 : Vals (V.ref (s.heap.objs.size + 1) :: (vs ++ dvs)) (Value.ref (s.heap.objs.size + 1) :: (us ++ ds)) := .cons rfl (r.append hd)
  have hl : (Value.ref (s.heap.objs.size + 1) :: us ++ ds).length = ps.length := by
    have e := r2.length
    rw [F.len _ _ _ _ hq] at e
    exact e.symm
  refine wpAny_call (make_map (f := f) I.kIn M.makes M.init (beq_iff_eq.mp M.fn) (codeAny_mono (F.run _ X.stack _ _ ⟨Value.ref (s.heap.objs.size + 1) :: us, []⟩ (Value.ref (s.heap.objs.size + 1) :: (us ++ ds)) _ _ E ⟨hr.1.make C us [], hr.2⟩
    (I2.env0.make C us []) (hb _ (Value.ref (s.heap.objs.size + 1) :: us) I2.kIn hl) r2 hq) fun r s' hq' => ?_))
  cases r with
  | error e => exact hx pins _ _ e s' I2 hq'
  | ok fl =>
    cases fl with
    | ret u =>
      obtain ⟨v, H', I3, rv, ev, q3⟩ := I2.after hq'
      subst ev
      exact ⟨rv, ⟨V.ref (s.heap.objs.size + 1), H', I3, rfl, q3⟩⟩
    | next => exact False.elim hq'
    | brk => exact False.elim hq'
    | cont => exact False.elim hq'
theorem pe_makeSG (M : Mk X.K C f) (F : FnOkG X.prog X.w X.K X.mg X.base CX k f fd ps sp) (hr : RoomG (k + 1) X.A) (hg : Gl X x) (hm : X.mg x = some (.ref C)) (hb : Binds X.K fd ps ds) (hd : Vals dvs ds) (hx : ∀ σ, PassesAt CX X σ (E σ))
    (ha : PA X (e :: es) t) (hdb : (x == ("__debug__" : Str)) = false := by decide) (he : starEach (e :: es) X.env = (false, eval e X.env) :: starEach es X.env := by rfl) (hpl : (backTo pos (starEach es X.env)).any (·.1) = false := by rfl) :
    PE X (.Call (.Name x p) (e :: es) [] pos) (tMakeD C sp dvs E t) := by
  refine ⟨fun pins s σ H Q I h => ?_⟩
  refine wpAny_Call_Name_kw (ld_glob I hg hm ?_ hdb)
  refine PySem.W.callWith_K (h₀ := X.base) I.ok.mod.kin M.kp (thn (ha.run pos pins s σ H _ I h) fun us s1 ⟨vs, H1, I1, r, q⟩ => ⟨I1.kIn, ?_⟩) he hpl
  exact run_makeSG M F hr hb hd (hx σ) I1 r q
end
end L2
namespace Dv
open PySem PySem.Spec PyProof.Rows L2 Evl
/-- a class whose __init__ may raise -/
structure MakX (P : Program) (w : World) (K : PySem.W.Frag) (mg : Str → Option Value) (base : Heap) (nm : Str) (C : Addr) (ps : List Str) (k : Nat) (sp : Sp) : Prop where
  ex : ∃ f fd, mg nm = some (.ref C) ∧ Mk K C f ∧ Binds K fd ("self" :: ps) [] ∧ FnOkG P w K mg base (L2.CX P w) k f fd ("self" :: ps) sp
section
variable {X : Cx} {W : WX} {x : Str} {p pos : Pos} {e : Expr} {es : List Expr} {t : TA} {k j : Nat} {ps : List Str} {sp : Sp} {C : Addr}
theorem pe_makXC (M : MakX X.prog X.w X.K X.mg X.base x C ps k sp) (hr : RoomG j X.A) (tk : Takes X W) (ha : PA X (e :: es) t) (hg : Gl X x := by rfl) (hj : k + 1 ≤ j := by decide) (hdb : (x == ("__debug__" : Str)) = false := by decide)
    (he : starEach (e :: es) X.env = (false, eval e X.env) :: starEach es X.env := by rfl) (hpl : (backTo pos (starEach es X.env)).any (·.1) = false := by rfl) : PE X (.Call (.Name x p) (e :: es) [] pos) (tMakeD C sp [] (WE W) t) := by
  obtain ⟨f, fd, g, M, b, G⟩ := M.ex
  exact pe_makeSG M G (hr.mono hj) hg g b .nil (fun σ => passAt tk σ) ha hdb he hpl
end
end Dv

set_option Elab.async false
set_option linter.all false
set_option maxRecDepth 100000
set_option maxHeartbeats 4000000
/-! the loop that fills a dict from odd data: it passes, or raises at the first item that does not fit -/
namespace Dv
open PySem PySem.Spec PyProof.Rows L2 Evl
section
variable {K : PySem.W.Frag} {σ : L2.St} {F H : Hp} {te : TE}
variable (K) in
/-- a list of F walked, its values known -/
def ItZV (wi : TI) (σ : L2.St) (F : Hp) (vals : List V) (ds : List PyData) : Prop := ∀ H, Ex F H → ∀ R : It → Hp → Prop, (∀ J G Y, Walk J ds.length G Y → (∀ H, Ex F H → G H) → (∀ F1 i H x H', i < ds.length → Ex F F1 → Ex F1 H → Y i H x H' → H' = H ∧ vals[i]? = some x ∧ ∃ d, ds[i]? = some d ∧ Dz K F1 x d) → R J H) → wi σ H R
theorem itzv_trk {i : Nat} {p : Addr} {vals : List V} {ds : List PyData} (hi : σ[i]? = some (some (.ref p))) (hp : F p = some (.lst vals)) (hd : DzAll K F vals ds) : ItZV K (iList K (tVar i)) σ F vals ds := fun H eH R q => by
  refine ⟨_, hi, p, rfl, ⟨vals, SqL.of (eH _ _ hp)⟩, q _ _ _ (by rw [← dzs_len hd]; exact walk_list (xs := vals)) (fun H e => SqL.of (e _ _ hp)) fun F2 i H2 x H3 _ e1 e2 y => ?_⟩
  obtain ⟨rfl, hx⟩ := y
  obtain ⟨d, h1, h2⟩ := dzs_get hd hx
  exact ⟨rfl, hx, d, h1, dz_ex e1 h2⟩
theorem s_forZV {D : Ends} {ts : TS} {g : TG} {wi : TI} {vals : List V} {ds : List PyData} (h : ItZV K wi σ F vals ds) (e : Ex F H) (Pv : Nat → L2.St → Hp → Hp → Prop) (h0 : Pv 0 σ F H)
    (hs : ∀ n σ' F' H' v d, vals[n]? = some v → ds[n]? = some d → Ex F F' → Ex F' H' → Pv n σ' F' H' → Dz K F' v d →
      g v σ' H' fun σ2 H3 => ts { D with nx := NxP F (Pv (n + 1)), ct := NxP F (Pv (n + 1)), bk := D.nx } σ2 H3)
    (hd : ∀ σ' F' H', Ex F F' → Ex F' H' → Pv ds.length σ' F' H' → D.nx σ' H') : tFor wi g ts D σ H := h H e _ fun J G Y W hG hY =>
  for_it W (fun n => NxP F (Pv n)) ⟨F, Ex.refl _, e, h0⟩ (fun n σ' H' _ p => by
    obtain ⟨F', e1, e2, p⟩ := p
    exact hG _ (e1.trans e2)) (fun n v σ' H' H2 hn p y => by
    obtain ⟨F', e1, e3, p⟩ := p
    obtain ⟨rfl, hv, d, hd, hz⟩ := hY F' n H' v H2 hn e1 e3 y
    exact hs n σ' F' _ v d hv hd e1 e3 p hz) (fun σ' H' p => by
    obtain ⟨F', e1, e2, p⟩ := p
    exact hd σ' F' H' e1 e2 p)
theorem fill_loopX {α : Type} {D : Ends} {tr : TS} {vals : List V} {tcall : TE} {tk tv : TE} {C dx x ro : Addr} {fs : List (Str × V)} {f : Str} (R : Hp → Hp → Prop) (xs : List α) (rest : List PyData) (enc vf : α → PyData) (kf : α → Str) (σ0 : V → L2.St)
    (h0 : σ[0]? = some (some (.ref x))) (hs0 : ∀ v, (σ0 v)[0]? = some (some (.ref x))) (hset : ∀ v, σ.set 3 (some v) = σ0 v) (hset2 : ∀ v u, (σ0 v).set 3 (some u) = σ0 u)
    (hx : F x = some (.ins C dx fs)) (c : Cls K C) (n : NoAttr K C f) (hl : fs.lookup f = some (.ref ro)) (e : Ex F H) (hR : R F H)
    (hR1 : ∀ F H F' H', R F H → Gr F H F' H' → R F' H') (hR2 : ∀ F H o, R F H → F ro = none → R F (upd H ro o)) (hr : H ro = some (.dK [])) (fr : F ro = none)
    (hi : ItZV K (iList K te) σ F vals (xs.map enc ++ rest)) (hz : xs.length ≤ 40000) (hn : (xs.map kf).Nodup)
    (hcall : ∀ z, z ∈ xs → ∀ v F1, Ex F F1 → Dz K F1 v (enc z) → EvD K tcall (σ0 v) F1 (.bool true)) (hk : ∀ z, z ∈ xs → ∀ v F1, Ex F F1 → Dz K F1 v (enc z) → EvD K tk (σ0 v) F1 (.str (kf z)))
    (hv : ∀ z, z ∈ xs → ∀ v F1, Ex F F1 → Dz K F1 v (enc z) → EvD K tv (σ0 v) F1 (vf z))
    (hbad : ∀ b, rest.head? = some b → (∀ v F1, Ex F F1 → Dz K F1 v b → EvD K tcall (σ0 v) F1 (.bool false)) ∨
      ((∀ v F1, Ex F F1 → Dz K F1 v b → EvD K tcall (σ0 v) F1 (.bool true)) ∧ ∃ z, z ∈ xs ∧ ∀ v F1, Ex F F1 → Dz K F1 v b → EvD K tk (σ0 v) F1 (.str (kf z))))
    (hrz : ∀ b v F' H' D', rest.head? = some b → vals[xs.length]? = some v → R F' H' → Ex F F' → Ex F' H' → Dz K F' v b → tr D' (σ0 v) H')
    (hd : rest = [] → ∀ σ' vs F' H', (σ' = σ ∨ ∃ v, σ' = σ0 v) → R F' H' → Ex F F' → Ex F' H' → F' ro = none → H' ro = some (.dK ((xs.map fun z => (Sum.inr (kf z) : Key)).zip vs)) → DpAll K F' vs (xs.map vf) → D.nx σ' H') :
    tFor (iList K te) (gName 3) (tSeq (tIfS (tOr (tNot (tB tcall)) (tB (tDIn tk (tFld K (tVar 0) f)))) tr tNext) (sDPut (tFld K (tVar 0) f) tk tv)) D σ H := by
  refine s_forZV hi e (fun n σ' F' H' => n ≤ xs.length ∧ (σ' = σ ∨ ∃ v, σ' = σ0 v) ∧ R F' H' ∧ F' ro = none ∧ ∃ vs, H' ro = some (.dK (((xs.take n).map fun z => (Sum.inr (kf z) : Key)).zip vs)) ∧ DpAll K F' vs ((xs.take n).map vf))
    ⟨Nat.zero_le _, .inl rfl, hR, fr, [], by rw [List.take_zero]; exact hr, by rw [List.take_zero]; exact .nil⟩ ?_ (fun σ' F' H' e1 e2 p => ?_)
  · rintro m σ' F2 H2 v du hval hdu e1 e2 ⟨hmle, hσ, hR', fr', ws, hr', hw⟩ hv2
    have eF2 : Ex F F2 := e1
    have g2 : Gr F2 H2 F2 H2 := Gr.refl e2
    have k2 : H2 ro = some (.dK (((xs.take m).map fun z => (Sum.inr (kf z) : Key)).zip ws)) ∧ F2 ro = none := ⟨hr', fr'⟩
    have es : σ'.set 3 (some v) = σ0 v := by
      rcases hσ with rfl | ⟨u, rfl⟩
      · exact hset v
      · exact hset2 u v
    show tSeq _ _ _ (σ'.set 3 (some v)) H2
    rw [es]
    by_cases hm : m < xs.length
    rotate_left
    · have hme : m = xs.length := by omega
      subst hme
      have hb : rest.head? = some du := by
        rw [List.getElem?_append_right (by rw [List.length_map]; exact Nat.le_refl _), List.length_map, Nat.sub_self] at hdu
        rw [List.head?_eq_getElem?]
        exact hdu
      rw [List.take_length] at hw hr' k2
      have wl : ws.length = (xs.map fun z => (Sum.inr (kf z) : Key)).length := by rw [dps_len hw, List.length_map, List.length_map]
      show tIfS _ _ _ _ (σ0 v) H2
      rcases hbad du hb with hf | ⟨ht, z, hz', hkz⟩
      · refine (hf v F2 eF2 hv2) H2 g2.fh _ fun y F3 H3 g3 hy => ?_
        cases hy
        refine ⟨false, rfl, ?_⟩
        refine iteT ?_
        exact hrz du v F3 H3 _ hb hval (hR1 _ _ _ _ hR' (g2.trans g3)) (eF2.trans g3.fx) g3.fh (dz_ex g3.fx hv2)
      · refine (ht v F2 eF2 hv2) H2 g2.fh _ fun y F3 H3 g3 hy => ?_
        cases hy
        refine ⟨true, rfl, ?_⟩
        refine iteF ?_
        refine (hkz v F3 (eF2.trans g3.fx) (dz_ex g3.fx hv2)) H3 g3.fh _ fun y F4 H4 g4 hy => ?_
        cases hy
        have k4 := (g3.trans g4).keep k2.1 k2.2
        have hx4 := (eF2.trans (g3.fx.trans g4.fx)) _ _ hx
        refine fld_ref (hs0 v) hx4 c n hl H4 g4.fh _ ⟨ro, _, rfl, DGet.k (k := Sum.inr (kf z)) k4.1, ?_⟩
        refine ⟨_, rfl, ?_⟩
        have hs : (valV ((xs.map fun z => (Sum.inr (kf z) : Key)).zip ws) (.inr (kf z))).isSome = true := by
          rw [← valV_any, List.any_eq_true]
          have : (Sum.inr (kf z) : Key) ∈ ((xs.map fun z => (Sum.inr (kf z) : Key)).zip ws).map Prod.fst := by
            rw [zip_fst wl]
            exact List.mem_map.mpr ⟨z, hz', rfl⟩
          obtain ⟨p, hp, q⟩ := List.mem_map.mp this
          exact ⟨p, hp, decide_eq_true q⟩
        rw [hs]
        refine iteT ?_
        exact hrz du v F4 H4 _ hb hval (hR1 _ _ _ _ hR' (g2.trans (g3.trans g4))) (eF2.trans (g3.fx.trans g4.fx)) g4.fh (dz_ex (g3.fx.trans g4.fx) hv2)
    have hdu' : du = enc xs[m] := by
      rw [List.getElem?_append_left (by rw [List.length_map]; exact hm), List.getElem?_map, List.getElem?_eq_getElem hm] at hdu
      exact (Option.some.inj hdu).symm
    subst hdu'
    have hmem : xs[m] ∈ xs := List.getElem_mem hm
    have tl : (xs.take m).length ≤ xs.length := by rw [List.length_take]; omega
    have wl : ws.length = ((xs.take m).map fun z => (Sum.inr (kf z) : Key)).length := by rw [dps_len hw, List.length_map, List.length_map]
    have tk' : (xs.take (m + 1)) = xs.take m ++ [xs[m]] := List.take_succ_eq_append_getElem hm
    have hnew : (Sum.inr (kf xs[m]) : Key) ∉ (((xs.take m).map fun z => (Sum.inr (kf z) : Key)).zip ws).map Prod.fst := by
      rw [zip_fst wl]
      intro hm'
      obtain ⟨z, hz', hk'⟩ := List.mem_map.mp hm'
      have e1 : kf z = kf xs[m] := Sum.inr.inj hk'
      have hnd : ((xs.take m ++ [xs[m]]).map kf).Nodup := by
        rw [← tk']
        exact List.Nodup.sublist (List.Sublist.map _ (List.take_sublist _ _)) hn
      rw [List.map_append, List.nodup_append] at hnd
      exact hnd.2.2 (kf z) (List.mem_map.mpr ⟨z, hz', rfl⟩) (kf xs[m]) (by simp) e1
    -- the test
    show tIfS _ _ _ _ (σ0 v) H2
    refine (hcall _ hmem v F2 eF2 hv2) H2 g2.fh _ fun y F3 H3 g3 hy => ?_
    cases hy
    refine ⟨true, rfl, ?_⟩
    refine iteF ?_
    refine (hk _ hmem v F3 (eF2.trans g3.fx) (dz_ex g3.fx hv2)) H3 g3.fh _ fun y F4 H4 g4 hy => ?_
    cases hy
    have k4 := (g3.trans g4).keep k2.1 k2.2
    have hx4 := (eF2.trans (g3.fx.trans g4.fx)) _ _ hx
    refine fld_ref (hs0 v) hx4 c n hl H4 g4.fh _ ⟨ro, _, rfl, DGet.k (k := Sum.inr (kf xs[m])) k4.1, ?_⟩
    refine ⟨_, rfl, ?_⟩
    rw [valV_none hnew]
    refine iteF ?_
    -- the setting
    refine (hv _ hmem v F4 (eF2.trans (g3.fx.trans g4.fx)) (dz_ex (g3.fx.trans g4.fx) hv2)) H4 g4.fh _ fun y F5 H5 g5 hy => ?_
    have hx5 := g5.fx _ _ hx4
    refine fld_ref (hs0 v) hx5 c n hl H5 g5.fh _ ?_
    refine (hk _ hmem v F5 (eF2.trans (g3.fx.trans (g4.fx.trans g5.fx))) (dz_ex (g3.fx.trans (g4.fx.trans g5.fx)) hv2)) H5 g5.fh _ fun y2 F6 H6 g6 hy2 => ?_
    cases hy2
    have gg := g3.trans (g4.trans (g5.trans g6))
    have k6 := gg.keep k2.1 k2.2
    refine ⟨ro, _, rfl, DPut.k (k := Sum.inr (kf xs[m])) k6.1 (sz_lt (by
      rw [List.length_zip, List.length_map]
      omega)), F6, e1.trans (g2.fx.trans gg.fx), Ex.mut gg.fh k6.2, hm, .inr ⟨v, rfl⟩, hR2 _ _ _ (hR1 _ _ _ _ hR' (g2.trans gg)) k6.2, k6.2, ws ++ [y], ?_, ?_⟩
    · rw [upd_same, putK_new hnew, zip_app wl, tk', List.map_append] <;> rfl
    · rw [tk', List.map_append]
      exact dps_app (dps_ex (g2.fx.trans gg.fx) hw) (.cons (dp_ex g6.fx hy) .nil)
  · obtain ⟨hle, hσ, hR', fr', ws, hr', hw⟩ := p
    rw [List.length_append, List.length_map] at hle
    have h0 : rest = [] := List.eq_nil_of_length_eq_zero (by omega)
    subst h0
    rw [List.append_nil, List.length_map, List.take_length] at hr' hw
    exact hd rfl σ' ws F' H' hσ hR' e1 e2 fr' hr' hw
theorem fill_loopX0 {α : Type} {D : Ends} {tr : TS} {tcall : TE} {tk tv : TE} {C dx x ro : Addr} {fs : List (Str × V)} {f : Str} (R : Hp → Hp → Prop) (xs : List α) (rest : List PyData) (enc vf : α → PyData) (kf : α → Str) (σ0 : V → L2.St)
    (h0 : σ[0]? = some (some (.ref x))) (hs0 : ∀ v, (σ0 v)[0]? = some (some (.ref x))) (hset : ∀ v, σ.set 3 (some v) = σ0 v) (hset2 : ∀ v u, (σ0 v).set 3 (some u) = σ0 u)
    (hx : F x = some (.ins C dx fs)) (c : Cls K C) (n : NoAttr K C f) (hl : fs.lookup f = some (.ref ro)) (e : Ex F H) (hR : R F H)
    (hR1 : ∀ F H F' H', R F H → Gr F H F' H' → R F' H') (hR2 : ∀ F H o, R F H → F ro = none → R F (upd H ro o)) (hr : H ro = some (.dK [])) (fr : F ro = none)
    (hi : EvZ K te σ F (.list (xs.map enc ++ rest))) (hz : xs.length ≤ 40000) (hn : (xs.map kf).Nodup)
    (hcall : ∀ z, z ∈ xs → ∀ v F1, Ex F F1 → Dz K F1 v (enc z) → EvD K tcall (σ0 v) F1 (.bool true)) (hk : ∀ z, z ∈ xs → ∀ v F1, Ex F F1 → Dz K F1 v (enc z) → EvD K tk (σ0 v) F1 (.str (kf z)))
    (hv : ∀ z, z ∈ xs → ∀ v F1, Ex F F1 → Dz K F1 v (enc z) → EvD K tv (σ0 v) F1 (vf z))
    (hbad : ∀ b, rest.head? = some b → (∀ v F1, Ex F F1 → Dz K F1 v b → EvD K tcall (σ0 v) F1 (.bool false)) ∨
      ((∀ v F1, Ex F F1 → Dz K F1 v b → EvD K tcall (σ0 v) F1 (.bool true)) ∧ ∃ z, z ∈ xs ∧ ∀ v F1, Ex F F1 → Dz K F1 v b → EvD K tk (σ0 v) F1 (.str (kf z))))
    (hrz : ∀ b v F' H' D', rest.head? = some b → R F' H' → Ex F F' → Ex F' H' → Dz K F' v b → tr D' (σ0 v) H')
    (hd : rest = [] → ∀ σ' vs F' H', (σ' = σ ∨ ∃ v, σ' = σ0 v) → R F' H' → Ex F F' → Ex F' H' → F' ro = none → H' ro = some (.dK ((xs.map fun z => (Sum.inr (kf z) : Key)).zip vs)) → DpAll K F' vs (xs.map vf) → D.nx σ' H') :
    tFor (iList K te) (gName 3) (tSeq (tIfS (tOr (tNot (tB tcall)) (tB (tDIn tk (tFld K (tVar 0) f)))) tr tNext) (sDPut (tFld K (tVar 0) f) tk tv)) D σ H := by
  refine s_forZ (itz_list hi) e (fun n σ' F' H' => n ≤ xs.length ∧ (σ' = σ ∨ ∃ v, σ' = σ0 v) ∧ R F' H' ∧ F' ro = none ∧ ∃ vs, H' ro = some (.dK (((xs.take n).map fun z => (Sum.inr (kf z) : Key)).zip vs)) ∧ DpAll K F' vs ((xs.take n).map vf))
    (fun F' H' g => ?_) ?_ (fun σ' F' H' e1 e2 p => ?_)
  · have k := g.keep hr fr
    exact ⟨Nat.zero_le _, .inl rfl, hR1 _ _ _ _ hR g, k.2, [], by rw [List.take_zero]; exact k.1, by rw [List.take_zero]; exact .nil⟩
  · rintro Fb eb m σ' F' H' v du F2 H2 hdu e1 e2 ⟨hmle, hσ, hR', fr', ws, hr', hw⟩ g2 hv2
    have eF2 : Ex F F2 := eb.trans (e1.trans g2.fx)
    have k2 := g2.keep hr' fr'
    have es : σ'.set 3 (some v) = σ0 v := by
      rcases hσ with rfl | ⟨u, rfl⟩
      · exact hset v
      · exact hset2 u v
    show tSeq _ _ _ (σ'.set 3 (some v)) H2
    rw [es]
    by_cases hm : m < xs.length
    rotate_left
    · have hme : m = xs.length := by omega
      subst hme
      have hb : rest.head? = some du := by
        rw [List.getElem?_append_right (by rw [List.length_map]; exact Nat.le_refl _), List.length_map, Nat.sub_self] at hdu
        rw [List.head?_eq_getElem?]
        exact hdu
      rw [List.take_length] at hw hr' k2
      have wl : ws.length = (xs.map fun z => (Sum.inr (kf z) : Key)).length := by rw [dps_len hw, List.length_map, List.length_map]
      show tIfS _ _ _ _ (σ0 v) H2
      rcases hbad du hb with hf | ⟨ht, z, hz', hkz⟩
      · refine (hf v F2 eF2 hv2) H2 g2.fh _ fun y F3 H3 g3 hy => ?_
        cases hy
        refine ⟨false, rfl, ?_⟩
        refine iteT ?_
        exact hrz du v F3 H3 _ hb (hR1 _ _ _ _ hR' (g2.trans g3)) (eF2.trans g3.fx) g3.fh (dz_ex g3.fx hv2)
      · refine (ht v F2 eF2 hv2) H2 g2.fh _ fun y F3 H3 g3 hy => ?_
        cases hy
        refine ⟨true, rfl, ?_⟩
        refine iteF ?_
        refine (hkz v F3 (eF2.trans g3.fx) (dz_ex g3.fx hv2)) H3 g3.fh _ fun y F4 H4 g4 hy => ?_
        cases hy
        have k4 := (g3.trans g4).keep k2.1 k2.2
        have hx4 := (eF2.trans (g3.fx.trans g4.fx)) _ _ hx
        refine fld_ref (hs0 v) hx4 c n hl H4 g4.fh _ ⟨ro, _, rfl, DGet.k (k := Sum.inr (kf z)) k4.1, ?_⟩
        refine ⟨_, rfl, ?_⟩
        have hs : (valV ((xs.map fun z => (Sum.inr (kf z) : Key)).zip ws) (.inr (kf z))).isSome = true := by
          rw [← valV_any, List.any_eq_true]
          have : (Sum.inr (kf z) : Key) ∈ ((xs.map fun z => (Sum.inr (kf z) : Key)).zip ws).map Prod.fst := by
            rw [zip_fst wl]
            exact List.mem_map.mpr ⟨z, hz', rfl⟩
          obtain ⟨p, hp, q⟩ := List.mem_map.mp this
          exact ⟨p, hp, decide_eq_true q⟩
        rw [hs]
        refine iteT ?_
        exact hrz du v F4 H4 _ hb (hR1 _ _ _ _ hR' (g2.trans (g3.trans g4))) (eF2.trans (g3.fx.trans g4.fx)) g4.fh (dz_ex (g3.fx.trans g4.fx) hv2)
    have hdu' : du = enc xs[m] := by
      rw [List.getElem?_append_left (by rw [List.length_map]; exact hm), List.getElem?_map, List.getElem?_eq_getElem hm] at hdu
      exact (Option.some.inj hdu).symm
    subst hdu'
    have hmem : xs[m] ∈ xs := List.getElem_mem hm
    have tl : (xs.take m).length ≤ xs.length := by rw [List.length_take]; omega
    have wl : ws.length = ((xs.take m).map fun z => (Sum.inr (kf z) : Key)).length := by rw [dps_len hw, List.length_map, List.length_map]
    have tk' : (xs.take (m + 1)) = xs.take m ++ [xs[m]] := List.take_succ_eq_append_getElem hm
    have hnew : (Sum.inr (kf xs[m]) : Key) ∉ (((xs.take m).map fun z => (Sum.inr (kf z) : Key)).zip ws).map Prod.fst := by
      rw [zip_fst wl]
      intro hm'
      obtain ⟨z, hz', hk'⟩ := List.mem_map.mp hm'
      have e1 : kf z = kf xs[m] := Sum.inr.inj hk'
      have hnd : ((xs.take m ++ [xs[m]]).map kf).Nodup := by
        rw [← tk']
        exact List.Nodup.sublist (List.Sublist.map _ (List.take_sublist _ _)) hn
      rw [List.map_append, List.nodup_append] at hnd
      exact hnd.2.2 (kf z) (List.mem_map.mpr ⟨z, hz', rfl⟩) (kf xs[m]) (by simp) e1
    -- the test
    show tIfS _ _ _ _ (σ0 v) H2
    refine (hcall _ hmem v F2 eF2 hv2) H2 g2.fh _ fun y F3 H3 g3 hy => ?_
    cases hy
    refine ⟨true, rfl, ?_⟩
    refine iteF ?_
    refine (hk _ hmem v F3 (eF2.trans g3.fx) (dz_ex g3.fx hv2)) H3 g3.fh _ fun y F4 H4 g4 hy => ?_
    cases hy
    have k4 := (g3.trans g4).keep k2.1 k2.2
    have hx4 := (eF2.trans (g3.fx.trans g4.fx)) _ _ hx
    refine fld_ref (hs0 v) hx4 c n hl H4 g4.fh _ ⟨ro, _, rfl, DGet.k (k := Sum.inr (kf xs[m])) k4.1, ?_⟩
    refine ⟨_, rfl, ?_⟩
    rw [valV_none hnew]
    refine iteF ?_
    -- the setting
    refine (hv _ hmem v F4 (eF2.trans (g3.fx.trans g4.fx)) (dz_ex (g3.fx.trans g4.fx) hv2)) H4 g4.fh _ fun y F5 H5 g5 hy => ?_
    have hx5 := g5.fx _ _ hx4
    refine fld_ref (hs0 v) hx5 c n hl H5 g5.fh _ ?_
    refine (hk _ hmem v F5 (eF2.trans (g3.fx.trans (g4.fx.trans g5.fx))) (dz_ex (g3.fx.trans (g4.fx.trans g5.fx)) hv2)) H5 g5.fh _ fun y2 F6 H6 g6 hy2 => ?_
    cases hy2
    have gg := g3.trans (g4.trans (g5.trans g6))
    have k6 := gg.keep k2.1 k2.2
    refine ⟨ro, _, rfl, DPut.k (k := Sum.inr (kf xs[m])) k6.1 (sz_lt (by
      rw [List.length_zip, List.length_map]
      omega)), F6, e1.trans (g2.fx.trans gg.fx), Ex.mut gg.fh k6.2, hm, .inr ⟨v, rfl⟩, hR2 _ _ _ (hR1 _ _ _ _ hR' (g2.trans gg)) k6.2, k6.2, ws ++ [y], ?_, ?_⟩
    · rw [upd_same, putK_new hnew, zip_app wl, tk', List.map_append] <;> rfl
    · rw [tk', List.map_append]
      exact dps_app (dps_ex (g2.fx.trans gg.fx) hw) (.cons (dp_ex g6.fx hy) .nil)
  · obtain ⟨hle, hσ, hR', fr', ws, hr', hw⟩ := p
    rw [List.length_append, List.length_map] at hle
    have h0 : rest = [] := List.eq_nil_of_length_eq_zero (by omega)
    subst h0
    rw [List.append_nil, List.length_map, List.take_length] at hr' hw
    exact hd rfl σ' ws F' H' hσ hR' e1 e2 fr' hr' hw
end
end Dv

set_option Elab.async false
set_option linter.all false
set_option maxRecDepth 100000
set_option maxHeartbeats 4000000
/-! Mill.__init__ that raises at once: the stuffs are no list of 1 to 8 items -/
namespace R3
open PySem PySem.Spec PyProof.Rows L2 Evl Dv
section
variable {P : Program} {w : World} {K : PySem.W.Frag} {mg : Str → Option Value} {base : Heap}
def spMillBad1 (K : PySem.W.Frag) (CL : Addr) : Sp := fun vs H Q E => ∃ (F : Hp) (x : Addr) (v1 v2 : V) (d : PyData), vs = [.ref x, v1, v2] ∧ Ex F H ∧ Dz K F v1 d ∧ lenOk d ∧ sizeOk d 1 8 = false ∧ Bad CL F H v1 E
theorem ok_mill_bad1 {f : Addr} {fd : FuncData} {C CL CI : Addr} (D : Fun K "__init__" "Mill.__init__" sMillInit f fd) (MC : MillC K C) (B : Bl mg) (CC : Cst mg) (EI : ErrC P K mg "InvalidItem" CI)
    (C_check_size : CalX P w K mg base "check_size" ["value", "least", "most"] 1 (spSizeZ K CL)) (C_is_stuff : Cal P w K mg base "is_stuff" ["value"] 3 (spStuffZ K)) (C_is_recipe : Cal P w K mg base "is_recipe" ["value", "spots"] 4 (spRecipeZ K)) :
    FnOkG P w K mg base (L2.CX P w) 5 f fd ["self", "stuffs", "recipes"] (spMillBad1 K CL) := by
  refine D.okXG sc_Mill___init__ (fun vs H Q E h => ?_) (fun cdv A outer s H vs Q E hr h => ?_)
  · obtain ⟨F, x, v1, v2, d, rfl, _⟩ := h
    rfl
  obtain ⟨F, x, v1, v2, d, rfl, e, hv1, hl, hf, bad⟩ := h
  obtain ⟨t1, c1⟩ := CC.mostStuffs
  obtain ⟨t2, c2⟩ := CC.mostRecipes
  obtain ⟨fI, TI⟩ := EI.ex
  have hu := hu_of hr.1
  refine ⟨_, (pss_cons (ps_expr (pe_callXC C_check_size hr (takes_of rfl rfl rfl rfl) (pa_cons (pv 1) (pa_cons pe_int (pa_cons (pe_glob (v := .int 8) rfl c1 ⟨_, rfl⟩) pa_nil)))))
      (pss_cons (ps_fld (pv 0) pe_dnewK rfl)
      (pss_cons (ps_for PassesOwn.leaving rfl (pi_list (pv 1)) (pg_name (i := 3) sc_Mill___init__.nd rfl (.inl rfl)) (pss_cons (ps_if (PW.pt (pw_or (pt_not (pt_val (pe_callC C_is_stuff hr (pa_cons (pv 3) pa_nil)))) (pw_or1 (pt_cmp (pc_din hu (pe_ix ix_tup (pv 3) pe_int (fun _ _ => rfl)) (pe_fld (pv 0) rfl)) (by rfl))))) (pss_one (ps_raise rfl (takes_of rfl rfl rfl rfl) (pmk_xn1 TI (raises_own TI.exC TI.tyC) hr EI.hs (pa_cons (pv 3) pa_nil)))) pss_nil)
      (pss_one (ps_dput hu (pe_fld (pv 0) rfl) (pe_ix ix_tup (pv 3) pe_int (fun _ _ => rfl)) (pe_ix ix_tup (pv 3) pe_int (fun _ _ => rfl)) rfl))))
      (pss_cons (ps_expr (pe_callXC C_check_size hr (takes_of rfl rfl rfl rfl) (pa_cons (pv 2) (pa_cons pe_int (pa_cons (pe_glob (v := .int 8) rfl c2 ⟨_, rfl⟩) pa_nil)))))
      (pss_cons (ps_fld (pv 0) (pe_lock (pe_dc (own := [("at", 4), ("name", 5)]) (g := gTup K 2 (gCons (gName 4) (gCons (gName 5) gNil))) rfl sc_Mill___init__.nd (pi_enumK rfl B.enum (pa_cons (pe_fld (pv 0) rfl) pa_nil)) (blkOk_by (own := [("at", 4), ("name", 5)]) (N := ["self", "stuffs", "recipes", "item", "at", "name"]) (sc := defScope sMillInit) (by decide +kernel)) (fun _ _ _ _ _ => (pg_tup (by rfl) (pgs_cons (pg_name (i := 4) sc_Mill___init__.nd rfl (.inl rfl)) (pgs_cons (pg_name (i := 5) sc_Mill___init__.nd rfl (.inl rfl)) pgs_nil)))) (fun _ _ _ _ _ => pts_nil) (fun _ _ _ _ _ => (pv 5)) (fun _ _ _ _ _ => (pv 4)))) rfl)
      (pss_cons (ps_fld (pv 0) pe_dnewK rfl)
      (pss_one (ps_for PassesOwn.leaving rfl (pi_list (pv 2)) (pg_name (i := 3) sc_Mill___init__.nd rfl (.inl rfl)) (pss_cons (ps_if (PW.pt (pw_or (pt_not (pt_val (pe_callC C_is_recipe hr (pa_cons (pv 3) (pa_cons (pe_fld (pv 0) rfl) pa_nil))))) (pw_or1 (pt_cmp (pc_din hu (pe_ix ix_tup (pv 3) pe_int (fun _ _ => rfl)) (pe_fld (pv 0) rfl)) (by rfl))))) (pss_one (ps_raise rfl (takes_of rfl rfl rfl rfl) (pmk_xn1 TI (raises_own TI.exC TI.tyC) hr EI.hs (pa_cons (pv 3) pa_nil)))) pss_nil)
      (pss_one (ps_dput hu (pe_fld (pv 0) rfl) (pe_ix ix_tup (pv 3) pe_int (fun _ _ => rfl)) (pe_tup (pa_cons (pe_callTy call_tuple_of (by rfl) B.tuple (by decide +kernel) (pa_cons (pe_ix ix_tup (pv 3) pe_int (fun _ _ => rfl)) pa_nil)) (pa_cons (pe_callTy call_tuple_of (by rfl) B.tuple (by decide +kernel) (pa_cons (pe_ix ix_tup (pv 3) pe_int (fun _ _ => rfl)) pa_nil)) pa_nil))) rfl))))))))))), ?_⟩
  have st : start ["self", "stuffs", "recipes", "item", "at", "name"] [V.ref x, v1, v2] = [some (.ref x), some v1, some v2, none, none, none] := rfl
  rw [st]
  refine seq_of ?_
  exact ⟨v1, rfl, F, v1, d, 1, 8, rfl, e, hv1, hl, .inr ⟨hf, bad⟩⟩
end
end R3

set_option Elab.async false
set_option linter.all false
set_option maxRecDepth 100000
set_option maxHeartbeats 4000000
/-! Mill.__init__ that raises at a stuff -/
namespace R3
open PySem PySem.Spec PyProof.Rows L2 Evl Dv
section
variable {P : Program} {w : World} {K : PySem.W.Frag} {mg : Str → Option Value} {base : Heap}
/-- raised at an item that reads b -/
def BadB (K : PySem.W.Frag) (CI x dx : Addr) (F H : Hp) (u : Option V) (b : PyData) (E : XK) : Prop := ∀ F' H' v dd, Bx x dx F H F' H' → Dz K F' v b → u = some v → H' dd = none → E (.ref CI) (some dd) (upd H' dd (.xd [("value", v)]))
def spMillBad2 (K : PySem.W.Frag) (C CI : Addr) : Sp := fun vs H Q E => ∃ (F : Hp) (x dx a1 : Addr) (v2 : V) (vals : List V) (xs : List (Str × Option Int)) (b : PyData) (rest : List PyData), vs = [.ref x, .ref a1, v2] ∧ Ex F H ∧ F x = none ∧ F dx = none ∧ H x = some (.ins C dx []) ∧ (H dx).isSome = true ∧ x ≠ dx ∧
  F a1 = some (.lst vals) ∧ DzAll K F vals (xs.map encStuff ++ b :: rest) ∧ lenOk (.list (xs.map encStuff ++ b :: rest)) ∧ sizeOk (.list (xs.map encStuff ++ b :: rest)) 1 8 = true ∧ (xs.map (·.1)).Nodup ∧ (∀ z ∈ xs, gd (encStuff z) = true ∧ isStuff (encStuff z) = true) ∧ gd b = true ∧
  (isStuff b = false ∨ (isStuff b = true ∧ ∃ z, z ∈ xs ∧ ∃ t, b = .tuple [.str z.1, t])) ∧ BadB K CI x dx F H vals[xs.length]? b E
theorem ok_mill_bad2 {f : Addr} {fd : FuncData} {C CL CI : Addr} (D : Fun K "__init__" "Mill.__init__" sMillInit f fd) (MC : MillC K C) (B : Bl mg) (CC : Cst mg) (EI : ErrC P K mg "InvalidItem" CI)
    (C_check_size : CalX P w K mg base "check_size" ["value", "least", "most"] 1 (spSizeZ K CL)) (C_is_stuff : Cal P w K mg base "is_stuff" ["value"] 3 (spStuffZ K)) (C_is_recipe : Cal P w K mg base "is_recipe" ["value", "spots"] 4 (spRecipeZ K)) :
    FnOkG P w K mg base (L2.CX P w) 5 f fd ["self", "stuffs", "recipes"] (spMillBad2 K C CI) := by
  refine D.okXG sc_Mill___init__ (fun vs H Q E h => ?_) (fun cdv A outer s H vs Q E hr h => ?_)
  · obtain ⟨F, x, dx, a1, v2, vals, xs, b, rest, rfl, _⟩ := h
    rfl
  obtain ⟨F, x, dx, a1, v2, vals, xs, b, rest, rfl, e, fx, fdx, hx, hdx, hxd, ha1, hvs, hl, hf, hn, hss, hgb, hb, bad⟩ := h
  obtain ⟨t1, c1⟩ := CC.mostStuffs
  obtain ⟨t2, c2⟩ := CC.mostRecipes
  obtain ⟨fI, TI⟩ := EI.ex
  have hu := hu_of hr.1
  refine ⟨_, (pss_cons (ps_expr (pe_callXC C_check_size hr (takes_of rfl rfl rfl rfl) (pa_cons (pv 1) (pa_cons pe_int (pa_cons (pe_glob (v := .int 8) rfl c1 ⟨_, rfl⟩) pa_nil)))))
      (pss_cons (ps_fld (pv 0) pe_dnewK rfl)
      (pss_cons (ps_for PassesOwn.leaving rfl (pi_list (pv 1)) (pg_name (i := 3) sc_Mill___init__.nd rfl (.inl rfl)) (pss_cons (ps_if (PW.pt (pw_or (pt_not (pt_val (pe_callC C_is_stuff hr (pa_cons (pv 3) pa_nil)))) (pw_or1 (pt_cmp (pc_din hu (pe_ix ix_tup (pv 3) pe_int (fun _ _ => rfl)) (pe_fld (pv 0) rfl)) (by rfl))))) (pss_one (ps_raise rfl (takes_of rfl rfl rfl rfl) (pmk_xn1 TI (raises_own TI.exC TI.tyC) hr EI.hs (pa_cons (pv 3) pa_nil)))) pss_nil)
      (pss_one (ps_dput hu (pe_fld (pv 0) rfl) (pe_ix ix_tup (pv 3) pe_int (fun _ _ => rfl)) (pe_ix ix_tup (pv 3) pe_int (fun _ _ => rfl)) rfl))))
      (pss_cons (ps_expr (pe_callXC C_check_size hr (takes_of rfl rfl rfl rfl) (pa_cons (pv 2) (pa_cons pe_int (pa_cons (pe_glob (v := .int 8) rfl c2 ⟨_, rfl⟩) pa_nil)))))
      (pss_cons (ps_fld (pv 0) (pe_lock (pe_dc (own := [("at", 4), ("name", 5)]) (g := gTup K 2 (gCons (gName 4) (gCons (gName 5) gNil))) rfl sc_Mill___init__.nd (pi_enumK rfl B.enum (pa_cons (pe_fld (pv 0) rfl) pa_nil)) (blkOk_by (own := [("at", 4), ("name", 5)]) (N := ["self", "stuffs", "recipes", "item", "at", "name"]) (sc := defScope sMillInit) (by decide +kernel)) (fun _ _ _ _ _ => (pg_tup (by rfl) (pgs_cons (pg_name (i := 4) sc_Mill___init__.nd rfl (.inl rfl)) (pgs_cons (pg_name (i := 5) sc_Mill___init__.nd rfl (.inl rfl)) pgs_nil)))) (fun _ _ _ _ _ => pts_nil) (fun _ _ _ _ _ => (pv 5)) (fun _ _ _ _ _ => (pv 4)))) rfl)
      (pss_cons (ps_fld (pv 0) pe_dnewK rfl)
      (pss_one (ps_for PassesOwn.leaving rfl (pi_list (pv 2)) (pg_name (i := 3) sc_Mill___init__.nd rfl (.inl rfl)) (pss_cons (ps_if (PW.pt (pw_or (pt_not (pt_val (pe_callC C_is_recipe hr (pa_cons (pv 3) (pa_cons (pe_fld (pv 0) rfl) pa_nil))))) (pw_or1 (pt_cmp (pc_din hu (pe_ix ix_tup (pv 3) pe_int (fun _ _ => rfl)) (pe_fld (pv 0) rfl)) (by rfl))))) (pss_one (ps_raise rfl (takes_of rfl rfl rfl rfl) (pmk_xn1 TI (raises_own TI.exC TI.tyC) hr EI.hs (pa_cons (pv 3) pa_nil)))) pss_nil)
      (pss_one (ps_dput hu (pe_fld (pv 0) rfl) (pe_ix ix_tup (pv 3) pe_int (fun _ _ => rfl)) (pe_tup (pa_cons (pe_callTy call_tuple_of (by rfl) B.tuple (by decide +kernel) (pa_cons (pe_ix ix_tup (pv 3) pe_int (fun _ _ => rfl)) pa_nil)) (pa_cons (pe_callTy call_tuple_of (by rfl) B.tuple (by decide +kernel) (pa_cons (pe_ix ix_tup (pv 3) pe_int (fun _ _ => rfl)) pa_nil)) pa_nil))) rfl))))))))))), ?_⟩
  have st : start ["self", "stuffs", "recipes", "item", "at", "name"] [V.ref x, .ref a1, v2] = [some (.ref x), some (.ref a1), some v2, none, none, none] := rfl
  rw [st]
  -- x into F
  have b0 : Bx x dx F H F H := ⟨Evl.Ex.refl F, e, fun _ _ _ h => h, fun a h1 h2 => absurd h1 h2⟩
  have b1 : Bx x dx F H (upd F x (.ins C dx [])) H := by
    have := b0.put (p := x) (o := .ins C dx []) (.inr rfl) fx
    rwa [show upd H x (.ins C dx []) = H from by
      funext a
      by_cases z : a = x
      · rw [z, upd_same, hx]
      · rw [upd_ne z]] at this
  have hv1 : Dz K F (.ref a1) (.list (xs.map encStuff ++ b :: rest)) := .lst ha1 hvs
  refine seq_of ?_
  refine ⟨.ref a1, rfl, upd F x (.ins C dx []), .ref a1, _, 1, 8, rfl, b1.fh, dz_ex b1.fx hv1, hl, .inl ⟨hf, fun F1 H1 g1 => ?_⟩⟩
  dsimp only
  have b2 := b1.step g1
  have x1 : F1 x = some (.ins C dx []) := g1.fx _ _ upd_same
  -- self.rooms = {}
  refine s_fldNew (f := "rooms") rfl x1 MC.cl MC.rooms (by simp) b2.fh fun ro hro hrx => ?_
  have hroH : H ro = none := by
    cases z : H ro with
    | none => rfl
    | some o => rw [b2.hx ro o hrx z] at hro; cases hro
  have fro1 : F1 ro = none := ex_none b2.fh hro
  have hroF : F ro = none := ex_none e hroH
  have b3 : Bx x dx F H (upd F1 x (.ins C dx [("rooms", .ref ro)])) (upd (upd H1 ro (.dK [])) x (.ins C dx [("rooms", .ref ro)])) := (b2.mut hroH fro1).put (.inr rfl) fx
  have rr : ∀ o, (upd F1 x o) ro = none := fun o => by rw [upd_ne hrx]; exact fro1
  have hR1 : ∀ Fa Ha Fb Hb, Bx x dx F H Fa Ha → Gr Fa Ha Fb Hb → Bx x dx F H Fb Hb := fun _ _ _ _ b g => b.step g
  have hxl : xs.length ≤ 8 := by
    have h2 := of_decide_eq_true (Bool.and_eq_true_iff.mp hf).2
    rw [List.length_append, List.length_map, List.length_cons] at h2
    omega
  have cs : ∀ d : PyData, gd d = true → ∀ p, isStuff d = p → ∀ v F2, Dz K F2 v d → ∀ Ez, EvD K (tCall (spStuffZ K) [] Ez (tCons (tVar 3) tNil)) [some (.ref x), some (.ref a1), some v2, some v, none, none] F2 (.bool p) := fun d hg p hp v F2 hv Ez H e Q q =>
    ⟨v, rfl, F2, v, d, rfl, e, hv, hg, fun F' H' g => by rw [hp]; exact q _ F' H' g (.bl _)⟩
  refine fill_loopX (K := K) (fs := [("rooms", V.ref ro)]) (fun Fa Ha => Bx x dx F H Fa Ha) xs (b :: rest) encStuff (fun z => encRoom z.2) (fun z => z.1) (fun v => [some (.ref x), some (.ref a1), some v2, some v, none, none])
    rfl (fun _ => rfl) (fun _ => rfl) (fun _ _ => rfl) upd_same MC.cl MC.rooms (by rfl) b3.fh b3 hR1 (fun _ _ o b fr => b.mut hroH fr) (by rw [upd_ne hrx, upd_same]) (rr _) (itzv_trk (i := 1) rfl (b3.fx _ _ ha1) (dzs_ex b3.fx hvs)) (by omega) hn
    (fun z hz v F2 _ hv => cs _ (hss z hz).1 _ (hss z hz).2 v F2 hv _)
    (fun z hz v F2 _ hv => ez_strD (ez_ixT (ez_var (i := 3) rfl hv) (Dv.ev_int 0) rfl))
    (fun z hz v F2 _ hv => ?_)
    (fun b' hb' => ?_) (fun b' v F' H' D' hb' hval r e1 e2 hv => ?_) (fun z => nomatch z)
  · have := ez_ixT (d := encRoom z.2) (ez_var (K := K) (σ := [some (V.ref x), some (.ref a1), some v2, some v, none, none]) (i := 3) rfl hv) (Dv.ev_int 1) rfl
    exact fun H e Q q => this H e Q fun v F' H' g hv => by
      cases hz2 : z.2 with
      | none => rw [hz2] at hv q; cases hv with | dat hv => exact q v F' H' g hv
      | some i => rw [hz2] at hv q; cases hv with | dat hv => exact q v F' H' g hv
  · cases hb'
    rcases hb with hb | ⟨hb, z, hz, t, rfl⟩
    · exact .inl fun v F2 _ hv => cs _ hgb _ hb v F2 hv _
    · exact .inr ⟨fun v F2 _ hv => cs _ hgb _ hb v F2 hv _, z, hz, fun v F2 _ hv => ez_strD (ez_ixT (ez_var (i := 3) rfl hv) (Dv.ev_int 0) rfl)⟩
  · cases hb'
    exact ⟨v, rfl, v, rfl, fun dd hdd => bad F' H' v dd r hv hval hdd⟩
end
end R3

set_option Elab.async false
set_option linter.all false
set_option maxRecDepth 100000
set_option maxHeartbeats 4000000
/-! Mill.__init__ that raises at the size of the recipes -/
namespace R3
open PySem PySem.Spec PyProof.Rows L2 Evl Dv
section
variable {P : Program} {w : World} {K : PySem.W.Frag} {mg : Str → Option Value} {base : Heap}
def spMillBad3 (K : PySem.W.Frag) (C CL : Addr) : Sp := fun vs H Q E => ∃ (F : Hp) (x dx : Addr) (v1 v2 : V) (xs : List (Str × Option Int)) (d2 : PyData), vs = [.ref x, v1, v2] ∧ Ex F H ∧ F x = none ∧ F dx = none ∧ H x = some (.ins C dx []) ∧ (H dx).isSome = true ∧ x ≠ dx ∧
  Dz K F v1 (.list (xs.map encStuff)) ∧ lenOk (.list (xs.map encStuff)) ∧ sizeOk (.list (xs.map encStuff)) 1 8 = true ∧ (xs.map (·.1)).Nodup ∧ (∀ z ∈ xs, gd (encStuff z) = true ∧ isStuff (encStuff z) = true) ∧ Dz K F v2 d2 ∧ lenOk d2 ∧ sizeOk d2 0 8 = false ∧
  ∀ F' H' dd, Bx x dx F H F' H' → H' dd = none → E (.ref CL) (some dd) (upd H' dd (.xd [("value", v2)]))
theorem ok_mill_bad3 {f : Addr} {fd : FuncData} {C CL CI : Addr} (D : Fun K "__init__" "Mill.__init__" sMillInit f fd) (MC : MillC K C) (B : Bl mg) (CC : Cst mg) (EI : ErrC P K mg "InvalidItem" CI)
    (C_check_size : CalX P w K mg base "check_size" ["value", "least", "most"] 1 (spSizeZ K CL)) (C_is_stuff : Cal P w K mg base "is_stuff" ["value"] 3 (spStuffZ K)) (C_is_recipe : Cal P w K mg base "is_recipe" ["value", "spots"] 4 (spRecipeZ K)) :
    FnOkG P w K mg base (L2.CX P w) 5 f fd ["self", "stuffs", "recipes"] (spMillBad3 K C CL) := by
  refine D.okXG sc_Mill___init__ (fun vs H Q E h => ?_) (fun cdv A outer s H vs Q E hr h => ?_)
  · obtain ⟨F, x, dx, v1, v2, xs, d2, rfl, _⟩ := h
    rfl
  obtain ⟨F, x, dx, v1, v2, xs, d2, rfl, e, fx, fdx, hx, hdx, hxd, hv1, hl, hf, hn, hss, hv2, hl2, hf2, bad⟩ := h
  obtain ⟨t1, c1⟩ := CC.mostStuffs
  obtain ⟨t2, c2⟩ := CC.mostRecipes
  obtain ⟨fI, TI⟩ := EI.ex
  have hu := hu_of hr.1
  refine ⟨_, (pss_cons (ps_expr (pe_callXC C_check_size hr (takes_of rfl rfl rfl rfl) (pa_cons (pv 1) (pa_cons pe_int (pa_cons (pe_glob (v := .int 8) rfl c1 ⟨_, rfl⟩) pa_nil)))))
      (pss_cons (ps_fld (pv 0) pe_dnewK rfl)
      (pss_cons (ps_for PassesOwn.leaving rfl (pi_list (pv 1)) (pg_name (i := 3) sc_Mill___init__.nd rfl (.inl rfl)) (pss_cons (ps_if (PW.pt (pw_or (pt_not (pt_val (pe_callC C_is_stuff hr (pa_cons (pv 3) pa_nil)))) (pw_or1 (pt_cmp (pc_din hu (pe_ix ix_tup (pv 3) pe_int (fun _ _ => rfl)) (pe_fld (pv 0) rfl)) (by rfl))))) (pss_one (ps_raise rfl (takes_of rfl rfl rfl rfl) (pmk_xn1 TI (raises_own TI.exC TI.tyC) hr EI.hs (pa_cons (pv 3) pa_nil)))) pss_nil)
      (pss_one (ps_dput hu (pe_fld (pv 0) rfl) (pe_ix ix_tup (pv 3) pe_int (fun _ _ => rfl)) (pe_ix ix_tup (pv 3) pe_int (fun _ _ => rfl)) rfl))))
      (pss_cons (ps_expr (pe_callXC C_check_size hr (takes_of rfl rfl rfl rfl) (pa_cons (pv 2) (pa_cons pe_int (pa_cons (pe_glob (v := .int 8) rfl c2 ⟨_, rfl⟩) pa_nil)))))
      (pss_cons (ps_fld (pv 0) (pe_lock (pe_dc (own := [("at", 4), ("name", 5)]) (g := gTup K 2 (gCons (gName 4) (gCons (gName 5) gNil))) rfl sc_Mill___init__.nd (pi_enumK rfl B.enum (pa_cons (pe_fld (pv 0) rfl) pa_nil)) (blkOk_by (own := [("at", 4), ("name", 5)]) (N := ["self", "stuffs", "recipes", "item", "at", "name"]) (sc := defScope sMillInit) (by decide +kernel)) (fun _ _ _ _ _ => (pg_tup (by rfl) (pgs_cons (pg_name (i := 4) sc_Mill___init__.nd rfl (.inl rfl)) (pgs_cons (pg_name (i := 5) sc_Mill___init__.nd rfl (.inl rfl)) pgs_nil)))) (fun _ _ _ _ _ => pts_nil) (fun _ _ _ _ _ => (pv 5)) (fun _ _ _ _ _ => (pv 4)))) rfl)
      (pss_cons (ps_fld (pv 0) pe_dnewK rfl)
      (pss_one (ps_for PassesOwn.leaving rfl (pi_list (pv 2)) (pg_name (i := 3) sc_Mill___init__.nd rfl (.inl rfl)) (pss_cons (ps_if (PW.pt (pw_or (pt_not (pt_val (pe_callC C_is_recipe hr (pa_cons (pv 3) (pa_cons (pe_fld (pv 0) rfl) pa_nil))))) (pw_or1 (pt_cmp (pc_din hu (pe_ix ix_tup (pv 3) pe_int (fun _ _ => rfl)) (pe_fld (pv 0) rfl)) (by rfl))))) (pss_one (ps_raise rfl (takes_of rfl rfl rfl rfl) (pmk_xn1 TI (raises_own TI.exC TI.tyC) hr EI.hs (pa_cons (pv 3) pa_nil)))) pss_nil)
      (pss_one (ps_dput hu (pe_fld (pv 0) rfl) (pe_ix ix_tup (pv 3) pe_int (fun _ _ => rfl)) (pe_tup (pa_cons (pe_callTy call_tuple_of (by rfl) B.tuple (by decide +kernel) (pa_cons (pe_ix ix_tup (pv 3) pe_int (fun _ _ => rfl)) pa_nil)) (pa_cons (pe_callTy call_tuple_of (by rfl) B.tuple (by decide +kernel) (pa_cons (pe_ix ix_tup (pv 3) pe_int (fun _ _ => rfl)) pa_nil)) pa_nil))) rfl))))))))))), ?_⟩
  have st : start ["self", "stuffs", "recipes", "item", "at", "name"] [V.ref x, v1, v2] = [some (.ref x), some v1, some v2, none, none, none] := rfl
  rw [st]
  -- x into F
  have b0 : Bx x dx F H F H := ⟨Evl.Ex.refl F, e, fun _ _ _ h => h, fun a h1 h2 => absurd h1 h2⟩
  have b1 : Bx x dx F H (upd F x (.ins C dx [])) H := by
    have := b0.put (p := x) (o := .ins C dx []) (.inr rfl) fx
    rwa [show upd H x (.ins C dx []) = H from by
      funext a
      by_cases z : a = x
      · rw [z, upd_same, hx]
      · rw [upd_ne z]] at this
  refine seq_of ?_
  refine ⟨v1, rfl, upd F x (.ins C dx []), v1, _, 1, 8, rfl, b1.fh, dz_ex b1.fx hv1, hl, .inl ⟨hf, fun F1 H1 g1 => ?_⟩⟩
  dsimp only
  have b2 := b1.step g1
  have x1 : F1 x = some (.ins C dx []) := g1.fx _ _ upd_same
  -- self.rooms = {}
  refine s_fldNew (f := "rooms") rfl x1 MC.cl MC.rooms (by simp) b2.fh fun ro hro hrx => ?_
  have hroH : H ro = none := by
    cases z : H ro with
    | none => rfl
    | some o => rw [b2.hx ro o hrx z] at hro; cases hro
  have fro1 : F1 ro = none := ex_none b2.fh hro
  have hroF : F ro = none := ex_none e hroH
  have b3 : Bx x dx F H (upd F1 x (.ins C dx [("rooms", .ref ro)])) (upd (upd H1 ro (.dK [])) x (.ins C dx [("rooms", .ref ro)])) := (b2.mut hroH fro1).put (.inr rfl) fx
  have rr : ∀ o, (upd F1 x o) ro = none := fun o => by rw [upd_ne hrx]; exact fro1
  have hR1 : ∀ Fa Ha Fb Hb, Bx x dx F H Fa Ha → Gr Fa Ha Fb Hb → Bx x dx F H Fb Hb := fun _ _ _ _ b g => b.step g
  have hxl : xs.length ≤ 8 := by
    have h2 := of_decide_eq_true (Bool.and_eq_true_iff.mp hf).2
    rw [List.length_map] at h2
    omega
  have cs : ∀ d : PyData, gd d = true → ∀ p, isStuff d = p → ∀ v F2, Dz K F2 v d → ∀ Ez, EvD K (tCall (spStuffZ K) [] Ez (tCons (tVar 3) tNil)) [some (.ref x), some v1, some v2, some v, none, none] F2 (.bool p) := fun d hg p hp v F2 hv Ez H e Q q =>
    ⟨v, rfl, F2, v, d, rfl, e, hv, hg, fun F' H' g => by rw [hp]; exact q _ F' H' g (.bl _)⟩
  refine fill_loopX0 (K := K) (fs := [("rooms", V.ref ro)]) (fun Fa Ha => Bx x dx F H Fa Ha) xs [] encStuff (fun z => encRoom z.2) (fun z => z.1) (fun v => [some (.ref x), some v1, some v2, some v, none, none])
    rfl (fun _ => rfl) (fun _ => rfl) (fun _ _ => rfl) upd_same MC.cl MC.rooms (by rfl) b3.fh b3 hR1 (fun _ _ o b fr => b.mut hroH fr) (by rw [upd_ne hrx, upd_same]) (rr _) (ez_var rfl (by rw [List.append_nil]; exact dz_ex b3.fx hv1)) (by omega) hn
    (fun z hz v F2 _ hv => cs _ (hss z hz).1 _ (hss z hz).2 v F2 hv _)
    (fun z hz v F2 _ hv => ez_strD (ez_ixT (ez_var (i := 3) rfl hv) (Dv.ev_int 0) rfl))
    (fun z hz v F2 _ hv => ?_)
    (fun b' hb' => nomatch hb') (fun b' v F' H' D' hb' => nomatch hb') (fun _ σ' ws F2 H2 hσ b4 e1 e2 fro2 hro2 hw => ?_)
  · have := ez_ixT (d := encRoom z.2) (ez_var (K := K) (σ := [some (V.ref x), some v1, some v2, some v, none, none]) (i := 3) rfl hv) (Dv.ev_int 1) rfl
    exact fun H e Q q => this H e Q fun v F' H' g hv => by
      cases hz2 : z.2 with
      | none => rw [hz2] at hv q; cases hv with | dat hv => exact q v F' H' g hv
      | some i => rw [hz2] at hv q; cases hv with | dat hv => exact q v F' H' g hv
  · obtain ⟨it, rfl⟩ : ∃ it, σ' = [some (.ref x), some v1, some v2, it, none, none] := by
      rcases hσ with rfl | ⟨v, rfl⟩
      · exact ⟨none, rfl⟩
      · exact ⟨some v, rfl⟩
    refine seq_of ?_
    exact ⟨v2, rfl, F2, v2, d2, 0, 8, rfl, e2, dz_ex b4.fx hv2, hl2, .inr ⟨hf2, fun F' H' dd g hdd => bad F' H' dd (b4.step g) hdd⟩⟩
end
end R3

set_option Elab.async false
set_option linter.all false
set_option maxRecDepth 100000
set_option maxHeartbeats 4000000
/-! Mill.__init__ that raises at a recipe -/
namespace Dv
open PySem PySem.Spec PyProof.Rows L2 Evl
mutual
/-- no dict within -/
def noDict : PyData → Bool
  | .dict _ => false
  | .list ds => noDicts ds
  | .tuple ds => noDicts ds
  | _ => true
def noDicts : List PyData → Bool
  | [] => true
  | d :: ds => noDict d && noDicts ds
end
mutual
theorem dz_dp {K : PySem.W.Frag} {H : Hp} : ∀ {d : PyData} {v : V}, noDict d = true → Dz K H v d → Dp K H v d
  | _, _, _, .dat h => h
  | _, _, n, .mt _ => by rw [noDict] at n; cases n
  | _, _, n, .lst h t => .lst (SqL.of h) (dzs_dp (by rw [noDict] at n; exact n) t)
  | _, _, n, .tup h t => .tup h (dzs_dp (by rw [noDict] at n; exact n) t)
theorem dzs_dp {K : PySem.W.Frag} {H : Hp} : ∀ {ds : List PyData} {vs : List V}, noDicts ds = true → DzAll K H vs ds → DpAll K H vs ds
  | _, _, _, .nil => .nil
  | _, _, n, .cons h t => by
    rw [noDicts, Bool.and_eq_true] at n
    exact .cons (dz_dp n.1 h) (dzs_dp n.2 t)
end
end Dv
namespace R3
open PySem PySem.Spec PyProof.Rows L2 Evl Dv
theorem noDicts_map {α : Type} (f : α → PyData) (h : ∀ z, noDict (f z) = true) : ∀ xs : List α, noDicts (xs.map f) = true
  | [] => rfl
  | x :: xs => by rw [List.map_cons, noDicts, h, noDicts_map f h xs]; rfl
theorem nd_part (z : Str × Int) : noDict (encPart z) = true := rfl
theorem nd_recipe (z : Str × List (Str × Int) × List (Str × Int)) : noDict (encRecipe z) = true := by
  simp [encRecipe, noDict, noDicts, noDicts_map _ nd_part]
theorem nd_stuff (z : Str × Option Int) : noDict (encStuff z) = true := by
  obtain ⟨n, r⟩ := z
  cases r <;> rfl
end R3
namespace R3
open PySem PySem.Spec PyProof.Rows L2 Evl Dv
section
variable {P : Program} {w : World} {K : PySem.W.Frag} {mg : Str → Option Value} {base : Heap}
def spMillBad4 (K : PySem.W.Frag) (C CI : Addr) : Sp := fun vs H Q E => ∃ (F : Hp) (x dx : Addr) (v1 : V) (a2 : Addr) (vals : List V) (xs : List (Str × Option Int)) (ys : List (Str × List (Str × Int) × List (Str × Int))) (b : PyData) (rest : List PyData), vs = [.ref x, v1, .ref a2] ∧ Ex F H ∧ F x = none ∧ F dx = none ∧ H x = some (.ins C dx []) ∧ (H dx).isSome = true ∧ x ≠ dx ∧
  Dz K F v1 (.list (xs.map encStuff)) ∧ lenOk (.list (xs.map encStuff)) ∧ sizeOk (.list (xs.map encStuff)) 1 8 = true ∧ (xs.map (·.1)).Nodup ∧ (∀ z ∈ xs, gd (encStuff z) = true ∧ isStuff (encStuff z) = true) ∧
  F a2 = some (.lst vals) ∧ DzAll K F vals (ys.map encRecipe ++ b :: rest) ∧ lenOk (.list (ys.map encRecipe ++ b :: rest)) ∧ sizeOk (.list (ys.map encRecipe ++ b :: rest)) 0 8 = true ∧ (ys.map (·.1)).Nodup ∧ (∀ z ∈ ys, gd (encRecipe z) = true ∧ isRecipe (xs.map (·.1)) (encRecipe z) = true) ∧ gd b = true ∧
  (isRecipe (xs.map (·.1)) b = false ∨ (isRecipe (xs.map (·.1)) b = true ∧ ∃ z, z ∈ ys ∧ ∃ t1 t2, b = .tuple [.str z.1, t1, t2])) ∧ BadB K CI x dx F H vals[ys.length]? b E
theorem ok_mill_bad4 {f : Addr} {fd : FuncData} {C CL CI : Addr} (D : Fun K "__init__" "Mill.__init__" sMillInit f fd) (MC : MillC K C) (B : Bl mg) (CC : Cst mg) (EI : ErrC P K mg "InvalidItem" CI)
    (C_check_size : CalX P w K mg base "check_size" ["value", "least", "most"] 1 (spSizeZ K CL)) (C_is_stuff : Cal P w K mg base "is_stuff" ["value"] 3 (spStuffZ K)) (C_is_recipe : Cal P w K mg base "is_recipe" ["value", "spots"] 4 (spRecipeZ K)) :
    FnOkG P w K mg base (L2.CX P w) 5 f fd ["self", "stuffs", "recipes"] (spMillBad4 K C CI) := by
  refine D.okXG sc_Mill___init__ (fun vs H Q E h => ?_) (fun cdv A outer s H vs Q E hr h => ?_)
  · obtain ⟨F, x, dx, v1, a2, vals, xs, ys, b, rest, rfl, _⟩ := h
    rfl
  obtain ⟨F, x, dx, v1, a2, vals, xs, ys, b, rest, rfl, e, fx, fdx, hx, hdx, hxd, hv1, hl, hf, hn, hss, ha2, hvs2, hl2, hf2, hn2, hrs, hgb, hb, bad⟩ := h
  obtain ⟨t1, c1⟩ := CC.mostStuffs
  obtain ⟨t2, c2⟩ := CC.mostRecipes
  obtain ⟨fI, TI⟩ := EI.ex
  have hu := hu_of hr.1
  refine ⟨_, (pss_cons (ps_expr (pe_callXC C_check_size hr (takes_of rfl rfl rfl rfl) (pa_cons (pv 1) (pa_cons pe_int (pa_cons (pe_glob (v := .int 8) rfl c1 ⟨_, rfl⟩) pa_nil)))))
      (pss_cons (ps_fld (pv 0) pe_dnewK rfl)
      (pss_cons (ps_for PassesOwn.leaving rfl (pi_list (pv 1)) (pg_name (i := 3) sc_Mill___init__.nd rfl (.inl rfl)) (pss_cons (ps_if (PW.pt (pw_or (pt_not (pt_val (pe_callC C_is_stuff hr (pa_cons (pv 3) pa_nil)))) (pw_or1 (pt_cmp (pc_din hu (pe_ix ix_tup (pv 3) pe_int (fun _ _ => rfl)) (pe_fld (pv 0) rfl)) (by rfl))))) (pss_one (ps_raise rfl (takes_of rfl rfl rfl rfl) (pmk_xn1 TI (raises_own TI.exC TI.tyC) hr EI.hs (pa_cons (pv 3) pa_nil)))) pss_nil)
      (pss_one (ps_dput hu (pe_fld (pv 0) rfl) (pe_ix ix_tup (pv 3) pe_int (fun _ _ => rfl)) (pe_ix ix_tup (pv 3) pe_int (fun _ _ => rfl)) rfl))))
      (pss_cons (ps_expr (pe_callXC C_check_size hr (takes_of rfl rfl rfl rfl) (pa_cons (pv 2) (pa_cons pe_int (pa_cons (pe_glob (v := .int 8) rfl c2 ⟨_, rfl⟩) pa_nil)))))
      (pss_cons (ps_fld (pv 0) (pe_lock (pe_dc (own := [("at", 4), ("name", 5)]) (g := gTup K 2 (gCons (gName 4) (gCons (gName 5) gNil))) rfl sc_Mill___init__.nd (pi_enumK rfl B.enum (pa_cons (pe_fld (pv 0) rfl) pa_nil)) (blkOk_by (own := [("at", 4), ("name", 5)]) (N := ["self", "stuffs", "recipes", "item", "at", "name"]) (sc := defScope sMillInit) (by decide +kernel)) (fun _ _ _ _ _ => (pg_tup (by rfl) (pgs_cons (pg_name (i := 4) sc_Mill___init__.nd rfl (.inl rfl)) (pgs_cons (pg_name (i := 5) sc_Mill___init__.nd rfl (.inl rfl)) pgs_nil)))) (fun _ _ _ _ _ => pts_nil) (fun _ _ _ _ _ => (pv 5)) (fun _ _ _ _ _ => (pv 4)))) rfl)
      (pss_cons (ps_fld (pv 0) pe_dnewK rfl)
      (pss_one (ps_for PassesOwn.leaving rfl (pi_list (pv 2)) (pg_name (i := 3) sc_Mill___init__.nd rfl (.inl rfl)) (pss_cons (ps_if (PW.pt (pw_or (pt_not (pt_val (pe_callC C_is_recipe hr (pa_cons (pv 3) (pa_cons (pe_fld (pv 0) rfl) pa_nil))))) (pw_or1 (pt_cmp (pc_din hu (pe_ix ix_tup (pv 3) pe_int (fun _ _ => rfl)) (pe_fld (pv 0) rfl)) (by rfl))))) (pss_one (ps_raise rfl (takes_of rfl rfl rfl rfl) (pmk_xn1 TI (raises_own TI.exC TI.tyC) hr EI.hs (pa_cons (pv 3) pa_nil)))) pss_nil)
      (pss_one (ps_dput hu (pe_fld (pv 0) rfl) (pe_ix ix_tup (pv 3) pe_int (fun _ _ => rfl)) (pe_tup (pa_cons (pe_callTy call_tuple_of (by rfl) B.tuple (by decide +kernel) (pa_cons (pe_ix ix_tup (pv 3) pe_int (fun _ _ => rfl)) pa_nil)) (pa_cons (pe_callTy call_tuple_of (by rfl) B.tuple (by decide +kernel) (pa_cons (pe_ix ix_tup (pv 3) pe_int (fun _ _ => rfl)) pa_nil)) pa_nil))) rfl))))))))))), ?_⟩
  have st : start ["self", "stuffs", "recipes", "item", "at", "name"] [V.ref x, v1, .ref a2] = [some (.ref x), some v1, some (.ref a2), none, none, none] := rfl
  rw [st]
  -- x into F
  have b0 : Bx x dx F H F H := ⟨Evl.Ex.refl F, e, fun _ _ _ h => h, fun a h1 h2 => absurd h1 h2⟩
  have b1 : Bx x dx F H (upd F x (.ins C dx [])) H := by
    have := b0.put (p := x) (o := .ins C dx []) (.inr rfl) fx
    rwa [show upd H x (.ins C dx []) = H from by
      funext a
      by_cases z : a = x
      · rw [z, upd_same, hx]
      · rw [upd_ne z]] at this
  refine seq_of ?_
  refine ⟨v1, rfl, upd F x (.ins C dx []), v1, _, 1, 8, rfl, b1.fh, dz_ex b1.fx hv1, hl, .inl ⟨hf, fun F1 H1 g1 => ?_⟩⟩
  dsimp only
  have b2 := b1.step g1
  have x1 : F1 x = some (.ins C dx []) := g1.fx _ _ upd_same
  -- self.rooms = {}
  refine s_fldNew (f := "rooms") rfl x1 MC.cl MC.rooms (by simp) b2.fh fun ro hro hrx => ?_
  have hroH : H ro = none := by
    cases z : H ro with
    | none => rfl
    | some o => rw [b2.hx ro o hrx z] at hro; cases hro
  have fro1 : F1 ro = none := ex_none b2.fh hro
  have hroF : F ro = none := ex_none e hroH
  have b3 : Bx x dx F H (upd F1 x (.ins C dx [("rooms", .ref ro)])) (upd (upd H1 ro (.dK [])) x (.ins C dx [("rooms", .ref ro)])) := (b2.mut hroH fro1).put (.inr rfl) fx
  have rr : ∀ o, (upd F1 x o) ro = none := fun o => by rw [upd_ne hrx]; exact fro1
  have hR1 : ∀ Fa Ha Fb Hb, Bx x dx F H Fa Ha → Gr Fa Ha Fb Hb → Bx x dx F H Fb Hb := fun _ _ _ _ b g => b.step g
  have hxl : xs.length ≤ 8 := by
    have h2 := of_decide_eq_true (Bool.and_eq_true_iff.mp hf).2
    rw [List.length_map] at h2
    omega
  have cs : ∀ d : PyData, gd d = true → ∀ p, isStuff d = p → ∀ v F2, Dz K F2 v d → ∀ Ez, EvD K (tCall (spStuffZ K) [] Ez (tCons (tVar 3) tNil)) [some (.ref x), some v1, some (.ref a2), some v, none, none] F2 (.bool p) := fun d hg p hp v F2 hv Ez H e Q q =>
    ⟨v, rfl, F2, v, d, rfl, e, hv, hg, fun F' H' g => by rw [hp]; exact q _ F' H' g (.bl _)⟩
  refine fill_loopX0 (K := K) (fs := [("rooms", V.ref ro)]) (fun Fa Ha => Bx x dx F H Fa Ha) xs [] encStuff (fun z => encRoom z.2) (fun z => z.1) (fun v => [some (.ref x), some v1, some (.ref a2), some v, none, none])
    rfl (fun _ => rfl) (fun _ => rfl) (fun _ _ => rfl) upd_same MC.cl MC.rooms (by rfl) b3.fh b3 hR1 (fun _ _ o b fr => b.mut hroH fr) (by rw [upd_ne hrx, upd_same]) (rr _) (ez_var rfl (by rw [List.append_nil]; exact dz_ex b3.fx hv1)) (by omega) hn
    (fun z hz v F2 _ hv => cs _ (hss z hz).1 _ (hss z hz).2 v F2 hv _)
    (fun z hz v F2 _ hv => ez_strD (ez_ixT (ez_var (i := 3) rfl hv) (Dv.ev_int 0) rfl))
    (fun z hz v F2 _ hv => ?_)
    (fun b' hb' => nomatch hb') (fun b' v F' H' D' hb' => nomatch hb') (fun _ σ' ws F2 H2 hσ b4 e1 e2 fro2 hro2 hw => ?_)
  · have := ez_ixT (d := encRoom z.2) (ez_var (K := K) (σ := [some (V.ref x), some v1, some (.ref a2), some v, none, none]) (i := 3) rfl hv) (Dv.ev_int 1) rfl
    exact fun H e Q q => this H e Q fun v F' H' g hv => by
      cases hz2 : z.2 with
      | none => rw [hz2] at hv q; cases hv with | dat hv => exact q v F' H' g hv
      | some i => rw [hz2] at hv q; cases hv with | dat hv => exact q v F' H' g hv
  · obtain ⟨it, rfl⟩ : ∃ it, σ' = [some (.ref x), some v1, some (.ref a2), it, none, none] := by
      rcases hσ with rfl | ⟨v, rfl⟩
      · exact ⟨none, rfl⟩
      · exact ⟨some v, rfl⟩
    have x2 : F2 x = some (.ins C dx [("rooms", .ref ro)]) := e1 _ _ upd_same
    have k1 : (("rooms" : Str) == "spots") = false := by decide +kernel
    have k2 : (("rooms" : Str) == "rules") = false := by decide +kernel
    have k3 : (("spots" : Str) == "rules") = false := by decide +kernel
    refine seq_of ?_
    have hv2 : Dz K F (.ref a2) (.list (ys.map encRecipe ++ b :: rest)) := .lst ha2 hvs2
    refine ⟨.ref a2, rfl, F2, .ref a2, _, 0, 8, rfl, e2, dz_ex b4.fx hv2, hl2, .inl ⟨hf2, fun F3 H3 g3 => ?_⟩⟩
    dsimp only
    have k3' := g3.keep hro2 fro2
    have b5 := (b4.step g3).take hroH k3'.2 k3'.1
    have n3 : NoSq (F3 ro) := by rw [k3'.2]; exact noSq_none
    have x3 : upd F3 ro (.dK ((xs.map fun z => (Sum.inr z.1 : Key)).zip ws)) x = some (.ins C dx [("rooms", .ref ro)]) := by
      rw [upd_ne (Ne.symm hrx)]
      exact g3.fx _ _ x2
    have wl : ws.length = xs.length := by rw [dps_len hw, List.length_map]
    have hkeys : ((xs.map fun z => (Sum.inr z.1 : Key)).zip ws).map Prod.fst = (xs.map fun z : Str × Option Int => z.1).map Sum.inr := by
      rw [zip_fst (by rw [List.length_map]; exact wl)]
      rw [List.map_map] <;> rfl
    -- self.spots = {..}
    refine s_fldK (K := K) (f := "spots") (ek_lock (K := K) (F := upd F3 ro (.dK ((xs.map fun z => (Sum.inr z.1 : Key)).zip ws))) (ks := (xs.map fun z : Str × Option Int => z.1).zipIdx.map fun z => Sum.inr z.1) (ds := (xs.map fun z : Str × Option Int => z.1).zipIdx.map fun z => PyData.int z.2) upd_same fun od => ?_) rfl x3 MC.cl MC.spots (by simp) b5.fh fun sp v2s F5 H5 g5 hsp fsp hsp5 hd5 => ?_
    · refine dc_rule (K := K) (xs.map fun z : Str × Option Int => z.1).zipIdx (fun z => PyData.tuple [.int z.2, .str z.1]) (fun z => PyData.int z.2) (fun z => z.1) (it_enumK (fun Hq eq Q q => fld_ref rfl (by rw [upd_ne (Ne.symm hrx)]; exact x3) MC.cl MC.rooms (by rfl) Hq eq _ q) upd_same hkeys) (by
        rw [List.length_zipIdx]
        rw [List.length_map]
        omega) (by rw [List.zipIdx_map_fst]; exact hn) fun z _ v F6 _ hv => ?_
      obtain ⟨a, b, ha, hb, ht⟩ := tup2 hv
      exact ⟨[some (.ref x), some v1, some (.ref a2), it, some a, some b], fun Hq eq Q q => ht 4 5 _ Hq eq Q q, rfl, Dv.ev_var rfl hb, Dv.ev_var rfl ha⟩
    have b6 := b5.step g5
    have hspH : H sp = none := by
      cases z : H sp with
      | none => rfl
      | some o =>
        have hsx : sp ≠ x := fun q => by
          rw [q] at hsp
          have := b5.fh _ _ x3
          rw [hsp] at this
          cases this
        rw [b5.hx sp o hsx z] at hsp
        cases hsp
    have hspx : sp ≠ x := fun q => by
      rw [q] at hsp
      have := b5.fh _ _ x3
      rw [hsp] at this
      cases this
    have hspr : ro ≠ sp := fun q => by
      rw [← q] at hsp
      have := b5.fh _ _ upd_same
      rw [hsp] at this
      cases this
    have x5 : F5 x = some (.ins C dx [("rooms", .ref ro)]) := g5.fx _ _ x3
    have b7 := b6.take hspH fsp hsp5
    generalize hS : HO.dK (((xs.map fun z : Str × Option Int => z.1).zipIdx.map fun z => (Sum.inr z.1 : Key)).zip v2s) = oS at b7 hsp5
    have b8 := b7.put (p := x) (o := .ins C dx [("rooms", .ref ro), ("spots", .ref sp)]) (.inr rfl) fx
    have pf : putF "spots" (.ref sp) [(("rooms" : Str), V.ref ro)] = ([("rooms", V.ref ro), ("spots", V.ref sp)] : List (Str × V)) := by
      show (if ("rooms" : Str) = "spots" then _ else _) = _
      rw [if_neg (by simpa using k1)] <;> rfl
    rw [pf]
    generalize hF8 : upd (upd F5 sp oS) x (.ins C dx [("rooms", .ref ro), ("spots", .ref sp)]) = F8 at b8
    generalize hH8 : upd H5 x (.ins C dx [("rooms", .ref ro), ("spots", .ref sp)]) = H8 at b8
    have x8 : F8 x = some (.ins C dx [("rooms", .ref ro), ("spots", .ref sp)]) := by rw [← hF8]; exact upd_same
    have n5 : NoSq (F5 sp) := by rw [fsp]; exact noSq_none
    have n5x : NoSq ((upd F5 sp oS) x) := by rw [upd_ne (Ne.symm hspx), x5]; exact fun xs => ⟨(fun z => by cases z), (fun z => by cases z), fun ob => ⟨(fun z => by cases z), (fun z => by cases z)⟩⟩
    have trs : ∀ {ds : List PyData} {vs : List V}, DpAll K F5 vs ds → DpAll K F8 vs ds := fun h => by
      rw [← hF8]
      exact dps_put n5x (dps_put n5 h)
    have sp8 : F8 sp = some (.dK (((xs.map fun z : Str × Option Int => z.1).zipIdx.map fun z => (Sum.inr z.1 : Key)).zip v2s)) := by
      rw [← hF8, upd_ne hspx, upd_same, hS]
    have ro8 : F8 ro = some (.dK ((xs.map fun z => (Sum.inr z.1 : Key)).zip ws)) := by
      rw [← hF8, upd_ne hrx, upd_ne hspr]
      exact g5.fx _ _ upd_same
    have hd8 := trs hd5
    -- self.rules = {}
    refine s_fldNew (f := "rules") rfl x8 MC.cl MC.rules (by simp) b8.fh fun ru hru hrux => ?_
    have pf2 : putF "rules" (.ref ru) [(("rooms" : Str), V.ref ro), ("spots", V.ref sp)] = ([("rooms", V.ref ro), ("spots", V.ref sp), ("rules", V.ref ru)] : List (Str × V)) := by
      show (if ("rooms" : Str) = "rules" then _ else (("rooms" : Str), V.ref ro) :: (if ("spots" : Str) = "rules" then _ else _)) = _
      rw [if_neg (by simpa using k2), if_neg (by simpa using k3)] <;> rfl
    rw [pf2]
    have hruH : H ru = none := by
      cases z : H ru with
      | none => rfl
      | some o => rw [b8.hx ru o hrux z] at hru; cases hru
    have fru8 : F8 ru = none := ex_none b8.fh hru
    have b9 : Bx x dx F H (upd F8 x (.ins C dx [("rooms", .ref ro), ("spots", .ref sp), ("rules", .ref ru)])) (upd (upd H8 ru (.dK [])) x (.ins C dx [("rooms", .ref ro), ("spots", .ref sp), ("rules", .ref ru)])) := (b8.mut hruH fru8).put (.inr rfl) fx
    have n8 : NoSq (F8 x) := by rw [x8]; exact fun xs => ⟨(fun z => by cases z), (fun z => by cases z), fun ob => ⟨(fun z => by cases z), (fun z => by cases z)⟩⟩
    have hrr : ro ≠ ru := fun z => by rw [← z, ro8] at fru8; cases fru8
    have hsr : sp ≠ ru := fun z => by rw [← z, sp8] at fru8; cases fru8
    have v2l : v2s.length = (xs.map fun z : Str × Option Int => z.1).length := by rw [dps_len hd5, List.length_map, List.length_zipIdx]

    have hyl : ys.length ≤ 8 := by
      unfold sizeOk at hf2
      simp only [Bool.and_eq_true, decide_eq_true_iff] at hf2
      have h2 := hf2.2
      rw [List.length_append, List.length_map, List.length_cons] at h2
      omega
    have cr : ∀ d : PyData, gd d = true → ∀ p, isRecipe (xs.map (·.1)) d = p → ∀ v F2, Ex (upd F8 x (.ins C dx [("rooms", .ref ro), ("spots", .ref sp), ("rules", .ref ru)])) F2 → Dz K F2 v d → ∀ Ez, EvD K (tCall (spRecipeZ K) [] Ez (tCons (tVar 3) (tCons (tFld K (tVar 0) "spots") tNil))) [some (.ref x), some v1, some (.ref a2), some v, none, none] F2 (.bool p) :=
      fun d hg p hp v F2 ee hv Ez Hq eq Q q => ⟨v, rfl, fld_ref rfl (ee _ _ upd_same) MC.cl MC.spots (by rfl) Hq eq _ ⟨F2, v, d, sp, xs.map (·.1), rfl, eq, hv, hg, ⟨_, ee _ _ (by rw [upd_ne hspx]; exact sp8), names_spots v2l⟩, fun F' H' g => q _ F' H' g (by rw [hp]; exact .bl _)⟩⟩
    refine fill_loopX (K := K) (fs := [("rooms", V.ref ro), ("spots", V.ref sp), ("rules", V.ref ru)]) (fun Fa Ha => Bx x dx F H Fa Ha) ys (b :: rest) encRecipe encRule (fun z => z.1) (fun v => [some (.ref x), some v1, some (.ref a2), some v, none, none])
      rfl (fun _ => rfl) (fun _ => rfl) (fun _ _ => rfl) upd_same MC.cl MC.rules (by rfl) b9.fh b9 hR1 (fun _ _ o b fr => b.mut hruH fr) (by rw [upd_ne hrux, upd_same]) (by rw [upd_ne hrux]; exact fru8) (itzv_trk (i := 2) rfl (b9.fx _ _ ha2) (dzs_ex b9.fx hvs2)) (by omega) hn2
      (fun z hz v F2 ee hv => cr _ (hrs z hz).1 _ (hrs z hz).2 v F2 ee hv _)
      (fun z hz v F2 _ hv => Dv.ev_ixT (d := .str z.1) (Dv.ev_var rfl (dz_dp (nd_recipe z) hv)) (Dv.ev_int 0) rfl)
      (fun z hz v F2 _ hv => Dv.ev_tup (Dv.ea_cons (ev_tuple (Dv.ev_ixT (d := .list (z.2.1.map encPart)) (Dv.ev_var rfl (dz_dp (nd_recipe z) hv)) (Dv.ev_int 1) rfl)) (Dv.ea_cons (ev_tuple (Dv.ev_ixT (d := .list (z.2.2.map encPart)) (Dv.ev_var rfl (dz_dp (nd_recipe z) hv)) (Dv.ev_int 2) rfl)) Dv.ea_nil)) (by simp))
      (fun b' hb' => ?_) (fun b' v F' H' D' hb' hval r e1 e2 hv => ?_) (fun z => nomatch z)
    · cases hb'
      rcases hb with hb | ⟨hb, z, hz, t1, t2, rfl⟩
      · exact .inl fun v F2 ee hv => cr _ hgb _ hb v F2 ee hv _
      · exact .inr ⟨fun v F2 ee hv => cr _ hgb _ hb v F2 ee hv _, z, hz, fun v F2 _ hv => ez_strD (ez_ixT (ez_var (i := 3) rfl hv) (Dv.ev_int 0) rfl)⟩
    · cases hb'
      exact ⟨v, rfl, v, rfl, fun dd hdd => bad F' H' v dd r hv hval hdd⟩
end
end R3

set_option Elab.async false
set_option linter.all false
set_option maxRecDepth 100000
set_option maxHeartbeats 4000000
namespace Dv
open PySem PySem.Spec PyProof.Rows L2 Evl
/-! ### an object x out of F that is read and set: entered into F for one evaluation -/
section
variable {K : PySem.W.Frag} {x : Addr} {F F' H H' : Hp} {o : HO} {C dx : Addr} {fs : List (Str × V)}
theorem ex_enter (e : Ex F H) (h : H x = some o) : Ex (upd F x o) H := fun a u ha => by
  by_cases q : a = x
  · rw [q] at ha ⊢
    rw [upd_same] at ha
    cases ha
    exact h
  · rw [upd_ne q] at ha
    exact e a u ha
theorem ex_upd_of (f : F x = none) : Ex F (upd F x o) := Ex.new f
theorem ex_erm (e : Ex F F') (f : F x = none) : Ex F (er x F') := ex_er e f
theorem Gr.exit (f : F x = none) (hx : H x = some o) (g : Gr (upd F x o) H F' H') : GrG x F H (er x F') H' ∧ H' x = some o ∧ F' x = some o := by
  have f1 : F' x = some o := g.fx x o upd_same
  refine ⟨⟨?_, ?_, ?_, ?_⟩, g.fh x o f1, f1⟩
  · exact ex_er ((ex_upd_of f).trans g.fx) f
  · intro a u h
    by_cases q : a = x
    · rw [q, er_same] at h; cases h
    · rw [er_ne q] at h ⊢
      exact g.fh a u h
  · intro a u h
    by_cases q : a = x
    · rw [q, er_same] at h; cases h
    · rw [er_ne q] at h ⊢
      exact g.hx a u h
  · intro a h1 h2
    by_cases q : a = x
    · rw [q, er_same]
    · rw [er_ne q] at h2 ⊢
      exact g.fr a (by rw [upd_ne q]; exact h1) h2
theorem rd_er {u : HO} {a : Addr} (n : ∀ z, z = u ∨ (∃ ob, z = HO.frz ob u) → F x ≠ some z) (r : Rd F a u) : Rd (er x F) a u := by
  have q : a ≠ x := fun q => by
    rcases r with r | ⟨ob, r⟩
    · exact n u (.inl rfl) (q ▸ r)
    · exact n _ (.inr ⟨ob, rfl⟩) (q ▸ r)
  rcases r with r | ⟨ob, r⟩
  · exact .inl (by rw [er_ne q]; exact r)
  · exact .inr ⟨ob, by rw [er_ne q]; exact r⟩
theorem sqL_er {a : Addr} {xs : List V} (n : NoSq (F x)) (r : SqL K F a xs) : SqL K (er x F) a xs := by
  rcases r with r | r
  · exact .inl (rd_er (fun z hz => by
      rcases hz with rfl | ⟨ob, rfl⟩
      · exact (n xs).1
      · exact ((n xs).2.2 ob).1) r)
  · exact .inr r
theorem sqT_er {a : Addr} {xs : List V} (n : NoSq (F x)) (r : SqT K F a xs) : SqT K (er x F) a xs := by
  rcases r with r | r
  · exact .inl (rd_er (fun z hz => by
      rcases hz with rfl | ⟨ob, rfl⟩
      · exact (n xs).2.1
      · exact ((n xs).2.2 ob).2) r)
  · exact .inr r
mutual
theorem dp_er (n : NoSq (F x)) : ∀ {d : PyData} {v : V}, Dp K F v d → Dp K (er x F) v d
  | .none, _, h => by cases h; exact .non
  | .bool b, _, h => by cases h; exact .bl b
  | .int i, _, h => by cases h; exact .int i
  | .str y, _, h => by cases h; exact .str y
  | .list ds, _, h => by
    cases h with
    | lst hs ha =>
      exact .lst (sqL_er n hs) (dps_er n ha)
  | .tuple ds, _, h => by
    cases h with
    | tup hs ha => exact .tup (sqT_er n hs) (dps_er n ha)
  | .dict _, _, h => by cases h
theorem dps_er (n : NoSq (F x)) : ∀ {ds : List PyData} {vs : List V}, DpAll K F vs ds → DpAll K (er x F) vs ds
  | [], _, h => by cases h; exact .nil
  | d :: ds, _, h => by
    cases h with
    | cons h1 h2 => exact .cons (dp_er n h1) (dps_er n h2)
end
theorem noSq_insW : NoSq (some (HO.ins C dx fs)) := fun xs => ⟨(fun z => by cases z), (fun z => by cases z), fun ob => ⟨(fun z => by cases z), (fun z => by cases z)⟩⟩
end
section
variable {K : PySem.W.Frag} {σ : L2.St} {x : Addr} {F H : Hp} {C dx : Addr} {fs : List (Str × V)} {te tv : TE} {d : PyData} {ds : List PyData} {tt : TT} {p : Bool} {D : Ends} {i : Nat} {f : Str}
theorem ex_insn (h : EvD K te σ (upd F x (.ins C dx fs)) d) (fx : F x = none) (hx : H x = some (.ins C dx fs)) (e : Ex F H) (Q : VK) (q : ∀ v F' H', GrG x F H F' H' → H' x = some (.ins C dx fs) → Dp K F' v d → Q v H') : te σ H Q :=
  h H (ex_enter e hx) Q fun v F' H' g hv => by
    obtain ⟨g1, g2, g3⟩ := Gr.exit fx hx g
    exact q v _ H' g1 g2 (dp_er (by rw [g3]; exact noSq_insW) hv)
theorem ex_insL (h : EvL K te σ (upd F x (.ins C dx fs)) ds) (fx : F x = none) (hx : H x = some (.ins C dx fs)) (e : Ex F H) (Q : VK)
    (q : ∀ p vs F' H', GrG x F H F' H' → H' x = some (.ins C dx fs) → H p = none → F' p = none → p ≠ x → H' p = some (.lst vs) → DpAll K F' vs ds → Q (.ref p) H') : te σ H Q :=
  h H (ex_enter e hx) Q fun p vs F' H' g h1 h2 h3 h4 => by
    obtain ⟨g1, g2, g3⟩ := Gr.exit fx hx g
    have hp : p ≠ x := fun z => by rw [z, hx] at h1; cases h1
    exact q p vs _ H' g1 g2 h1 (by rw [er_ne hp]; exact h2) hp h3 (dps_er (by rw [g3]; exact noSq_insW) h4)
theorem ex_insT (h : EtD tt σ (upd F x (.ins C dx fs)) p) (fx : F x = none) (hx : H x = some (.ins C dx fs)) (e : Ex F H) (Q : Bool → Hp → Prop) (q : ∀ F' H', GrG x F H F' H' → H' x = some (.ins C dx fs) → Q p H') : tt σ H Q :=
  h H (ex_enter e hx) Q fun F' H' g => by
    obtain ⟨g1, g2, g3⟩ := Gr.exit fx hx g
    exact q _ H' g1 g2
/-- self.f = a new list, x out of F; the list is taken into F -/
theorem s_fldX (h : EvL K tv σ (upd F x (.ins C dx fs)) ds) (fx : F x = none) (hx : H x = some (.ins C dx fs)) (e : Ex F H) (hi : σ[i]? = some (some (.ref x))) (c : Cls K C) (n : NoAttr K C f) (hl : fs.length < 1000)
    (k : ∀ p vs F' H', GrG x F H F' H' → H p = none → p ≠ x → F' p = some (.lst vs) → DpAll K F' vs ds → H' x = some (.ins C dx (putF f (.ref p) fs)) → D.nx σ H') : sFld K (tVar i) tv f D σ H :=
  ex_insL h fx hx e _ fun p vs F' H' g h1 h2 h3 h4 h5 h6 => ⟨_, hi, x, C, dx, fs, rfl, h1, c, n, hl, by
    refine k p vs (upd F' p (.lst vs)) _ ((g.take ?_ h3 h4 h5).draw) h2 h4 upd_same (dps_ex (Ex.new h3) h6) upd_same
    exact h2⟩
end
end Dv

set_option Elab.async false
set_option linter.all false
set_option maxRecDepth 100000
set_option maxHeartbeats 4000000
namespace Dv
open PySem PySem.Spec PyProof.Rows L2 Evl
/-- a method that can be called: what the class holds under its name, and what it does -/
structure CalM (P : Program) (w : World) (K : PySem.W.Frag) (mg : Str → Option Value) (base : Heap) (C : Addr) (m : Str) (ps : List Str) (k : Nat) (sp : Sp) : Prop where
  ex : ∃ f fd, Meth K C m f ∧ Binds K fd ("self" :: ps) [] ∧ FnOkG P w K mg base CX0 k f fd ("self" :: ps) sp
/-- what the class says of a method -/
structure DefM (K : PySem.W.Frag) (C : Addr) (m qual : Str) (st : Stmt) (ps : List Str) : Prop where
  ex : ∃ f fd, Meth K C m f ∧ Fun K m qual st f fd ∧ Binds K fd ("self" :: ps) []
section
variable {P : Program} {w : World} {K : PySem.W.Frag} {mg : Str → Option Value} {base : Heap} {C : Addr} {m qual : Str} {st : Stmt} {N ps : List Str} {k : Nat} {sp : Sp}
theorem calM_mk (D : DefM K C m qual st ps) (S : FnScope N ("self" :: ps) (defScope st)) (len : ∀ vs H Q E, sp vs H Q E → vs.length = (("self" : Str) :: ps).length)
    (hbody : ∀ (f : Addr) (cdv : Value) (A : Around) (outer : List Env) (s : Shared) (H : Hp) (vs : List V) (Q : VK) (E : XK), RoomG k (A.deeper (envOfC qual (defScope st) s.heap.objs.size f cdv)) → sp vs H Q E →
      ∃ t, PSs (cxOf CX0 P w K mg base N qual (defScope st) f cdv A outer s H E).nox (defBody st) t ∧ t { nx := fun _ H' => Q .non H', rt := Q } (start N vs) H) : CalM P w K mg base C m ps (k + 1) sp := by
  obtain ⟨f, fd, g, F, b⟩ := D.ex
  exact ⟨f, fd, g, b, F.okG S len (hbody f)⟩
end
section
variable {X : Cx} {o e : Expr} {es : List Expr} {m : Str} {pos apos : Pos} {ta : TE} {t : TA} {k j : Nat} {ps : List Str} {sp : Sp} {C : Addr} {pl : Sem Bool}
theorem pe_methC (M : CalM X.prog X.w X.K X.mg X.base C m ps k sp) (c : Cls X.K C) (hr : RoomG j X.A) (he : PE X o ta) (ha : PA X (e :: es) t) (hj : k ≤ j := by decide)
    (hst : starEach (e :: es) X.env = (false, eval e X.env) :: starEach es X.env := by rfl) (hpl : (backTo pos (starEach es X.env)).any (·.1) = false := by rfl)
    (ht : eval (.Call (.Attribute o m apos) (e :: es) [] pos) X.env = (do
      let ov ← eval o X.env
      standAt apos.atName
      let (f, first) ← holding [ov] (getMethod ov m pl)
      callWith pos f first (backTo pos (starEach (e :: es) X.env)) (backToKw pos (keywordEach [] X.env))) := by rfl) : PE X (.Call (.Attribute o m apos) (e :: es) [] pos) (tMeth C m sp [] E0 ta t) := by
  obtain ⟨f, fd, hm, b, G⟩ := M.ex
  exact pe_methG he c hm G (hr.mono hj) b .nil pass0 ha hst hpl ht
theorem pe_meth0C (M : CalM X.prog X.w X.K X.mg X.base C m ps k sp) (c : Cls X.K C) (hr : RoomG j X.A) (he : PE X o ta) (hj : k ≤ j := by decide)
    (ht : eval (.Call (.Attribute o m apos) [] [] pos) X.env = (do
      let ov ← eval o X.env
      standAt apos.atName
      let (f, first) ← holding [ov] (getMethod ov m pl)
      callWith pos f first (backTo pos (starEach [] X.env)) (backToKw pos (keywordEach [] X.env))) := by rfl) : PE X (.Call (.Attribute o m apos) [] [] pos) (tMeth C m sp [] E0 ta tNil) := by
  obtain ⟨f, fd, hm, b, G⟩ := M.ex
  exact pe_meth0G he c hm G (hr.mono hj) b .nil pass0 ht
end
end Dv

set_option Elab.async false
set_option linter.all false
set_option maxRecDepth 100000
set_option maxHeartbeats 4000000
/-! GENERAL: list(d.items()), and d.items() of a locked dict walked -/
namespace Dv
open PySem PySem.Spec PyProof.Rows L2 Evl
section
variable {K : PySem.W.Frag} {σ : L2.St} {F F1 H H1 : Hp} {te td : TE} {ds es : List PyData} {ad : Addr} {kvs : List (Key × V)} {o : Obj}
/-- new objects of H' taken into F -/
def withA (F H' : Hp) (ts : List Addr) : Hp := fun a => if a ∈ ts then H' a else F a
theorem withA_ex {H' : Hp} {ts : List Addr} (e : Ex F H) (hts : ∀ t ∈ ts, H t = none) : Ex F (withA F H' ts) := fun a u h => by
  unfold withA
  rw [if_neg (fun z => by
    have := hts a z
    rw [e a u h] at this
    cases this)]
  exact h
theorem withA_fh {H' : Hp} {ts : List Addr} (e : Ex F H') : Ex (withA F H' ts) H' := fun a u h => by
  unfold withA at h
  split at h
  · exact h
  · exact e a u h
theorem withA_gr {H' : Hp} {ts : List Addr} (e : Ex F H) (x : Ex H H') (hts : ∀ t ∈ ts, H t = none) : Gr F H (withA F H' ts) H' :=
  ⟨withA_ex e hts, withA_fh (e.trans x), x, fun a h1 h2 => by
    unfold withA at h2
    split at h2
    · rename_i h
      exact hts a h
    · exact absurd h1 h2⟩
theorem items_dp {F' : Hp} : ∀ {ts : List Addr} {kvs : List (Key × V)} {names : List Str} {es : List PyData}, Paired (fun (t : Addr) (q : Key × V) => F' t = some (.tup [kV q.1, q.2])) ts kvs → kvs.map Prod.fst = names.map Sum.inr → DpAll K F' (kvs.map Prod.snd) es → DpAll K F' (ts.map V.ref) ((names.zip es).map fun z => PyData.tuple [.str z.1, z.2])
  | _, _, [], es, .nil, _, h => by
    cases h
    exact .nil
  | _, _, n :: names, es, .nil, hn, _ => by cases hn
  | _, _, [], es, .cons _ _, hn, _ => by cases hn
  | _, _, n :: names, es, .cons (a := t) (b := kv) h1 h2, hn, h => by
    obtain ⟨k, v⟩ := kv
    rw [List.map_cons, List.map_cons] at hn
    have hk : k = Sum.inr n := (List.cons.inj hn).1
    subst hk
    cases h with
    | cons h3 h4 =>
      exact .cons (.tup (st_of h1) (.cons (.str n) (.cons h3 .nil))) (items_dp h2 (List.cons.inj hn).2 h4)
theorem paired_imp {α β : Type} {P Q : α → β → Prop} : ∀ {xs : List α} {ys : List β}, (∀ x ∈ xs, ∀ y, P x y → Q x y) → Paired P xs ys → Paired Q xs ys
  | _, _, _, .nil => .nil
  | _, _, f, .cons h t => .cons (f _ List.mem_cons_self _ h) (paired_imp (fun x hx => f x (List.mem_cons_of_mem _ hx)) t)
theorem el_listItems {names : List Str} (ht : ∀ H1, Ex F H1 → ∀ Q : VK, Q (.ref ad) H1 → te σ H1 Q) (hd : F ad = some (.dK kvs)) (hn : kvs.map Prod.fst = names.map Sum.inr) (hv : DpAll K F (kvs.map Prod.snd) es) :
    EvL K (LiI.tListItems te) σ F ((names.zip es).map fun z => .tuple [.str z.1, z.2]) := fun H e Q q =>
  ht H e _ ⟨ad, kvs, rfl, e _ _ hd, fun H' p ts hx hp hts hpt hH hpr => by
    have x : Ex H H' := fun a u h => hx a u h
    have g := withA_gr (H' := H') e x hts
    refine q p _ (withA F H' ts) H' g hp ?_ hH (items_dp (paired_imp (fun t ht y h => ?_) hpr) hn (dps_ex g.fx hv))
    · unfold withA
      rw [if_neg hpt]
      exact ex_none e hp
    · unfold withA
      rw [if_pos ht]
      exact h⟩
/-- for name, value in d.items(), d locked -/
theorem it_itemsK {names : List Str} (ht : ∀ H1, Ex F H1 → ∀ Q : VK, Q (.ref ad) H1 → td σ H1 Q) (hd : F ad = some (.frz o (.dK kvs))) (hn : kvs.map Prod.fst = names.map Sum.inr) (hv : DpAll K F (kvs.map Prod.snd) es) :
    ItD K (iItems td) σ F ((names.zip es).map fun z => .tuple [.str z.1, z.2]) := fun H e R q =>
  ht H e _ ⟨ad, o, kvs, rfl, e _ _ hd, q _ F H (Gr.refl e) ⟨_, _, by
    have h1 : kvs.length = names.length := by
      have := congrArg List.length hn
      rwa [List.length_map, List.length_map] at this
    have h2 := dps_len hv
    rw [List.length_map] at h2
    rw [List.length_map, List.length_zip, ← h1, ← h2, Nat.min_self]
    exact walk_items, fun H' e' => e' _ _ hd, fun F2 i H2 x H3 hi e1 e2 y => by
    obtain ⟨T, x, y, rfl, hT, rfl, f1, f2⟩ := y
    have f1 : Option.map (fun kv => kV kv.1) kvs[i]? = some x := f1
    have f2 : Option.map Prod.snd kvs[i]? = some y := f2
    have hk : (names.map (Sum.inr : Str → Key))[i]? = (kvs.map Prod.fst)[i]? := by rw [hn]
    rw [List.getElem?_map, List.getElem?_map] at hk
    cases hq : kvs[i]? with
    | none => rw [hq] at f2; cases f2
    | some kv =>
      rw [hq] at f1 f2 hk
      cases f1
      cases f2
      cases hn2 : names[i]? with
      | none => rw [hn2] at hk; cases hk
      | some n =>
        rw [hn2] at hk
        have hkk : kv.1 = Sum.inr n := (Option.some.inj hk).symm
        obtain ⟨d, hd1, hd2⟩ := dps_get hv (v := kv.2) (i := i) (by rw [List.getElem?_map, hq] <;> rfl)
        obtain ⟨kk, vv⟩ := kv
        dsimp only at hkk hd2 hT
        subst hkk
        have g := Gr.new (F := F2) (H := H2) (o := .tup [kV (Sum.inr n), vv]) e2 hT
        refine ⟨_, .tuple [.str n, d], ?_, g, .tup (st_of upd_same) ?_⟩
        · rw [List.getElem?_map, (List.getElem?_zip_eq_some (z := (n, d))).mpr ⟨hn2, hd1⟩] <;> rfl
        · exact .cons (.str n) (.cons (dp_ex (e1.trans g.fx) hd2) .nil)⟩⟩
end
end Dv

set_option Elab.async false
set_option linter.all false
set_option maxHeartbeats 4000000
/-! GENERAL: == of two objects of a class by its own __eq__, told by what that def does (guards told) -/
namespace L2
open PySem PySem.Spec PyProof.Rows
def rOwnEq (C : Addr) (sp : Sp) (E : XK) : R2 := fun x y H Q => ∃ (a b dx dy : Addr) (fs gs : List (Str × V)), x = .ref a ∧ y = .ref b ∧ H a = some (.ins C dx fs) ∧ H b = some (.ins C dy gs) ∧ sp [.ref a, .ref b] H (fun v H' => ∃ t, v = .bl t ∧ Q v H') E
theorem op_ownEq {X : Cx} {n : Nat} {CX : CXT} {C f : Addr} {fd : FuncData} {ps : List Str} {sp : Sp} {E : XK} (G : FnOkG X.prog X.w X.K X.mg X.base CX n f fd ps sp) (q1 : PySem.W.findIn X.K (.ref C) "__eq__" = some (some (.ref f)))
    (q2 : PySem.W.isFn X.K (.ref f) = true) (bd : Binds X.K fd ps []) (pz : Passes CX X E) (hr : RoomG n X.A) : OpR X (compareOp .Eq) (rOwnEq C sp E) := by
  intro pins s σ H x y v u Q I rx ry h
  obtain ⟨a, b, dx, dy, fs, gs, rfl, rfl, ha, hb, hsp⟩ := h
  cases rx
  cases ry
  obtain ⟨_, Ja, _⟩ := ins_get I.hok ha
  obtain ⟨_, Jb, _⟩ := ins_get I.hok hb
  obtain ⟨_, Ja, _⟩ := Ja.look
  obtain ⟨_, Jb, _⟩ := Jb.look
  obtain ⟨_, fr⟩ := I.fr
  refine PySem.W.cmp_K (op := .Eq) (tb := .ref C) hr.1.units0 fr I.ok.mod.kin Ja Jb.type (by simp [PySem.W.notFirst]) q1 q2 ?_
  have two := G.len _ _ _ _ hsp
  have vls : Vals [V.ref a, V.ref b] [Value.ref a, Value.ref b] := .cons rfl (.cons rfl .nil)
  have bnd : BindsTo s fd ⟨[.ref a, .ref b], []⟩ (ps.zip [.ref a, .ref b]) := by simpa using bd s [.ref a, .ref b] I.kIn (by simpa using two)
  refine wpAny_call (codeAny_mono (G.run X.A X.stack s H ⟨[.ref a, .ref b], []⟩ [.ref a, .ref b] _ _ E hr I.env0 bnd vls hsp) fun r s' got => ?_)
  cases r with
  | error e => exact pz pins σ H s e s' I got
  | ok fl =>
    cases fl with
    | ret w =>
      obtain ⟨z, H', I', rz, t, ez, qz⟩ := I.after got
      subst ez
      cases rz
      exact ⟨.bl t, H', I', rfl, qz⟩
    | next => exact got.elim
    | brk => exact got.elim
    | cont => exact got.elim
end L2

set_option Elab.async false
set_option linter.all false
set_option maxRecDepth 100000
set_option maxHeartbeats 4000000
/-! GENERAL: == and != of an object with an own __eq__ against data, also where the data stand on the left -/
namespace Of
open PySem PySem.SeqAt PySem.Spec PyProof.Rows
open AutoSeq1 (wpAny_loadPart')
section
variable {prog : Program} {w : World} {A : Around} {E : Value → Shared → Prop} {s : Shared} {l x C dx : Addr}
theorem int_inst {i : Int} {t : Tok} {Q : Fin → Shared → Prop} (hx : s.heap.get? x = some (PySem.W.instObj C dx)) (hq : Q (.done (.ret .notImplemented)) s) : wpAny (model prog w) A (Builtin.«int.__eq__» ⟨[.int i t, .ref x], []⟩) Q E s := by
  obtain ⟨hp, g, d, tk, os⟩ := s
  wp_walk using wpAny_loadPart' hx, wpAny_load hx
  exact hq
theorem bool_inst {b : Bool} {Q : Fin → Shared → Prop} (hx : s.heap.get? x = some (PySem.W.instObj C dx)) (hq : Q (.done (.ret .notImplemented)) s) : wpAny (model prog w) A (Builtin.«int.__eq__» ⟨[.bool b, .ref x], []⟩) Q E s := by
  obtain ⟨hp, g, d, tk, os⟩ := s
  wp_walk using wpAny_loadPart' hx, wpAny_load hx
  exact hq
theorem str_inst {b : Str} {t : Tok} {Q : Fin → Shared → Prop} (hx : s.heap.get? x = some (PySem.W.instObj C dx)) (hq : Q (.done (.ret .notImplemented)) s) : wpAny (model prog w) A (Builtin.«str.__eq__» ⟨[.str b t, .ref x], []⟩) Q E s := by
  obtain ⟨hp, g, d, tk, os⟩ := s
  wp_walk using wpAny_loadPart' hx, wpAny_load hx
  exact hq
theorem sub_looks {h : Heap} {g : Array GenState} {d : Drawn} {tk : Nat} {os : OsState} {c : Value} {T : String} (hx : PySem.W.Looks (model prog w) h (isSubtype c (.type T)) false) {Q : Bool → Shared → Prop} {A' : Around} {E' : Value → Shared → Prop} (hq : Q false ⟨h, g, d, tk, os⟩) : wpAny (model prog w) A' (isSubtype c (.type T)) Q E' ⟨h, g, d, tk, os⟩ := hx.here hq
theorem list_inst {ox : Obj} {Q : Fin → Shared → Prop} (hx : s.heap.get? x = some ox) (hs : PySem.W.Looks (model prog w) s.heap (isSubtype ox.cls (.type "list")) false) (hq : Q (.done (.ret .notImplemented)) s) : wpAny (model prog w) A (Builtin.«list.__eq__» ⟨[.ref l, .ref x], []⟩) Q E s := by
  obtain ⟨hp, g, d, tk, os⟩ := s
  wp_walk using wpAny_loadPart' hx, sub_looks hs
  exact hq
theorem tuple_inst {ox : Obj} {Q : Fin → Shared → Prop} (hx : s.heap.get? x = some ox) (hs : PySem.W.Looks (model prog w) s.heap (isSubtype ox.cls (.type "tuple")) false) (hq : Q (.done (.ret .notImplemented)) s) : wpAny (model prog w) A (Builtin.«tuple.__eq__» ⟨[.ref l, .ref x], []⟩) Q E s := by
  obtain ⟨hp, g, d, tk, os⟩ := s
  wp_walk using wpAny_loadPart' hx, sub_looks hs
  exact hq
theorem dict_inst {ox : Obj} {Q : Fin → Shared → Prop} (hx : s.heap.get? x = some ox) (hs : PySem.W.Looks (model prog w) s.heap (isSubtype ox.cls (.type "dict")) false) (hq : Q (.done (.ret .notImplemented)) s) : wpAny (model prog w) A (Builtin.«dict.__eq__» ⟨[.ref l, .ref x], []⟩) Q E s := by
  obtain ⟨hp, g, d, tk, os⟩ := s
  wp_walk using wpAny_loadPart' hx, sub_looks hs
  exact hq
end
/-- one of the plain types: its == lets an instance of a class that is no subclass of it be -/
theorem sub_ref {K : PySem.W.Frag} {C : Addr} {T : String} (hT : T ∈ ["NoneType", "bool", "int", "str", "list", "tuple", "dict"]) : PySem.W.subIn K (.type T) (.ref C) = some false := by
  have e : ∀ T ∈ ["NoneType", "bool", "int", "str", "list", "tuple", "dict"], ∃ l : List String, fastBuiltinMro T = some (l.map Value.type) := by
    intro T hT
    simp only [List.mem_cons, List.not_mem_nil, or_false] at hT
    rcases hT with rfl | rfl | rfl | rfl | rfl | rfl | rfl
    · exact ⟨["NoneType", "object"], by decide +kernel⟩
    · exact ⟨["bool", "int", "object"], by decide +kernel⟩
    · exact ⟨["int", "object"], by decide +kernel⟩
    · exact ⟨["str", "object"], by decide +kernel⟩
    · exact ⟨["list", "object"], by decide +kernel⟩
    · exact ⟨["tuple", "object"], by decide +kernel⟩
    · exact ⟨["dict", "object"], by decide +kernel⟩
  obtain ⟨l, hl⟩ := e T hT
  show (fastBuiltinMro T).map (·.contains (.ref C)) = some false
  rw [hl]
  show some ((l.map Value.type).contains (.ref C)) = some false
  congr 1
  rw [List.contains_eq_any_beq, List.any_map]
  rw [List.any_eq_false]
  intro t _
  simp
/-- the class is none of the plain types -/
structure NoSub (K : PySem.W.Frag) (C : Addr) : Prop where
  no : ∀ T ∈ ["NoneType", "bool", "int", "str", "list", "tuple", "dict"], PySem.W.mroIn K C (.type T) = some false
/-- what a plain value is, in the state -/
def Decl (prog : Program) (w : World) (s : Shared) (u : Value) (x : Addr) : Prop := ∃ T id, T ∈ ["NoneType", "bool", "int", "str", "list", "tuple", "dict"] ∧ s.TypeIs u T ∧ Slot T "__eq__" id ∧ ∀ (A : Around) (E : Value → Shared → Prop) (Q : Value → Shared → Prop), Q .notImplemented s → wpAny (model prog w) A (call (.builtin id) [u, .ref x]) Q E s
theorem call_decl {prog : Program} {w : World} {A : Around} {E : Value → Shared → Prop} {s : Shared} {T : String} {name : Str} {id : String} {B : Builtin} {u : Value} {x : Addr} {Q : Value → Shared → Prop} (slot : Slot T name id) (hT : s.TypeIs u T) (entry : entryFor table id = some B) (args : argsOk id ⟨[u, .ref x], []⟩)
    (h : ∀ (A : Around) (E : Value → Shared → Prop) (Q : Fin → Shared → Prop), Q (.done (.ret .notImplemented)) s → wpAny (model prog w) A (B ⟨[u, .ref x], []⟩) Q E s) (q : Q .notImplemented s) : wpAny (model prog w) A (call (.builtin id) [u, .ref x]) Q E s :=
  wpAny_call (codeAny_call_builtin slot.plain entry (slot.check _ _ _ _ _ _ _ _ hT args (h _ _ _ q)))
section
variable {prog : Program} {w : World} {s : Shared} {K : PySem.W.Frag} {x C dx : Addr}
theorem decl_none : Decl prog w s .none x := ⟨"NoneType", _, by decide, rfl, F.slot_NoneType_eq, fun A E Q q => call_decl F.slot_NoneType_eq rfl F.entry_NoneType_eq (F.args_NoneType_eq_2 _ _) (fun A E Q q => by
  obtain ⟨hp, g, d, tk, os⟩ := s
  wp_walk
  exact q) q⟩
theorem decl_bool (b : Bool) (hx : s.heap.get? x = some (PySem.W.instObj C dx)) : Decl prog w s (.bool b) x := ⟨"bool", _, by decide, rfl, F.slot_bool_eq, fun A E Q q => call_decl F.slot_bool_eq rfl F.entry_int_eq (F.args_int_eq_2 _ _) (fun A E Q q => bool_inst hx q) q⟩
theorem decl_int (i : Int) (t : Tok) (hx : s.heap.get? x = some (PySem.W.instObj C dx)) : Decl prog w s (.int i t) x := ⟨"int", _, by decide, rfl, F.slot_int_eq, fun A E Q q => call_decl F.slot_int_eq rfl F.entry_int_eq (F.args_int_eq_2 _ _) (fun A E Q q => int_inst hx q) q⟩
theorem decl_str (i : Str) (t : Tok) (hx : s.heap.get? x = some (PySem.W.instObj C dx)) : Decl prog w s (.str i t) x := ⟨"str", _, by decide, rfl, F.slot_str_eq, fun A E Q q => call_decl F.slot_str_eq rfl F.entry_str_eq (F.args_str_eq_2 _ _) (fun A E Q q => str_inst hx q) q⟩
variable (X : K.In s.heap) (N : NoSub K C)
include X N
theorem decl_list {l : Addr} {o : Obj} (hl : s.heap.get? l = some o) (hc : o.cls = .type "list") (hx : s.heap.get? x = some (PySem.W.instObj C dx)) : Decl prog w s (.ref l) x := ⟨"list", _, by decide, ⟨o, hl, hc⟩, F.slot_list_eq, fun A E Q q => call_decl F.slot_list_eq ⟨o, hl, hc⟩ F.entry_list_eq (F.args_list_eq_2 _ _) (fun A E Q q => list_inst hx (PySem.W.looks_mroIn X (N.no _ (by decide))) q) q⟩
theorem decl_tuple {l : Addr} {o : Obj} (hl : s.heap.get? l = some o) (hc : o.cls = .type "tuple") (hx : s.heap.get? x = some (PySem.W.instObj C dx)) : Decl prog w s (.ref l) x := ⟨"tuple", _, by decide, ⟨o, hl, hc⟩, F.slot_tuple_eq, fun A E Q q => call_decl F.slot_tuple_eq ⟨o, hl, hc⟩ F.entry_tuple_eq (F.args_tuple_eq_2 _ _) (fun A E Q q => tuple_inst hx (PySem.W.looks_mroIn X (N.no _ (by decide))) q) q⟩
theorem decl_dict {l : Addr} {o : Obj} (hl : s.heap.get? l = some o) (hc : o.cls = .type "dict") (hx : s.heap.get? x = some (PySem.W.instObj C dx)) : Decl prog w s (.ref l) x := ⟨"dict", _, by decide, ⟨o, hl, hc⟩, F.slot_dict_eq, fun A E Q q => call_decl F.slot_dict_eq ⟨o, hl, hc⟩ F.entry_dict_eq (F.args_dict_eq_2 _ _) (fun A E Q q => dict_inst hx (PySem.W.looks_mroIn X (N.no _ (by decide))) q) q⟩
end
end Of

set_option Elab.async false
set_option linter.all false
set_option maxRecDepth 100000
set_option maxHeartbeats 4000000
/-! GENERAL: the rules for x == d, d == x, x != y, x an object with an own __eq__ -/
namespace L2
open PySem PySem.Spec PyProof.Rows Of Dv
section
variable {X : Cx} {pins : List (Addr × Obj)} {σ : St} {H : Hp} {s : Shared} {C x dx : Addr} {fs : List (Str × V)}
theorem dz_decl (I : Inv X pins σ H s) (N : NoSub X.K C) (hx : s.heap.get? x = some (PySem.W.instObj C dx)) {v : V} {d : PyData} {u : Value} (h : Dz X.K H v d) (r : RelV v u) : Decl X.prog X.w s u x := by
  have lst : ∀ {a : Addr} {xs : List V}, SqL X.K H a xs → Decl X.prog X.w s (.ref a) x := fun hs => by
    obtain ⟨its, rv, ⟨o, n, ho, hc, _, hd⟩, _⟩ := I.list hs
    exact decl_list I.kIn N ho hc hx
  have tup : ∀ {a : Addr} {xs : List V}, SqT X.K H a xs → Decl X.prog X.w s (.ref a) x := fun hs => by
    obtain ⟨its, rv, ⟨o, ho, hc, n, hd⟩, _⟩ := I.tuple hs
    exact decl_tuple I.kIn N ho hc hx
  cases h with
  | dat h =>
    cases h with
    | non => cases r; exact decl_none
    | bl b => cases r; exact decl_bool b hx
    | int i => obtain ⟨t, rfl⟩ := r; exact decl_int i t hx
    | str i => obtain ⟨t, rfl⟩ := r; exact decl_str i t hx
    | lst hs _ => cases r; exact lst hs
    | tup hs _ => cases r; exact tup hs
  | mt hp =>
    cases r
    obtain ⟨_, hsys, vs, kv, o, es, ep, ho, hE, _⟩ : ObjOk X.prog X.w H s.heap _ (.dK []) := I.hok _ _ hp
    exact decl_dict I.kIn N ho hE.1 hx
  | lst hs _ => cases r; exact lst (SqL.of hs)
  | tup hs _ => cases r; exact tup hs
end
/-- data, or an object of the class -/
def YY (K : PySem.W.Frag) (H : Hp) (C : Addr) (y : V) : Prop := (∃ d, Dz K H y d) ∨ ∃ b dy gs, y = .ref b ∧ H b = some (.ins C dy gs)
def rOwnV (K : PySem.W.Frag) (C : Addr) (sp : Sp) (E : XK) (f : Bool → Bool) : R2 := fun x y H Q => ∃ (a dx : Addr) (fs : List (Str × V)), x = .ref a ∧ H a = some (.ins C dx fs) ∧ YY K H C y ∧ sp [.ref a, y] H (fun v H' => ∃ t, v = .bl t ∧ Q (.bl (f t)) H') E
def rOwnR (K : PySem.W.Frag) (C : Addr) (sp : Sp) (E : XK) : R2 := fun x y H Q => ∃ (a dx : Addr) (fs : List (Str × V)), y = .ref a ∧ H a = some (.ins C dx fs) ∧ ((∃ d, Dz K H x d ∧ sp [.ref a, x] H (fun v H' => ∃ t, v = .bl t ∧ Q (.bl t) H') E) ∨ ∃ b dy gs, x = .ref b ∧ H b = some (.ins C dy gs) ∧ sp [.ref b, .ref a] H (fun v H' => ∃ t, v = .bl t ∧ Q (.bl t) H') E)
section
variable {X : Cx} {n : Nat} {CX : CXT} {C f : Addr} {fd : FuncData} {ps : List Str} {sp : Sp} {E : XK}
theorem yy_looks {pins : List (Addr × Obj)} {σ : St} {H : Hp} {s : Shared} (I : Inv X pins σ H s) (N : NoSub X.K C) {x dx : Addr} (hx : s.heap.get? x = some (PySem.W.instObj C dx)) {y : V} {u : Value} (h : YY X.K H C y) (r : RelV y u) :
    ∃ tb, PySem.W.Looks (model X.prog X.w) s.heap (typeOf u) tb ∧ PySem.W.notFirst X.K C tb = true := by
  rcases h with ⟨d, h⟩ | ⟨b, dy, gs, rfl, hb⟩
  · obtain ⟨T, id, hT, ty, _⟩ := dz_decl I N hx h r
    refine ⟨.type T, ?_, ?_⟩
    · cases u with
      | ref a =>
        obtain ⟨o, ho, hc⟩ := ty
        rw [← hc]
        exact (PySem.W.Looks.ld ho).andThen .now
      | _ => exact PySem.W.Looks.of_pure ty
    · unfold PySem.W.notFirst
      rw [sub_ref hT]
      simp
  · cases r
    obtain ⟨_, Jb, _⟩ := ins_get I.hok hb
    obtain ⟨_, Jb, _⟩ := Jb.look
    exact ⟨_, Jb.type, by simp [PySem.W.notFirst]⟩
theorem ins_obj {P : Program} {w : World} {H : Hp} {h : Heap} {x C dx : Addr} {fs : List (Str × V)} (hok : HOk P w H h) (e : H x = some (.ins C dx fs)) : h.get? x = some (PySem.W.instObj C dx) := by
  obtain ⟨d, z, ne, ob, _⟩ := (show ObjOk P w H h x (.ins C dx fs) from hok x _ e)
  exact ob
/-- the call of __eq__, in some surroundings -/
theorem run_eq {A : Around} {pins : List (Addr × Obj)} {σ : St} {H : Hp} {s : Shared} (G : FnOkG X.prog X.w X.K X.mg X.base CX n f fd ps sp) (bd : Binds X.K fd ps []) (pz : Passes CX X E) (hr : RoomG n A) (he : Env0 X.prog X.w X.K X.mg X.base A X.stack s H) (I : Inv X pins σ H s) {a : Addr} {y : V} {u : Value} (r : RelV y u) {g : Bool → V} {Q : VK}
    (h : sp [.ref a, y] H (fun v H' => ∃ t, v = .bl t ∧ Q (g t) H') E) {P : Value → Shared → Prop} (hp : ∀ t s' H', Inv X pins σ H' s' → Q (g t) H' → P (.bool t) s') : wpAny (model X.prog X.w) A (call (.ref f) [.ref a, u]) P X.xe s := by
  have two := G.len _ _ _ _ h
  have vls : Vals [V.ref a, y] [Value.ref a, u] := .cons rfl (.cons r .nil)
  have bnd : BindsTo s fd ⟨[.ref a, u], []⟩ (ps.zip [.ref a, u]) := by simpa using bd s [.ref a, u] I.kIn (by simpa using two)
  refine wpAny_call (codeAny_mono (G.run A X.stack s H ⟨[.ref a, u], []⟩ [.ref a, u] _ _ E hr he bnd vls h) fun r s' got => ?_)
  cases r with
  | error e => exact pz pins σ H s e s' I got
  | ok fl =>
    cases fl with
    | ret w =>
      obtain ⟨z, H', I', rz, t, ez, qz⟩ := I.after got
      subst ez
      cases rz
      exact hp t s' H' I' qz
    | next => exact got.elim
    | brk => exact got.elim
    | cont => exact got.elim
/-- x == y -/
theorem op_ownV (G : FnOkG X.prog X.w X.K X.mg X.base CX n f fd ps sp) (q1 : PySem.W.findIn X.K (.ref C) "__eq__" = some (some (.ref f))) (q2 : PySem.W.isFn X.K (.ref f) = true) (N : NoSub X.K C) (bd : Binds X.K fd ps []) (pz : Passes CX X E) (hr : RoomG n X.A) :
    OpR X (compareOp .Eq) (rOwnV X.K C sp E id) := by
  intro pins s σ H x y v u Q I rx ry h
  obtain ⟨a, dx, fs, rfl, ha, hy, hsp⟩ := h
  cases rx
  obtain ⟨_, Ja, _⟩ := ins_get I.hok ha
  obtain ⟨_, Ja, _⟩ := Ja.look
  obtain ⟨tb, L, nf⟩ := yy_looks I N (ins_obj I.hok ha) hy ry
  obtain ⟨_, fr⟩ := I.fr
  refine PySem.W.cmp_K (op := .Eq) (tb := tb) hr.1.units0 fr I.ok.mod.kin Ja L nf q1 q2 ?_
  exact run_eq (g := .bl) G bd pz hr I.env0 I ry hsp fun t s' H' I' q => ⟨.bl t, H', I', rfl, q⟩
/-- x != y -/
theorem op_ownNe (G : FnOkG X.prog X.w X.K X.mg X.base CX n f fd ps sp) (q1 : PySem.W.findIn X.K (.ref C) "__eq__" = some (some (.ref f))) (q2 : PySem.W.isFn X.K (.ref f) = true) (q3 : PySem.W.findIn X.K (.ref C) "__ne__" = some (some (.builtin "object.__ne__"))) (hm : PySem.W.mroIn X.K C (.type "object") = some true)
    (N : NoSub X.K C) (bd : Binds X.K fd ps []) (pz : Passes CX X E) (hr : RoomG (n + 1) X.A) : OpR X (compareOp .NotEq) (rOwnV X.K C sp E (!·)) := by
  intro pins s σ H x y v u Q I rx ry h
  obtain ⟨a, dx, fs, rfl, ha, hy, hsp⟩ := h
  cases rx
  obtain ⟨_, Ja, _⟩ := ins_get I.hok ha
  obtain ⟨_, Ja, _⟩ := Ja.look
  obtain ⟨tb, L, nf⟩ := yy_looks I N (ins_obj I.hok ha) hy ry
  have hu := hr.1.units0
  show wpAny _ _ (richCompare .NotEq (.ref a) u) _ _ _
  have inner : ∀ {Q' : Fin → Shared → Prop}, (∀ t s' H', Inv X pins σ H' s' → Q (.bl (!t)) H' → Q' (.done (.ret (.bool (!t)))) s') → wpAny (model X.prog X.w) X.A.in1 (Builtin.«object.__ne__» ⟨[.ref a, u], []⟩) Q' X.xe s := by
    intro Q' hq
    have key : wpAny (model X.prog X.w) X.A.in1 (callSpecialIfBound? (.ref a) (Str.ofString "__eq__") [u]) (fun r s' => ∃ t H', r = some (.bool t) ∧ Inv X pins σ H' s' ∧ Q (.bl (!t)) H') X.xe s :=
      PySem.W.ifBound_K I.kIn Ja q1 q2 (run_eq (A := X.A.in1) (g := fun t => .bl (!t)) G bd pz ⟨hr.1.in1, hr.2⟩ I.env0.in1 I ry hsp fun t s' H' I' q => ⟨t, H', rfl, I', q⟩)
    unfold Builtin.«object.__ne__»
    refine wpAny_bind (m := slotArgs "__ne__" 1 _) (wpAny_pure ?_)
    refine wpAny_bind (wpAny_cRoomFor (by have := hr.1.un; show X.A.units + 1 < cLine; omega) ?_)
    refine wpAny_bind (wpAny_mono key (fun r s' hr' => ?_) fun _ _ e => e)
    obtain ⟨t, H', rfl, I', q⟩ := hr'
    exact wpAny_bind (wpAny_truthy_bool (wpAny_pure (hq t s' H' I' q)))
  have one : wpAny (model X.prog X.w) X.A (tryCompare (.ref a) "__ne__" u) (fun r s' => ∃ t H', r = some (.bool (!t)) ∧ Inv X pins σ H' s' ∧ Q (.bl (!t)) H') X.xe s := by
    unfold tryCompare
    refine wpAny_bind (m := callSpecialIfBound? (.ref a) "__ne__" [u]) ?_
    simp only [callSpecialIfBound?, bindSpecialIfBound?]
    refine wpAny_holding (wpAny_bind (wpAny_bind (wpAny_bind (Ja.type.here ((PySem.W.looks_findIn I.kIn q3).here ?_)))))
    refine wpAny_bind (wpAny_askSetting (wpAny_ite ?_))
    have cal : wpAny (model X.prog X.w) X.A (call (.builtin "object.__ne__") [.ref a, u]) (fun v s' => ∃ t H', v = .bool (!t) ∧ Inv X pins σ H' s' ∧ Q (.bl (!t)) H') X.xe s :=
      wpAny_call (codeAny_call_builtin F.cmp_object.ne.plain F.cmpEntry_ne (PySem.W.check_slot F.cmpKind_ne F.cmpSplit_ne (Ja.type.andThen (PySem.W.looks_mroIn I.kIn hm)) (F.cmpArgs_ne _ _) (inner fun t s' H' I' q => ⟨t, H', rfl, I', q⟩)))
    have fin : wpAny (model X.prog X.w) X.A (call (.builtin "object.__ne__") ([.ref a] ++ [u]) >>= fun v => pure (some v)) (fun r s' => wpAny (model X.prog X.w) X.A (match r with
      | some .notImplemented | none => pure none
      | some v => pure (some v)) (fun r s' => ∃ t H', r = some (.bool (!t)) ∧ Inv X pins σ H' s' ∧ Q (.bl (!t)) H') X.xe s') X.xe s :=
      wpAny_bind (wpAny_mono cal (fun v s' h' => wpAny_pure (by
        obtain ⟨t, H', rfl, I', q⟩ := h'
        exact wpAny_pure ⟨t, H', rfl, I', q⟩)) fun _ _ h' => h')
    split
    · exact wpAny_bind (wpAny_of_eq (F.cmp_object.ne.bind _) (wpAny_pure (by exact fin)))
    · exact wpAny_tryCatch (wpAny_bind (wpAny_of_eq (F.cmp_object.ne.bind _) (wpAny_pure (by exact fin))))
  have done : wpAny (model X.prog X.w) X.A (tryCompare (.ref a) "__ne__" u) (fun r s' => ∃ v, r = some v ∧ EP X pins σ Q v s') X.xe s := wpAny_mono one (fun r s' z => by
    obtain ⟨t, H', rfl, I', q⟩ := z
    exact ⟨_, rfl, .bl (!t), H', I', rfl, q⟩) fun _ _ e => e
  unfold richCompare
  simp only [oneThing_ref, cmpInfo_NotEq]
  refine wpAny_holding (wpAny_bind (wpAny_cRoomFor hu ?_))
  refine wpAny_bind (Ja.type.here (wpAny_bind (L.here ?_)))
  split
  · rename_i q
    have e : PySem.W.subIn X.K tb (.ref C) = some false := by
      rcases Bool.or_eq_true_iff.mp nf with e | e
      · rw [beq_iff_eq.mp e] at q; simp at q
      · exact beq_iff_eq.mp e
    refine wpAny_bind ((PySem.W.looks_subIn I.kIn e).here ?_)
    simp only [Bool.false_eq_true, if_false]
    refine wpAny_bind (wpAny_mono done (fun r s' z => ?_) fun _ _ e => e)
    obtain ⟨v, rfl, hq⟩ := z
    exact wpAny_pure hq
  · refine wpAny_bind (wpAny_pure ?_)
    simp only [Bool.false_eq_true, if_false]
    refine wpAny_bind (wpAny_mono done (fun r s' z => ?_) fun _ _ e => e)
    obtain ⟨v, rfl, hq⟩ := z
    exact wpAny_pure hq
/-- y == x, y data or an object of the class -/
theorem op_ownR (G : FnOkG X.prog X.w X.K X.mg X.base CX n f fd ps sp) (q1 : PySem.W.findIn X.K (.ref C) "__eq__" = some (some (.ref f))) (q2 : PySem.W.isFn X.K (.ref f) = true) (N : NoSub X.K C) (bd : Binds X.K fd ps []) (pz : Passes CX X E) (hr : RoomG n X.A) :
    OpR X (compareOp .Eq) (rOwnR X.K C sp E) := by
  intro pins s σ H x y v u Q I rx ry h
  obtain ⟨a, dx, fs, rfl, ha, hy⟩ := h
  cases ry
  rcases hy with ⟨d, hd, hs1⟩ | ⟨b, dy, gs, rfl, hb, hs2⟩
  · obtain ⟨_, Ja, _⟩ := ins_get I.hok ha
    obtain ⟨_, Ja, _⟩ := Ja.look
    obtain ⟨T, id', hT, ty, slot, dec⟩ := dz_decl I N (ins_obj I.hok ha) hd rx
    show wpAny _ _ (richCompare .Eq v (.ref a)) _ _ _
    simp only [richCompare, cmpInfo_Eq, ty.oneThing_none]
    refine wpAny_holding (wpAny_bind (wpAny_cRoomFor hr.1.units0 ?_))
    refine wpAny_bind (wpAny_typeOf ty (wpAny_bind (Ja.type.here ?_)))
    simp only [show (Value.type T != Value.ref C) = true from by simp, if_true]
    refine wpAny_bind ((PySem.W.looks_mroIn I.kIn (N.no T hT)).here ?_)
    simp only [Bool.false_eq_true, if_false, Bool.not_false, if_true]
    refine wpAny_bind (m := tryCompare v _ (.ref a)) (wpAny_tryCompare_declines ty slot (dec _ _ _ ⟨rfl, ?_⟩))
    have one : wpAny (model X.prog X.w) X.A (tryCompare (.ref a) "__eq__" v) (fun r s' => ∃ w, r = some w ∧ EP X pins σ Q w s') X.xe s := by
      unfold tryCompare
      refine wpAny_bind (PySem.W.ifBound_K I.kIn Ja q1 q2 (run_eq (g := .bl) G bd pz hr I.env0 I rx hs1 fun t s' H' I' q => ?_))
      exact wpAny_pure ⟨_, rfl, .bl t, H', I', rfl, q⟩
    refine wpAny_bind (m := tryCompare (.ref a) _ v) (wpAny_mono one (fun r s' z => ?_) fun _ _ e => e)
    obtain ⟨w', rfl, hq⟩ := z
    exact wpAny_pure hq
  · cases rx
    have := op_ownV (E := E) G q1 q2 N bd pz hr pins s σ H (.ref b) (.ref a) (.ref b) (.ref a) Q I rfl rfl ⟨b, dy, gs, rfl, hb, .inr ⟨a, dx, fs, rfl, ha⟩, hs2⟩
    exact this
end
end L2

set_option Elab.async false
set_option linter.all false
set_option maxRecDepth 100000
set_option maxHeartbeats 4000000
/-! GENERAL: a def that may raise, called where it does not; xs.append(None) of any list of H alone -/
namespace Dv
open PySem PySem.Spec PyProof.Rows L2 Evl
section
variable {P : Program} {w : World} {K : PySem.W.Frag} {mg : Str → Option Value} {base : Heap} {nm : Str} {ps : List Str} {k : Nat} {sp sp' : Sp}
theorem fnOkG_down {f : Addr} {fd : FuncData} (A : FnOkG P w K mg base (L2.CX P w) k f fd ps sp) (h : ∀ vs H Q E, sp' vs H Q E → sp vs H Q fun _ _ _ => False) : FnOkG P w K mg base CX0 k f fd ps sp' :=
  ⟨fun vs H Q E q => A.len _ _ _ _ (h _ _ _ _ q), fun A' outer s H args us vs Q E hr e0 hb r q => codeAny_mono (A.run A' outer s H args us vs Q _ hr e0 hb r (h _ _ _ _ q)) fun x s' hx => by
    cases x with
    | ok fl => cases fl <;> exact hx
    | error e =>
      obtain ⟨_, _, _, _, _, _, _, _, _, _, _, _, hE⟩ := hx
      exact hE.elim⟩
theorem CalX.down (A : CalX P w K mg base nm ps k sp) (h : ∀ vs H Q E, sp' vs H Q E → sp vs H Q fun _ _ _ => False) : Cal P w K mg base nm ps k sp' := by
  obtain ⟨f, fd, g, kp, b, G, l⟩ := A.ex
  exact ⟨f, fd, g, kp, b, fnOkG_down G h, l⟩
end
section
variable {K : PySem.W.Frag} {σ : L2.St} {F H : Hp} {D : Ends}
theorem s_app0 {l : Addr} {xs : List V} {to : TE} (ho : ∀ Q : VK, Q (.ref l) H → to σ H Q) (hl : H l = some (.lst xs)) (hz : xs.length < 100000) (k : D.nx σ (upd H l (.lst (xs ++ [.non])))) : tDrop (tBM K "list" rAppend to (tCons (tC .non) tNil)) D σ H :=
  ho _ ⟨Or.inl ⟨rfl, xs, sq_of hl⟩, ⟨l, xs, .non, rfl, rfl, hl, sz_lt hz, k⟩⟩
/-- an item of a list that is the very object -/
theorem ix_ref {i : Nat} {n : Int} {p a : Addr} {xs : List V} (hi : σ[i]? = some (some (.ref p))) (hp : H p = some (.lst xs)) (e : atI xs n = some (.ref a)) (Q : VK) (q : Q (.ref a) H) : tOp (rIxL K) (tVar i) (tC (.int n)) σ H Q :=
  ⟨_, hi, _, _, n, _, rfl, rfl, SqL.of hp, e, q⟩
end
end Dv

set_option Elab.async false
set_option linter.all false
set_option maxRecDepth 100000
set_option maxHeartbeats 4000000
/-! GENERAL: f(b = .., a = ..), two keywords alone, the other way about than the parameters -/
namespace Dv
open PySem PySem.Spec PyProof.Rows L2 Evl
/-- a def of two parameters can be called by name -/
structure Kw2 (K : PySem.W.Frag) (mg : Str → Option Value) (nm p1 p2 : Str) : Prop where
  ex : ∃ f fd oc od osl, mg nm = some (.ref f) ∧ K.lookup f = some ⟨oc, od, .func fd, osl⟩ ∧ ∀ (s : Shared) (a b : Value), BindsTo s fd ⟨[], [(p2, a), (p1, b)]⟩ [(p1, b), (p2, a)]
theorem kw2_of {K : PySem.W.Frag} {mg : Str → Option Value} {nm p1 p2 : Str} {st : Stmt} (D : Def K mg nm st [p1, p2])
    (h : ∀ (kV doc pm : Value) (an : Option Addr) (cdv ct a b : Value), bindArgs (PySem.W.fnOf nm nm (defArgs st) (defBody st) (defScope st) .none kV doc pm an cdv ct) ⟨[], [(p2, a), (p1, b)]⟩ = pure [(p1, b), (p2, a)]) : Kw2 K mg nm p1 p2 := by
  obtain ⟨f, fd, g, F, b⟩ := D.ex
  obtain ⟨oc, od, kV, doc, pm, an, cdv, ct, osl, e, lk, hcd⟩ := F.ex
  exact ⟨f, fd, oc, od, osl, g, lk, fun s a b => by rw [e]; exact .of_eq (h kV doc pm an cdv ct a b)⟩
def tKw2 (sp : Sp) (t : TA) : TE := fun σ H Q => t σ H fun zs H2 => ∃ a b, zs = [a, b] ∧ sp [b, a] H2 Q E0
section
variable {X : Cx} {k j : Nat} {sp : Sp} {x p1 p2 : Str} {p pos k1 k2 : Pos} {ea eb : Expr} {ta tb : TE}
theorem pe_kw2 (C : Cal X.prog X.w X.K X.mg X.base x [p1, p2] k sp) (W : Kw2 X.K X.mg x p1 p2) (hr : RoomG j X.A) (ha : PE X ea ta) (hb : PE X eb tb) (hg : Gl X x := by rfl) (hj : k ≤ j := by decide) (hdb : (x == ("__debug__" : Str)) = false := by decide)
    (hpl : ((backTo pos (starEach [] X.env)).any (·.1) || (backToKw pos (keywordEach [⟨some p2, ea, k1⟩, ⟨some p1, eb, k2⟩] X.env)).any (·.1.isNone)) = false := by rfl)
    (hall : (backToKw pos (keywordEach [⟨some p2, ea, k1⟩, ⟨some p1, eb, k2⟩] X.env)).all (·.1.isSome) = true := by rfl)
    (hks : (backToKw pos (keywordEach [⟨some p2, ea, k1⟩, ⟨some p1, eb, k2⟩] X.env)).filterMap (·.1) = [p2, p1] := by rfl) :
    PE X (.Call (.Name x p) [] [⟨some p2, ea, k1⟩, ⟨some p1, eb, k2⟩] pos) (tKw2 sp (tCons ta (tCons tb tNil))) := by
  obtain ⟨f, fd, g, kp, _, F, oc, od, osl, lk⟩ := C.ex
  obtain ⟨f', fd', oc', od', osl', g', lk', bd⟩ := W.ex
  rw [g] at g'
  cases g'
  rw [lk] at lk'
  cases lk'
  have hkw : PK X [⟨some p2, ea, k1⟩, ⟨some p1, eb, k2⟩] (tCons ta (tCons tb tNil)) := pk_cons ha (pk_cons hb pk_nil)
  refine ⟨fun pins s σ H Q I h => ?_⟩
  refine wpAny_Call_Name_kw (ld_glob I hg g ?_ hdb)
  refine PySem.W.callWith_KW0 (h₀ := X.base) I.ok.mod.kin kp hall (thn (hkw.run pos pins s σ H _ I h) fun ws s2 ⟨zs, H2, I2, rz, a, b, ez, q2⟩ => ⟨I2.kIn, ?_⟩) hpl
  rw [hks]
  subst ez
  obtain ⟨ua, ub, rfl, r1, r2⟩ : ∃ ua ub, ws = [ua, ub] ∧ RelV a ua ∧ RelV b ub := by
    cases rz with
    | cons r1 rz =>
      cases rz with
      | cons r2 rz =>
        cases rz
        exact ⟨_, _, rfl, r1, r2⟩
  refine wpAny_call (codeAny_mono (F.run X.A X.stack s2 H2 ⟨[], [(p2, ua), (p1, ub)]⟩ [ub, ua] [b, a] Q E0 (hr.mono hj) I2.env0 (bd s2 ua ub) (.cons r2 (.cons r1 .nil)) q2) fun r s' hq => ?_)
  cases r with
  | error e => exact hq.elim
  | ok fl =>
    cases fl with
    | ret u => exact I2.after hq
    | next => exact False.elim hq
    | brk => exact False.elim hq
    | cont => exact False.elim hq
end
end Dv

set_option Elab.async false
set_option linter.all false
set_option maxRecDepth 100000
set_option maxHeartbeats 4000000
namespace R3
open PySem PySem.Spec PyProof.Rows L2 Evl Dv
theorem layAll_iff : ∀ {xs : List PyData}, PyData.canLayAll0 xs = true ↔ ∀ x ∈ xs, x.canLay0 = true
  | [] => by simp [PyData.canLayAll0]
  | x :: xs => by simp [PyData.canLayAll0, layAll_iff (xs := xs)]
theorem depAll_iff {n : Nat} : ∀ {xs : List PyData}, PyData.depthAll xs ≤ n ↔ ∀ x ∈ xs, x.depth ≤ n
  | [] => by simp [PyData.depthAll]
  | x :: xs => by simp [PyData.depthAll, depAll_iff (xs := xs), Nat.max_le]
theorem gds_iff : ∀ {xs : List PyData}, gds xs = true ↔ ∀ x ∈ xs, gd x = true
  | [] => by simp [gds]
  | x :: xs => by simp [gds, gds_iff (xs := xs)]
section
variable {P : Program} {w : World} {K : PySem.W.Frag} {mg : Str → Option Value} {base : Heap}
/-- a mill's rules, to be walked -/
theorem MillAt.rules {F : Hp} {C ml : Addr} {m : MillD} (h : MillAt K F C ml m) : ∃ (dx ro sp ru : Addr) (v1 v3 : List V), F ml = some (.ins C dx [("rooms", .ref ro), ("spots", .ref sp), ("rules", .ref ru)]) ∧
    F ro = some (.dK ((m.stuffs.map fun z => (Sum.inr z.1 : Key)).zip v1)) ∧ DpAll K F v1 (m.stuffs.map fun z => encRoom z.2) ∧
    F ru = some (.dK ((m.recipes.map fun z => (Sum.inr z.1 : Key)).zip v3)) ∧ DpAll K F v3 (m.recipes.map encRule) ∧
    ∀ od, upd F ru (.frz od (.dK ((m.recipes.map fun z => (Sum.inr z.1 : Key)).zip v3))) ml = some (.ins C dx [("rooms", .ref ro), ("spots", .ref sp), ("rules", .ref ru)]) ∧
      Mill0 K (upd F ru (.frz od (.dK ((m.recipes.map fun z => (Sum.inr z.1 : Key)).zip v3)))) C ml m := by
  obtain ⟨dx, ro, sp, ru, v1, v2, v3, h1, h2, h3, h4, h5, h6, h7, hrr, hsr, _⟩ := h.ex
  refine ⟨dx, ro, sp, ru, v1, v3, h1, h2, h3, h6, h7, fun od => ?_⟩
  have n6 : NoSq (F ru) := by rw [h6]; exact noSq_dK
  have hmr : ml ≠ ru := fun z => by rw [z, h6] at h1; cases h1
  have e1 : upd F ru (.frz od (.dK ((m.recipes.map fun z => (Sum.inr z.1 : Key)).zip v3))) ml = some (.ins C dx [("rooms", .ref ro), ("spots", .ref sp), ("rules", .ref ru)]) := by rw [upd_ne hmr]; exact h1
  exact ⟨e1, ⟨dx, ro, sp, ru, v1, v2, e1, by rw [upd_ne hrr]; exact h2, dps_put n6 h3, by rw [upd_ne hsr]; exact h4, dps_put n6 h5⟩⟩
/-! ### check_mill of a mill -/
def spCheckMill (C : Addr) : Sp := fun vs H Q _ => ∃ (x dx : Addr) (fs : List (Str × V)), vs = [.ref x] ∧ H x = some (.ins C dx fs) ∧ Q .non H
theorem sc_check_mill : FnScope (["value"] : List Str) (["value"] : List Str) (defScope sCheckMill) := ⟨rfl, rfl, rfl, by decide +kernel, rfl, by decide +kernel, by decide +kernel⟩
theorem ok_check_mill (D : Def K mg "check_mill" sCheckMill ["value"]) (B : Bl mg) {C : Addr} (gC : mg "Mill" = some (.ref C)) (IC : C8.InsC K C) : Cal P w K mg base "check_mill" ["value"] 1 (spCheckMill C) := by
  refine cal_mk D sc_check_mill (fun vs H Q E h => ?_) (fun f cdv A outer s H vs Q E hr h => ?_)
  · obtain ⟨x, dx, fs, rfl, _⟩ := h
    rfl
  obtain ⟨x, dx, fs, rfl, hx, q⟩ := h
  refine ⟨_, (pss_one (ps_if (pt_not (pt_val (pe_callB (C8.call_isC IC) (by rfl) B.isi (by decide +kernel) (pa_cons (pv 0) (pa_cons (pe_glob (v := .ref C) rfl gC rfl) pa_nil))))) (pss_one ps_never) pss_nil)), ?_⟩
  exact ⟨_, rfl, x, dx, fs, rfl, hx, _, rfl, q⟩
/-- check_mill(m), a statement -/
theorem s_check {σ : L2.St} {F H : Hp} {C x : Addr} {m : MillD} {i : Nat} {E : XK} {D : Ends} (hi : σ[i]? = some (some (.ref x))) (hm : MillAt K F C x m) (e : Evl.Ex F H) (k : D.nx σ H) : tDrop (tCall (spCheckMill C) [] E (tCons (tVar i) tNil)) D σ H := by
  obtain ⟨dx, ro, sp, ru, v1, v2, v3, h1, _⟩ := hm.ex
  exact ⟨_, hi, x, dx, _, rfl, e _ _ h1, k⟩
end
/-- takes and gives exchanged -/
def MillD.turn (m : MillD) : MillD := ⟨m.stuffs, m.recipes.map fun r => (r.1, r.2.2, r.2.1)⟩
theorem MillD.turn_turn (m : MillD) : m.turn.turn = m := by
  obtain ⟨s, r⟩ := m
  unfold MillD.turn
  dsimp only
  rw [List.map_map]
  congr 1
  exact List.map_id _
theorem MillD.turn_titles (m : MillD) : m.turn.titles = m.titles := by
  unfold MillD.turn MillD.titles
  dsimp only
  rw [List.map_map] <;> rfl
theorem MillD.Ok.turn {m : MillD} (h : m.Ok) : m.turn.Ok := by
  refine ⟨h.s1, h.s2, h.sn, h.ss, by unfold MillD.turn; rw [List.length_map]; exact h.r2, ?_, fun z hz => ?_⟩
  · have := h.rn
    have e : m.turn.recipes.map (·.1) = m.recipes.map (·.1) := m.turn_titles
    rw [e]
    exact this
  · unfold MillD.turn at hz
    obtain ⟨r, hr, rfl⟩ := List.mem_map.mp hz
    obtain ⟨h1, h2⟩ := h.rs r hr
    constructor
    · have g := gd_tup h1
      rw [encRecipe, gd_tuple]
      have g1 := gds_iff.mp g.2
      rw [decide_eq_true (by simp), Bool.true_and, gds_iff]
      intro d hd
      simp only [List.mem_cons, List.not_mem_nil, or_false] at hd
      rcases hd with rfl | rfl | rfl
      · exact g1 _ (by simp)
      · exact g1 _ (by simp)
      · exact g1 _ (by simp)
    · have h2' : (isName (.str r.1) && areParts m.names (.list (r.2.1.map encPart)) && areParts m.names (.list (r.2.2.map encPart))) = true := h2
      show (isName (.str r.1) && areParts m.names (.list (r.2.2.map encPart)) && areParts m.names (.list (r.2.1.map encPart))) = true
      rw [Bool.and_eq_true, Bool.and_eq_true] at h2' ⊢
      exact ⟨⟨h2'.1.1, h2'.2⟩, h2'.1.2⟩
theorem tup12 {K : PySem.W.Frag} {F : Hp} {v : V} {a b c : PyData} (h : Dp K F v (.tuple [a, .tuple [b, c]])) : ∃ x y z, Dp K F x a ∧ Dp K F y b ∧ Dp K F z c ∧ ∀ (i j k : Nat) (σ : L2.St) (H : Hp), Ex F H → ∀ Q : L2.St → Hp → Prop, Q (((σ.set i (some x)).set j (some y)).set k (some z)) H →
    gTup K 2 (gCons (gName i) (gCons (gTup K 2 (gCons (gName j) (gCons (gName k) gNil))) gNil)) v σ H Q := by
  cases h with
  | tup hs hd =>
    cases hd with
    | cons h1 hr =>
      cases hr with
      | cons h2 hr =>
        cases hr
        obtain ⟨y, z, hy, hz, ht⟩ := tup2 h2
        exact ⟨_, y, z, h1, hy, hz, fun i j k σ H e Q q => ⟨_, _, rfl, ex_t e hs, rfl, _, _, rfl, _, _, rfl, ht j k _ H e _ ⟨rfl, q⟩⟩⟩
section
variable {P : Program} {w : World} {K : PySem.W.Frag} {mg : Str → Option Value} {base : Heap}
def spStuffs (K : PySem.W.Frag) (C : Addr) : Sp := fun vs H Q _ => ∃ (F : Hp) (x : Addr) (m : MillD), vs = [.ref x] ∧ Ex F H ∧ MillAt K F C x m ∧ ∀ p ws F' H', Gr F H F' H' → H p = none → F' p = none → H' p = some (.lst ws) → DpAll K F' ws (m.stuffs.map encStuff) → Q (.ref p) H'
def spRecipes (K : PySem.W.Frag) (C : Addr) : Sp := fun vs H Q _ => ∃ (F : Hp) (x : Addr) (m : MillD), vs = [.ref x] ∧ Ex F H ∧ MillAt K F C x m ∧ m.recipes.length ≤ 8 ∧ ∀ p ws F' H', Gr F H F' H' → H p = none → F' p = none → H' p = some (.lst ws) → DpAll K F' ws (m.recipes.map encRecipe) → Q (.ref p) H'
theorem sc_Mill_stuffs : FnScope (["self"] : List Str) (["self"] : List Str) (defScope sMillStuffs) := ⟨rfl, rfl, rfl, by decide +kernel, rfl, by decide +kernel, by decide +kernel⟩
theorem ok_mill_stuffs {C : Addr} (D : DefM K C "stuffs" "Mill.stuffs" sMillStuffs []) (B : Bl mg) (MC : MillC K C) : CalM P w K mg base C "stuffs" [] 1 (spStuffs K C) := by
  refine calM_mk D sc_Mill_stuffs (fun vs H Q E h => ?_) (fun f cdv A outer s H vs Q E hr h => ?_)
  · obtain ⟨F, x, m, rfl, _⟩ := h
    rfl
  obtain ⟨F, x, m, rfl, e, hm, q⟩ := h
  refine ⟨_, (pss_one (ps_ret (LiI.pe_listItems (by rfl) (pe_fld (pv 0) rfl) (by rfl) B.list (by decide +kernel)))), ?_⟩
  have st : start ["self"] [V.ref x] = [some (.ref x)] := rfl
  rw [st]
  obtain ⟨dx, ro, sp, ru, v1, v2, v3, hx, hro, hv1, _⟩ := hm.ex
  have v1l : v1.length = (m.stuffs.map fun z => (Sum.inr z.1 : Key)).length := by rw [dps_len hv1, List.length_map, List.length_map]
  have el := el_listItems (K := K) (te := tFld K (tVar 0) "rooms") (σ := [some (.ref x)]) (names := m.stuffs.map (·.1)) (es := m.stuffs.map fun z => encRoom z.2) (fun H1 e1 Q q => fld_ref rfl hx MC.cl MC.rooms fl1 H1 e1 Q q) hro (by rw [zip_fst v1l, List.map_map] <;> rfl) (by rw [zip_snd v1l]; exact hv1)
  rw [List.zip_map', List.map_map] at el
  exact Dv.s_retL (K := K) el e q
theorem sc_Mill_recipes : FnScope (["self", "name", "takes", "gives"] : List Str) (["self"] : List Str) (defScope sMillRecipes) := ⟨rfl, rfl, rfl, by decide +kernel, rfl, by decide +kernel, by decide +kernel⟩
theorem ok_mill_recipes {C : Addr} (D : DefM K C "recipes" "Mill.recipes" sMillRecipes []) (B : Bl mg) (MC : MillC K C) : CalM P w K mg base C "recipes" [] 1 (spRecipes K C) := by
  refine calM_mk D sc_Mill_recipes (fun vs H Q E h => ?_) (fun f cdv A outer s H vs Q E hr h => ?_)
  · obtain ⟨F, x, m, rfl, _⟩ := h
    rfl
  obtain ⟨F, x, m, rfl, e, hm, h8, q⟩ := h
  refine ⟨_, (pss_one (ps_ret (pe_lock (pe_lc (own := [("name", 1), ("takes", 2), ("gives", 3)]) (g := gTup K 2 (gCons (gName 1) (gCons (gTup K 2 (gCons (gName 2) (gCons (gName 3) gNil))) gNil))) rfl sc_Mill_recipes.nd (pi_items (pe_fld (pv 0) rfl)) (blkOk_by (own := [("name", 1), ("takes", 2), ("gives", 3)]) (N := ["self", "name", "takes", "gives"]) (sc := defScope sMillRecipes) (by decide +kernel)) (fun _ _ _ _ _ => (pg_tup (by rfl) (pgs_cons (pg_name (i := 1) sc_Mill_recipes.nd rfl (.inl rfl)) (pgs_cons (pg_tup (by rfl) (pgs_cons (pg_name (i := 2) sc_Mill_recipes.nd rfl (.inl rfl)) (pgs_cons (pg_name (i := 3) sc_Mill_recipes.nd rfl (.inl rfl)) pgs_nil))) pgs_nil))))  (fun _ _ _ _ _ => pts_nil) (fun _ _ _ _ _ => (pe_tup (pa_cons (pv 1) (pa_cons (pe_callTy (T := "list") (r := fun xs H Q => ∃ p ys, xs = [.ref p] ∧ (SqL K H p ys ∨ SqT K H p ys) ∧ ∀ l, H l = none → Q (.ref l) (upd H l (.lst ys))) call_list_of (by rfl) B.list (by decide +kernel) (pa_cons (pv 2) pa_nil)) (pa_cons (pe_callTy (T := "list") (r := fun xs H Q => ∃ p ys, xs = [.ref p] ∧ (SqL K H p ys ∨ SqT K H p ys) ∧ ∀ l, H l = none → Q (.ref l) (upd H l (.lst ys))) call_list_of (by rfl) B.list (by decide +kernel) (pa_cons (pv 3) pa_nil)) pa_nil))))))))), ?_⟩
  have st : start ["self", "name", "takes", "gives"] [V.ref x] = [some (.ref x), none, none, none] := rfl
  rw [st]
  obtain ⟨mdx, ro, sp, ru, v1, v3, hml, hro, hv1, hru, hv3, hlk⟩ := hm.rules
  have v3l : v3.length = (m.recipes.map fun z => (Sum.inr z.1 : Key)).length := by rw [dps_len hv3, List.length_map, List.length_map]
  have n6 : NoSq (F ru) := by rw [hru]; exact noSq_dK
  refine Dv.s_retL (K := K) (F := F) (el_lock hru fun od => ?_) e q
  obtain ⟨hml', hm0⟩ := hlk od
  have it := it_itemsK (K := K) (td := tFld K (tVar 0) "rules") (σ := [some (.ref x), none, none, none]) (F := upd F ru (.frz od (.dK ((m.recipes.map fun z => (Sum.inr z.1 : Key)).zip v3)))) (names := m.recipes.map (·.1)) (es := m.recipes.map encRule) (fun H1 e1 Q q => fld_ref rfl hml' MC.cl MC.rules fl3 H1 e1 Q q) upd_same (by rw [zip_fst v3l, List.map_map] <;> rfl) (by rw [zip_snd v3l]; exact dps_put n6 hv3)
  rw [List.zip_map', List.map_map] at it
  refine Dv.el_is (lc_rule (K := K) (σ := [some (.ref x), none, none, none]) m.recipes (fun r => PyData.tuple [.str r.1, encRule r]) encRecipe (fun _ => true) it (by omega) fun r hr v F1 e1 hv => ?_) (by rw [List.filter_eq_self.mpr fun _ _ => rfl])
  obtain ⟨y1, y2, y3, hy1, hy2, hy3, ht⟩ := tup12 hv
  exact ⟨[some (.ref x), some y1, some y2, some y3], fun H e Q q => ht 1 2 3 _ H e Q q, rfl, fun H e Q q => q F1 H (Gr.refl e), fun _ => Dv.ev_tup (Dv.ea_cons (Dv.ev_var (i := 1) rfl hy1) (Dv.ea_cons (EvL.ev (Dv.el_list (Dv.ev_var (i := 2) rfl hy2) (.inr rfl))) (Dv.ea_cons (EvL.ev (Dv.el_list (Dv.ev_var (i := 3) rfl hy3) (.inr rfl))) Dv.ea_nil))) (by simp)⟩
theorem el_stuffs {σ : L2.St} {F : Hp} {C ml : Addr} {m : MillD} {i : Nat} {E : XK} (MC : MillC K C) (hi : σ[i]? = some (some (.ref ml))) (hm : MillAt K F C ml m) : EvL K (tMeth C "stuffs" (spStuffs K C) [] E (tVar i) tNil) σ F (m.stuffs.map encStuff) := fun H e Q q => by
  obtain ⟨dx, ro, sp, ru, v1, v2, v3, hx, _⟩ := hm.ex
  exact ⟨_, hi, ml, dx, _, rfl, e _ _ hx, by rfl, F, ml, m, rfl, e, hm, q⟩
theorem el_recipes {σ : L2.St} {F : Hp} {C ml : Addr} {m : MillD} {i : Nat} {E : XK} (MC : MillC K C) (hi : σ[i]? = some (some (.ref ml))) (hm : MillAt K F C ml m) (h8 : m.recipes.length ≤ 8) : EvL K (tMeth C "recipes" (spRecipes K C) [] E (tVar i) tNil) σ F (m.recipes.map encRecipe) := fun H e Q q => by
  obtain ⟨dx, ro, sp, ru, v1, v2, v3, hx, _⟩ := hm.ex
  exact ⟨_, hi, ml, dx, _, rfl, e _ _ hx, by rfl, F, ml, m, rfl, e, hm, h8, q⟩
/-- turned(mill) -/
def spTurned (K : PySem.W.Frag) (C : Addr) : Sp := fun vs H Q _ => ∃ (F : Hp) (x : Addr) (m : MillD), vs = [.ref x] ∧ Ex F H ∧ MillAt K F C x m ∧ m.Ok ∧ ∀ y F' H', Gr F H F' H' → MillAt K F' C y m.turn → Q (.ref y) H'
theorem sc_turned : FnScope (["mill", "name", "takes", "gives"] : List Str) (["mill"] : List Str) (defScope sTurned) := ⟨rfl, rfl, rfl, by decide +kernel, rfl, by decide +kernel, by decide +kernel⟩
theorem ok_turned (D : Def K mg "turned" sTurned ["mill"]) (B : Bl mg) {C : Addr} (MC : MillC K C) (C_check_mill : Cal P w K mg base "check_mill" ["value"] 1 (spCheckMill C)) (M_stuffs : CalM P w K mg base C "stuffs" [] 1 (spStuffs K C)) (M_recipes : CalM P w K mg base C "recipes" [] 1 (spRecipes K C)) (M_Mill : Mak P w K mg base "Mill" C ["stuffs", "recipes"] 5 (spMillInit K C)) :
    Cal P w K mg base "turned" ["mill"] 7 (spTurned K C) := by
  refine cal_mk D sc_turned (fun vs H Q E h => ?_) (fun f cdv A outer s H vs Q E hr h => ?_)
  · obtain ⟨F, x, m, rfl, _⟩ := h
    rfl
  obtain ⟨F, x, m, rfl, e, hm, ok, q⟩ := h
  refine ⟨_, (pss_cons (ps_expr (pe_callC C_check_mill hr (pa_cons (pv 0) pa_nil)))
      (pss_one (ps_ret (pe_makC M_Mill hr (pa_cons (pe_meth0C M_stuffs MC.cl hr (pv 0)) (pa_cons (pe_lc (own := [("name", 1), ("takes", 2), ("gives", 3)]) (g := gTup K 3 (gCons (gName 1) (gCons (gName 2) (gCons (gName 3) gNil)))) rfl sc_turned.nd (pi_list (pe_meth0C M_recipes MC.cl hr (pv 0))) (blkOk_by (own := [("name", 1), ("takes", 2), ("gives", 3)]) (N := ["mill", "name", "takes", "gives"]) (sc := defScope sTurned) (by decide +kernel)) (fun _ _ _ _ _ => (pg_tup (by rfl) (pgs_cons (pg_name (i := 1) sc_turned.nd rfl (.inl rfl)) (pgs_cons (pg_name (i := 2) sc_turned.nd rfl (.inl rfl)) (pgs_cons (pg_name (i := 3) sc_turned.nd rfl (.inl rfl)) pgs_nil)))))  (fun _ _ _ _ _ => pts_nil) (fun _ _ _ _ _ => (pe_tup (pa_cons (pv 1) (pa_cons (pv 3) (pa_cons (pv 2) pa_nil)))))) pa_nil)))))), ?_⟩
  have st : start ["mill", "name", "takes", "gives"] [V.ref x] = [some (.ref x), none, none, none] := rfl
  rw [st]
  refine seq_of (s_check (i := 0) rfl hm e ?_)
  dsimp only
  have h8 := ok.r2
  have lc := lc_rule (K := K) (F := F) (te := tTup (tCons (tVar 1) (tCons (tVar 3) (tCons (tVar 2) tNil)))) (vs := [1, 2, 3]) (tt := tYes) (g := gTup K 3 (gCons (gName 1) (gCons (gName 2) (gCons (gName 3) gNil)))) (σ := [some (.ref x), none, none, none]) m.recipes encRecipe (fun r => encRecipe (r.1, r.2.2, r.2.1)) (fun _ => true)
    (it_list (EvL.ev (el_recipes (E := E0) (i := 0) MC rfl hm h8))) (by omega)
    (fun r0 hr0 v F4 e4 hv4 => by
      obtain ⟨u1, u2, u3, hu1, hu2, hu3, ht3⟩ := tup3 hv4
      exact ⟨[some (.ref x), some u1, some u2, some u3], fun H e Q q => ht3 1 2 3 _ H e _ q, rfl, fun H e Q q => q F4 H (Gr.refl e), fun _ => Dv.ev_tup (Dv.ea_cons (Dv.ev_var (i := 1) rfl hu1) (Dv.ea_cons (Dv.ev_var (i := 3) rfl hu3) (Dv.ea_cons (Dv.ev_var (i := 2) rfl hu2) Dv.ea_nil))) (by simp)⟩)
  rw [filt_true, show m.recipes.map (fun r => encRecipe (r.1, r.2.2, r.2.1)) = m.turn.recipes.map encRecipe from by
    unfold MillD.turn
    rw [List.map_map] <;> rfl] at lc
  refine ev_mill (K := K) (C := C) (E := E0) (m := m.turn) (F := F) (Dv.ea_cons (Dv.ev_is (EvL.ev (el_stuffs (E := E0) (i := 0) MC rfl hm)) rfl) (Dv.ea_cons (EvL.ev lc) Dv.ea_nil)) ok.turn H e _ fun y F' H' g hy => q y F' H' g hy
/-- what has another type is no mill -/
structure MillN (K : PySem.W.Frag) (C : Addr) : Prop where
  no : ∀ t ∈ ["NoneType", "bool", "int", "str", "list", "tuple", "dict"], PySem.W.kitOne K (.type t) (.ref C) = some false
theorem tyD_in (d : PyData) : tyD d ∈ ["NoneType", "bool", "int", "str", "list", "tuple", "dict"] := by
  cases d <;> simp [tyD]
def spCheckX (K : PySem.W.Frag) (C CM : Addr) : Sp := fun vs H Q E => ∃ v, vs = [v] ∧ ((∃ x dx fs, v = .ref x ∧ H x = some (.ins C dx fs) ∧ Q .non H) ∨ ∃ F d, Ex F H ∧ Dq K F v d ∧ Bad CM F H v E)
theorem ok_check_millX (D : Def K mg "check_mill" sCheckMill ["value"]) (B : Bl mg) {C CM : Addr} (gC : mg "Mill" = some (.ref C)) (IC : C8.InsC K C) (NC : MillN K C) (EM : ErrC P K mg "InvalidMill" CM) : CalX P w K mg base "check_mill" ["value"] 1 (spCheckX K C CM) := by
  refine calX_mk D sc_check_mill (fun vs H Q E h => ?_) (fun f cdv A outer s H vs Q E hr h => ?_)
  · obtain ⟨v, rfl, _⟩ := h
    rfl
  obtain ⟨v, rfl, h⟩ := h
  obtain ⟨fI, TM⟩ := EM.ex
  refine ⟨_, (pss_one (ps_if (pt_not (pt_val (pe_callB call_isi (by rfl) B.isi (by decide +kernel) (pa_cons (pv 0) (pa_cons (pe_glob (v := .ref C) rfl gC rfl) pa_nil))))) (pss_one (ps_raise rfl (takes_of rfl rfl rfl rfl) (pmk_xn1 TM (raises_own TM.exC TM.tyC) hr EM.hs (pa_cons (pv 0) pa_nil)))) pss_nil)), ?_⟩
  rcases h with ⟨x, dx, fs, rfl, hx, q⟩ | ⟨F, d, e, hd, q⟩
  · exact ⟨_, rfl, _, .ref C, _, .ref C, true, rfl, .own C, .base (.ins hx IC.cl IC.ha IC.hn IC.htk IC.hm), IC.me, _, rfl, q⟩
  · exact ⟨_, rfl, _, .ref C, _, .ref C, false, rfl, .own C, tyq_of (dq_ex e hd), NC.no _ (tyD_in d), _, rfl, _, rfl, v, rfl, fun dd hdd => q F H dd (Gr.refl e) hdd⟩
/-- check_mill(m), a statement, where it may raise -/
theorem sx_check {σ : L2.St} {F H : Hp} {C CM x : Addr} {m : MillD} {i : Nat} {W : WX} {D : Ends} (hi : σ[i]? = some (some (.ref x))) (hm : MillAt K F C x m) (e : Ex F H) (k : D.nx σ H) : tDrop (tCallSD (spCheckX K C CM) [] (WE W) (tCons (tVar i) tNil)) D σ H := by
  obtain ⟨dx, ro, sp, ru, v1, v2, v3, h1, _⟩ := hm.ex
  exact ⟨_, hi, .ref x, rfl, .inl ⟨x, dx, _, rfl, e _ _ h1, k⟩⟩
theorem sx_bad {σ : L2.St} {F H : Hp} {C CM : Addr} {d : PyData} {v : V} {i : Nat} {W : WX} {D : Ends} (hi : σ[i]? = some (some v)) (hd : Dq K F v d) (e : Ex F H) (k : Bad CM F H v (WE W σ)) : tDrop (tCallSD (spCheckX K C CM) [] (WE W) (tCons (tVar i) tNil)) D σ H :=
  ⟨_, hi, v, rfl, .inr ⟨F, d, e, hd, k⟩⟩
end
end R3

set_option Elab.async false
set_option linter.all false
set_option maxRecDepth 100000
set_option maxHeartbeats 4000000
/-! GENERAL: what is made, told by the values with a word on each, so that it can be changed later: new lists within new tuples. -/
namespace Dv
open PySem PySem.Spec PyProof.Rows L2 Evl
/-- each value stands to its item as R says -/
inductive AllP {β : Type} (R : Hp → V → β → Prop) (F : Hp) : List V → List β → Prop
  | nil : AllP R F [] []
  | cons {v : V} {x : β} {vs : List V} {xs : List β} (h : R F v x) (t : AllP R F vs xs) : AllP R F (v :: vs) (x :: xs)
section
variable {β : Type} {R : Hp → V → β → Prop} {F F' : Hp}
theorem AllP.mono (m : ∀ v x, R F v x → R F' v x) : ∀ {vs : List V} {xs : List β}, AllP R F vs xs → AllP R F' vs xs
  | _, _, .nil => .nil
  | _, _, .cons h t => .cons (m _ _ h) (t.mono m)
theorem AllP.imp {S : Hp → V → β → Prop} (m : ∀ v x, R F v x → S F' v x) : ∀ {vs : List V} {xs : List β}, AllP R F vs xs → AllP S F' vs xs
  | _, _, .nil => .nil
  | _, _, .cons h t => .cons (m _ _ h) (t.imp m)
theorem AllP.app : ∀ {vs us : List V} {xs ys : List β}, AllP R F vs xs → AllP R F us ys → AllP R F (vs ++ us) (xs ++ ys)
  | _, _, _, _, .nil, g => g
  | _, _, _, _, .cons h t, g => .cons h (t.app g)
theorem AllP.len : ∀ {vs : List V} {xs : List β}, AllP R F vs xs → vs.length = xs.length
  | _, _, .nil => rfl
  | _, _, .cons _ t => by rw [List.length_cons, List.length_cons, t.len]
theorem AllP.at : ∀ {vs : List V} {xs : List β} {i : Nat} {v : V}, AllP R F vs xs → vs[i]? = some v → ∃ x, xs[i]? = some x ∧ R F v x
  | _, _, 0, _, .cons h _, e => by cases e; exact ⟨_, rfl, h⟩
  | _, _, _ + 1, _, .cons _ t, e => t.at e
theorem AllP.dps {K : PySem.W.Frag} {enc : β → PyData} (d : ∀ v x, R F v x → Dp K F v (enc x)) : ∀ {vs : List V} {xs : List β}, AllP R F vs xs → DpAll K F vs (xs.map enc)
  | _, _, .nil => .nil
  | _, _, .cons h t => .cons (d _ _ h) (t.dps d)
theorem AllP.map {α : Type} {f : α → β} : ∀ {vs : List V} {xs : List α}, AllP (fun F v x => R F v (f x)) F vs xs → AllP R F vs (xs.map f)
  | _, _, .nil => .nil
  | _, _, .cons h t => .cons h (t.map)
end
section
variable {K : PySem.W.Frag} {σ : L2.St} {F : Hp} {te tl : TE} {ds : List PyData}
def EvP (te : TE) (σ : L2.St) (F : Hp) (Pd : Hp → V → Prop) : Prop := ∀ H, Ex F H → ∀ Q : VK, (∀ v F' H', Gr F H F' H' → Pd F' v → Q v H') → te σ H Q
/-- a new list, kept, and known as new -/
theorem el_new (h : EvL K te σ F ds) {H : Hp} (e : Ex F H) {Q : VK} (q : ∀ p us F' H', Gr F H F' H' → H p = none → F' p = some (.lst us) → DpAll K F' us ds → Q (.ref p) H') : te σ H Q :=
  h H e _ fun p vs F' H' g h1 h2 h3 h4 => q p vs _ H' (g.take h1 h2 h3) h1 upd_same (dps_ex (Ex.new h2) h4)
/-- (x, [..]), the list new -/
theorem ep_pair {i : Nat} {x : V} (hi : σ[i]? = some (some x)) (hl : EvL K tl σ F ds) : EvP (tTup (tCons (tVar i) (tCons tl tNil))) σ F fun F' v => ∃ T q us, v = .ref T ∧ F' T = some (.tup [x, .ref q]) ∧ F q = none ∧ F' q = some (.lst us) ∧ DpAll K F' us ds := fun H e Q q =>
  ⟨_, hi, el_new hl e fun p us F1 H1 g1 h1 h2 hd => ⟨sz_of (by simp), fun T hT => q _ _ _ (g1.trans (Gr.new g1.fh hT)) ⟨T, p, us, rfl, upd_same, ex_none e h1, Ex.new (ex_none g1.fh hT) _ _ h2, dps_ex (Ex.new (ex_none g1.fh hT)) hd⟩⟩⟩
theorem lcP_rule {α : Type} {wi : TI} {g : TG} {vs : List Nat} (R : Hp → V → α → Prop) (mono : ∀ F F' v x, Ex F F' → R F v x → R F' v x) (xs : List α) (enc : α → PyData) (hi : ItD K wi σ F (xs.map enc)) (hz : xs.length ≤ 40000)
    (hb : ∀ x, x ∈ xs → ∀ v F1, Ex F F1 → Dp K F1 v (enc x) → ∃ σ2, (∀ H, Ex F1 H → ∀ Q : L2.St → Hp → Prop, Q σ2 H → g v (wipe σ vs) H Q) ∧ wipe σ2 vs = wipe σ vs ∧ EvP te σ2 F1 fun F' u => R F' u x)
    {H : Hp} (eH : Ex F H) {Q : VK} (q : ∀ p ws F' H', Gr F H F' H' → H p = none → F' p = none → H' p = some (.lst ws) → AllP R F' ws xs → Q (.ref p) H') : tLc wi g tYes te vs σ H Q := hi H eH _ fun J F1 H1 g1 wd => by
  obtain ⟨G, Y, W, hG, hY⟩ := wd
  rw [List.length_map] at W
  intro D hD
  have fD : F1 D = none := ex_none g1.fh hD
  refine lc_it W (Pv := fun i H' => ∃ F' ws, Gr F1 H1 F' H' ∧ F' D = none ∧ H' D = some (.lst ws) ∧ AllP R F' ws (xs.take i)) ⟨F1, [], Gr.only g1.fh hD, fD, upd_same, by rw [List.take_zero]; exact .nil⟩
    (fun i H' _ p => ?_) (fun i v H2 H3 hin p y => ?_) (fun H' p => ?_)
  · obtain ⟨F', ws, g, _⟩ := p
    exact hG _ (g.fx.trans g.fh)
  · obtain ⟨F2, ws, g2, f2, h2, hw⟩ := p
    obtain ⟨F3, d, hd, g3, hv⟩ := hY F2 i H2 v H3 (by rw [List.length_map]; exact hin) g2.fx g2.fh y
    rw [List.getElem?_map, List.getElem?_eq_getElem hin] at hd
    cases hd
    have hx : xs[i] ∈ xs := List.getElem_mem hin
    obtain ⟨σ2, hg, hwp, he⟩ := hb xs[i] hx v F3 (g1.fx.trans (g2.fx.trans g3.fx)) hv
    refine hg H3 g3.fh _ ⟨hwp, ?_⟩
    have k3 := g3.keep h2 f2
    have tk : (xs.take (i + 1)) = xs.take i ++ [xs[i]] := List.take_succ_eq_append_getElem hin
    have wl : ws.length ≤ 40000 := by
      rw [hw.len, List.length_take]
      omega
    show te σ2 H3 _
    refine he H3 g3.fh _ fun v' F5 H5 g5 hv' => ?_
    have k5 := g5.keep k3.1 k3.2
    refine ⟨ws, k5.1, sz_lt (by omega), F5, ws ++ [v'], (g2.trans (g3.trans g5)).mut hD k5.2, k5.2, upd_same, ?_⟩
    rw [tk]
    exact (hw.mono fun v x h => mono _ _ v x (g3.fx.trans g5.fx) h).app (.cons hv' .nil)
  · obtain ⟨F', ws, g, fd, hd, hw⟩ := p
    rw [List.take_length] at hw
    exact q D ws F' H' (g1.trans g) (ex_none g1.hx hD) fd hd hw
end
end Dv

set_option Elab.async false
set_option linter.all false
set_option maxRecDepth 100000
set_option maxHeartbeats 4000000
/-! GENERAL: told lists are changed: for and append told by the values alone. -/
namespace Dv
open PySem PySem.Spec PyProof.Rows L2 Evl
section
variable {K : PySem.W.Frag} {σ : L2.St} {H : Hp} {te tl : TE} {ts : TS} {g : TG} {D : Ends} {xs : List V} {p l : Addr} {v : V}
theorem s_appV (h : ∀ Q : VK, Q (.ref l) H → tl σ H Q) (hl : H l = some (.lst xs)) (hz : xs.length < 100000) (k : D.nx σ (upd H l (.lst (xs ++ [v])))) : tDrop (tBM K "list" rAppend tl (tCons (tC v) tNil)) D σ H :=
  h _ ⟨Or.inl ⟨rfl, xs, sq_of hl⟩, ⟨l, xs, v, rfl, rfl, hl, sz_lt hz, k⟩⟩
theorem s_forV (h : ∀ Q : VK, Q (.ref p) H → te σ H Q) (hp : H p = some (.lst xs)) (Pv : Nat → L2.St → Hp → Prop) (h0 : Pv 0 σ H) (keep : ∀ n σ H, Pv n σ H → H p = some (.lst xs))
    (step : ∀ n v σ' H', xs[n]? = some v → Pv n σ' H' → g v σ' H' fun σ2 H2 => ts { D with nx := Pv (n + 1), ct := Pv (n + 1), bk := D.nx } σ2 H2)
    (hd : ∀ σ' H', Pv xs.length σ' H' → D.nx σ' H') : tFor (iList K te) g ts D σ H :=
  h _ ⟨p, rfl, ⟨xs, SqL.of hp⟩, for_it (walk_list (xs := xs)) Pv h0 (fun n σ' H' _ q => SqL.of (keep n σ' H' q)) (fun n v σ' H' H2 hn q y => by
    obtain ⟨rfl, hx⟩ := y
    exact step n v σ' _ hx q) hd⟩
end
end Dv

set_option Elab.async false
set_option linter.all false
set_option maxRecDepth 100000
set_option maxHeartbeats 4000000
/-! xs + ys and xs * k of lists that are read (tracked, frozen, or the module's). -/
namespace PySem
namespace OC
open Sem (wp)
theorem list_mulW (l : Addr) (items : Array Value) (n : Nat) (dd : Option Addr) (sl : Array (Option Value)) (x : Int) (u : Tok) (hc0 : ¬(!Builtin.List.listFitsIndex x) = true) (hc1 : ¬items.size * x.toNat > (2 ^ 63 - 1) / 8) (hc2 : ¬Builtin.List.listTooLong (items.size * x.toNat) = true) :
    Meets (Builtin.«list.__mul__» ⟨[.ref l, .int x u], []⟩) (fun _ R s => s.heap.get? l = some { cls := .type "list", dict := dd, data := .seq items n, slots := sl } ∧ R (.ok (.ret (Value.ref s.heap.objs.size))) { s with heap := s.heap.push { cls := Value.type "list", data := Data.seq (List.foldl (fun x1 x2 => x1 ++ x2) #[] (List.replicate (if items.isEmpty = true then 0 else x.toNat) items)) }, toks := s.toks }) :=
  .of_wp fun prog w A R s h => by
    obtain ⟨hp, g, d, tk, os⟩ := s; obtain ⟨hl, h⟩ := h
    have hsz := AutoListH.joined_fits hc2
    wp_walk; refine wpAny_ite_false (decide_eq_false (Nat.not_lt.mpr hsz)) ?_; wp_walk; exact ⟨_, rfl, h⟩
theorem int_rmulW (a : Int) (t : Tok) (l : Addr) (items : Array Value) (n : Nat) (dd : Option Addr) (sl : Array (Option Value)) :
    Meets (Builtin.«int.__rmul__» ⟨[.int a t, .ref l], []⟩) (fun _ R s => s.heap.get? l = some { cls := .type "list", dict := dd, data := .seq items n, slots := sl } ∧ R (.ok (.ret Value.notImplemented)) s) :=
  .of_wp fun prog w A R s h => by obtain ⟨hp, g, d, tk, os⟩ := s; obtain ⟨hl, h⟩ := h; wp_walk; exact ⟨_, rfl, h⟩
end OC
end PySem
namespace L2
open PySem PySem.Spec PyProof.Rows
section
variable {X : Cx}
def rCatS (K : PySem.W.Frag) : R2 := fun x y H Q => ∃ l b xs zs, x = .ref l ∧ y = .ref b ∧ SqL K H l xs ∧ SqL K H b zs ∧ xs.length + zs.length ≤ sizeLine ∧ ∀ p, H p = none → Q (.ref p) (upd H p (.lst (xs ++ zs)))
theorem op_catS : OpR X (binaryOp .Add) (rCatS X.K) := by
  intro pins s σ H x y v u Q I rx ry h
  obtain ⟨l, b, xs, zs, rfl, rfl, hH, hB, hz, q⟩ := h
  cases rx
  cases ry
  obtain ⟨its, r, ⟨⟨cls, dd, data, sl⟩, n, ho, hc, hdd, hd⟩, _⟩ := I.list hH
  obtain ⟨its2, r2, ⟨⟨cls2, dd2, data2, sl2⟩, n2, ho2, hc2, hdd2, hd2⟩, _⟩ := I.list hB
  simp only at hc hd hc2 hd2 hdd hdd2
  subst hc hd hc2 hd2
  have l1 := r.length
  have l2 := r2.length
  refine concat_meets ⟨_, ho, rfl⟩ ⟨_, ho2, rfl⟩ noFill_list_add seq_list_add PySem.F.slot_list_add PySem.F.entry_list_add (PySem.F.args_list_add_2 _ _) (list_addW l b its.toArray its2.toArray n n2 dd dd2 sl sl2 (by rw [List.size_toArray, List.size_toArray]; omega)) ⟨ho, ho2, ?_⟩
  have ea : its.toArray ++ its2.toArray = (its ++ its2).toArray := by simp
  rw [ea]
  exact ⟨.ref _, _, I.lnew (t' := s.toks) (r.append r2) (by rw [List.length_append]; omega), rfl, q _ I.fresh⟩
def rRepS (K : PySem.W.Frag) : R2 := fun x y H Q => ∃ l k xs, x = .ref l ∧ y = .int k ∧ SqL K H l xs ∧ -(2 ^ 63) ≤ k ∧ k < 2 ^ 63 ∧ xs.length * k.toNat ≤ sizeLine ∧
  ∀ p, H p = none → Q (.ref p) (upd H p (.lst (List.replicate k.toNat xs).flatten))
theorem op_repS : OpR X (binaryOp .Mult) (rRepS X.K) := by
  intro pins s σ H x y v u Q I rx ry h
  obtain ⟨l, k, xs, rfl, rfl, hH, h1, h2, hz, q⟩ := h
  cases rx
  obtain ⟨t, rfl⟩ := ry
  obtain ⟨its, r, ⟨⟨cls, dd, data, sl⟩, n, e, hc, hdd, hd⟩, _⟩ := I.list hH
  simp only at hc hd hdd
  subst hc hd
  have hl := r.length
  have hlen : its.toArray.size * k.toNat ≤ sizeLine := by rw [List.size_toArray, ← hl]; exact hz
  have hcap : ¬ its.toArray.size * k.toNat > (2 ^ 63 - 1) / 8 := by
    have : (sizeLine : Nat) ≤ (2 ^ 63 - 1) / 8 := by decide
    omega
  have hfit : ¬ (!Builtin.List.listFitsIndex k) = true := by
    rw [fitsIndex_both h1 h2]
    exact Bool.false_ne_true
  have hlong : ¬ Builtin.List.listTooLong (its.toArray.size * k.toNat) = true := by
    rw [notLongL hlen]
    exact Bool.false_ne_true
  have hnew : List.foldl (fun x1 x2 => x1 ++ x2) #[] (List.replicate (if its.toArray.isEmpty = true then 0 else k.toNat) its.toArray) = (List.replicate k.toNat its).flatten.toArray := by
    have f0 : ∀ m : Nat, List.foldl (fun x1 x2 => x1 ++ x2) #[] (List.replicate m its.toArray) = (List.replicate m its).flatten.toArray := fun m => by
      have := foldl_rep its m []
      rw [List.nil_append] at this
      exact this
    rw [f0]
    cases its with
    | nil => simp
    | cons a r' => rw [if_neg (by simp)]
  refine wpAny_binaryOp_repeat_ref (T := "list") (U := "int") (by decide) ⟨_, e, rfl⟩ (fun s' => typeIs_int s' k t) noFill_list_mul F.fills_int_mul F.slot_int_rmul repeat_list F.slot_int_index.lookup
    (call_meets F.slot_int_rmul (typeIs_int s k t) F.entry_int_rmul (F.args_int_rmul_2 _ _) (OC.int_rmulW k t l its.toArray n dd sl)
      ⟨e, rfl, ⟨_, e, rfl⟩, call_meets F.slot_list_mul ⟨_, e, rfl⟩ F.entry_list_mul (F.args_list_mul_2 _ _) (OC.list_mulW l its.toArray n dd sl k t hfit hcap hlong) ⟨e, ?_⟩⟩)
  rw [hnew]
  exact ⟨.ref _, _, I.lnew (t' := s.toks) (r.rep k.toNat) (by rw [PyProof.Rows.lm_len_rep_flat, Nat.mul_comm]; exact hz), rfl, q _ I.fresh⟩
end
end L2
namespace Dv
open PySem PySem.Spec PyProof.Rows L2 Evl
section
variable {K : PySem.W.Frag} {σ : L2.St} {F : Hp} {ta tb : TE} {ds es : List PyData}
/-- xs + ys of data -/
theorem el_catS (ha : EvD K ta σ F (.list ds)) (hb : EvD K tb σ F (.list es)) (hz : ds.length + es.length ≤ 100000) : EvL K (tOp (rCatS K) ta tb) σ F (ds ++ es) := fun H e Q q =>
  ha H e _ fun v F1 H1 g1 hv => (Dv.EvD.mono g1.fx hb) H1 g1.fh _ fun u F2 H2 g2 hu => by
    cases hv with
    | lst hs hd =>
      cases hu with
      | lst hs2 hd2 =>
        refine ⟨_, _, _, _, rfl, rfl, ex_l g2.fh (ex_l g2.fx hs), ex_l g2.fh hs2, by
          rw [dps_len hd, dps_len hd2]
          exact sz_of hz, fun r hr => q r _ F2 _ ((g1.trans g2).trans (Gr.only g2.fh hr)) (ex_none (g1.trans g2).hx hr) (ex_none g2.fh hr) upd_same (dps_app (dps_ex g2.fx hd) hd2)⟩
theorem dps_rep {F : Hp} {vs : List V} {ds : List PyData} (h : DpAll K F vs ds) : ∀ n : Nat, DpAll K F (List.replicate n vs).flatten (List.replicate n ds).flatten
  | 0 => .nil
  | n + 1 => by
    rw [List.replicate_succ, List.replicate_succ, List.flatten_cons, List.flatten_cons]
    exact dps_app h (dps_rep h n)
/-- xs * k of data -/
theorem el_repS {k : Int} (ha : EvD K ta σ F (.list ds)) (hb : EvD K tb σ F (.int k)) (h1 : -(2 ^ 63) ≤ k) (h2 : k < 2 ^ 63) (hz : ds.length * k.toNat ≤ 100000) : EvL K (tOp (rRepS K) ta tb) σ F (List.replicate k.toNat ds).flatten := fun H e Q q =>
  ha H e _ fun v F1 H1 g1 hv => (Dv.EvD.mono g1.fx hb) H1 g1.fh _ fun u F2 H2 g2 hu => by
    cases hu
    cases hv with
    | lst hs hd =>
      refine ⟨_, _, _, rfl, rfl, ex_l g2.fh (ex_l g2.fx hs), h1, h2, by
        rw [dps_len hd]
        exact sz_of hz, fun r hr => q r _ F2 _ ((g1.trans g2).trans (Gr.only g2.fh hr)) (ex_none (g1.trans g2).hx hr) (ex_none g2.fh hr) upd_same (dps_rep (dps_ex g2.fx hd) _)⟩
end
end Dv

set_option Elab.async false
set_option linter.all false
set_option maxRecDepth 100000
set_option maxHeartbeats 4000000
/-! GENERAL: lists that were told and are lengthened later: what is known goes back to what it was ahead of them -/
namespace Dv
open PySem PySem.Spec PyProof.Rows L2 Evl
/-- H2 is H1 but for the lists in S, which F does not know -/
structure Mu (S : Addr → Prop) (F F1 H1 H2 : Hp) (n : Nat) : Prop where
  out : ∀ a, ¬ S a → H2 a = H1 a
  ins : ∀ a, S a → F a = none ∧ ∃ xs ys, F1 a = some (.lst xs) ∧ H2 a = some (.lst ys) ∧ ys.length ≤ n
section
variable {S : Addr → Prop} {F F1 H H1 H2 : Hp} {n : Nat} {q : Addr} {xs : List V} {v : V}
theorem Mu.refl : Mu (fun _ => False) F F1 H1 H1 n := ⟨fun _ _ => rfl, fun _ h => h.elim⟩
theorem Mu.app (m : Mu S F F1 H1 H2 n) (fq : F q = none) (hq : F1 q = some (.lst xs)) (hl : xs.length ≤ n) (e : Ex F1 H1) : ∃ ys, H2 q = some (.lst ys) ∧ ys.length ≤ n ∧ Mu (fun a => S a ∨ a = q) F F1 H1 (upd H2 q (.lst (ys ++ [v]))) (n + 1) := by
  obtain ⟨ys, hy, hyl⟩ : ∃ ys, H2 q = some (.lst ys) ∧ ys.length ≤ n := by
    by_cases h : S q
    · obtain ⟨_, _, ys, _, h2, h3⟩ := m.ins q h
      exact ⟨ys, h2, h3⟩
    · exact ⟨xs, by rw [m.out q h]; exact e _ _ hq, hl⟩
  refine ⟨ys, hy, hyl, fun a h => ?_, fun a h => ?_⟩
  · rw [upd_ne (fun z => h (.inr z))]
    exact m.out a fun z => h (.inl z)
  · by_cases z : a = q
    · subst z
      exact ⟨fq, xs, ys ++ [v], hq, upd_same, by rw [List.length_append]; simp; omega⟩
    · rcases h with h | h
      · obtain ⟨h1, xs', ys', h2, h3, h4⟩ := m.ins a h
        exact ⟨h1, xs', ys', h2, by rw [upd_ne z]; exact h3, by omega⟩
      · exact absurd h z
/-- back to F -/
theorem Mu.gr (m : Mu S F F1 H1 H2 n) (g : Gr F H F1 H1) : Gr F H F H2 := by
  refine ⟨Ex.refl F, fun a o h => ?_, fun a o h => ?_, fun a h1 h2 => absurd h1 h2⟩
  · rw [m.out a fun z => by rw [(m.ins a z).1] at h; cases h]
    exact g.fh _ _ (g.fx _ _ h)
  · rw [m.out a fun z => by
      obtain ⟨h1, xs, ys, h2, _⟩ := m.ins a z
      have := g.fr a h1 (by rw [h2]; exact fun z => nomatch z)
      rw [this] at h
      cases h]
    exact g.hx _ _ h
/-- F1 without the lists that are new in it -/
def nol (F F1 : Hp) : Hp := fun a => match F a with
  | some o => some o
  | none => match F1 a with
    | some (.lst _) => none
    | o => o
theorem nol_of {o : HO} {a : Addr} (e : Ex F F1) (h : F1 a = some o) (n : (∀ xs, o ≠ .lst xs) ∨ F a ≠ none) : nol F F1 a = some o := by
  unfold nol
  cases hF : F a with
  | some u =>
    have := e _ _ hF
    rw [h] at this
    exact this.symm
  | none =>
    rcases n with n | n
    · rw [h]
      cases o <;> first | rfl | exact absurd rfl (n _)
    · exact absurd hF n
theorem of_nol {o : HO} {a : Addr} (e : Ex F F1) (h : nol F F1 a = some o) : F1 a = some o ∧ ((∀ xs, o ≠ .lst xs) ∨ F a ≠ none) := by
  unfold nol at h
  cases hF : F a with
  | some u =>
    rw [hF] at h
    cases h
    exact ⟨e _ _ hF, .inr fun z => nomatch z⟩
  | none =>
    rw [hF] at h
    cases h1 : F1 a with
    | none => rw [h1] at h; cases h
    | some u =>
      rw [h1] at h
      cases u <;> first | (cases h; exact ⟨rfl, .inl fun xs z => nomatch z⟩) | cases h
theorem Mu.nol (m : Mu S F F1 H1 H2 n) (g : Gr F H F1 H1) : Gr F H (nol F F1) H2 := by
  refine ⟨fun a o h => nol_of g.fx (g.fx _ _ h) (.inr (by rw [h]; exact fun z => nomatch z)), fun a o h => ?_, (m.gr g).hx, fun a h1 h2 => ?_⟩
  · obtain ⟨h1, h2⟩ := of_nol g.fx h
    rw [m.out a fun z => by
      obtain ⟨k1, xs, ys, k2, _⟩ := m.ins a z
      rw [h1] at k2
      cases k2
      rcases h2 with h2 | h2
      · exact h2 _ rfl
      · exact h2 k1]
    exact g.fh _ _ h1
  · cases h : Dv.nol F F1 a with
    | none => exact absurd h h2
    | some o => exact g.fr a h1 (by rw [(of_nol g.fx h).1]; exact fun z => nomatch z)
mutual
/-- no list within -/
def noList : PyData → Bool
  | .list _ => false
  | .tuple ds => noLists ds
  | _ => true
def noLists : List PyData → Bool
  | [] => true
  | d :: ds => noList d && noLists ds
end
mutual
theorem dp_nol {K : PySem.W.Frag} (e : Ex F F1) : ∀ {d : PyData} {v : V}, noList d = true → Dp K F1 v d → Dp K (nol F F1) v d
  | .none, _, _, h => by cases h; exact .non
  | .bool b, _, _, h => by cases h; exact .bl b
  | .int i, _, _, h => by cases h; exact .int i
  | .str y, _, _, h => by cases h; exact .str y
  | .list ds, _, n, h => by rw [noList] at n; cases n
  | .tuple ds, _, n, h => by
    cases h with
    | tup hs ha =>
      refine .tup ?_ (dps_nol e (by rw [noList] at n; exact n) ha)
      rcases hs with (r | ⟨ob, r⟩) | r
      · exact .inl (.inl (nol_of e r (.inl fun xs z => nomatch z)))
      · exact .inl (.inr ⟨ob, nol_of e r (.inl fun xs z => nomatch z)⟩)
      · exact .inr r
  | .dict _, _, _, h => by cases h
theorem dps_nol {K : PySem.W.Frag} (e : Ex F F1) : ∀ {ds : List PyData} {vs : List V}, noLists ds = true → DpAll K F1 vs ds → DpAll K (nol F F1) vs ds
  | [], _, _, h => by cases h; exact .nil
  | d :: ds, _, n, h => by
    rw [noLists, Bool.and_eq_true] at n
    cases h with
    | cons h1 h2 => exact .cons (dp_nol e n.1 h1) (dps_nol e n.2 h2)
end
end
section
variable {K : PySem.W.Frag} {σ : L2.St} {F F1 H1 H2 : Hp} {te tl : TE} {ds : List PyData} {D : Ends} {S : Addr → Prop} {n : Nat} {q : Addr} {xs : List V}
/-- xs.append(c), a told list -/
theorem s_appMu {v : V} (m : Mu S F F1 H1 H2 n) (fq : F q = none) (hq : F1 q = some (.lst xs)) (hl : xs.length ≤ n) (hn : n < 90000) (e : Ex F1 H1) (hr : ∀ Q : VK, Q (.ref q) H2 → tl σ H2 Q) (k : ∀ H3, Mu (fun a => S a ∨ a = q) F F1 H1 H3 (n + 1) → D.nx σ H3) : tDrop (tBM K "list" rAppend tl (tCons (tC v) tNil)) D σ H2 := by
  obtain ⟨ys, hy, hyl, m2⟩ := m.app (v := v) fq hq hl e
  exact s_appV hr hy (by omega) (k _ m2)
/-- a comprehension that makes things of its items: R is told the list that is being made -/
theorem lcR_rule {α : Type} {wi : TI} {g : TG} {vs : List Nat} (R : Addr → Hp → V → α → Prop) (mono : ∀ D F F' v x, Ex F F' → R D F v x → R D F' v x) (xs : List α) (enc : α → PyData) (hi : ItD K wi σ F (xs.map enc)) (hz : xs.length ≤ 40000)
    (hb : ∀ x, x ∈ xs → ∀ v F1, Ex F F1 → Dp K F1 v (enc x) → ∃ σ2, (∀ H, Ex F1 H → ∀ Q : L2.St → Hp → Prop, Q σ2 H → g v (wipe σ vs) H Q) ∧ wipe σ2 vs = wipe σ vs ∧
      ∀ H D, Ex F1 H → F1 D = none → H D ≠ none → ∀ Q : VK, (∀ v F' H', Gr F1 H F' H' → R D F' v x → Q v H') → te σ2 H Q)
    {H : Hp} (eH : Ex F H) {Q : VK} (q : ∀ p ws F' H', Gr F H F' H' → H p = none → F' p = none → H' p = some (.lst ws) → AllP (R p) F' ws xs → Q (.ref p) H') : tLc wi g tYes te vs σ H Q := hi H eH _ fun J F1 H1 g1 wd => by
  obtain ⟨G, Y, W, hG, hY⟩ := wd
  rw [List.length_map] at W
  intro D hD
  have fD : F1 D = none := ex_none g1.fh hD
  refine lc_it W (Pv := fun i H' => ∃ F' ws, Gr F1 H1 F' H' ∧ F' D = none ∧ H' D = some (.lst ws) ∧ AllP (R D) F' ws (xs.take i)) ⟨F1, [], Gr.only g1.fh hD, fD, upd_same, by rw [List.take_zero]; exact .nil⟩
    (fun i H' _ p => ?_) (fun i v H2 H3 hin p y => ?_) (fun H' p => ?_)
  · obtain ⟨F', ws, g, _⟩ := p
    exact hG _ (g.fx.trans g.fh)
  · obtain ⟨F2, ws, g2, f2, h2, hw⟩ := p
    obtain ⟨F3, d, hd, g3, hv⟩ := hY F2 i H2 v H3 (by rw [List.length_map]; exact hin) g2.fx g2.fh y
    rw [List.getElem?_map, List.getElem?_eq_getElem hin] at hd
    cases hd
    have hx : xs[i] ∈ xs := List.getElem_mem hin
    obtain ⟨σ2, hg, hwp, he⟩ := hb xs[i] hx v F3 (g1.fx.trans (g2.fx.trans g3.fx)) hv
    refine hg H3 g3.fh _ ⟨hwp, ?_⟩
    have k3 := g3.keep h2 f2
    have tk : (xs.take (i + 1)) = xs.take i ++ [xs[i]] := List.take_succ_eq_append_getElem hin
    have wl : ws.length ≤ 40000 := by
      rw [hw.len, List.length_take]
      omega
    show te σ2 H3 _
    refine he H3 D g3.fh k3.2 (by rw [k3.1]; exact fun z => nomatch z) _ fun v' F5 H5 g5 hv' => ?_
    have k5 := g5.keep k3.1 k3.2
    refine ⟨ws, k5.1, sz_lt (by omega), F5, ws ++ [v'], (g2.trans (g3.trans g5)).mut hD k5.2, k5.2, upd_same, ?_⟩
    rw [tk]
    exact (hw.mono fun v x h => mono _ _ _ v x (g3.fx.trans g5.fx) h).app (.cons hv' .nil)
  · obtain ⟨F', ws, g, fd, hd, hw⟩ := p
    rw [List.take_length] at hw
    exact q D ws F' H' (g1.trans g) (ex_none g1.hx hD) fd hd hw
end
end Dv

set_option Elab.async false
set_option linter.all false
set_option maxRecDepth 100000
set_option maxHeartbeats 4000000
/-! what a mill tells, as new lists; == of a mill and anything -/
namespace R3
open PySem PySem.Spec PyProof.Rows L2 Evl Dv
/-- a recipe told with new lists -/
def RecN (K : PySem.W.Frag) (N : Addr → Prop) (F0 : Hp) (F : Hp) (v : V) (r : RecD) : Prop := ∃ T q1 q2 us1 us2, v = .ref T ∧ F T = some (.tup [.str r.1, .ref q1, .ref q2]) ∧ F0 q1 = none ∧ F0 q2 = none ∧ N q1 ∧ N q2 ∧ F q1 = some (.lst us1) ∧ DpAll K F us1 (r.2.1.map encPart) ∧ F q2 = some (.lst us2) ∧ DpAll K F us2 (r.2.2.map encPart)
theorem RecN.mono {K : PySem.W.Frag} {N : Addr → Prop} {F0 F F' : Hp} (e : Ex F F') {v : V} {r : RecD} (h : RecN K N F0 F v r) : RecN K N F0 F' v r := by
  obtain ⟨T, q1, q2, us1, us2, a, b, c, d, n1, n2, f, g, h, i⟩ := h
  exact ⟨T, q1, q2, us1, us2, a, e _ _ b, c, d, n1, n2, e _ _ f, dps_ex e g, e _ _ h, dps_ex e i⟩
theorem RecN.imp {K : PySem.W.Frag} {N N' : Addr → Prop} {F0 F1 F : Hp} (e : Ex F0 F1) (n : ∀ q, N q → N' q) {v : V} {r : RecD} (h : RecN K N F1 F v r) : RecN K N' F0 F v r := by
  obtain ⟨T, q1, q2, us1, us2, a, b, c, d, n1, n2, f⟩ := h
  exact ⟨T, q1, q2, us1, us2, a, b, ex_none e c, ex_none e d, n _ n1, n _ n2, f⟩
/-- those lists were there ahead of a later object -/
theorem RecN.ne {K : PySem.W.Frag} {N : Addr → Prop} {F0 F H : Hp} {p : Addr} (e : Ex F H) (hp : H p = none) {v : V} {r : RecD} (h : RecN K N F0 F v r) : RecN K (fun q => N q ∧ q ≠ p) F0 F v r := by
  obtain ⟨T, q1, q2, us1, us2, a, b, c, d, n1, n2, f, g, h, i⟩ := h
  exact ⟨T, q1, q2, us1, us2, a, b, c, d, ⟨n1, fun z => by rw [z] at f; have := e _ _ f; rw [hp] at this; cases this⟩, ⟨n2, fun z => by rw [z] at h; have := e _ _ h; rw [hp] at this; cases this⟩, f, g, h, i⟩
theorem RecN.dp {K : PySem.W.Frag} {N : Addr → Prop} {F0 F : Hp} {v : V} {r : RecD} (h : RecN K N F0 F v r) : Dp K F v (encRecipe r) := by
  obtain ⟨T, q1, q2, us1, us2, rfl, b, c, d, n1, n2, f, g, h, i⟩ := h
  exact .tup (SqT.of b) (.cons (.str _) (.cons (.lst (SqL.of f) g) (.cons (.lst (SqL.of h) i) .nil)))
section
variable {P : Program} {w : World} {K : PySem.W.Frag} {mg : Str → Option Value} {base : Heap}
/-- (name, list(takes), list(gives)) -/
theorem rec_tup {σ : L2.St} {F : Hp} {r : RecD} {i j k : Nat} {x y z : V} {dy dz : PyData} (hx : σ[i]? = some (some x)) (hy : σ[j]? = some (some y)) (hz : σ[k]? = some (some z)) (kx : Dp K F x (.str r.1)) (ky : Dp K F y dy) (kz : Dp K F z dz) (ey : dy = .list (r.2.1.map encPart) ∨ dy = .tuple (r.2.1.map encPart)) (ez : dz = .list (r.2.2.map encPart) ∨ dz = .tuple (r.2.2.map encPart))
    {H : Hp} {N : Addr → Prop} (e : Ex F H) (hN : ∀ q, H q = none → N q) {Q : VK} (q : ∀ v F' H', Gr F H F' H' → RecN K N F F' v r → Q v H') :
    tTup (tCons (tVar i) (tCons (tCB (fun xs H Q => ∃ p ys, xs = [.ref p] ∧ (SqL K H p ys ∨ SqT K H p ys) ∧ ∀ l, H l = none → Q (.ref l) (upd H l (.lst ys))) (tCons (tVar j) tNil)) (tCons (tCB (fun xs H Q => ∃ p ys, xs = [.ref p] ∧ (SqL K H p ys ∨ SqT K H p ys) ∧ ∀ l, H l = none → Q (.ref l) (upd H l (.lst ys))) (tCons (tVar k) tNil)) tNil))) σ H Q := by
  refine ⟨x, hx, el_new (el_list (Dv.ev_var hy ky) ey) e fun q1 us1 F1 H1 g1 hq1 h1 d1 => ?_⟩
  refine el_new (F := F1) (el_list (Dv.ev_var hz (dp_ex g1.fx kz)) ez) g1.fh fun q2 us2 F2 H2 g2 hq2 h2 d2 => ?_
  refine ⟨sz_of (by simp), fun T hT => ?_⟩
  cases kx
  have g := (g1.trans g2).trans (Gr.new (o := .tup [V.str r.1, .ref q1, .ref q2]) g2.fh hT)
  have e2 : Ex F2 (upd F2 T (.tup [V.str r.1, .ref q1, .ref q2])) := Ex.new (ex_none g2.fh hT)
  exact q _ _ _ g ⟨T, q1, q2, us1, us2, rfl, upd_same, ex_none e hq1, ex_none (e.trans g1.hx) hq2, hN _ hq1, hN _ (ex_none g1.hx hq2), e2 _ _ (g2.fx _ _ h1), dps_ex (g2.fx.trans e2) d1, e2 _ _ h2, dps_ex e2 d2⟩
def spNames (K : PySem.W.Frag) (C : Addr) : Sp := fun vs H Q _ => ∃ (F : Hp) (x : Addr) (m : MillD), vs = [.ref x] ∧ Ex F H ∧ MillAt K F C x m ∧ ∀ p ws F' H', Gr F H F' H' → H p = none → F' p = none → H' p = some (.lst ws) → DpAll K F' ws (m.titles.map PyData.str) → Q (.ref p) H'
theorem keys_list {F : Hp} {m : MillD} {v3 : List V} (h : v3.length = m.recipes.length) : ((m.recipes.map fun z => (Sum.inr z.1 : Key)).zip v3).map (fun kv => kV kv.1) = m.titles.map V.str := by
  have : ((m.recipes.map fun z => (Sum.inr z.1 : Key)).zip v3).map (fun kv => kV kv.1) = (((m.recipes.map fun z => (Sum.inr z.1 : Key)).zip v3).map Prod.fst).map kV := by rw [List.map_map] <;> rfl
  rw [this, zip_fst (by rw [List.length_map]; exact h), List.map_map]
  unfold MillD.titles
  rw [List.map_map]
  rfl
theorem dps_strs {F : Hp} : ∀ xs : List Str, DpAll K F (xs.map V.str) (xs.map PyData.str)
  | [] => .nil
  | x :: xs => .cons (.str x) (dps_strs xs)
theorem sc_Mill_names : FnScope (["self"] : List Str) (["self"] : List Str) (defScope sMillNames) := ⟨rfl, rfl, rfl, by decide +kernel, rfl, by decide +kernel, by decide +kernel⟩
theorem ok_mill_names {C : Addr} (D : DefM K C "names" "Mill.names" sMillNames []) (B : Bl mg) (MC : MillC K C) : CalM P w K mg base C "names" [] 1 (spNames K C) := by
  refine calM_mk D sc_Mill_names (fun vs H Q E h => ?_) (fun f cdv A outer s H vs Q E hr h => ?_)
  · obtain ⟨F, x, m, rfl, _⟩ := h
    rfl
  obtain ⟨F, x, m, rfl, e, hm, q⟩ := h
  refine ⟨_, (pss_one (ps_ret (pe_callTy (call_list_dK (by rfl)) (by rfl) B.list (by decide +kernel) (pa_cons (pe_fld (pv 0) rfl) pa_nil)))), ?_⟩
  have st : start ["self"] [V.ref x] = [some (.ref x)] := rfl
  rw [st]
  obtain ⟨dx, ro, sp, ru, v1, v3, hx, hro, hv1, hru, hv3, hlk⟩ := hm.rules
  have v3l : v3.length = m.recipes.length := by rw [dps_len hv3, List.length_map]
  refine fld_ref rfl hx MC.cl MC.rules fl3 H e _ ?_
  refine ⟨ru, _, rfl, e _ _ hru, fun l hl => ?_⟩
  rw [keys_list (F := F) v3l]
  exact q l _ F _ (Gr.only e hl) hl (ex_none e hl) upd_same (dps_strs _)
def spRecipesN (K : PySem.W.Frag) (C : Addr) : Sp := fun vs H Q _ => ∃ (F : Hp) (x : Addr) (m : MillD), vs = [.ref x] ∧ Ex F H ∧ MillAt K F C x m ∧ m.recipes.length ≤ 8 ∧ ∀ p ws F' H', Gr F H F' H' → H p = none → F' p = none → H' p = some (.lst ws) → AllP (RecN K (· ≠ p) F) F' ws m.recipes → Q (.ref p) H'
theorem ok_mill_recipesN {C : Addr} (D : DefM K C "recipes" "Mill.recipes" sMillRecipes []) (B : Bl mg) (MC : MillC K C) : CalM P w K mg base C "recipes" [] 1 (spRecipesN K C) := by
  refine calM_mk D sc_Mill_recipes (fun vs H Q E h => ?_) (fun f cdv A outer s H vs Q E hr h => ?_)
  · obtain ⟨F, x, m, rfl, _⟩ := h
    rfl
  obtain ⟨F, x, m, rfl, e, hm, h8, q⟩ := h
  refine ⟨_, (pss_one (ps_ret (pe_lock (pe_lc (own := [("name", 1), ("takes", 2), ("gives", 3)]) (g := gTup K 2 (gCons (gName 1) (gCons (gTup K 2 (gCons (gName 2) (gCons (gName 3) gNil))) gNil))) rfl sc_Mill_recipes.nd (pi_items (pe_fld (pv 0) rfl)) (blkOk_by (own := [("name", 1), ("takes", 2), ("gives", 3)]) (N := ["self", "name", "takes", "gives"]) (sc := defScope sMillRecipes) (by decide +kernel)) (fun _ _ _ _ _ => (pg_tup (by rfl) (pgs_cons (pg_name (i := 1) sc_Mill_recipes.nd rfl (.inl rfl)) (pgs_cons (pg_tup (by rfl) (pgs_cons (pg_name (i := 2) sc_Mill_recipes.nd rfl (.inl rfl)) (pgs_cons (pg_name (i := 3) sc_Mill_recipes.nd rfl (.inl rfl)) pgs_nil))) pgs_nil))))  (fun _ _ _ _ _ => pts_nil) (fun _ _ _ _ _ => (pe_tup (pa_cons (pv 1) (pa_cons (pe_callTy (T := "list") (r := fun xs H Q => ∃ p ys, xs = [.ref p] ∧ (SqL K H p ys ∨ SqT K H p ys) ∧ ∀ l, H l = none → Q (.ref l) (upd H l (.lst ys))) call_list_of (by rfl) B.list (by decide +kernel) (pa_cons (pv 2) pa_nil)) (pa_cons (pe_callTy (T := "list") (r := fun xs H Q => ∃ p ys, xs = [.ref p] ∧ (SqL K H p ys ∨ SqT K H p ys) ∧ ∀ l, H l = none → Q (.ref l) (upd H l (.lst ys))) call_list_of (by rfl) B.list (by decide +kernel) (pa_cons (pv 3) pa_nil)) pa_nil))))))))), ?_⟩
  have st : start ["self", "name", "takes", "gives"] [V.ref x] = [some (.ref x), none, none, none] := rfl
  rw [st]
  obtain ⟨mdx, ro, sp, ru, v1, v3, hml, hro, hv1, hru, hv3, hlk⟩ := hm.rules
  have v3l : v3.length = (m.recipes.map fun z => (Sum.inr z.1 : Key)).length := by rw [dps_len hv3, List.length_map, List.length_map]
  have n6 : NoSq (F ru) := by rw [hru]; exact noSq_dK
  refine ⟨ru, _, e _ _ hru, trivial, fun od => ?_⟩
  obtain ⟨hml', hm0⟩ := hlk od
  have it := it_itemsK (K := K) (td := tFld K (tVar 0) "rules") (σ := [some (.ref x), none, none, none]) (F := upd F ru (.frz od (.dK ((m.recipes.map fun z => (Sum.inr z.1 : Key)).zip v3)))) (names := m.recipes.map (·.1)) (es := m.recipes.map encRule) (fun H1 e1 Q q => fld_ref rfl hml' MC.cl MC.rules fl3 H1 e1 Q q) upd_same (by rw [zip_fst v3l, List.map_map] <;> rfl) (by rw [zip_snd v3l]; exact dps_put n6 hv3)
  rw [List.zip_map', List.map_map] at it
  generalize hu : HO.dK ((m.recipes.map fun z => (Sum.inr z.1 : Key)).zip v3) = u at *
  refine lcR_rule (K := K) (σ := [some (.ref x), none, none, none]) (fun D F' v r => RecN K (· ≠ D) (upd F ru (.frz od u)) F' v r) (fun D F1 F2 v r e h => h.mono e) m.recipes (fun r => PyData.tuple [.str r.1, encRule r]) it (by omega) (fun r hr v F1 e1 hv => ?_) (ex_upd e) fun p ws F' H' g h1 h2 h3 h4 => ?_
  · obtain ⟨y1, y2, y3, hy1, hy2, hy3, ht⟩ := tup12 hv
    refine ⟨[some (.ref x), some y1, some y2, some y3], fun H e Q q => ht 1 2 3 _ H e Q q, rfl, fun H1 D eH fD hD Q q => ?_⟩
    exact rec_tup (N := (· ≠ D)) (i := 1) (j := 2) (k := 3) rfl rfl rfl hy1 hy2 hy3 (.inr rfl) (.inr rfl) eH (fun q hq z => hD (by rw [← z]; exact hq)) fun v F' H' g h => q v F' H' g (h.imp e1 fun _ h => h)
  · obtain ⟨f1, f2, gg⟩ := Gr.unlock hru e g
    have hp : p ≠ ru := fun z => by
      subst z
      rw [upd_same] at h1
      cases h1
    have fr0 : ∀ {q : Addr}, (upd F ru (.frz od u)) q = none → F q = none ∧ q ≠ ru := fun {q} hq => by
      have : q ≠ ru := fun z => by rw [z, upd_same] at hq; cases hq
      exact ⟨by rw [upd_ne this] at hq; exact hq, this⟩
    refine ⟨f2, q p ws _ _ gg (by rw [upd_ne hp] at h1; exact h1) (by rw [upd_ne hp]; exact h2) (by rw [upd_ne hp]; exact h3) (h4.imp fun v r h => ?_)⟩
    obtain ⟨T, q1, q2, us1, us2, rfl, b, c, d, n1, n2, f, g, h, i⟩ := h
    have c' := fr0 c
    have d' := fr0 d
    have ns : NoSq (F' ru) := by rw [f1, ← hu]; exact noSq_frz
    refine ⟨T, q1, q2, us1, us2, rfl, ?_, c'.1, d'.1, n1, n2, by rw [upd_ne c'.2]; exact f, dps_put ns g, by rw [upd_ne d'.2]; exact h, dps_put ns i⟩
    rw [upd_ne fun z => by rw [z, f1] at b; cases b]
    exact b
end
end R3

set_option Elab.async false
set_option linter.all false
set_option maxRecDepth 100000
set_option maxHeartbeats 4000000
/-! == of a mill and anything; turned, also of what is no mill -/
namespace R3
open PySem PySem.Spec PyProof.Rows L2 Evl Dv
theorem mill_gk {m : MillD} (ok : m.Ok) (hl : ∀ r ∈ m.recipes, r.2.1.length ≤ 30000 ∧ r.2.2.length ≤ 30000) : SeqAt.shaped (.tuple [.list (m.stuffs.map encStuff), .list (m.recipes.map encRecipe)]) = true ∧ PyData.eqv (.tuple [.list (m.stuffs.map encStuff), .list (m.recipes.map encRecipe)]) (.tuple [.list (m.stuffs.map encStuff), .list (m.recipes.map encRecipe)]) = true := by
  have lay : PyData.canLay0 (.tuple [.list (m.stuffs.map encStuff), .list (m.recipes.map encRecipe)]) = true := by
    have h1 : PyData.canLayAll0 (m.stuffs.map encStuff) = true := layAll_iff.mpr fun d hd => by
      obtain ⟨z, hz, rfl⟩ := List.mem_map.mp hd
      have g := (ok.ss z hz).1
      have g1 := gds_iff.mp (gd_tup g).2 (.str z.1) (by simp)
      have := (gd_str g1).2
      obtain ⟨x, o⟩ := z
      cases o <;> simp [encStuff, encRoom, PyData.canLay0, PyData.canLayAll0, this]
    have h2 : PyData.canLayAll0 (m.recipes.map encRecipe) = true := layAll_iff.mpr fun d hd => by
      obtain ⟨r, hr, rfl⟩ := List.mem_map.mp hd
      have g := (ok.rs r hr).1
      have g0 := gds_iff.mp (gd_tup g).2
      have n1 := (gd_str (g0 (.str r.1) (by simp))).2
      have side : ∀ ps : List (Str × Int), gd (.list (ps.map encPart)) = true → PyData.canLayAll0 (ps.map encPart) = true := fun ps hp => layAll_iff.mpr fun d hd => by
        obtain ⟨z, hz, rfl⟩ := List.mem_map.mp hd
        rw [gd_lst, Bool.and_eq_true] at hp
        have gz := gds_iff.mp hp.2 _ hd
        have := (gd_str (gds_iff.mp (gd_tup gz).2 (.str z.1) (by simp))).2
        simp [encPart, PyData.canLay0, PyData.canLayAll0, this]
      have s1 := side r.2.1 (g0 _ (by simp))
      have s2 := side r.2.2 (g0 _ (by simp))
      simp [encRecipe, PyData.canLay0, PyData.canLayAll0, n1, s1, s2]
    simp [PyData.canLay0, PyData.canLayAll0, h1, h2]
  have dep : PyData.depth (.tuple [.list (m.stuffs.map encStuff), .list (m.recipes.map encRecipe)]) ≤ 10 := by
    have h1 : PyData.depthAll (m.stuffs.map encStuff) ≤ 2 := depAll_iff.mpr fun d hd => by
      obtain ⟨z, hz, rfl⟩ := List.mem_map.mp hd
      obtain ⟨x, o⟩ := z
      cases o <;> simp [encStuff, encRoom, PyData.depth, PyData.depthAll]
    have h2 : PyData.depthAll (m.recipes.map encRecipe) ≤ 6 := depAll_iff.mpr fun d hd => by
      obtain ⟨r, hr, rfl⟩ := List.mem_map.mp hd
      have side : ∀ ps : List (Str × Int), PyData.depthAll (ps.map encPart) ≤ 2 := fun ps => depAll_iff.mpr fun d hd => by
        obtain ⟨z, hz, rfl⟩ := List.mem_map.mp hd
        simp [encPart, PyData.depth, PyData.depthAll]
      have s1 := side r.2.1
      have s2 := side r.2.2
      simp only [encRecipe, PyData.depth, PyData.depthAll]
      omega
    simp only [PyData.depth, PyData.depthAll]
    omega
  refine ⟨?_, PySem.SeqAt.eqv_refl_plain _ (PySem.PyData.plain_of_canLay0 _ lay)⟩
  show (PyData.canLay0 _ && decide (PyData.depth _ ≤ 64)) = true
  rw [lay, decide_eq_true (Nat.le_trans dep (by decide))]
  rfl

def millT (m : MillD) : PyData := .tuple [.list (m.stuffs.map encStuff), .list (m.recipes.map encRecipe)]
theorem MillD.Ok.lens {m : MillD} (ok : m.Ok) : ∀ r ∈ m.recipes, r.2.1.length ≤ 30000 ∧ r.2.2.length ≤ 30000 := fun r hr => by
  have g0 := gds_iff.mp (gd_tup (ok.rs r hr).1).2
  have g1 := g0 (.list (r.2.1.map encPart)) (by simp)
  have g2 := g0 (.list (r.2.2.map encPart)) (by simp)
  rw [gd_lst, Bool.and_eq_true] at g1 g2
  have l1 := of_decide_eq_true g1.1
  have l2 := of_decide_eq_true g2.1
  rw [List.length_map] at l1 l2
  exact ⟨l1, l2⟩
theorem mill_sh {m : MillD} (ok : m.Ok) : SeqAt.shaped (millT m) = true ∧ PyData.eqv (millT m) (millT m) = true := mill_gk ok ok.lens
def spMillEqG (K : PySem.W.Frag) (C : Addr) : Sp := fun vs H Q _ => ∃ (F : Hp) (x : Addr) (y : V) (m : MillD), vs = [.ref x, y] ∧ Ex F H ∧ MillAt K F C x m ∧ m.Ok ∧
  ((∃ d, Dz K F y d ∧ ∀ F' H', Gr F H F' H' → Q (.bl false) H') ∨ ∃ z m2, y = .ref z ∧ MillAt K F C z m2 ∧ m2.Ok ∧ ∀ F' H', Gr F H F' H' → Q (.bl (PyData.eqv (millT m) (millT m2))) H')
section
variable {P : Program} {w : World} {K : PySem.W.Frag} {mg : Str → Option Value} {base : Heap}
theorem sc_Mill___eq__ : FnScope (["self", "other"] : List Str) (["self", "other"] : List Str) (defScope sMillEq) := ⟨rfl, rfl, rfl, by decide +kernel, rfl, by decide +kernel, by decide +kernel⟩
theorem ok_mill_eqG {C : Addr} (D : DefM K C "__eq__" "Mill.__eq__" sMillEq ["other"]) (B : Bl mg) (MC : MillC K C) (gC : mg "Mill" = some (.ref C)) (IC : C8.InsC K C) (NC : MillN K C) (M_stuffs : CalM P w K mg base C "stuffs" [] 1 (spStuffs K C)) (M_recipes : CalM P w K mg base C "recipes" [] 1 (spRecipes K C)) :
    CalM P w K mg base C "__eq__" ["other"] 2 (spMillEqG K C) := by
  refine calM_mk D sc_Mill___eq__ (fun vs H Q E h => ?_) (fun f cdv A outer s H vs Q E hr h => ?_)
  · obtain ⟨F, x, y, m, rfl, _⟩ := h
    rfl
  obtain ⟨F, x, y, m, rfl, e, hx, ok, hy⟩ := h
  refine ⟨_, (pss_cons (ps_if (pt_not (pt_val (pe_callB call_isi (by rfl) B.isi (by decide +kernel) (pa_cons (pv 1) (pa_cons (pe_glob (v := .ref C) rfl gC rfl) pa_nil))))) (pss_one (ps_ret pe_bl)) pss_nil)
      (pss_one (ps_ret (pe_cmpR (op_eqD hr.1.units) (pe_tup (pa_cons (pe_meth0C M_stuffs MC.cl hr (pv 0)) (pa_cons (pe_meth0C M_recipes MC.cl hr (pv 0)) pa_nil))) (pe_tup (pa_cons (pe_meth0C M_stuffs MC.cl hr (pv 1)) (pa_cons (pe_meth0C M_recipes MC.cl hr (pv 1)) pa_nil))) (nomark _))))), ?_⟩
  have st : start ["self", "other"] [V.ref x, y] = [some (.ref x), some y] := rfl
  rw [st]
  have h8 := ok.r2
  rcases hy with ⟨d, hd, q⟩ | ⟨z, m2, rfl, hz, ok2, q⟩
  · refine seq_of ?_
    refine ⟨_, rfl, _, .ref C, _, .ref C, false, rfl, .own C, tyz_of (dz_ex e hd), NC.no _ (tyD_in d), _, rfl, iteT ?_⟩
    exact q F H (Gr.refl e)
  · obtain ⟨dx, ro, sp, ru, v1, v2, v3, hyx, _⟩ := hz.ex
    obtain ⟨sh, eq⟩ := mill_sh ok
    obtain ⟨sh2, eq2⟩ := mill_sh ok2
    refine seq_of ?_
    refine ⟨_, rfl, _, .ref C, _, .ref C, true, rfl, .own C, .base (.ins (e _ _ hyx) IC.cl IC.ha IC.hn IC.htk IC.hm), IC.me, _, rfl, iteF ?_⟩
    unfold tNext
    dsimp only
    show tRet _ _ [some (.ref x), some (.ref z)] H
    have side : ∀ (i : Nat) (z : Addr) (m : MillD), m.recipes.length ≤ 8 → ([some (.ref x), some (.ref z)] : L2.St)[i]? = some (some (.ref z)) → MillAt K F C z m → True := fun _ _ _ _ _ _ => trivial
    have side : ∀ (i : Nat) (y : Addr) (m : MillD), m.recipes.length ≤ 8 → ([some (.ref x), some (.ref z)] : L2.St)[i]? = some (some (.ref y)) → MillAt K F C y m → EvD K (tTup (tCons (tMeth C "stuffs" (spStuffs K C) [] E0 (tVar i) tNil) (tCons (tMeth C "recipes" (spRecipes K C) [] E0 (tVar i) tNil) tNil))) [some (.ref x), some (.ref z)] F (millT m) := fun i y m h8 hi hz =>
      Dv.ev_tup (Dv.ea_cons (EvL.ev (el_stuffs MC hi hz)) (Dv.ea_cons (EvL.ev (el_recipes MC hi hz h8)) Dv.ea_nil)) (by simp)
    refine Dv.s_ret (K := K) (F := F) (d := .bool (PyData.eqv (millT m) (millT m2))) (Dv.ev_eqD (side 0 x m h8 rfl hx) (side 1 z m2 ok2.r2 rfl hz) sh sh2) e fun v F2 H2 g2 hv => ?_
    cases hv
    exact q F2 H2 g2
/-- turned of what is no mill -/
def spTurnedX (K : PySem.W.Frag) (CM : Addr) : Sp := fun vs H Q E => ∃ (F : Hp) (v : V) (d : PyData), vs = [v] ∧ Ex F H ∧ Dq K F v d ∧ Bad CM F H v E
theorem ok_turnedX (D : Def K mg "turned" sTurned ["mill"]) (B : Bl mg) {C CM : Addr} (MC : MillC K C) (X_check_mill : CalX P w K mg base "check_mill" ["value"] 1 (spCheckX K C CM)) (M_stuffs : CalM P w K mg base C "stuffs" [] 1 (spStuffs K C)) (M_recipes : CalM P w K mg base C "recipes" [] 1 (spRecipes K C)) (M_Mill : Mak P w K mg base "Mill" C ["stuffs", "recipes"] 5 (spMillInit K C)) :
    CalX P w K mg base "turned" ["mill"] 7 (spTurnedX K CM) := by
  refine calX_mk D sc_turned (fun vs H Q E h => ?_) (fun f cdv A outer s H vs Q E hr h => ?_)
  · obtain ⟨F, v, d, rfl, _⟩ := h
    rfl
  obtain ⟨F, v, d, rfl, e, hd, bad⟩ := h
  refine ⟨_, (pss_cons (ps_expr (pe_callXC X_check_mill hr (takes_of rfl rfl rfl rfl) (pa_cons (pv 0) pa_nil)))
      (pss_one (ps_ret (pe_makC M_Mill hr (pa_cons (pe_meth0C M_stuffs MC.cl hr (pv 0)) (pa_cons (pe_lc (own := [("name", 1), ("takes", 2), ("gives", 3)]) (g := gTup K 3 (gCons (gName 1) (gCons (gName 2) (gCons (gName 3) gNil)))) rfl sc_turned.nd (pi_list (pe_meth0C M_recipes MC.cl hr (pv 0))) (blkOk_by (own := [("name", 1), ("takes", 2), ("gives", 3)]) (N := ["mill", "name", "takes", "gives"]) (sc := defScope sTurned) (by decide +kernel)) (fun _ _ _ _ _ => (pg_tup (by rfl) (pgs_cons (pg_name (i := 1) sc_turned.nd rfl (.inl rfl)) (pgs_cons (pg_name (i := 2) sc_turned.nd rfl (.inl rfl)) (pgs_cons (pg_name (i := 3) sc_turned.nd rfl (.inl rfl)) pgs_nil)))))  (fun _ _ _ _ _ => pts_nil) (fun _ _ _ _ _ => (pe_tup (pa_cons (pv 1) (pa_cons (pv 3) (pa_cons (pv 2) pa_nil)))))) pa_nil)))))), ?_⟩
  have st : start ["mill", "name", "takes", "gives"] [v] = [some v, none, none, none] := rfl
  rw [st]
  exact seq_of (sx_bad (i := 0) rfl hd e bad)
end
end R3

set_option Elab.async false
set_option linter.all false
set_option maxRecDepth 100000
set_option maxHeartbeats 4000000
/-! _law_copied, _law_made_right -/
namespace R3
open PySem PySem.Spec PyProof.Rows L2 Evl Dv
theorem noLists_map {α : Type} (f : α → PyData) (h : ∀ z, noList (f z) = true) : ∀ xs : List α, noLists (xs.map f) = true
  | [] => rfl
  | x :: xs => by rw [List.map_cons, noLists, h, noLists_map f h xs]; rfl
theorem MillAt.nol {K : PySem.W.Frag} {F F1 : Hp} {C x : Addr} {m : MillD} (e : Ex F F1) (h : MillAt K F1 C x m) : MillAt K (nol F F1) C x m := by
  obtain ⟨dx, ro, sp, ru, v1, v2, v3, h1, h2, h3, h4, h5, h6, h7, r⟩ := h.ex
  have k : ∀ {a : Addr} {o : HO}, F1 a = some o → (∀ xs, o ≠ .lst xs) → Dv.nol F F1 a = some o := fun h n => nol_of e h (.inl n)
  refine ⟨dx, ro, sp, ru, v1, v2, v3, k h1 (fun xs z => nomatch z), k h2 (fun xs z => nomatch z), dps_nol e (noLists_map (fun z : Str × Option Int => encRoom z.2) (fun z => by cases hz : z.2 <;> rfl) _) h3, k h4 (fun xs z => nomatch z), dps_nol e (noLists_map (fun z : Str × Nat => PyData.int z.2) (fun z => rfl) _) h5, k h6 (fun xs z => nomatch z), dps_nol e (noLists_map encRule (fun z => ?_) _) h7, r⟩
  simp [encRule, noList, noLists, noLists_map encPart (fun z => rfl)]
theorem mill_lay {m : MillD} (ok : m.Ok) : (PyData.list (m.stuffs.map encStuff)).canLay0 = true ∧ (PyData.list (m.recipes.map encRecipe)).canLay0 = true ∧ (PyData.list (m.stuffs.map encStuff)).depth ≤ 62 ∧ (PyData.list (m.recipes.map encRecipe)).depth ≤ 62 := by
  have h := (mill_sh ok).1
  have h' : (PyData.canLay0 (millT m) && decide (PyData.depth (millT m) ≤ 64)) = true := h
  rw [Bool.and_eq_true, decide_eq_true_iff] at h'
  obtain ⟨h1, h2⟩ := h'
  simp only [millT, PyData.canLay0, PyData.canLayAll0, Bool.and_true, Bool.and_eq_true] at h1
  have d1 : PyData.depthAll (m.stuffs.map encStuff) ≤ 60 := depAll_iff.mpr fun d hd => by
    obtain ⟨z, hz, rfl⟩ := List.mem_map.mp hd
    obtain ⟨x, o⟩ := z
    cases o <;> simp [encStuff, encRoom, PyData.depth, PyData.depthAll]
  have d2 : PyData.depthAll (m.recipes.map encRecipe) ≤ 60 := depAll_iff.mpr fun d hd => by
    obtain ⟨r, hr, rfl⟩ := List.mem_map.mp hd
    have side : ∀ ps : List (Str × Int), PyData.depthAll (ps.map encPart) ≤ 2 := fun ps => depAll_iff.mpr fun d hd => by
      obtain ⟨z, hz, rfl⟩ := List.mem_map.mp hd
      simp [encPart, PyData.depth, PyData.depthAll]
    have s1 := side r.2.1
    have s2 := side r.2.2
    simp only [encRecipe, PyData.depth, PyData.depthAll]
    omega
  refine ⟨by rw [PyData.canLay0]; exact h1.1, by rw [PyData.canLay0]; exact h1.2, ?_, ?_⟩
  · rw [PyData.depth]; omega
  · rw [PyData.depth]; omega
theorem sh_of {d : PyData} (h : d.canLay0 = true) (hd : d.depth ≤ 64) : SeqAt.shaped d = true ∧ PyData.eqv d d = true := by
  refine ⟨?_, PySem.SeqAt.eqv_refl_plain _ (PySem.PyData.plain_of_canLay0 _ h)⟩
  show (d.canLay0 && decide (d.depth ≤ 64)) = true
  rw [h, decide_eq_true hd]
  rfl
def toldD (m : MillD) : PyData := .list [.list (m.stuffs.map encStuff), .list (m.recipes.map encRecipe), .list (m.titles.map PyData.str)]
theorem titles_lay {m : MillD} (ok : m.Ok) : (PyData.list (m.titles.map PyData.str)).canLay0 = true ∧ (PyData.list (m.titles.map PyData.str)).depth ≤ 62 := by
  constructor
  · rw [PyData.canLay0]
    refine layAll_iff.mpr fun d hd => ?_
    obtain ⟨t, ht, rfl⟩ := List.mem_map.mp hd
    obtain ⟨r, hr, rfl⟩ := List.mem_map.mp ht
    have g0 := gds_iff.mp (gd_tup (ok.rs r hr).1).2
    have := (gd_str (g0 (.str r.1) (by simp))).2
    simp [PyData.canLay0, this]
  · rw [PyData.depth]
    have : PyData.depthAll (m.titles.map PyData.str) ≤ 1 := depAll_iff.mpr fun d hd => by
      obtain ⟨t, ht, rfl⟩ := List.mem_map.mp hd
      simp [PyData.depth]
    omega
theorem told_sh {m : MillD} (ok : m.Ok) : SeqAt.shaped (toldD m) = true ∧ PyData.eqv (toldD m) (toldD m) = true := by
  obtain ⟨a, b, c, d⟩ := mill_lay ok
  obtain ⟨t1, t2⟩ := titles_lay ok
  refine sh_of ?_ ?_
  · simp only [toldD, PyData.canLay0, PyData.canLayAll0, Bool.and_true, Bool.and_eq_true] at a b t1 ⊢
    exact ⟨a, b, t1⟩
  · simp only [toldD, PyData.depth, PyData.depthAll] at c d t2 ⊢
    omega
section
variable {P : Program} {w : World} {K : PySem.W.Frag} {mg : Str → Option Value} {base : Heap}
theorem el_names {σ : L2.St} {F : Hp} {C ml : Addr} {m : MillD} {i : Nat} {E : XK} (MC : MillC K C) (hi : σ[i]? = some (some (.ref ml))) (hm : MillAt K F C ml m) : EvL K (tMeth C "names" (spNames K C) [] E (tVar i) tNil) σ F (m.titles.map PyData.str) := fun H e Q q => by
  obtain ⟨dx, ro, sp, ru, v1, v2, v3, hx, _⟩ := hm.ex
  exact ⟨_, hi, ml, dx, _, rfl, e _ _ hx, by rfl, F, ml, m, rfl, e, hm, q⟩
/-- x == y, x != y of two mills -/
theorem ev_ownV {σ : L2.St} {F : Hp} {C : Addr} {m m2 : MillD} {ta tb : TE} {f : Bool → Bool} (ha : EvO (fun F x => MillAt K F C x m) ta σ F) (hb : ∀ F', Ex F F' → EvO (fun F x => MillAt K F C x m2) tb σ F') (ok : m.Ok) (ok2 : m2.Ok) : EvD K (tOp (rOwnV K C (spMillEqG K C) E0 f) ta tb) σ F (.bool (f (PyData.eqv (millT m) (millT m2)))) := fun H e Q q =>
  ha H e _ fun x F1 H1 g1 hx => hb F1 g1.fx H1 g1.fh _ fun y F2 H2 g2 hy => by
    have hx2 := hx.mono g2.fx
    obtain ⟨dx, ro, sp, ru, v1, v2, v3, h1, _⟩ := hx2.ex
    obtain ⟨dy, ro', sp', ru', v1', v2', v3', h1', _⟩ := hy.ex
    exact ⟨x, dx, _, rfl, g2.fh _ _ h1, .inr ⟨y, dy, _, rfl, g2.fh _ _ h1'⟩, F2, x, .ref y, m, rfl, g2.fh, hx2, ok, .inr ⟨y, m2, rfl, hy, ok2, fun F' H' g => ⟨_, rfl, q _ F' H' ((g1.trans g2).trans g) (.bl _)⟩⟩⟩
theorem eo_mono {σ : L2.St} {F F1 : Hp} {C : Addr} {m : MillD} {te : TE} (e : Ex F F1) (h : EvO (fun F x => MillAt K F C x m) te σ F) : EvO (fun F x => MillAt K F C x m) te σ F1 := fun H eH Q q =>
  h H (e.trans eH) Q fun x F' H' g hx => q x _ H' (g.weak e eH) (hx.mono (ex_uni2 (eH.trans g.hx) g.fh))
theorem ev_ownV2 {σ : L2.St} {F : Hp} {C : Addr} {m m2 : MillD} {ta tb : TE} {f : Bool → Bool} {b : Bool} (ha : EvO (fun F x => MillAt K F C x m) ta σ F) (hb : EvO (fun F x => MillAt K F C x m2) tb σ F) (ok : m.Ok) (ok2 : m2.Ok) (hf : f (PyData.eqv (millT m) (millT m2)) = b) : EvD K (tOp (rOwnV K C (spMillEqG K C) E0 f) ta tb) σ F (.bool b) := hf ▸ ev_ownV ha (fun F' e => eo_mono e hb) ok ok2
theorem op_eqV {X : Cx} {C : Addr} {k j : Nat} {sp : Sp} (M : Dv.CalM X.prog X.w X.K X.mg X.base C "__eq__" ["other"] k sp) (N : Of.NoSub X.K C) (hr : RoomG j X.A) (hj : k ≤ j := by decide) : OpR X (compareOp .Eq) (rOwnV X.K C sp E0 id) := by
  obtain ⟨f, fd, hm, b, G⟩ := M.ex
  exact op_ownV G hm.at_ hm.fn N b pass0 (hr.mono hj)
theorem op_eqR {X : Cx} {C : Addr} {k j : Nat} {sp : Sp} (M : Dv.CalM X.prog X.w X.K X.mg X.base C "__eq__" ["other"] k sp) (N : Of.NoSub X.K C) (hr : RoomG j X.A) (hj : k ≤ j := by decide) : OpR X (compareOp .Eq) (rOwnR X.K C sp E0) := by
  obtain ⟨f, fd, hm, b, G⟩ := M.ex
  exact op_ownR G hm.at_ hm.fn N b pass0 (hr.mono hj)
/-- what != asks of the class -/
structure NeC (K : PySem.W.Frag) (C : Addr) : Prop where
  ne : PySem.W.findIn K (.ref C) "__ne__" = some (some (.builtin "object.__ne__"))
  hm : PySem.W.mroIn K C (.type "object") = some true
  no : Of.NoSub K C
theorem op_neV {X : Cx} {C : Addr} {k j : Nat} {sp : Sp} (M : Dv.CalM X.prog X.w X.K X.mg X.base C "__eq__" ["other"] k sp) (N : NeC X.K C) (hr : RoomG j X.A) (hj : k + 1 ≤ j := by decide) : OpR X (compareOp .NotEq) (rOwnV X.K C sp E0 (!·)) := by
  obtain ⟨f, fd, hm, b, G⟩ := M.ex
  exact op_ownNe G hm.at_ hm.fn N.ne N.hm N.no b pass0 (hr.mono hj)
/-- turned(m) -/
theorem eo_turned {σ : L2.St} {F : Hp} {C : Addr} {m : MillD} {i : Nat} {x : Addr} {E : XK} (hi : σ[i]? = some (some (.ref x))) (hx : MillAt K F C x m) (ok : m.Ok) : EvO (fun F y => MillAt K F C y m.turn) (tCall (spTurned K C) [] E (tCons (tVar i) tNil)) σ F := fun H e Q q => ⟨_, hi, F, x, m, rfl, e, hx, ok, q⟩
theorem ret_of {te : TE} {D : Ends} {σ : L2.St} {H : Hp} (h : te σ H D.rt) : tRet te D σ H := h
theorem lst2_of {ta tb : TE} {σ : L2.St} {H : Hp} {Q : VK} (h : ta σ H fun v H1 => tb σ H1 fun u H2 => ([v, u] : List V).length ≤ sizeLine ∧ ∀ p, H2 p = none → Q (.ref p) (upd H2 p (.lst [v, u]))) : tLst (tCons ta (tCons tb tNil)) σ H Q := h
theorem lst3_of {ta tb tc : TE} {σ : L2.St} {H : Hp} {Q : VK} (h : ta σ H fun v H1 => tb σ H1 fun u H2 => tc σ H2 fun x H3 => ([v, u, x] : List V).length ≤ sizeLine ∧ ∀ p, H3 p = none → Q (.ref p) (upd H3 p (.lst [v, u, x]))) : tLst (tCons ta (tCons tb (tCons tc tNil))) σ H Q := h
/-! _law_copied -/
def spCopied (K : PySem.W.Frag) : Sp := fun vs H Q _ => ∃ (F : Hp) (pt : V) (m : MillD), vs = [pt] ∧ Ex F H ∧ Dp K F pt (encPartsT m) ∧ m.recipes.length ≤ 8 ∧
  ∀ p l1 l2 us ws F' H', Gr F H F' H' → F p = none → F l1 = none → F l2 = none → F' p = some (.lst [.ref l1, .ref l2]) → F' l1 = some (.lst us) → DpAll K F' us (m.stuffs.map encStuff) → F' l2 = some (.lst ws) →
    AllP (RecN K (fun q => q ≠ l2 ∧ q ≠ l1 ∧ q ≠ p) F) F' ws m.recipes → l1 ≠ p → l2 ≠ p → l1 ≠ l2 → Q (.ref p) H'
theorem sc__law_copied : FnScope (["parts", "name", "takes", "gives"] : List Str) (["parts"] : List Str) (defScope sLawCopied) := ⟨rfl, rfl, rfl, by decide +kernel, rfl, by decide +kernel, by decide +kernel⟩
theorem ok_law_copied (D : Def K mg "_law_copied" sLawCopied ["parts"]) (B : Bl mg) : Cal P w K mg base "_law_copied" ["parts"] 1 (spCopied K) := by
  refine cal_mk D sc__law_copied (fun vs H Q E h => ?_) (fun f cdv A outer s H vs Q E hr h => ?_)
  · obtain ⟨F, pt, m, rfl, _⟩ := h
    rfl
  obtain ⟨F, pt, m, rfl, e, hv, h8, q⟩ := h
  refine ⟨_, (pss_one (ps_ret (pe_lst (pa_cons (pe_callTy call_list_of (by rfl) B.list (by decide +kernel) (pa_cons (pe_ix ix_tup (pv 0) pe_int (fun _ _ => rfl)) pa_nil)) (pa_cons (pe_lc (own := [("name", 1), ("takes", 2), ("gives", 3)]) (g := gTup K 3 (gCons (gName 1) (gCons (gName 2) (gCons (gName 3) gNil)))) rfl sc__law_copied.nd (pi_list (pe_ix ix_tup (pv 0) pe_int (fun _ _ => rfl))) (blkOk_by (own := [("name", 1), ("takes", 2), ("gives", 3)]) (N := ["parts", "name", "takes", "gives"]) (sc := defScope sLawCopied) (by decide +kernel)) (fun _ _ _ _ _ => (pg_tup (by rfl) (pgs_cons (pg_name (i := 1) sc__law_copied.nd rfl (.inl rfl)) (pgs_cons (pg_name (i := 2) sc__law_copied.nd rfl (.inl rfl)) (pgs_cons (pg_name (i := 3) sc__law_copied.nd rfl (.inl rfl)) pgs_nil)))))  (fun _ _ _ _ _ => pts_nil) (fun _ _ _ _ _ => (pe_tup (pa_cons (pv 1) (pa_cons (pe_callTy (T := "list") (r := fun xs H Q => ∃ p ys, xs = [.ref p] ∧ (SqL K H p ys ∨ SqT K H p ys) ∧ ∀ l, H l = none → Q (.ref l) (upd H l (.lst ys))) call_list_of (by rfl) B.list (by decide +kernel) (pa_cons (pv 2) pa_nil)) (pa_cons (pe_callTy (T := "list") (r := fun xs H Q => ∃ p ys, xs = [.ref p] ∧ (SqL K H p ys ∨ SqT K H p ys) ∧ ∀ l, H l = none → Q (.ref l) (upd H l (.lst ys))) call_list_of (by rfl) B.list (by decide +kernel) (pa_cons (pv 3) pa_nil)) pa_nil)))))) pa_nil))))), ?_⟩
  have st : start ["parts", "name", "takes", "gives"] [pt] = [some pt, none, none, none] := rfl
  rw [st]
  have vp : ∀ {F' : Hp}, Ex F F' → EvD K (tVar 0) [some pt, none, none, none] F' (encPartsT m) := fun e' => Dv.ev_var (i := 0) rfl (dp_ex e' hv)
  refine ret_of (lst2_of ?_)
  refine el_new (F := F) (el_list (Dv.ev_ixT (d := .list (m.stuffs.map encStuff)) (vp (Ex.refl F)) (Dv.ev_int 0) rfl) (.inl rfl)) e fun l1 us F1 H1 g1 hl1 h1 d1 => ?_
  refine lcR_rule (K := K) (F := F1) (σ := [some pt, none, none, none]) (fun D F' v r => RecN K (· ≠ D) F1 F' v r) (fun D F1 F2 v r e h => h.mono e) m.recipes encRecipe (it_list (Dv.ev_ixT (d := .list (m.recipes.map encRecipe)) (vp g1.fx) (Dv.ev_int 1) rfl)) (by omega) (fun r hr v F2 e2 hv2 => ?_) g1.fh fun l2 ws F2 H2 g2 hl2 f2 h2 hall => ?_
  · obtain ⟨y1, y2, y3, hy1, hy2, hy3, ht⟩ := tup3 hv2
    refine ⟨[some pt, some y1, some y2, some y3], fun H e Q q => ht 1 2 3 _ H e Q q, rfl, fun H1 D eH fD hD Q q => ?_⟩
    exact rec_tup (N := (· ≠ D)) (i := 1) (j := 2) (k := 3) rfl rfl rfl hy1 hy2 hy3 (.inl rfl) (.inl rfl) eH (fun q hq z => hD (by rw [← z]; exact hq)) fun v F' H' g h => q v F' H' g (h.imp e2 fun _ h => h)
  · refine ⟨sz_of (by simp), fun p hp => ?_⟩
    have g3 := (g1.trans g2).take (ex_none g1.hx hl2) f2 h2
    have g4 := g3.trans (Gr.new (o := .lst [V.ref l1, .ref l2]) g3.fh hp)
    have e2 : Ex F2 (upd F2 l2 (.lst ws)) := Ex.new f2
    have e3 : Ex (upd F2 l2 (.lst ws)) (upd (upd F2 l2 (.lst ws)) p (.lst [V.ref l1, .ref l2])) := Ex.new (ex_none g3.fh hp)
    have h1' := g2.fx _ _ h1
    have n1 : l1 ≠ l2 := fun z => by rw [z, f2] at h1'; cases h1'
    have n2 : l1 ≠ p := ne_of_none (g2.fh _ _ h1') hp
    have n3 : l2 ≠ p := ne_of_none h2 hp
    refine q p l1 l2 us ws _ _ g4 (ex_none (e.trans g3.hx) hp) (ex_none e hl1) (ex_none (e.trans g1.hx) hl2) upd_same (e3 _ _ (e2 _ _ h1')) (dps_ex (g2.fx.trans (e2.trans e3)) d1) (e3 _ _ upd_same) (hall.imp fun v r h => ?_) n2 n3 n1
    have h' := (RecN.ne g2.fh hp h).mono (e2.trans e3)
    obtain ⟨T, q1, q2, us1, us2, a, b, c, d, m1, m2, f, gg, hh, ii⟩ := h'
    have k1 : q1 ≠ l1 := fun z => by rw [z, h1] at c; cases c
    have k2 : q2 ≠ l1 := fun z => by rw [z, h1] at d; cases d
    exact ⟨T, q1, q2, us1, us2, a, b, ex_none g1.fx c, ex_none g1.fx d, ⟨m1.1, k1, m1.2⟩, ⟨m2.1, k2, m2.2⟩, f, gg, hh, ii⟩
end
end R3

set_option Elab.async false
set_option linter.all false
set_option maxRecDepth 100000
set_option maxHeartbeats 4000000
/-! plain: mills made of a drawn one, each a mill, each another one -/
namespace R3
open PySem PySem.Spec PyProof.Rows L2 Evl Dv
mutual
/-- no bool, no dict -/
def nbD : PyData → Bool
  | .bool _ => false
  | .dict _ => false
  | .list ds => nbDs ds
  | .tuple ds => nbDs ds
  | _ => true
def nbDs : List PyData → Bool
  | [] => true
  | d :: ds => nbD d && nbDs ds
end
mutual
theorem eqv_eq : ∀ {a b : PyData}, nbD a = true → nbD b = true → PyData.eqv a b = true → a = b
  | .none, b, _, hb, h => by
    cases b with
    | none => rfl
    | _ => simp [PyData.eqv] at h
  | .bool _, _, ha, _, _ => by rw [nbD] at ha; cases ha
  | .int i, b, _, hb, h => by
    cases b with
    | int j => simp [PyData.eqv] at h; rw [h]
    | bool k => rw [nbD] at hb; cases hb
    | _ => simp [PyData.eqv] at h
  | .str i, b, _, hb, h => by
    cases b with
    | str j => simp [PyData.eqv] at h; rw [h]
    | _ => simp [PyData.eqv] at h
  | .list xs, b, ha, hb, h => by
    cases b with
    | list ys =>
      rw [nbD] at ha hb
      rw [PyData.eqv] at h
      rw [eqvs_eq ha hb h]
    | _ => simp [PyData.eqv] at h
  | .tuple xs, b, ha, hb, h => by
    cases b with
    | tuple ys =>
      rw [nbD] at ha hb
      rw [PyData.eqv] at h
      rw [eqvs_eq ha hb h]
    | _ => simp [PyData.eqv] at h
  | .dict _, _, ha, _, _ => by rw [nbD] at ha; cases ha
theorem eqvs_eq : ∀ {xs ys : List PyData}, nbDs xs = true → nbDs ys = true → PyData.eqvAll xs ys = true → xs = ys
  | [], [], _, _, _ => rfl
  | [], _ :: _, _, _, h => by rw [PyData.eqvAll] at h; cases h
  | _ :: _, [], _, _, h => by rw [PyData.eqvAll] at h; cases h
  | x :: xs, y :: ys, ha, hb, h => by
    rw [nbDs, Bool.and_eq_true] at ha hb
    rw [PyData.eqvAll, Bool.and_eq_true] at h
    rw [eqv_eq ha.1 hb.1 h.1, eqvs_eq ha.2 hb.2 h.2]
end
theorem nbDs_map {α : Type} (f : α → PyData) (h : ∀ z, nbD (f z) = true) : ∀ xs : List α, nbDs (xs.map f) = true
  | [] => rfl
  | x :: xs => by rw [List.map_cons, nbDs, h, nbDs_map f h xs]; rfl
theorem nb_part (z : Str × Int) : nbD (encPart z) = true := rfl
theorem nb_stuff (z : Str × Option Int) : nbD (encStuff z) = true := by
  obtain ⟨n, r⟩ := z
  cases r <;> rfl
theorem nb_rec (r : RecD) : nbD (encRecipe r) = true := by simp [encRecipe, nbD, nbDs, nbDs_map _ nb_part]
theorem nb_mill (m : MillD) : nbD (millT m) = true := by simp [millT, nbD, nbDs, nbDs_map _ nb_stuff, nbDs_map _ nb_rec]
theorem map_inj {α : Type} {f : α → PyData} (h : ∀ x y, f x = f y → x = y) : ∀ {xs ys : List α}, xs.map f = ys.map f → xs = ys
  | [], [], _ => rfl
  | [], _ :: _, e => by cases e
  | _ :: _, [], e => by cases e
  | x :: xs, y :: ys, e => by
    rw [List.map_cons, List.map_cons] at e
    have := List.cons.inj e
    rw [h _ _ this.1, map_inj h this.2]
theorem part_inj (x y : Str × Int) (h : encPart x = encPart y) : x = y := by
  obtain ⟨a, b⟩ := x
  obtain ⟨c, d⟩ := y
  simp [encPart] at h
  rw [h.1, h.2]
theorem stuff_inj (x y : Str × Option Int) (h : encStuff x = encStuff y) : x = y := by
  obtain ⟨a, b⟩ := x
  obtain ⟨c, d⟩ := y
  cases b <;> cases d <;> simp [encStuff, encRoom] at h <;> simp [h]
theorem rec_inj (x y : RecD) (h : encRecipe x = encRecipe y) : x = y := by
  obtain ⟨a, b, c⟩ := x
  obtain ⟨a', b', c'⟩ := y
  unfold encRecipe at h
  simp only [PyData.tuple.injEq, List.cons.injEq, PyData.str.injEq, PyData.list.injEq, and_true] at h
  rw [h.1, map_inj part_inj h.2.1, map_inj part_inj h.2.2]
theorem mill_ne {a b : MillD} (h : a.stuffs ≠ b.stuffs ∨ a.recipes ≠ b.recipes) : PyData.eqv (millT a) (millT b) = false := by
  cases e : PyData.eqv (millT a) (millT b) with
  | false => rfl
  | true =>
    exfalso
    have := eqv_eq (nb_mill a) (nb_mill b) e
    simp only [millT, PyData.tuple.injEq, List.cons.injEq, PyData.list.injEq, and_true] at this
    rcases h with h | h
    · exact h (map_inj stuff_inj this.1)
    · exact h (map_inj rec_inj this.2)
/-! ### what makes a mill -/
theorem parts_mono {n1 n2 : List Str} (h : ∀ x ∈ n1, x ∈ n2) : ∀ (ds : List PyData) (seen : List Str), partsGo n1 ds seen = true → partsGo n2 ds seen = true
  | [], _, _ => rfl
  | d :: r, seen, e => by
    rw [partsGo, Bool.and_eq_true, Bool.and_eq_true, Bool.and_eq_true] at e ⊢
    exact ⟨⟨⟨e.1.1.1, decide_eq_true (h _ (of_decide_eq_true e.1.1.2))⟩, e.1.2⟩, parts_mono h r _ e.2⟩
def NmO (x : Str) : Prop := nameS x = true ∧ gd (.str x) = true
def PsO (names : List Str) (ps : List (Str × Int)) : Prop := partsGo names (ps.map encPart) [] = true ∧ gd (.list (ps.map encPart)) = true
def RcO (names : List Str) (r : RecD) : Prop := gd (encRecipe r) = true ∧ isRecipe names (encRecipe r) = true
theorem PsO.mono {n1 n2 : List Str} {ps : List (Str × Int)} (h : ∀ x ∈ n1, x ∈ n2) (p : PsO n1 ps) : PsO n2 ps := ⟨parts_mono h _ _ p.1, p.2⟩
theorem rcO_mk {names : List Str} {r : RecD} (n : NmO r.1) (t : PsO names r.2.1) (g : PsO names r.2.2) : RcO names r := by
  constructor
  · show gd (.tuple [.str r.1, .list (r.2.1.map encPart), .list (r.2.2.map encPart)]) = true
    rw [gd_tuple, gds_cons, gds_cons, gds_cons, gds_nil, n.2, t.2, g.2]
    rfl
  · show (nameS r.1 && partsGo names (r.2.1.map encPart) [] && partsGo names (r.2.2.map encPart) []) = true
    rw [n.1, t.1, g.1]
    rfl
theorem RcO.of {names : List Str} {r : RecD} (h : RcO names r) : NmO r.1 ∧ PsO names r.2.1 ∧ PsO names r.2.2 := by
  obtain ⟨h1, h2⟩ := h
  have h2' : (nameS r.1 && partsGo names (r.2.1.map encPart) [] && partsGo names (r.2.2.map encPart) []) = true := h2
  rw [Bool.and_eq_true, Bool.and_eq_true] at h2'
  have g := gds_iff.mp (gd_tup h1).2
  exact ⟨⟨h2'.1.1, g _ (by simp)⟩, ⟨h2'.1.2, g _ (by simp)⟩, ⟨h2'.2, g _ (by simp)⟩⟩
theorem RcO.mono {n1 n2 : List Str} {r : RecD} (h : ∀ x ∈ n1, x ∈ n2) (p : RcO n1 r) : RcO n2 r := rcO_mk p.of.1 (p.of.2.1.mono h) (p.of.2.2.mono h)
theorem psO_nil (names : List Str) : PsO names [] := ⟨rfl, by decide +kernel⟩
theorem part_gen {x : Str} {k : Int} (h : NmO x) (h1 : 1 ≤ k) (h3 : k ≤ 1000000) : partOk (encPart (x, k)) = true ∧ gd (encPart (x, k)) = true := by
  constructor
  · show (nameS x && isNum (.int k) 1) = true
    rw [h.1]
    show (true && (isWhole (.int k) && (decide (1 ≤ k) && decide (k ≤ 1000000)))) = true
    rw [decide_eq_true h1, decide_eq_true h3]
    rfl
  · show gd (.tuple [PyData.str x, PyData.int k]) = true
    rw [gd_tuple, gds_cons, gds_cons, gds_nil, gd_int, h.2]
    rfl
theorem psO_one {names : List Str} {x : Str} {k : Int} (h : NmO x) (hx : x ∈ names) (h1 : 1 ≤ k) (h3 : k ≤ 1000000) : PsO names [(x, k)] := by
  obtain ⟨a, b⟩ := part_gen h h1 h3
  constructor
  · show (partOk (encPart (x, k)) && decide (x ∈ names) && !decide (x ∈ ([] : List Str)) && true) = true
    rw [a, decide_eq_true hx]
    rfl
  · show gd (.list [encPart (x, k)]) = true
    rw [gd_lst, gds_cons, gds_nil, b]
    rfl
theorem psO_two {names : List Str} {x y : Str} {k j : Int} (hx : NmO x) (hy : NmO y) (mx : x ∈ names) (my : y ∈ names) (ne : y ≠ x) (h1 : 1 ≤ k) (h3 : k ≤ 1000000) (j1 : 1 ≤ j) (j3 : j ≤ 1000000) : PsO names [(x, k), (y, j)] := by
  obtain ⟨a, b⟩ := part_gen hx h1 h3
  obtain ⟨c, d⟩ := part_gen hy j1 j3
  have ne' : ¬ y ∈ [x] := fun z => ne (List.mem_singleton.mp z)
  constructor
  · show (partOk (encPart (x, k)) && decide (x ∈ names) && !decide (x ∈ ([] : List Str)) && (partOk (encPart (y, j)) && decide (y ∈ names) && !decide (y ∈ [x]) && true)) = true
    rw [a, c, decide_eq_true mx, decide_eq_true my, decide_eq_false ne']
    rfl
  · show gd (.list [encPart (x, k), encPart (y, j)]) = true
    rw [gd_lst, gds_cons, gds_cons, gds_nil, b, d]
    rfl
structure StO (st : List (Str × Option Int)) : Prop where
  s1 : 1 ≤ st.length
  s2 : st.length ≤ 8
  sn : (st.map (·.1)).Nodup
  ss : ∀ z ∈ st, gd (encStuff z) = true ∧ isStuff (encStuff z) = true
structure RsO (names : List Str) (rc : List RecD) : Prop where
  r2 : rc.length ≤ 8
  rn : (rc.map (·.1)).Nodup
  rs : ∀ z ∈ rc, RcO names z
theorem ok_mk {st : List (Str × Option Int)} {rc : List RecD} (a : StO st) (b : RsO (st.map (·.1)) rc) : MillD.Ok ⟨st, rc⟩ := ⟨a.s1, a.s2, a.sn, a.ss, b.r2, b.rn, b.rs⟩
theorem MillD.Ok.st {m : MillD} (h : m.Ok) : StO m.stuffs := ⟨h.s1, h.s2, h.sn, h.ss⟩
theorem MillD.Ok.rc {m : MillD} (h : m.Ok) : RsO m.names m.recipes := ⟨h.r2, h.rn, h.rs⟩
theorem RsO.mono {n1 n2 : List Str} {rc : List RecD} (h : ∀ x ∈ n1, x ∈ n2) (p : RsO n1 rc) : RsO n2 rc := ⟨p.r2, p.rn, fun z hz => (p.rs z hz).mono h⟩
theorem RsO.sub {names : List Str} {rc rc' : List RecD} (h : rc'.Sublist rc) (p : RsO names rc) : RsO names rc' := ⟨Nat.le_trans h.length_le p.r2, List.Nodup.sublist (h.map _) p.rn, fun z hz => p.rs z (h.subset hz)⟩
theorem RsO.add {names : List Str} {rc : List RecD} {r : RecD} (p : RsO names rc) (hl : rc.length ≤ 7) (hr : RcO names r) (hn : r.1 ∉ rc.map (·.1)) : RsO names (rc ++ [r]) := by
  refine ⟨by rw [List.length_append]; simp; omega, ?_, fun z hz => ?_⟩
  · rw [List.map_append, List.nodup_append]
    refine ⟨p.rn, by simp, fun a ha b hb => ?_⟩
    rw [List.map_singleton, List.mem_singleton] at hb
    exact fun z => hn (by rw [← hb, ← z]; exact ha)
  · rcases List.mem_append.mp hz with h | h
    · exact p.rs z h
    · rw [List.mem_singleton.mp h]; exact hr
theorem rsO_nil (names : List Str) : RsO names [] := ⟨by simp, List.nodup_nil, fun z hz => nomatch hz⟩
theorem rsO_one {names : List Str} {r : RecD} (h : RcO names r) : RsO names [r] := (rsO_nil names).add (by simp) h (by simp)
theorem StO.rev {st : List (Str × Option Int)} (h : StO st) : StO st.reverse := by
  refine ⟨by rw [List.length_reverse]; exact h.s1, by rw [List.length_reverse]; exact h.s2, ?_, fun z hz => h.ss z (List.mem_reverse.mp hz)⟩
  rw [List.map_reverse]
  have := h.sn
  unfold List.Nodup at this ⊢
  rw [List.pairwise_reverse]
  exact this.imp fun h => Ne.symm h
theorem StO.add {st : List (Str × Option Int)} {z : Str × Option Int} (h : StO st) (hl : st.length ≤ 7) (hz : gd (encStuff z) = true ∧ isStuff (encStuff z) = true) (hn : z.1 ∉ st.map (·.1)) : StO (st ++ [z]) := by
  refine ⟨by rw [List.length_append]; have := h.s1; omega, by rw [List.length_append]; simp; omega, ?_, fun y hy => ?_⟩
  · rw [List.map_append, List.nodup_append]
    refine ⟨h.sn, by simp, fun a ha b hb => ?_⟩
    rw [List.map_singleton, List.mem_singleton] at hb
    exact fun e => hn (by rw [← hb, ← e]; exact ha)
  · rcases List.mem_append.mp hy with k | k
    · exact h.ss y k
    · rw [List.mem_singleton.mp k]; exact hz
def MNe (a b : MillD) : Prop := a.stuffs ≠ b.stuffs ∨ a.recipes ≠ b.recipes
/-- what is used of a drawn mill -/
structure Un (m : MillD) (n : Str) (r0 : Option Int) (ss : List (Str × Option Int)) (rs : List RecD) (l : RecD) : Prop where
  ok : m.Ok
  es : m.stuffs = (n, r0) :: ss
  er : m.recipes = rs ++ [l]
  sl : ss.length ≤ 2
  rl : rs.length ≤ 2
  nm : ∀ x ∈ m.names, x = "a" ∨ x = "b" ∨ x = "c"
  ti : ∀ x ∈ m.titles, x = "r" ∨ x = "s" ∨ x = "t"
  l6 : l.2.1 ≠ [(n, 7)]
  l7 : l.2.2 ≠ [(n, 7)]
abbrev zzS : Str := "zz"
abbrev nmsL (st : List (Str × Option Int)) : List Str := st.map (·.1)
theorem last_ne {rs : List RecD} {l l' : RecD} (h : l ≠ l') : rs ++ [l] ≠ rs ++ [l'] := fun e => h (by simpa using e)
abbrev yS : Str := "y"
abbrev zS : Str := "z"
theorem zz_stuff : gd (encStuff (zzS, none)) = true ∧ isStuff (encStuff (zzS, none)) = true := by decide +kernel
theorem nm_zz : NmO zzS := ⟨by decide +kernel, by decide +kernel⟩
theorem nm_y : NmO yS := ⟨by decide +kernel, by decide +kernel⟩
theorem nm_z : NmO zS := ⟨by decide +kernel, by decide +kernel⟩
theorem zz_not {x : Str} (h : x = "a" ∨ x = "b" ∨ x = "c") : x ≠ zzS := by rcases h with rfl | rfl | rfl <;> decide +kernel
theorem zz_not2 {x : Str} (h : x = "r" ∨ x = "s" ∨ x = "t") : x ≠ zzS := by rcases h with rfl | rfl | rfl <;> decide +kernel
section
variable {m : MillD} {n : Str} {r0 : Option Int} {ss : List (Str × Option Int)} {rs : List RecD} {l : RecD} (U : Un m n r0 ss rs l)
include U
theorem Un.nin : n ∈ m.names := by unfold MillD.names; rw [U.es]; simp
theorem Un.nmo : NmO n := name_ok (by rcases U.nm n U.nin with h | h | h <;> simp [h])
theorem Un.zz : zzS ∉ m.names := fun h => zz_not (U.nm _ h) rfl
theorem Un.zzt : zzS ∉ m.titles := fun h => zz_not2 (U.ti _ h) rfl
theorem Un.slen : m.stuffs.length ≤ 3 := by rw [U.es, List.length_cons]; have := U.sl; omega
theorem Un.more : StO (m.stuffs ++ [(zzS, none)]) := U.ok.st.add (by have := U.slen; omega) zz_stuff U.zz
theorem Un.namesMore : ∀ x ∈ m.names, x ∈ nmsL (m.stuffs ++ [(zzS, none)]) := fun x hx => by unfold nmsL; rw [List.map_append]; exact List.mem_append_left _ hx
theorem Un.lin : RcO m.names l := U.ok.rs l (by rw [U.er]; simp)
theorem Un.rsub : RsO m.names rs := U.ok.rc.sub (by rw [U.er]; exact List.sublist_append_left _ _)
theorem Un.rsn : l.1 ∉ rs.map (·.1) := fun h => by
  have := U.ok.rn
  rw [U.er, List.map_append, List.nodup_append] at this
  exact this.2.2 _ h l.1 (by simp) rfl
theorem Un.zzr : zzS ∉ rs.map (·.1) := fun h => U.zzt (by unfold MillD.titles; rw [U.er, List.map_append]; exact List.mem_append_left _ h)
def mm1 (m : MillD) (rs : List RecD) : MillD := ⟨m.stuffs, rs⟩
theorem Un.ok1 : (⟨m.stuffs, rs⟩ : MillD).Ok := ok_mk U.ok.st U.rsub
theorem Un.ne1 : MNe m ⟨m.stuffs, rs⟩ := (.inr fun e => by
  have := congrArg List.length e
  rw [U.er, List.length_append] at this
  simp at this)
theorem Un.ok2 : (⟨m.stuffs ++ [(zzS, none)], m.recipes⟩ : MillD).Ok := ok_mk U.more (U.ok.rc.mono U.namesMore)
theorem Un.ne2 : MNe m ⟨m.stuffs ++ [(zzS, none)], m.recipes⟩ := (.inl fun e => by
  have := congrArg List.length e
  simp at this)
theorem Un.ok3 : (⟨m.stuffs, m.recipes ++ [(zzS, [], [])]⟩ : MillD).Ok := ok_mk U.ok.st (U.ok.rc.add (by rw [U.er, List.length_append]; have := U.rl; simp; omega) (rcO_mk nm_zz (psO_nil _) (psO_nil _)) U.zzt)
theorem Un.ne3 : MNe m ⟨m.stuffs, m.recipes ++ [(zzS, [], [])]⟩ := (.inr fun e => by
  have := congrArg List.length e
  simp at this)
/-- the room that is told instead -/
def roomX (r0 : Option Int) : Option Int := match r0 with
  | none => some 5
  | some _ => none
theorem Un.ok4 : (⟨(n, roomX r0) :: ss, m.recipes⟩ : MillD).Ok := by
  have h := U.ok.st
  rw [U.es] at h
  have e : m.names = ((n, roomX r0) :: ss).map (·.1) := by unfold MillD.names; rw [U.es]; rfl
  refine ok_mk ⟨by simp, h.s2, h.sn, fun z hz => ?_⟩ (by rw [← e]; exact U.ok.rc)
  rcases List.mem_cons.mp hz with rfl | hz
  · have hn := U.nmo
    cases r0 with
    | none =>
      constructor
      · show gd (.tuple [.str n, .int 5]) = true
        rw [gd_tuple, gds_cons, gds_cons, gds_nil, gd_int, hn.2]
        rfl
      · show (nameS n && (nonB (.int 5) || isNum (.int 5) 0)) = true
        rw [hn.1]
        decide +kernel
    | some k =>
      constructor
      · show gd (.tuple [.str n, .none]) = true
        rw [gd_tuple, gds_cons, gds_cons, gds_nil, hn.2]
        simp [gd]
      · show (nameS n && (nonB .none || isNum .none 0)) = true
        rw [hn.1]
        decide +kernel
  · exact h.ss z (List.mem_cons_of_mem _ hz)
theorem Un.ne4 : MNe m ⟨(n, roomX r0) :: ss, m.recipes⟩ := (.inl fun e => by
  rw [U.es] at e
  have := (List.cons.inj e).1
  cases r0 <;> simp [roomX] at this)
theorem Un.ok5 : (⟨m.stuffs, rs ++ [(zzS, l.2.1, l.2.2)]⟩ : MillD).Ok := ok_mk U.ok.st (U.rsub.add (by have := U.rl; omega) (rcO_mk nm_zz U.lin.of.2.1 U.lin.of.2.2) U.zzr)
theorem Un.ne5 : MNe m ⟨m.stuffs, rs ++ [(zzS, l.2.1, l.2.2)]⟩ := (.inr (by
  rw [U.er]
  refine last_ne fun e => U.zzt ?_
  unfold MillD.titles
  rw [U.er, List.map_append]
  have : l.1 = zzS := congrArg (fun r : RecD => r.1) e
  exact List.mem_append_right _ (by rw [← this]; simp)))
theorem Un.p7 : PsO m.names [(n, 7)] := psO_one U.nmo U.nin (by decide) (by decide)
theorem Un.ok6 : (⟨m.stuffs, rs ++ [(l.1, [(n, 7)], l.2.2)]⟩ : MillD).Ok := ok_mk U.ok.st (U.rsub.add (by have := U.rl; omega) (rcO_mk U.lin.of.1 U.p7 U.lin.of.2.2) U.rsn)
theorem Un.ok7 : (⟨m.stuffs, rs ++ [(l.1, l.2.1, [(n, 7)])]⟩ : MillD).Ok := ok_mk U.ok.st (U.rsub.add (by have := U.rl; omega) (rcO_mk U.lin.of.1 U.lin.of.2.1 U.p7) U.rsn)
theorem Un.ok8 : (⟨(m.stuffs ++ [(zzS, none)]).reverse, m.recipes⟩ : MillD).Ok := ok_mk U.more.rev (U.ok.rc.mono fun x hx => by rw [List.map_reverse, List.mem_reverse]; exact U.namesMore x hx)
theorem Un.ne8 : MNe m ⟨(m.stuffs ++ [(zzS, none)]).reverse, m.recipes⟩ := (.inl fun e => by
  have := congrArg List.length e
  simp at this)
theorem Un.okA : (⟨m.stuffs ++ [(zzS, none)], []⟩ : MillD).Ok := ok_mk U.more (rsO_nil _)
theorem Un.okB : (⟨(m.stuffs ++ [(zzS, none)]).reverse, []⟩ : MillD).Ok := ok_mk U.more.rev (rsO_nil _)
theorem Un.neAB : PyData.eqv (millT ⟨m.stuffs ++ [(zzS, none)], []⟩) (millT ⟨(m.stuffs ++ [(zzS, none)]).reverse, []⟩) = false := mill_ne (.inl fun e => by
  rw [U.es, List.cons_append, List.reverse_cons, List.reverse_append] at e
  have := (List.cons.inj e).1
  exact zz_not (U.nm n U.nin) (congrArg (fun z : Str × Option Int => z.1) this))
def twoR (n : Str) : List RecD := [(yS, [(n, 1)], []), (zS, [], [(n, 1)])]
theorem Un.p1 : PsO m.names [(n, 1)] := psO_one U.nmo U.nin (by decide) (by decide)
theorem Un.ok2R : (⟨m.stuffs, twoR n⟩ : MillD).Ok := ok_mk U.ok.st ((rsO_one (rcO_mk nm_y U.p1 (psO_nil _))).add (by simp) (rcO_mk nm_z (psO_nil _) U.p1) (by simp; decide +kernel))
theorem Un.ok2Rr : (⟨m.stuffs, (twoR n).reverse⟩ : MillD).Ok := ok_mk U.ok.st ((rsO_one (rcO_mk nm_z (psO_nil _) U.p1)).add (by simp) (rcO_mk nm_y U.p1 (psO_nil _)) (by simp; decide +kernel))
theorem Un.ne2R : PyData.eqv (millT ⟨m.stuffs, twoR n⟩) (millT ⟨m.stuffs, (twoR n).reverse⟩) = false := mill_ne (.inr fun e => by
  have : yS = zS := congrArg (fun r : RecD => r.1) (List.cons.inj e).1
  exact absurd this (by decide +kernel))
def sidesR (n : Str) : List (Str × Int) := [(n, 1), (zzS, 2)]
theorem Un.zin : zzS ∈ nmsL (m.stuffs ++ [(zzS, none)]) := by unfold nmsL; rw [List.map_append]; simp
theorem Un.ps : PsO (nmsL (m.stuffs ++ [(zzS, none)])) (sidesR n) := psO_two U.nmo nm_zz (U.namesMore _ U.nin) U.zin (fun z => zz_not (U.nm n U.nin) z.symm) (by decide) (by decide) (by decide) (by decide)
theorem Un.psr : PsO (nmsL (m.stuffs ++ [(zzS, none)])) (sidesR n).reverse := psO_two nm_zz U.nmo U.zin (U.namesMore _ U.nin) (zz_not (U.nm n U.nin)) (by decide) (by decide) (by decide) (by decide)
theorem Un.okS (a b : List (Str × Int)) (ha : PsO (nmsL (m.stuffs ++ [(zzS, none)])) a) (hb : PsO (nmsL (m.stuffs ++ [(zzS, none)])) b) : (⟨m.stuffs ++ [(zzS, none)], [(yS, a, b)]⟩ : MillD).Ok := ok_mk U.more (rsO_one (rcO_mk nm_y ha hb))
theorem Un.sne : sidesR n ≠ (sidesR n).reverse := fun e => zz_not (U.nm n U.nin) (congrArg (fun z : Str × Int => z.1) (List.cons.inj e).1)
theorem Un.ne6 : MNe m ⟨m.stuffs, rs ++ [(l.1, [(n, 7)], l.2.2)]⟩ := (.inr (by
  rw [U.er]
  exact last_ne fun e => U.l6 (congrArg (fun r : RecD => r.2.1) e)))
theorem Un.ne7 : MNe m ⟨m.stuffs, rs ++ [(l.1, l.2.1, [(n, 7)])]⟩ := (.inr (by
  rw [U.er]
  exact last_ne fun e => U.l7 (congrArg (fun r : RecD => r.2.2) e)))
end
theorem mapS_append (a b : List (Str × Option Int)) : a.map encStuff ++ b.map encStuff = (a ++ b).map encStuff := List.map_append.symm
theorem mapR_append (a b : List RecD) : a.map encRecipe ++ b.map encRecipe = (a ++ b).map encRecipe := List.map_append.symm
theorem cutD_back (ds : List PyData) (d : PyData) : Dv.cutD (ds ++ [d]) none (some (-1)) = ds := by
  unfold Dv.cutD
  rw [HT.sIx_none]
  have : HT.sIx (ds ++ [d]).length (ds ++ [d]).length (some (-1)) = ds.length := by
    unfold HT.sIx
    simp
    omega
  rw [this]
  simp
end R3

set_option Elab.async false
set_option linter.all false
set_option maxRecDepth 100000
set_option maxHeartbeats 4000000
/-! _law_two, _law_unlike_right -/
namespace R3
open PySem PySem.Spec PyProof.Rows L2 Evl Dv
section
variable {P : Program} {w : World} {K : PySem.W.Frag} {mg : Str → Option Value} {base : Heap}
abbrev mA (m : MillD) : MillD := ⟨m.stuffs ++ [(zzS, none)], []⟩
abbrev mB (m : MillD) : MillD := ⟨(m.stuffs ++ [(zzS, none)]).reverse, []⟩
abbrev m8r (m : MillD) : MillD := ⟨(m.stuffs ++ [(zzS, none)]).reverse, m.recipes⟩
abbrev mT (m : MillD) (n : Str) : MillD := ⟨m.stuffs, twoR n⟩
abbrev mTr (m : MillD) (n : Str) : MillD := ⟨m.stuffs, (twoR n).reverse⟩
abbrev mOne (m : MillD) (r : RecD) : MillD := ⟨m.stuffs ++ [(zzS, none)], [r]⟩
def pairsR (n : Str) : List (RecD × RecD) := [((yS, sidesR n, []), (yS, (sidesR n).reverse, [])), ((yS, [], sidesR n), (yS, [], (sidesR n).reverse))]
def encPr (z : RecD × RecD) : PyData := .tuple [encRecipe z.1, encRecipe z.2]
theorem Un.pairs {m : MillD} {n : Str} {r0 : Option Int} {ss : List (Str × Option Int)} {rs : List RecD} {l : RecD} (U : Un m n r0 ss rs l) : ∀ z ∈ pairsR n, (mOne m z.1).Ok ∧ (mOne m z.2).Ok ∧ PyData.eqv (millT (mOne m z.1)) (millT (mOne m z.2)) = false := by
  have ne := U.sne
  intro z hz
  simp only [pairsR, List.mem_cons, List.not_mem_nil, or_false] at hz
  rcases hz with rfl | rfl
  · exact ⟨U.okS _ _ U.ps (psO_nil _), U.okS _ _ U.psr (psO_nil _), mill_ne (.inr fun e => ne (congrArg (fun r : RecD => r.2.1) (List.cons.inj e).1))⟩
  · exact ⟨U.okS _ _ (psO_nil _) U.ps, U.okS _ _ (psO_nil _) U.psr, mill_ne (.inr fun e => ne (congrArg (fun r : RecD => r.2.2) (List.cons.inj e).1))⟩
def fTwo : List PyData → PyData → Prop := fun ds d => ∃ n, ds = [.str n] ∧ d = .list ((twoR n).map encRecipe)
theorem sc__law_two : FnScope (["name"] : List Str) (["name"] : List Str) (defScope sLawTwo) := ⟨rfl, rfl, rfl, by decide +kernel, rfl, by decide +kernel, by decide +kernel⟩
theorem ok_law_two (D : Def K mg "_law_two" sLawTwo ["name"]) : Cal P w K mg base "_law_two" ["name"] 1 (spD K fTwo) := by
  refine cal_mk D sc__law_two (len_D fun ds d ⟨n, e, _⟩ => by rw [e]; rfl) (fun f cdv A outer s H vs Q E hr h => ?_)
  obtain ⟨F, ds, d, e, hd, ⟨n, rfl, rfl⟩, q⟩ := h
  obtain ⟨v, rfl, hv⟩ := Dv.one hd
  refine ⟨_, (pss_one (ps_ret (pe_lst (pa_cons (pe_tup (pa_cons pe_str (pa_cons (pe_lst (pa_cons (pe_tup (pa_cons (pv 0) (pa_cons pe_int pa_nil))) pa_nil)) (pa_cons (pe_lst pa_nil) pa_nil)))) (pa_cons (pe_tup (pa_cons pe_str (pa_cons (pe_lst pa_nil) (pa_cons (pe_lst (pa_cons (pe_tup (pa_cons (pv 0) (pa_cons pe_int pa_nil))) pa_nil)) pa_nil)))) pa_nil))))), ?_⟩
  have st : start ["name"] [v] = [some v] := rfl
  rw [st]
  have vn := Dv.ev_var (K := K) (σ := [some v]) (i := 0) rfl hv
  have ps : EvD K (tLst (tCons (tTup (tCons (tVar 0) (tCons (tC (.int 1)) tNil))) tNil)) [some v] F (.list ([(n, 1)].map encPart)) := EvL.ev (Dv.el_lst (Dv.ea_cons (Dv.ev_tup (Dv.ea_cons vn (Dv.ea_cons (Dv.ev_int 1) Dv.ea_nil)) (by simp)) Dv.ea_nil) (by simp))
  have em : EvD K (tLst tNil) [some v] F (.list (([] : List (Str × Int)).map encPart)) := EvL.ev (Dv.el_lst Dv.ea_nil (by simp))
  exact Dv.s_ret (K := K) (F := F) (d := .list ((twoR n).map encRecipe)) (EvL.ev (Dv.el_lst (Dv.ea_cons (Dv.ev_tup (Dv.ea_cons (Dv.ev_str "y") (Dv.ea_cons ps (Dv.ea_cons em Dv.ea_nil))) (by simp)) (Dv.ea_cons (Dv.ev_tup (Dv.ea_cons (Dv.ev_str "z") (Dv.ea_cons em (Dv.ea_cons ps Dv.ea_nil))) (by simp)) Dv.ea_nil)) (by simp [twoR]))) e q
/-- another mill -/
def OV (K : PySem.W.Frag) (C : Addr) (m : MillD) (F : Hp) (v : V) : Prop := ∃ z m2, v = .ref z ∧ MillAt K F C z m2 ∧ m2.Ok ∧ MNe m m2
theorem OV.mono {C : Addr} {m : MillD} {F F' : Hp} {v : V} (e : Ex F F') (h : OV K C m F v) : OV K C m F' v := by
  obtain ⟨z, m2, a, b, c⟩ := h
  exact ⟨z, m2, a, b.mono e, c⟩
theorem s_appO {Pd : Hp → Addr → Prop} {σ : L2.St} {F0 H0 F H : Hp} {te : TE} {i : Nat} {p : Addr} {vs : List V} {D : Ends} (gg : Gr F0 H0 F H) (hp0 : H0 p = none) (fl : F p = none) (hl : H p = some (.lst vs)) (hi : σ[i]? = some (some (.ref p))) (h : EvO Pd te σ F) (hz : vs.length < 100000)
    (k : ∀ x F' H', Gr F0 H0 F' H' → Ex F F' → F' p = none → H' p = some (.lst (vs ++ [.ref x])) → Pd F' x → D.nx σ H') : tDrop (tBM K "list" rAppend (tVar i) (tCons te tNil)) D σ H :=
  ⟨_, hi, Or.inl ⟨rfl, vs, sq_of hl⟩, h H gg.fh _ fun x F' H' g hv => ⟨p, vs, .ref x, rfl, rfl, (g.keep hl fl).1, sz_lt hz, k x F' _ ((gg.trans g).mut hp0 (g.keep hl fl).2) g.fx (g.keep hl fl).2 upd_same hv⟩⟩
theorem s_forP {Pd : Hp → V → Prop} {σ : L2.St} {F H : Hp} {te : TE} {ts : TS} {g : TG} {D : Ends} (mono : ∀ F F' v, Ex F F' → Pd F v → Pd F' v) (h : ∀ Q : VK, (∀ p xs F' H', Gr F H F' H' → F' p = some (.lst xs) → (∀ v ∈ xs, Pd F' v) → Q (.ref p) H') → te σ H Q) (Pv : L2.St → Hp → Hp → Prop)
    (h0 : ∀ F' H', Gr F H F' H' → Pv σ F' H') (hs : ∀ Fb, Ex F Fb → ∀ σ' F' H' v, Ex Fb F' → Ex F' H' → Pv σ' F' H' → Pd F' v → g v σ' H' fun σ2 H3 => ts { D with nx := NxP Fb Pv, ct := NxP Fb Pv, bk := D.nx } σ2 H3)
    (hd : ∀ σ' F' H', Ex F F' → Ex F' H' → Pv σ' F' H' → D.nx σ' H') : tFor (iList K te) g ts D σ H := h _ fun p xs F1 H1 g1 hp hx => by
  refine ⟨p, rfl, ⟨xs, SqL.of (g1.fh _ _ hp)⟩, for_it (walk_list (xs := xs)) (fun _ => NxP F1 Pv) ⟨F1, Ex.refl _, g1.fh, h0 F1 H1 g1⟩ (fun n σ' H' _ q => ?_) (fun n v σ' H' H2 hn q y => ?_) fun σ' H' q => ?_⟩
  · obtain ⟨F', e1, e2, _⟩ := q
    exact SqL.of (e2 _ _ (e1 _ _ hp))
  · obtain ⟨rfl, hv⟩ := y
    obtain ⟨F', e1, e2, q⟩ := q
    exact hs F1 g1.fx σ' F' _ v e1 e2 q (mono _ _ v e1 (hx v (List.mem_of_getElem? hv)))
  · obtain ⟨F', e1, e2, q⟩ := q
    exact hd σ' F' H' (g1.fx.trans e1) e2 q
/-- mill == other, mill != other, other == mill -/
def OZ (K : PySem.W.Frag) (C : Addr) (m : MillD) (F : Hp) (v : V) : Prop := (∃ d, Dz K F v d) ∨ OV K C m F v
theorem OZ.mono {C : Addr} {m : MillD} {F F' : Hp} {v : V} (e : Ex F F') (h : OZ K C m F v) : OZ K C m F' v := by
  rcases h with ⟨d, h⟩ | h
  · exact .inl ⟨d, dz_ex e h⟩
  · exact .inr (h.mono e)
theorem ev_oz {σ : L2.St} {F : Hp} {C x : Addr} {m : MillD} {v : V} {f : Bool → Bool} {i j : Nat} (hi : σ[i]? = some (some (.ref x))) (hj : σ[j]? = some (some v)) (hx : MillAt K F C x m) (ok : m.Ok) (h : OZ K C m F v) : EvD K (tOp (rOwnV K C (spMillEqG K C) E0 f) (tVar i) (tVar j)) σ F (.bool (f false)) := fun H e Q q => by
  obtain ⟨dx, ro, sp, ru, v1, v2, v3, h1, _⟩ := hx.ex
  refine ⟨_, hi, v, hj, x, dx, _, rfl, e _ _ h1, ?_, ?_⟩
  · rcases h with ⟨d, h⟩ | ⟨z, m2, rfl, hz, _⟩
    · exact .inl ⟨d, dz_ex e h⟩
    · obtain ⟨dz, _, _, _, _, _, _, hz, _⟩ := hz.ex
      exact .inr ⟨z, dz, _, rfl, e _ _ hz⟩
  · refine ⟨F, x, v, m, rfl, e, hx, ok, ?_⟩
    rcases h with ⟨d, h⟩ | ⟨z, m2, rfl, hz, ok2, ne⟩
    · exact .inl ⟨d, h, fun F' H' g => ⟨_, rfl, q _ F' H' g (.bl _)⟩⟩
    · exact .inr ⟨z, m2, rfl, hz, ok2, fun F' H' g => ⟨_, rfl, by rw [mill_ne ne]; exact q _ F' H' g (.bl _)⟩⟩
theorem ev_ozR {σ : L2.St} {F : Hp} {C x : Addr} {m : MillD} {v : V} {i j : Nat} (hi : σ[i]? = some (some (.ref x))) (hj : σ[j]? = some (some v)) (hx : MillAt K F C x m) (ok : m.Ok) (h : OZ K C m F v) : EvD K (tOp (rOwnR K C (spMillEqG K C) E0) (tVar j) (tVar i)) σ F (.bool false) := fun H e Q q => by
  obtain ⟨dx, ro, sp, ru, v1, v2, v3, h1, _⟩ := hx.ex
  rcases h with ⟨d, h⟩ | ⟨z, m2, rfl, hz, ok2, ne⟩
  · exact ⟨_, hj, _, hi, x, dx, _, rfl, e _ _ h1, .inl ⟨d, dz_ex e h, F, x, v, m, rfl, e, hx, ok, .inl ⟨d, h, fun F' H' g => ⟨_, rfl, q _ F' H' g (.bl _)⟩⟩⟩⟩
  · obtain ⟨dz, ro', sp', ru', v1', v2', v3', hz1, _⟩ := hz.ex
    exact ⟨_, hj, _, hi, x, dx, _, rfl, e _ _ h1, .inr ⟨z, dz, _, rfl, e _ _ hz1, F, z, .ref x, m2, rfl, e, hz, ok2, .inr ⟨x, m, rfl, hx, ok, fun F' H' g => ⟨_, rfl, by rw [mill_ne (by rcases ne with ne | ne; exact .inl (Ne.symm ne); exact .inr (Ne.symm ne))]; exact q _ F' H' g (.bl _)⟩⟩⟩⟩
theorem par2' {ta tb : TE} {i j : Nat} {D : Ends} {σ : L2.St} {H : Hp} (h : ta σ H fun v H1 => tb σ H1 fun u H2 => ∃ v' u', ([v, u] : List V) = [v', u'] ∧ D.nx ((σ.set i (some v')).set j (some u')) H2) : tPar i j (tCons ta (tCons tb tNil)) D σ H := h
def spUnlike (K : PySem.W.Frag) : Sp := fun vs H Q _ => ∃ (F : Hp) (pt : V) (m : MillD) (n : Str) (r0 : Option Int) (ss : List (Str × Option Int)) (rs : List RecD) (l : RecD), vs = [pt] ∧ Ex F H ∧ Dp K F pt (encPartsT m) ∧ Un m n r0 ss rs l ∧ ∀ F' H', Gr F H F' H' → Q (.bl true) H'
theorem sc__law_unlike_right : FnScope (["parts", "mill", "name", "others", "room", "last", "more", "sides", "one", "two", "other"] : List Str) (["parts"] : List Str) (defScope sLawUnlikeRight) := ⟨rfl, rfl, rfl, by decide +kernel, rfl, by decide +kernel, by decide +kernel⟩
theorem ok_law_unlike_right (D : Def K mg "_law_unlike_right" sLawUnlikeRight ["parts"]) (B : Bl mg) {C : Addr} (MC : MillC K C) (EC : NeC K C) (C__law_two : Cal P w K mg base "_law_two" ["name"] 1 (spD K fTwo)) (M_Mill : Mak P w K mg base "Mill" C ["stuffs", "recipes"] 5 (spMillInit K C))
    (M_recipes : CalM P w K mg base C "recipes" [] 1 (spRecipes K C)) (M_eq : CalM P w K mg base C "__eq__" ["other"] 2 (spMillEqG K C)) :
    Cal P w K mg base "_law_unlike_right" ["parts"] 8 (spUnlike K) := by
  refine cal_mk D sc__law_unlike_right (fun vs H Q E h => ?_) (fun f cdv A outer s H vs Q E hr h => ?_)
  · obtain ⟨F, pt, m, n, r0, ss, rs, l, rfl, _⟩ := h
    rfl
  obtain ⟨F, pt, m, n, r0, ss, rs, l, rfl, e, hv, U, q⟩ := h
  refine ⟨_, (pss_cons (ps_par (i := 1) (j := 2) (by rfl) sc__law_unlike_right.nd rfl rfl (by decide) rfl rfl (pa_cons (pe_makC M_Mill hr (pa_cons (pe_ix ix_tup (pv 0) pe_int (fun _ _ => rfl)) (pa_cons (pe_ix ix_tup (pv 0) pe_int (fun _ _ => rfl)) pa_nil))) (pa_cons (pe_ix ix_tup (pe_ix ix_list (pe_ix ix_tup (pv 0) pe_int (fun _ _ => rfl)) pe_int (fun _ _ => rfl)) pe_int (fun _ _ => rfl)) pa_nil)) (by rfl))
      (pss_cons (ps_set (i := 3) sc__law_unlike_right.nd rfl (.inl rfl) (pe_lst (pa_cons (pe_makC M_Mill hr (pa_cons (pe_ix ix_tup (pv 0) pe_int (fun _ _ => rfl)) (pa_cons (pe_slice sl_list (pe_ix ix_tup (pv 0) pe_int (fun _ _ => rfl)) po_none (po_some (pe_un un_neg pe_int))) pa_nil))) (pa_cons (pe_makC M_Mill hr (pa_cons (pe_op op_catS (pe_ix ix_tup (pv 0) pe_int (fun _ _ => rfl)) (pe_lst (pa_cons (pe_tup (pa_cons pe_str (pa_cons pe_non pa_nil))) pa_nil))) (pa_cons (pe_ix ix_tup (pv 0) pe_int (fun _ _ => rfl)) pa_nil))) pa_nil))))
      (pss_cons (ps_expr (pe_bm PySem.F.plainAttrs_list PySem.F.slot_list_append PySem.F.type_list_append mt_append (pv 3) (pa_cons (pe_makC M_Mill hr (pa_cons (pe_ix ix_tup (pv 0) pe_int (fun _ _ => rfl)) (pa_cons (pe_op op_catS (pe_ix ix_tup (pv 0) pe_int (fun _ _ => rfl)) (pe_lst (pa_cons (pe_tup (pa_cons pe_str (pa_cons (pe_lst pa_nil) (pa_cons (pe_lst pa_nil) pa_nil)))) pa_nil))) pa_nil))) pa_nil)))
      (pss_cons (ps_set (i := 4) sc__law_unlike_right.nd rfl (.inl rfl) (pe_ifExp (pt_cmpR op_isN (pe_ix ix_tup (pe_ix ix_list (pe_ix ix_tup (pv 0) pe_int (fun _ _ => rfl)) pe_int (fun _ _ => rfl)) pe_int (fun _ _ => rfl)) pe_non (nomark _)) pe_int pe_non))
      (pss_cons (ps_expr (pe_bm PySem.F.plainAttrs_list PySem.F.slot_list_append PySem.F.type_list_append mt_append (pv 3) (pa_cons (pe_makC M_Mill hr (pa_cons (pe_op op_catS (pe_lst (pa_cons (pe_tup (pa_cons (pv 2) (pa_cons (pv 4) pa_nil))) pa_nil)) (pe_slice sl_list (pe_ix ix_tup (pv 0) pe_int (fun _ _ => rfl)) (po_some pe_int) po_none)) (pa_cons (pe_ix ix_tup (pv 0) pe_int (fun _ _ => rfl)) pa_nil))) pa_nil)))
      (pss_cons (ps_set (i := 5) sc__law_unlike_right.nd rfl (.inl rfl) (pe_ix ix_list (pe_ix ix_tup (pv 0) pe_int (fun _ _ => rfl)) (pe_un un_neg pe_int) (fun _ _ => rfl)))
      (pss_cons (ps_expr (pe_bm PySem.F.plainAttrs_list PySem.F.slot_list_append PySem.F.type_list_append mt_append (pv 3) (pa_cons (pe_makC M_Mill hr (pa_cons (pe_ix ix_tup (pv 0) pe_int (fun _ _ => rfl)) (pa_cons (pe_op op_catS (pe_slice sl_list (pe_ix ix_tup (pv 0) pe_int (fun _ _ => rfl)) po_none (po_some (pe_un un_neg pe_int))) (pe_lst (pa_cons (pe_tup (pa_cons pe_str (pa_cons (pe_ix ix_tup (pv 5) pe_int (fun _ _ => rfl)) (pa_cons (pe_ix ix_tup (pv 5) pe_int (fun _ _ => rfl)) pa_nil)))) pa_nil))) pa_nil))) pa_nil)))
      (pss_cons (ps_expr (pe_bm PySem.F.plainAttrs_list PySem.F.slot_list_append PySem.F.type_list_append mt_append (pv 3) (pa_cons (pe_makC M_Mill hr (pa_cons (pe_ix ix_tup (pv 0) pe_int (fun _ _ => rfl)) (pa_cons (pe_op op_catS (pe_slice sl_list (pe_ix ix_tup (pv 0) pe_int (fun _ _ => rfl)) po_none (po_some (pe_un un_neg pe_int))) (pe_lst (pa_cons (pe_tup (pa_cons (pe_ix ix_tup (pv 5) pe_int (fun _ _ => rfl)) (pa_cons (pe_lst (pa_cons (pe_tup (pa_cons (pv 2) (pa_cons pe_int pa_nil))) pa_nil)) (pa_cons (pe_ix ix_tup (pv 5) pe_int (fun _ _ => rfl)) pa_nil)))) pa_nil))) pa_nil))) pa_nil)))
      (pss_cons (ps_expr (pe_bm PySem.F.plainAttrs_list PySem.F.slot_list_append PySem.F.type_list_append mt_append (pv 3) (pa_cons (pe_makC M_Mill hr (pa_cons (pe_ix ix_tup (pv 0) pe_int (fun _ _ => rfl)) (pa_cons (pe_op op_catS (pe_slice sl_list (pe_ix ix_tup (pv 0) pe_int (fun _ _ => rfl)) po_none (po_some (pe_un un_neg pe_int))) (pe_lst (pa_cons (pe_tup (pa_cons (pe_ix ix_tup (pv 5) pe_int (fun _ _ => rfl)) (pa_cons (pe_ix ix_tup (pv 5) pe_int (fun _ _ => rfl)) (pa_cons (pe_lst (pa_cons (pe_tup (pa_cons (pv 2) (pa_cons pe_int pa_nil))) pa_nil)) pa_nil)))) pa_nil))) pa_nil))) pa_nil)))
      (pss_cons (ps_set (i := 6) sc__law_unlike_right.nd rfl (.inl rfl) (pe_op op_catS (pe_ix ix_tup (pv 0) pe_int (fun _ _ => rfl)) (pe_lst (pa_cons (pe_tup (pa_cons pe_str (pa_cons pe_non pa_nil))) pa_nil))))
      (pss_cons (ps_if (PW.pt (pw_or (pt_cmpR (op_eqV M_eq EC.no hr) (pe_makC M_Mill hr (pa_cons (pv 6) (pa_cons (pe_lst pa_nil) pa_nil))) (pe_makC M_Mill hr (pa_cons (pe_revL (pv 6)) (pa_cons (pe_lst pa_nil) pa_nil))) (nomark _)) (pw_or1 (pt_cmpR (op_eqV M_eq EC.no hr) (pe_makC M_Mill hr (pa_cons (pe_ix ix_tup (pv 0) pe_int (fun _ _ => rfl)) (pa_cons (pe_callC C__law_two hr (pa_cons (pv 2) pa_nil)) pa_nil))) (pe_makC M_Mill hr (pa_cons (pe_ix ix_tup (pv 0) pe_int (fun _ _ => rfl)) (pa_cons (pe_revL (pe_callC C__law_two hr (pa_cons (pv 2) pa_nil))) pa_nil))) (nomark _))))) (pss_one (ps_ret pe_bl)) pss_nil)
      (pss_cons (ps_expr (pe_bm PySem.F.plainAttrs_list PySem.F.slot_list_append PySem.F.type_list_append mt_append (pv 3) (pa_cons (pe_makC M_Mill hr (pa_cons (pe_revL (pv 6)) (pa_cons (pe_ix ix_tup (pv 0) pe_int (fun _ _ => rfl)) pa_nil))) pa_nil)))
      (pss_cons (ps_set (i := 7) sc__law_unlike_right.nd rfl (.inl rfl) (pe_lst (pa_cons (pe_tup (pa_cons (pv 2) (pa_cons pe_int pa_nil))) (pa_cons (pe_tup (pa_cons pe_str (pa_cons pe_int pa_nil))) pa_nil))))
      (pss_cons (ps_for PassesOwn.never rfl (pi_list (pe_lst (pa_cons (pe_tup (pa_cons (pe_tup (pa_cons pe_str (pa_cons (pv 7) (pa_cons (pe_lst pa_nil) pa_nil)))) (pa_cons (pe_tup (pa_cons pe_str (pa_cons (pe_revL (pv 7)) (pa_cons (pe_lst pa_nil) pa_nil)))) pa_nil))) (pa_cons (pe_tup (pa_cons (pe_tup (pa_cons pe_str (pa_cons (pe_lst pa_nil) (pa_cons (pv 7) pa_nil)))) (pa_cons (pe_tup (pa_cons pe_str (pa_cons (pe_lst pa_nil) (pa_cons (pe_revL (pv 7)) pa_nil)))) pa_nil))) pa_nil)))) (pg_tup (by rfl) (pgs_cons (pg_name (i := 8) sc__law_unlike_right.nd rfl (.inl rfl)) (pgs_cons (pg_name (i := 9) sc__law_unlike_right.nd rfl (.inl rfl)) pgs_nil))) (pss_one (ps_if (PW.pt (pw_or (pt_cmpR (op_eqV M_eq EC.no hr) (pe_makC M_Mill hr (pa_cons (pv 6) (pa_cons (pe_lst (pa_cons (pv 8) pa_nil)) pa_nil))) (pe_makC M_Mill hr (pa_cons (pv 6) (pa_cons (pe_lst (pa_cons (pv 9) pa_nil)) pa_nil))) (nomark _)) (pw_or1 (pt_not (pt_cmpR (op_neV M_eq EC hr) (pe_makC M_Mill hr (pa_cons (pv 6) (pa_cons (pe_lst (pa_cons (pv 8) pa_nil)) pa_nil))) (pe_makC M_Mill hr (pa_cons (pv 6) (pa_cons (pe_lst (pa_cons (pv 9) pa_nil)) pa_nil))) (nomark _)))))) (pss_one (ps_ret pe_bl)) pss_nil)))
      (pss_cons (ps_for PassesOwn.never rfl (pi_list (pe_op op_cat (pv 3) (pe_lst (pa_cons pe_non (pa_cons pe_int (pa_cons pe_str (pa_cons (pe_lst pa_nil) (pa_cons (pe_tup pa_nil) (pa_cons pe_dnewK (pa_cons (pv 0) (pa_cons (pe_ix ix_tup (pv 0) pe_int (fun _ _ => rfl)) (pa_cons (pe_meth0C M_recipes MC.cl hr (pv 1)) pa_nil)))))))))))) (pg_name (i := 10) sc__law_unlike_right.nd rfl (.inl rfl)) (pss_one (ps_if (PW.pt (pw_or (pt_cmpR (op_eqV M_eq EC.no hr) (pv 1) (pv 10) (nomark _)) (pw_or (pt_cmpR (op_eqR M_eq EC.no hr) (pv 10) (pv 1) (nomark _)) (pw_or1 (pt_not (pt_cmpR (op_neV M_eq EC hr) (pv 1) (pv 10) (nomark _))))))) (pss_one (ps_ret pe_bl)) pss_nil)))
      (pss_one (ps_ret pe_bl))))))))))))))))), ?_⟩
  have st : start ["parts", "mill", "name", "others", "room", "last", "more", "sides", "one", "two", "other"] [pt] = [some pt, none, none, none, none, none, none, none, none, none, none] := rfl
  rw [st]
  have ok := U.ok
  have vp : ∀ {σ : L2.St} {F' : Hp}, σ[0]? = some (some pt) → Ex F F' → EvD K (tVar 0) σ F' (encPartsT m) := fun h0 e' => Dv.ev_var (i := 0) h0 (dp_ex e' hv)
  have P0 : ∀ {σ : L2.St} {F' : Hp}, σ[0]? = some (some pt) → Ex F F' → EvD K (tOp (rIxT K) (tVar 0) (tC (.int 0))) σ F' (.list (m.stuffs.map encStuff)) := fun h0 e' => Dv.ev_ixT (vp h0 e') (Dv.ev_int 0) rfl
  have P1 : ∀ {σ : L2.St} {F' : Hp}, σ[0]? = some (some pt) → Ex F F' → EvD K (tOp (rIxT K) (tVar 0) (tC (.int 1))) σ F' (.list (m.recipes.map encRecipe)) := fun h0 e' => Dv.ev_ixT (vp h0 e') (Dv.ev_int 1) rfl
  have a0 : atI (m.stuffs.map encStuff) 0 = some (encStuff (n, r0)) := atI_nat (j := 0) (by rw [U.es]; rfl)
  have al : atI (m.recipes.map encRecipe) (-1) = some (encRecipe l) := by
    rw [U.er, List.map_append]
    exact atI_last _ _
  have sl := U.slen
  have rl8 : m.recipes.length ≤ 8 := ok.r2
  have PB : ∀ {σ : L2.St} {F' : Hp}, σ[0]? = some (some pt) → Ex F F' → EvD K (tSl (rSlL K) (tOp (rIxT K) (tVar 0) (tC (.int 1))) tNoPart (tPart (tUn (rU fun i => .int (-i)) (tC (.int 1))))) σ F' (.list (rs.map encRecipe)) := fun h0 e' => EvL.ev (Dv.el_is (Dv.el_sl (P1 h0 e') Dv.eo_none (Dv.eo_some (K := K) (i := -1) (Dv.ev_U (K := K) (i := 1) (k := .int (-1)) (fun _ => .int _) (Dv.ev_int (K := K) 1)))) (by
    rw [U.er, List.map_append]
    exact cutD_back _ _))
  -- mill, name
  refine seq_of (par2' (ev_mill (E := E0) (K := K) (C := C) (m := m) (F := F) (Dv.ea_cons (P0 rfl (Ex.refl F)) (Dv.ea_cons (P1 rfl (Ex.refl F)) Dv.ea_nil)) ok H e _ fun ml F1 H1 g1 hm => Dv.ev_ixT (ds := [.str n, encRoom r0]) (d := .str n) (Dv.ev_ixL (P0 rfl g1.fx) (Dv.ev_int 0) a0) (Dv.ev_int 0) rfl H1 g1.fh _ fun nv F2 H2 g2 hn => ⟨_, _, rfl, ?_⟩))
  cases hn
  dsimp only
  show tSeq _ _ _ [some pt, some (.ref ml), some (.str n), none, none, none, none, none, none, none, none] H2
  have x2 := g1.fx.trans g2.fx
  have Z0 : ∀ {σ : L2.St} {F' : Hp}, σ[0]? = some (some pt) → Ex F F' → EvD K (tOp (rCatS K) (tOp (rIxT K) (tVar 0) (tC (.int 0))) (tLst (tCons (tTup (tCons (tC (.str "zz")) (tCons (tC .non) tNil))) tNil))) σ F' (.list ((m.stuffs ++ [(zzS, none)]).map encStuff)) := fun h0 e' =>
    EvL.ev (Dv.el_is (el_catS (P0 h0 e') (EvL.ev (Dv.el_lst (Dv.ea_cons (Dv.ev_tup (Dv.ea_cons (Dv.ev_str "zz") (Dv.ea_cons Dv.ev_non Dv.ea_nil)) (by simp)) Dv.ea_nil) (by simp))) (by rw [List.length_map]; simp; omega)) (mapS_append m.stuffs [(zzS, none)]))
  have emp : ∀ {σ : L2.St} {F' : Hp}, EvD K (tLst tNil) σ F' (.list []) := EvL.ev (Dv.el_lst Dv.ea_nil (by simp))
  -- others
  refine seq_of (asg_of (lst2_of (ev_mill (E := E0) (K := K) (C := C) (m := ⟨m.stuffs, rs⟩) (F := F2) (Dv.ea_cons (P0 rfl x2) (Dv.ea_cons (PB rfl x2) Dv.ea_nil)) U.ok1 H2 g2.fh _ fun y1 F3 H3 g3 hm1 => ev_mill (E := E0) (K := K) (C := C) (m := ⟨m.stuffs ++ [(zzS, none)], m.recipes⟩) (F := F3) (Dv.ea_cons (Z0 rfl (x2.trans g3.fx)) (Dv.ea_cons (P1 rfl (x2.trans g3.fx)) Dv.ea_nil)) U.ok2 H3 g3.fh _ fun y2 F4 H4 g4 hm2 => ⟨sz_of (by simp), fun p hp => ?_⟩)))
  dsimp only
  show tSeq _ _ _ [some pt, some (.ref ml), some (.str n), some (.ref p), none, none, none, none, none, none, none] (upd H4 p (.lst [.ref y1, .ref y2]))
  have gg0 := (g1.trans g2).trans (g3.trans g4)
  have hp0 : H p = none := ex_none gg0.hx hp
  have fl4 : F4 p = none := ex_none g4.fh hp
  have gg4 := gg0.mut (o := .lst [V.ref y1, .ref y2]) hp0 fl4
  have hO4 : ∀ v ∈ [V.ref y1, .ref y2], OV K C m F4 v := by
    intro v hv
    simp only [List.mem_cons, List.not_mem_nil, or_false] at hv
    rcases hv with rfl | rfl
    · exact ⟨y1, _, rfl, MillAt.mono g4.fx hm1, U.ok1, U.ne1⟩
    · exact ⟨y2, _, rfl, hm2, U.ok2, U.ne2⟩
  have addO : ∀ {vs : List V} {F5 F6 : Hp} {y : Addr} {m2 : MillD}, (∀ v ∈ vs, OV K C m F5 v) → Ex F5 F6 → MillAt K F6 C y m2 → m2.Ok → MNe m m2 → ∀ v ∈ vs ++ [V.ref y], OV K C m F6 v := fun h e hm ok ne v hv => by
    rcases List.mem_append.mp hv with hv | hv
    · exact (h v hv).mono e
    · rw [List.mem_singleton.mp hv]
      exact ⟨_, _, rfl, hm, ok, ne⟩
  have hm4 := MillAt.mono (g2.fx.trans (g3.fx.trans g4.fx)) hm
  have hl4 : (upd H4 p (.lst [V.ref y1, .ref y2])) p = some (.lst [V.ref y1, .ref y2]) := upd_same
  generalize upd H4 p (.lst [V.ref y1, .ref y2]) = H4' at gg4 hl4 ⊢
  -- a recipe more
  refine seq_of (s_appO (i := 3) gg4 hp0 fl4 hl4 rfl (ev_mill (E := E0) (K := K) (C := C) (m := ⟨m.stuffs, m.recipes ++ [(zzS, [], [])]⟩) (F := F4) (Dv.ea_cons (P0 rfl gg4.fx) (Dv.ea_cons (EvL.ev (Dv.el_is (el_catS (P1 rfl gg4.fx) (EvL.ev (Dv.el_lst (Dv.ea_cons (Dv.ev_tup (Dv.ea_cons (Dv.ev_str "zz") (Dv.ea_cons emp (Dv.ea_cons emp Dv.ea_nil))) (by simp)) Dv.ea_nil) (by simp))) (by rw [List.length_map]; simp; omega)) (mapR_append m.recipes [(zzS, [], [])]))) Dv.ea_nil)) U.ok3) (by simp) fun y3 F5 H5 gg5 x5 fl5 hl5 hm3 => ?_)
  have hO5 := addO hO4 x5 hm3 U.ok3 U.ne3
  have hm5 := hm4.mono x5
  dsimp only
  -- another room
  refine seq_of (Dv.s_asg (K := K) (F := F5) (d := encRoom (roomX r0)) (ev_if (p := nonB (encRoom r0)) (et_v (ev_isNR (Dv.ev_ixT (ds := [.str n, encRoom r0]) (d := encRoom r0) (Dv.ev_ixL (P0 rfl gg5.fx) (Dv.ev_int 0) a0) (Dv.ev_int 1) rfl)) rfl) (fun h => by
    cases hr0 : r0 with
    | none => exact Dv.ev_int 5
    | some k => rw [hr0] at h; cases h) (fun h => by
    cases hr0 : r0 with
    | none => rw [hr0] at h; cases h
    | some k => exact Dv.ev_non)) gg5.fh fun rv F6 H6 g6 hrv => ?_)
  dsimp only
  show tSeq _ _ _ [some pt, some (.ref ml), some (.str n), some (.ref p), some rv, none, none, none, none, none, none] H6
  have gg6 := gg5.trans g6
  have k6 := g6.keep hl5 fl5
  refine seq_of (s_appO (i := 3) gg6 hp0 k6.2 k6.1 rfl (ev_mill (E := E0) (K := K) (C := C) (m := ⟨(n, roomX r0) :: ss, m.recipes⟩) (F := F6) (Dv.ea_cons (EvL.ev (Dv.el_is (el_catS (ds := [encStuff (n, roomX r0)]) (es := ss.map encStuff) (EvL.ev (Dv.el_lst (Dv.ea_cons (Dv.ev_tup (Dv.ea_cons (Dv.ev_var (i := 2) rfl (.str n)) (Dv.ea_cons (Dv.ev_var (i := 4) rfl hrv) Dv.ea_nil)) (by simp)) Dv.ea_nil) (by simp))) (EvL.ev (Dv.el_is (Dv.el_sl (P0 rfl gg6.fx) (Dv.eo_some (K := K) (i := ((1 : Nat) : Int)) (Dv.ev_int 1)) Dv.eo_none) (by rw [U.es, cutD_from]; rfl))) (by have := U.sl; simp; omega)) rfl)) (Dv.ea_cons (P1 rfl gg6.fx) Dv.ea_nil)) U.ok4) (by simp) fun y4 F7 H7 gg7 x7 fl7 hl7 hm7 => ?_)
  have hO7 := addO (fun v hv => (hO5 v hv).mono g6.fx) x7 hm7 U.ok4 U.ne4
  have hmm7 := hm5.mono (g6.fx.trans x7)
  dsimp only
  -- last
  refine seq_of (Dv.s_asg (K := K) (F := F7) (d := encRecipe l) (Dv.ev_ixL (P1 rfl gg7.fx) (Dv.ev_U (i := 1) (k := .int (-1)) (fun _ => .int _) (Dv.ev_int 1)) al) gg7.fh fun lv F8 H8 g8 hlv => ?_)
  dsimp only
  show tSeq _ _ _ [some pt, some (.ref ml), some (.str n), some (.ref p), some rv, some lv, none, none, none, none, none] H8
  have gg8 := gg7.trans g8
  have k8 := g8.keep hl7 fl7
  have LL0 : ∀ {σ : L2.St} {F' : Hp}, σ[5]? = some (some lv) → Ex F8 F' → EvD K (tOp (rIxT K) (tVar 5) (tC (.int 0))) σ F' (.str l.1) := fun h0 e' => Dv.ev_ixT (ds := [.str l.1, .list (l.2.1.map encPart), .list (l.2.2.map encPart)]) (Dv.ev_var (i := 5) h0 (dp_ex e' hlv)) (Dv.ev_int 0) rfl
  have LL1 : ∀ {σ : L2.St} {F' : Hp}, σ[5]? = some (some lv) → Ex F8 F' → EvD K (tOp (rIxT K) (tVar 5) (tC (.int 1))) σ F' (.list (l.2.1.map encPart)) := fun h0 e' => Dv.ev_ixT (ds := [.str l.1, .list (l.2.1.map encPart), .list (l.2.2.map encPart)]) (Dv.ev_var (i := 5) h0 (dp_ex e' hlv)) (Dv.ev_int 1) rfl
  have LL2 : ∀ {σ : L2.St} {F' : Hp}, σ[5]? = some (some lv) → Ex F8 F' → EvD K (tOp (rIxT K) (tVar 5) (tC (.int 2))) σ F' (.list (l.2.2.map encPart)) := fun h0 e' => Dv.ev_ixT (ds := [.str l.1, .list (l.2.1.map encPart), .list (l.2.2.map encPart)]) (Dv.ev_var (i := 5) h0 (dp_ex e' hlv)) (Dv.ev_int 2) rfl
  have N2 : ∀ {σ : L2.St} {F' : Hp}, σ[2]? = some (some (.str n)) → EvD K (tVar 2) σ F' (.str n) := fun h0 => Dv.ev_var (i := 2) h0 (.str n)
  have S7 : ∀ {σ : L2.St} {F' : Hp}, σ[2]? = some (some (.str n)) → EvD K (tLst (tCons (tTup (tCons (tVar 2) (tCons (tC (.int 7)) tNil))) tNil)) σ F' (.list ([(n, (7 : Int))].map encPart)) := fun h0 => EvL.ev (Dv.el_lst (Dv.ea_cons (Dv.ev_tup (Dv.ea_cons (N2 h0) (Dv.ea_cons (Dv.ev_int 7) Dv.ea_nil)) (by simp)) Dv.ea_nil) (by simp))
  have rsl := U.rl
  have PBx : ∀ {σ : L2.St} {F' : Hp} {te : TE} {r : RecD}, σ[0]? = some (some pt) → Ex F F' → EvD K te σ F' (encRecipe r) → EvD K (tOp (rCatS K) (tSl (rSlL K) (tOp (rIxT K) (tVar 0) (tC (.int 1))) tNoPart (tPart (tUn (rU fun i => .int (-i)) (tC (.int 1))))) (tLst (tCons te tNil))) σ F' (.list ((rs ++ [r]).map encRecipe)) := fun h0 e' ht =>
    EvL.ev (Dv.el_is (el_catS (PB h0 e') (EvL.ev (Dv.el_lst (Dv.ea_cons ht Dv.ea_nil) (by simp))) (by rw [List.length_map]; simp; omega)) (mapR_append rs [_]))
  refine seq_of (s_appO (i := 3) gg8 hp0 k8.2 k8.1 rfl (ev_mill (E := E0) (K := K) (C := C) (m := ⟨m.stuffs, rs ++ [(zzS, l.2.1, l.2.2)]⟩) (F := F8) (Dv.ea_cons (P0 rfl gg8.fx) (Dv.ea_cons (PBx rfl gg8.fx (Dv.ev_tup (Dv.ea_cons (Dv.ev_str "zz") (Dv.ea_cons (LL1 rfl (Ex.refl _)) (Dv.ea_cons (LL2 rfl (Ex.refl _)) Dv.ea_nil))) (by simp))) Dv.ea_nil)) U.ok5) (by simp) fun y5 F9 H9 gg9 x9 fl9 hl9 hm9 => ?_)
  have hO9 := addO (fun v hv => (hO7 v hv).mono g8.fx) x9 hm9 U.ok5 U.ne5
  dsimp only
  refine seq_of (s_appO (i := 3) gg9 hp0 fl9 hl9 rfl (ev_mill (E := E0) (K := K) (C := C) (m := ⟨m.stuffs, rs ++ [(l.1, [(n, 7)], l.2.2)]⟩) (F := F9) (Dv.ea_cons (P0 rfl gg9.fx) (Dv.ea_cons (PBx rfl gg9.fx (Dv.ev_tup (Dv.ea_cons (LL0 rfl x9) (Dv.ea_cons (S7 rfl) (Dv.ea_cons (LL2 rfl x9) Dv.ea_nil))) (by simp))) Dv.ea_nil)) U.ok6) (by simp) fun y6 F10 H10 gg10 x10 fl10 hl10 hm10 => ?_)
  have hO10 := addO hO9 x10 hm10 U.ok6 U.ne6
  dsimp only
  refine seq_of (s_appO (i := 3) gg10 hp0 fl10 hl10 rfl (ev_mill (E := E0) (K := K) (C := C) (m := ⟨m.stuffs, rs ++ [(l.1, l.2.1, [(n, 7)])]⟩) (F := F10) (Dv.ea_cons (P0 rfl gg10.fx) (Dv.ea_cons (PBx rfl gg10.fx (Dv.ev_tup (Dv.ea_cons (LL0 rfl (x9.trans x10)) (Dv.ea_cons (LL1 rfl (x9.trans x10)) (Dv.ea_cons (S7 rfl) Dv.ea_nil))) (by simp))) Dv.ea_nil)) U.ok7) (by simp) fun y7 F11 H11 gg11 x11 fl11 hl11 hm11 => ?_)
  have hO11 := addO hO10 x11 hm11 U.ok7 U.ne7
  have hmm11 := hmm7.mono (g8.fx.trans (x9.trans (x10.trans x11)))
  dsimp only
  -- more
  refine seq_of (asg_of (Z0 (σ := [some pt, some (.ref ml), some (.str n), some (.ref p), some rv, some lv, none, none, none, none, none]) rfl gg11.fx H11 gg11.fh _ fun mv F12 H12 g12 hmv => ?_))
  dsimp only
  show tSeq _ _ _ [some pt, some (.ref ml), some (.str n), some (.ref p), some rv, some lv, some mv, none, none, none, none] H12
  have gg12 := gg11.trans g12
  have k12 := g12.keep hl11 fl11
  have M6 : ∀ {σ : L2.St} {F' : Hp}, σ[6]? = some (some mv) → Ex F12 F' → EvD K (tVar 6) σ F' (.list ((m.stuffs ++ [(zzS, none)]).map encStuff)) := fun h0 e' => Dv.ev_var (i := 6) h0 (dp_ex e' hmv)
  have M6r : ∀ {σ : L2.St} {F' : Hp}, σ[6]? = some (some mv) → Ex F12 F' → EvD K (tRevL K (tVar 6)) σ F' (.list ((m.stuffs ++ [(zzS, none)]).reverse.map encStuff)) := fun h0 e' => EvL.ev (Dv.el_is (el_rev (M6 h0 e')) (by rw [List.map_reverse]))
  have T2 : ∀ {σ : L2.St} {F' : Hp}, σ[2]? = some (some (.str n)) → EvD K (tCall (spD K fTwo) [] E0 (tCons (tVar 2) tNil)) σ F' (.list ((twoR n).map encRecipe)) := fun h0 => ev_callD (Dv.ea_cons (N2 h0) Dv.ea_nil) ⟨n, rfl, rfl⟩
  refine seq_of (s_ifF (et_orF (et_v (ev_ownV2 (b := false) (m := mA m) (m2 := mB m) (ev_mill (Dv.ea_cons (M6 rfl (Ex.refl _)) (Dv.ea_cons emp Dv.ea_nil)) U.okA) (ev_mill (Dv.ea_cons (M6r rfl (Ex.refl _)) (Dv.ea_cons emp Dv.ea_nil)) U.okB) U.okA U.okB (by rw [U.neAB]; rfl)) rfl)
    (et_v (ev_ownV2 (b := false) (m := mT m n) (m2 := mTr m n) (ev_mill (Dv.ea_cons (P0 rfl gg12.fx) (Dv.ea_cons (T2 rfl) Dv.ea_nil)) U.ok2R) (ev_mill (Dv.ea_cons (P0 rfl gg12.fx) (Dv.ea_cons (EvL.ev (Dv.el_is (el_rev (T2 rfl)) (by rw [List.map_reverse]))) Dv.ea_nil)) U.ok2Rr) U.ok2R U.ok2Rr (by rw [U.ne2R]; rfl)) rfl)) gg12.fh fun F13 H13 g13 => ?_)
  try unfold tNext
  dsimp only
  show tSeq _ _ _ [some pt, some (.ref ml), some (.str n), some (.ref p), some rv, some lv, some mv, none, none, none, none] H13
  have gg13 := gg12.trans g13
  have k13 := g13.keep k12.1 k12.2
  refine seq_of (s_appO (i := 3) gg13 hp0 k13.2 k13.1 rfl (ev_mill (E := E0) (K := K) (C := C) (m := m8r m) (F := F13) (Dv.ea_cons (M6r rfl g13.fx) (Dv.ea_cons (P1 rfl gg13.fx) Dv.ea_nil)) U.ok8) (by simp) fun y8 F14 H14 gg14 x14 fl14 hl14 hm14 => ?_)
  have hO14 := addO (fun v hv => (hO11 v hv).mono (g12.fx.trans g13.fx)) x14 hm14 U.ok8 U.ne8
  have hmm14 := hmm11.mono (g12.fx.trans (g13.fx.trans x14))
  dsimp only
  obtain ⟨vs, hl, hvl, hO⟩ : ∃ vs : List V, H14 p = some (.lst vs) ∧ vs.length ≤ 100 ∧ ∀ v ∈ vs, OV K C m F14 v := ⟨_, hl14, by simp, hO14⟩
  -- sides
  have SV : ∀ {σ : L2.St} {F' : Hp}, σ[2]? = some (some (.str n)) → EvD K (tLst (tCons (tTup (tCons (tVar 2) (tCons (tC (.int 1)) tNil))) (tCons (tTup (tCons (tC (.str "zz")) (tCons (tC (.int 2)) tNil))) tNil))) σ F' (.list ((sidesR n).map encPart)) := fun h0 => EvL.ev (Dv.el_lst (Dv.ea_cons (Dv.ev_tup (Dv.ea_cons (N2 h0) (Dv.ea_cons (Dv.ev_int 1) Dv.ea_nil)) (by simp)) (Dv.ea_cons (Dv.ev_tup (Dv.ea_cons (Dv.ev_str "zz") (Dv.ea_cons (Dv.ev_int 2) Dv.ea_nil)) (by simp)) Dv.ea_nil)) (by simp [sidesR]))
  refine seq_of (asg_of (SV (σ := [some pt, some (.ref ml), some (.str n), some (.ref p), some rv, some lv, some mv, none, none, none, none]) rfl H14 gg14.fh _ fun sv F15 H15 g15 hsv => ?_))
  dsimp only
  show tSeq _ _ _ [some pt, some (.ref ml), some (.str n), some (.ref p), some rv, some lv, some mv, some sv, none, none, none] H15
  have gg15 := gg14.trans g15
  have k15 := g15.keep hl fl14
  have m615 := g13.fx.trans (x14.trans g15.fx)
  have hmm15 := hmm14.mono g15.fx
  have S7v : ∀ {σ : L2.St} {F' : Hp}, σ[7]? = some (some sv) → Ex F15 F' → EvD K (tVar 7) σ F' (.list ((sidesR n).map encPart)) := fun h0 e' => Dv.ev_var (i := 7) h0 (dp_ex e' hsv)
  have S7r : ∀ {σ : L2.St} {F' : Hp}, σ[7]? = some (some sv) → Ex F15 F' → EvD K (tRevL K (tVar 7)) σ F' (.list ((sidesR n).reverse.map encPart)) := fun h0 e' => EvL.ev (Dv.el_is (el_rev (S7v h0 e')) (by rw [List.map_reverse]))
  have yT : ∀ {σ : L2.St} {F' : Hp} {ta tb : TE} {a b : List (Str × Int)}, EvD K ta σ F' (.list (a.map encPart)) → EvD K tb σ F' (.list (b.map encPart)) → EvD K (tTup (tCons (tC (.str "y")) (tCons ta (tCons tb tNil)))) σ F' (encRecipe (yS, a, b)) := fun ha hb => Dv.ev_tup (Dv.ea_cons (Dv.ev_str "y") (Dv.ea_cons ha (Dv.ea_cons hb Dv.ea_nil))) (by simp)
  have pT : ∀ {σ : L2.St} {F' : Hp} {ta tb : TE} {a b : RecD}, EvD K ta σ F' (encRecipe a) → EvD K tb σ F' (encRecipe b) → EvD K (tTup (tCons ta (tCons tb tNil))) σ F' (encPr (a, b)) := fun ha hb => Dv.ev_tup (Dv.ea_cons ha (Dv.ea_cons hb Dv.ea_nil)) (by simp)
  have pL : EvD K (tLst (tCons (tTup (tCons (tTup (tCons (tC (.str "y")) (tCons (tVar 7) (tCons (tLst tNil) tNil)))) (tCons (tTup (tCons (tC (.str "y")) (tCons (tRevL K (tVar 7)) (tCons (tLst tNil) tNil)))) tNil))) (tCons (tTup (tCons (tTup (tCons (tC (.str "y")) (tCons (tLst tNil) (tCons (tVar 7) tNil)))) (tCons (tTup (tCons (tC (.str "y")) (tCons (tLst tNil) (tCons (tRevL K (tVar 7)) tNil)))) tNil))) tNil)))
      [some pt, some (.ref ml), some (.str n), some (.ref p), some rv, some lv, some mv, some sv, none, none, none] F15 (.list ((pairsR n).map encPr)) :=
    EvL.ev (Dv.el_lst (Dv.ea_cons (pT (yT (S7v rfl (Ex.refl _)) emp) (yT (S7r rfl (Ex.refl _)) emp)) (Dv.ea_cons (pT (yT emp (S7v rfl (Ex.refl _))) (yT emp (S7r rfl (Ex.refl _)))) Dv.ea_nil)) (by simp [pairsR]))
  refine seq_of (Dv.s_for (K := K) (F := F15) (it_list pL) gg15.fh
    (fun k σ' F' H' => ∃ s8 s9, σ' = [some pt, some (.ref ml), some (.str n), some (.ref p), some rv, some lv, some mv, some sv, s8, s9, none] ∧ Gr F15 H15 F' H') (fun F' H' g => ⟨_, _, rfl, g⟩) ?_ (fun σ' F' H' e1 e2 pq => ?_))
  · rintro Fb eb k σ' F16 H16 u du F17 H17 hdu e16 e17 ⟨s8, s9, rfl, gg16⟩ g17 hu
    rw [List.getElem?_map] at hdu
    obtain ⟨z, hz, rfl⟩ := Option.map_eq_some_iff.mp hdu
    obtain ⟨oka, okb, ne⟩ := U.pairs z (List.mem_of_getElem? hz)
    obtain ⟨xa, xb, ha, hb, ht⟩ := tup2 hu
    refine ht 8 9 _ H17 g17.fh _ ?_
    show tIfS _ _ _ _ [some pt, some (.ref ml), some (.str n), some (.ref p), some rv, some lv, some mv, some sv, some xa, some xb, none] H17
    have x17 := m615.trans (gg16.fx.trans g17.fx)
    have one : ∀ {i : Nat} {x : V} {r : RecD}, ([some pt, some (.ref ml), some (.str n), some (.ref p), some rv, some lv, some mv, some sv, some xa, some xb, none] : L2.St)[i]? = some (some x) → Dp K F17 x (encRecipe r) → (mOne m r).Ok → EvO (fun F x => MillAt K F C x (mOne m r)) (tMake C (spMillInit K C) [] E0 (tCons (tVar 6) (tCons (tLst (tCons (tVar i) tNil)) tNil))) [some pt, some (.ref ml), some (.str n), some (.ref p), some rv, some lv, some mv, some sv, some xa, some xb, none] F17 := fun hi hx ok => ev_mill (Dv.ea_cons (M6 rfl x17) (Dv.ea_cons (EvL.ev (Dv.el_lst (Dv.ea_cons (Dv.ev_var hi hx) Dv.ea_nil) (by simp))) Dv.ea_nil)) ok
    refine s_ifF (et_orF (et_v (ev_ownV2 (b := false) (one (i := 8) rfl ha oka) (one (i := 9) rfl hb okb) oka okb (by rw [ne]; rfl)) rfl) (et_notT (et_v (ev_ownV2 (b := true) (one (i := 8) rfl ha oka) (one (i := 9) rfl hb okb) oka okb (by rw [ne]; rfl)) rfl))) g17.fh fun F18 H18 g18 => ?_
    try unfold tNext
    dsimp only
    exact ⟨F18, e16.trans (g17.fx.trans g18.fx), g18.fh, _, _, rfl, (gg16.trans g17).trans g18⟩
  · obtain ⟨s8, s9, rfl, gg16⟩ := pq
    dsimp only
    have k16 := gg16.keep k15.1 k15.2
    have gg16' := gg15.trans gg16
    have hmm16 := hmm15.mono gg16.fx
    have hO16 : ∀ v ∈ vs, OV K C m F' v := fun v hv => (hO v hv).mono (g15.fx.trans gg16.fx)
    refine seq_of (s_forP (K := K) (Pd := OZ K C m) (F := F') (fun F F' v e h => h.mono e) (fun Q hQ => ?_) (fun σ' F2 H2 => ∃ s10, σ' = [some pt, some (.ref ml), some (.str n), some (.ref p), some rv, some lv, some mv, some sv, s8, s9, s10] ∧ Gr F' H' F2 H2) (fun F2 H2 g => ⟨_, rfl, g⟩) ?_ (fun σ' F2 H2 e1 e2 pq => ?_))
    · have ed : EaZ K (tCons (tC .non) (tCons (tC (.int 0)) (tCons (tC (.str "mill")) (tCons (tLst tNil) (tCons (tTup tNil) (tCons tDNewK (tCons (tVar 0) (tCons (tOp (rIxT K) (tVar 0) (tC (.int 0))) (tCons (tMeth C "recipes" (spRecipes K C) [] E0 (tVar 1) tNil) tNil))))))))) [some pt, some (.ref ml), some (.str n), some (.ref p), some rv, some lv, some mv, some sv, s8, s9, none] F' [.none, .int 0, .str "mill", .list [], .tuple [], .dict [], encPartsT m, .list (m.stuffs.map encStuff), .list (m.recipes.map encRecipe)] :=
        eaz_cons Dv.ev_non.z (eaz_cons (Dv.ev_int 0).z (eaz_cons (Dv.ev_str "mill").z (eaz_cons emp.z (eaz_cons (Dv.ev_tup Dv.ea_nil (by simp)).z (eaz_cons ez_mt (eaz_cons (vp rfl gg16'.fx).z (eaz_cons (P0 rfl gg16'.fx).z (eaz_cons (EvL.ev (el_recipes (E := E0) MC (i := 1) rfl hmm16 rl8)).z eaz_nil))))))))
      refine ⟨_, rfl, ed H' gg16'.fh _ fun ws F2 H2 g2 hw => ⟨by rw [dzs_len hw]; exact sz_of (by simp), fun q2 hq2 => ?_⟩⟩
      have kp := g2.keep k16.1 k16.2
      have pq2 : p ≠ q2 := ne_of_none kp.1 hq2
      refine ⟨p, q2, _, _, rfl, rfl, by rw [upd_ne pq2]; exact kp.1, upd_same, by rw [dzs_len hw]; exact sz_of (by simp; omega), fun r hr => ?_⟩
      have g3 := g2.trans (Gr.only (o := .lst ws) g2.fh hq2)
      have g4 := g3.trans (Gr.new (o := .lst (vs ++ ws)) g3.fh hr)
      refine hQ r _ _ _ g4 upd_same fun v hv => ?_
      rcases List.mem_append.mp hv with hv | hv
      · exact .inr ((hO16 v hv).mono g4.fx)
      · obtain ⟨k, hk⟩ := List.getElem?_of_mem hv
        obtain ⟨d, _, hd⟩ := dzs_get hw hk
        exact .inl ⟨d, dz_ex (Ex.new (ex_none g3.fh hr)) hd⟩
    · rintro Fb eb σ' F17 H17 v e17 e17' ⟨s10, rfl, gg17⟩ hv
      show tIfS _ _ _ _ [some pt, some (.ref ml), some (.str n), some (.ref p), some rv, some lv, some mv, some sv, s8, s9, some v] H17
      have hmm17 := hmm16.mono gg17.fx
      refine s_ifF (et_orF (et_v (ev_oz (i := 1) (j := 10) rfl rfl hmm17 ok hv) rfl) (et_orF (et_v (ev_ozR (i := 1) (j := 10) rfl rfl hmm17 ok hv) rfl) (et_notT (et_v (ev_oz (i := 1) (j := 10) rfl rfl hmm17 ok hv) rfl)))) e17' fun F18 H18 g18 => ?_
      try unfold tNext
      dsimp only
      exact ⟨F18, e17.trans g18.fx, g18.fh, _, rfl, gg17.trans g18⟩
    · obtain ⟨s10, rfl, gg17⟩ := pq
      dsimp only
      exact q F2 H2 (gg16'.trans gg17)
end
end R3

set_option Elab.async false
set_option linter.all false
set_option maxRecDepth 100000
set_option maxHeartbeats 4000000
/-! Mill(..) that raises, caught -/
namespace R3
open PySem PySem.Spec PyProof.Rows L2 Evl Dv
def spMillX (K : PySem.W.Frag) (C CL CI : Addr) : Sp := fun vs H Q E => (spMillBad1 K CL vs H Q E ∨ spMillBad2 K C CI vs H Q E) ∨ (spMillBad3 K C CL vs H Q E ∨ spMillBad4 K C CI vs H Q E)
section
variable {P : Program} {w : World} {K : PySem.W.Frag} {mg : Str → Option Value} {base : Heap}
theorem ok_mill_initX {f : Addr} {fd : FuncData} {C CL CI : Addr} (D : Fun K "__init__" "Mill.__init__" sMillInit f fd) (MC : MillC K C) (B : Bl mg) (CC : Cst mg) (EI : ErrC P K mg "InvalidItem" CI)
    (C_check_size : CalX P w K mg base "check_size" ["value", "least", "most"] 1 (spSizeZ K CL)) (C_is_stuff : Cal P w K mg base "is_stuff" ["value"] 3 (spStuffZ K)) (C_is_recipe : Cal P w K mg base "is_recipe" ["value", "spots"] 4 (spRecipeZ K)) :
    FnOkG P w K mg base (L2.CX P w) 5 f fd ["self", "stuffs", "recipes"] (spMillX K C CL CI) :=
  ((ok_mill_bad1 D MC B CC EI C_check_size C_is_stuff C_is_recipe).or (ok_mill_bad2 D MC B CC EI C_check_size C_is_stuff C_is_recipe)).or ((ok_mill_bad3 D MC B CC EI C_check_size C_is_stuff C_is_recipe).or (ok_mill_bad4 D MC B CC EI C_check_size C_is_stuff C_is_recipe))
/-- Mill(sv, rv) raises C0 with u -/
def ThrM (K : PySem.W.Frag) (C CL CI : Addr) (F : Hp) (sv rv : V) (C0 : Addr) (u : V) : Prop := ∀ (H : Hp) (x dx : Addr) (E : XK) (Q' : VK), Ex F H → H x = none → H dx = none → dx ≠ x → Bad C0 F H u E → spMillX K C CL CI [.ref x, sv, rv] (upd (upd H dx (.own x)) x (.ins C dx [])) Q' E
theorem gr_new2 {F H F' H' : Hp} {x dx : Addr} {o o2 : HO} (hx : H x = none) (hdx : H dx = none) (g : Gr F (upd (upd H dx o) x o2) F' H') : Gr F H F' H' :=
  ⟨g.fx, g.fh, fun a u h => g.hx _ _ (by rw [upd_ne (ne_of_none h hx), upd_ne (ne_of_none h hdx)]; exact h), fun a h1 h2 => by
    have := g.fr a h1 h2
    by_cases q : a = x
    · rw [q]; exact hx
    · rw [upd_ne q] at this
      by_cases q2 : a = dx
      · rw [q2]; exact hdx
      · rw [upd_ne q2] at this
        exact this⟩
variable {C CL CI : Addr} {F : Hp}
theorem thr1 {sv rv : V} {d : PyData} (hv : Dz K F sv d) (hl : lenOk d) (hs : sizeOk d 1 8 = false) : ThrM K C CL CI F sv rv CL sv := fun H x dx E Q' e hx hdx ne bad =>
  .inl (.inl ⟨F, x, sv, rv, d, rfl, ex_new2 e hx hdx, hv, hl, hs, fun F' H' dd g h => bad F' H' dd (gr_new2 hx hdx g) h⟩)
theorem thr2 {a1 : Addr} {rv u : V} {vals : List V} {xs : List (Str × Option Int)} {b : PyData} {rest : List PyData} (ha : F a1 = some (.lst vals)) (hv : DzAll K F vals (xs.map encStuff ++ b :: rest)) (hl : xs.length + 1 + rest.length ≤ 8) (hn : (xs.map (·.1)).Nodup) (hss : ∀ z ∈ xs, gd (encStuff z) = true ∧ isStuff (encStuff z) = true) (hg : gd b = true)
    (hb : isStuff b = false ∨ (isStuff b = true ∧ ∃ z, z ∈ xs ∧ ∃ t, b = .tuple [.str z.1, t])) (hu : vals[xs.length]? = some u) : ThrM K C CL CI F (.ref a1) rv CI u := fun H x dx E Q' e hx hdx ne bad => by
  have len : (xs.map encStuff ++ b :: rest).length = xs.length + 1 + rest.length := by simp; omega
  refine .inl (.inr ⟨F, x, dx, a1, rv, vals, xs, b, rest, rfl, ex_new2 e hx hdx, ex_none e hx, ex_none e hdx, upd_same, by rw [upd_ne ne, upd_same]; rfl, Ne.symm ne, ha, hv, ?_, ?_, hn, hss, hg, hb, ?_⟩)
  · intro ys hy
    cases hy
    rw [len]; omega
  · show (decide ((1 : Int) ≤ ((xs.map encStuff ++ b :: rest).length : Nat)) && decide (((xs.map encStuff ++ b :: rest).length : Int) ≤ 8)) = true
    rw [len, decide_eq_true (by omega), decide_eq_true (by omega)]
    rfl
  · intro F' H' v dd bx _ hv' hdd
    rw [hu] at hv'
    cases hv'
    exact bad F' H' dd (bx.gr hx hdx) hdd
theorem st_size {xs : List (Str × Option Int)} (h1 : 1 ≤ xs.length) (h2 : xs.length ≤ 8) : lenOk (.list (xs.map encStuff)) ∧ sizeOk (.list (xs.map encStuff)) 1 8 = true := by
  constructor
  · intro ys hy
    cases hy
    rw [List.length_map]; omega
  · show (decide ((1 : Int) ≤ ((xs.map encStuff).length : Nat)) && decide (((xs.map encStuff).length : Int) ≤ 8)) = true
    rw [List.length_map, decide_eq_true (by omega), decide_eq_true (by omega)]
    rfl
theorem thr3 {sv rv : V} {d : PyData} {xs : List (Str × Option Int)} (hv : Dz K F sv (.list (xs.map encStuff))) (h1 : 1 ≤ xs.length) (h2 : xs.length ≤ 8) (hn : (xs.map (·.1)).Nodup) (hss : ∀ z ∈ xs, gd (encStuff z) = true ∧ isStuff (encStuff z) = true) (hr : Dz K F rv d) (hl : lenOk d) (hs : sizeOk d 0 8 = false) : ThrM K C CL CI F sv rv CL rv := fun H x dx E Q' e hx hdx ne bad =>
  .inr (.inl ⟨F, x, dx, sv, rv, xs, d, rfl, ex_new2 e hx hdx, ex_none e hx, ex_none e hdx, upd_same, by rw [upd_ne ne, upd_same]; rfl, Ne.symm ne, hv, (st_size h1 h2).1, (st_size h1 h2).2, hn, hss, hr, hl, hs, fun F' H' dd bx h => bad F' H' dd (bx.gr hx hdx) h⟩)
theorem thr4 {sv u : V} {a2 : Addr} {vals : List V} {xs : List (Str × Option Int)} {ys : List RecD} {b : PyData} {rest : List PyData} (hv : Dz K F sv (.list (xs.map encStuff))) (h1 : 1 ≤ xs.length) (h2 : xs.length ≤ 8) (hn : (xs.map (·.1)).Nodup) (hss : ∀ z ∈ xs, gd (encStuff z) = true ∧ isStuff (encStuff z) = true)
    (ha : F a2 = some (.lst vals)) (hvs : DzAll K F vals (ys.map encRecipe ++ b :: rest)) (hl : ys.length + 1 + rest.length ≤ 8) (hn2 : (ys.map (·.1)).Nodup) (hrs : ∀ z ∈ ys, gd (encRecipe z) = true ∧ isRecipe (xs.map (·.1)) (encRecipe z) = true) (hg : gd b = true)
    (hb : isRecipe (xs.map (·.1)) b = false ∨ (isRecipe (xs.map (·.1)) b = true ∧ ∃ z, z ∈ ys ∧ ∃ t1 t2, b = .tuple [.str z.1, t1, t2])) (hu : vals[ys.length]? = some u) : ThrM K C CL CI F sv (.ref a2) CI u := fun H x dx E Q' e hx hdx ne bad => by
  have len : (ys.map encRecipe ++ b :: rest).length = ys.length + 1 + rest.length := by simp; omega
  refine .inr (.inr ⟨F, x, dx, sv, a2, vals, xs, ys, b, rest, rfl, ex_new2 e hx hdx, ex_none e hx, ex_none e hdx, upd_same, by rw [upd_ne ne, upd_same]; rfl, Ne.symm ne, hv, (st_size h1 h2).1, (st_size h1 h2).2, hn, hss, ha, hvs, ?_, ?_, hn2, hrs, hg, hb, ?_⟩)
  · intro zs hy
    cases hy
    rw [len]; omega
  · unfold sizeOk
    simp only [Bool.and_eq_true, decide_eq_true_iff]
    rw [len]
    omega
  · intro F' H' v dd bx _ hv' hdd
    rw [hu] at hv'
    cases hv'
    exact bad F' H' dd (bx.gr hx hdx) hdd
/-! what repr tells -/
def Rz (K : PySem.W.Frag) (F : Hp) (v : V) (d : PyData) : Prop := (Dp K F v d ∧ Rp d) ∨ (Dy K F v d ∧ RpZ d)
theorem Rz.mono {F F' : Hp} {v : V} {d : PyData} (e : Ex F F') (h : Rz K F v d) : Rz K F' v d := by
  rcases h with ⟨h, r⟩ | ⟨h, r⟩
  · exact .inl ⟨dp_ex e h, r⟩
  · exact .inr ⟨dy_ex e h, r⟩
theorem callR_or {X : Cx} {f : Value} {r1 r2 : List V → Hp → VK → Prop} (A : CallR X f r1) (B : CallR X f r2) : CallR X f (fun xs H Q => r1 xs H Q ∨ r2 xs H Q) := fun pins s σ H xs us Q I rr q => q.elim (A pins s σ H xs us Q I rr) (B pins s σ H xs us Q I rr)
def rReprZ (K : PySem.W.Frag) : List V → Hp → VK → Prop := fun xs H Q => rReprD K xs H Q ∨ rReprY K xs H Q
theorem call_reprZ {X : Cx} (hg : X.A.guards = some []) (hu : X.A.units + 64 < cLine) : CallR X (.builtin "repr") (rReprZ X.K) := callR_or (call_reprD hg hu) (call_reprY hg hu)
theorem rz_read {F H : Hp} {v : V} {d : PyData} {Q : VK} (h : Rz K F v d) (e : Ex F H) (q : Q (.str d.shown) H) : rReprZ K [v] H Q := by
  rcases h with ⟨h, r⟩ | ⟨h, r⟩
  · exact .inl ⟨v, d, rfl, .inl ⟨dp_ex e h, r.nd⟩, r.sh, Nat.le_trans (shB_le d) (sz_of r.len), r.dep, q⟩
  · exact .inr ⟨v, d, rfl, dy_ex e h, r.sh, Nat.le_trans (shB_le d) (sz_of r.len), r.dep, q⟩
theorem ev_rz {σ : L2.St} {F : Hp} {i : Nat} {v : V} {d : PyData} (hi : σ[i]? = some (some v)) (h : Rz K F v d) : EvD K (tCB (rReprZ K) (tCons (tVar i) tNil)) σ F (.str d.shown) := fun H e Q q => ⟨v, hi, rz_read h e (q _ F H (Gr.refl e) (.str _))⟩
/-- what is asked of the two errors and their base -/
structure ErrsC (K : PySem.W.Frag) (mg : Str → Option Value) (CM CB CE : Addr) : Prop where
  gE : mg "MillError" = some (.ref CE)
  gM : mg "InvalidList" = some (.ref CM)
  gB : mg "InvalidItem" = some (.ref CB)
  xM : PySem.W.exmOne K (.ref CM) (.ref CE) = some true
  xB : PySem.W.exmOne K (.ref CB) (.ref CE) = some true
  eM : ExC K CM
  eB : ExC K CB
  mm : PySem.W.kitOne K (.ref CM) (.ref CM) = some true
  mb : PySem.W.kitOne K (.ref CM) (.ref CB) = some false
  bm : PySem.W.kitOne K (.ref CB) (.ref CM) = some false
  bb : PySem.W.kitOne K (.ref CB) (.ref CB) = some true
  fM : XfC K CM
  fB : XfC K CB
  nM : PySem.W.findIn K (.ref CM) "value" = some none
  nB : PySem.W.findIn K (.ref CB) "value" = some none
def spCaught (K : PySem.W.Frag) (C CM CB : Addr) : Sp := fun vs H Q _ => ∃ (sv rv u : V) (d : PyData) (F : Hp) (C0 : Addr) (k : Int), vs = [sv, rv] ∧ Ex F H ∧ ThrM K C CM CB F sv rv C0 u ∧ Rz K F u d ∧
  ((C0 = CM ∧ k = 0) ∨ (C0 = CB ∧ k = 1)) ∧ ∀ p F' H', Gr F H F' H' → Dp K F' (.ref p) (.list [.int k, .str d.shown]) → Q (.ref p) H'
theorem sc__law_caught : FnScope (["stuffs", "recipes", "caught", "error", "kinds"] : List Str) (["stuffs", "recipes"] : List Str) (defScope sLawCaught) := ⟨rfl, rfl, rfl, by decide +kernel, rfl, by decide +kernel, by decide +kernel⟩
theorem ok_law_caught (D : Def K mg "_law_caught" sLawCaught ["stuffs", "recipes"]) (B : Bl mg) {C CM CB CE : Addr} (ER : ErrsC K mg CM CB CE) (M_MillX : MakX P w K mg base "Mill" C ["stuffs", "recipes"] 5 (spMillX K C CM CB)) : Cal P w K mg base "_law_caught" ["stuffs", "recipes"] 7 (spCaught K C CM CB) := by
  refine cal_mk D sc__law_caught (fun vs H Q E h => ?_) (fun f cdv A outer s H vs Q E hr h => ?_)
  · obtain ⟨sv, rv, u, d, F, C0, k, rfl, _⟩ := h
    rfl
  obtain ⟨sv, rv, u, d, F, C0, k, rfl, e, thr, hrz, hk, q⟩ := h
  have gM := ER.gM
  have gB := ER.gB
  refine ⟨_, (pss_cons (ps_set (i := 2) sc__law_caught.nd rfl (.inl rfl) pe_non)
      (pss_cons (ps_try_keep (i := 3) rfl rfl rfl sc__law_caught.nd rfl rfl ⟨rfl, by decide, .inl ER.gE⟩ takes0 (fun W pn xe tk _ => (pss_one (ps_expr (pe_makXC M_MillX hr tk (pa_cons (pv 0) (pa_cons (pv 1) pa_nil)))))) (fun a oe cls d pn hz hf => pss_one (ps_set (i := 2) sc__law_caught.nd rfl (.inl rfl) (pv 3))))
      (pss_cons (ps_set (i := 4) sc__law_caught.nd rfl (.inl rfl) (pe_lst (pa_cons (pe_callB call_isJ (by rfl) B.isi (by decide +kernel) (pa_cons (pv 2) (pa_cons (pe_glob (v := .ref CM) rfl gM rfl) pa_nil))) (pa_cons (pe_callB call_isJ (by rfl) B.isi (by decide +kernel) (pa_cons (pv 2) (pa_cons (pe_glob (v := .ref CB) rfl gB rfl) pa_nil))) (pa_cons pe_bl pa_nil)))))
      (pss_one (ps_ret (pe_lst (pa_cons (pe_bm PySem.F.plainAttrs_list PySem.F.slot_list_index PySem.F.type_list_index mt_index (pv 4) (pa_cons pe_bl pa_nil)) (pa_cons (pe_ifExp (pt_cmpR op_isN (pv 2) pe_non (nomark _)) pe_non (pe_callB (id := "repr") (r := rReprZ K) (call_reprZ (by exact hr.2) (by exact hr.1.units)) (by rfl) B.repr (by decide +kernel) (pa_cons (pe_xjF (pv 2)) pa_nil))) pa_nil)))))))), ?_⟩
  have st : start ["stuffs", "recipes", "caught", "error", "kinds"] [sv, rv] = [some sv, some rv, none, none, none] := rfl
  rw [st]
  have fin : ∀ (F1 Ha : Hp) (a dd : Addr), Gr F H F1 Ha → Ha a = some (ExJ C0 dd a) → Ha dd = some (.xd [("value", u)]) →
      tSeq (tAsg (tLst (tCons (tCB (rIsJ K) (tCons (tVar 2) (tCons (tC (.ref CM)) tNil))) (tCons (tCB (rIsJ K) (tCons (tVar 2) (tCons (tC (.ref CB)) tNil))) (tCons (tC (.bl true)) tNil)))) (gName 4))
        (tRet (tLst (tCons (tBM K "list" (rIndex K) (tVar 4) (tCons (tC (.bl true)) tNil)) (tCons (tIf (tTest (tOp rIsN (tVar 2) (tC .non))) (tC .non) (tCB (rReprZ K) (tCons (tXjF K "value" (tVar 2)) tNil))) tNil))))
        { nx := fun _ H' => Q .non H', rt := Q } [some sv, some rv, some (.ref a), none, none] Ha := fun F1 Ha a dd g1 h1 h2 => by
    have ex : ExC K C0 ∧ XfC K C0 ∧ PySem.W.findIn K (.ref C0) "value" = some none := by
      rcases hk with ⟨rfl, _⟩ | ⟨rfl, _⟩
      · exact ⟨ER.eM, ER.fM, ER.nM⟩
      · exact ⟨ER.eB, ER.fB, ER.nB⟩
    obtain ⟨b1, b2, k1, k2, hb⟩ : ∃ b1 b2 : Bool, PySem.W.kitOne K (.ref C0) (.ref CM) = some b1 ∧ PySem.W.kitOne K (.ref C0) (.ref CB) = some b2 ∧ ((b1 = true ∧ k = 0) ∨ (b1 = false ∧ b2 = true ∧ k = 1)) := by
      rcases hk with ⟨rfl, rfl⟩ | ⟨rfl, rfl⟩
      · exact ⟨true, false, ER.mm, ER.mb, .inl ⟨rfl, rfl⟩⟩
      · exact ⟨false, true, ER.bm, ER.bb, .inr ⟨rfl, rfl, rfl⟩⟩
    refine ⟨_, rfl, a, C0, dd, _, _, b1, rfl, h1, ⟨_, h2⟩, .own CM, ex.1, k1, ?_⟩
    refine ⟨_, rfl, a, C0, dd, _, _, b2, rfl, h1, ⟨_, h2⟩, .own CB, ex.1, k2, ?_⟩
    refine ⟨sz_of (by simp), fun p hp => ?_⟩
    have g2 : Gr F1 Ha F1 (upd Ha p (.lst [.bl b1, .bl b2, .bl true])) := Gr.only g1.fh hp
    have h1' : (upd Ha p (.lst [.bl b1, .bl b2, .bl true])) a = some (ExJ C0 dd a) := g2.hx _ _ h1
    have h2' : (upd Ha p (.lst [.bl b1, .bl b2, .bl true])) dd = some (.xd [("value", u)]) := g2.hx _ _ h2
    refine ⟨_, rfl, .inl ⟨rfl, _, SqL.of upd_same⟩, ?_⟩
    have idx : ∃ j : Nat, k = (j : Int) ∧ ∃ z, ([V.bl b1, .bl b2, .bl true] : List V)[j]? = some z ∧ eqV z (.bl true) = true ∧ ∀ (m : Nat) (z' : V), m < j → ([V.bl b1, .bl b2, .bl true] : List V)[m]? = some z' → eqV z' (.bl true) = false := by
      rcases hb with ⟨rfl, rfl⟩ | ⟨rfl, rfl, rfl⟩
      · exact ⟨0, rfl, _, rfl, rfl, fun m z' hm => absurd hm (by omega)⟩
      · refine ⟨1, rfl, _, rfl, rfl, fun m z' hm hz => ?_⟩
        obtain rfl : m = 0 := by omega
        cases hz
        rfl
    obtain ⟨j, rfl, z, hz, hz2, hz3⟩ := idx
    refine ⟨p, _, .bl true, j, z, rfl, rfl, SqL.of upd_same, rfl, by rfl, hz, hz2, hz3, ?_⟩
    refine ⟨_, rfl, rfl, _, rfl, iteF ?_⟩
    refine ⟨_, rfl, a, C0, dd, _, u, rfl, h1', h2', by simp [List.lookup], ex.2.1, ex.2.2, ?_⟩
    refine rz_read hrz (e.trans (g1.trans g2).hx) ?_
    refine ⟨sz_of (by simp), fun p2 hp2 => ?_⟩
    have g3 := (g1.trans g2).trans (Gr.new (g1.trans g2).fh hp2 (o := .lst [.int j, .str d.shown]))
    exact q p2 _ _ g3 (.lst (SqL.of upd_same) (.cons (.int _) (.cons (.str _) .nil)))
  have xm : PySem.W.exmOne K (.ref C0) (.ref CE) = some true := by
    rcases hk with ⟨rfl, _⟩ | ⟨rfl, _⟩
    · exact ER.xM
    · exact ER.xB
  have tail : ∀ (F' H' : Hp) (dd : Addr), Gr F H F' H' → H' dd = none → ∀ a, (upd H' dd (.xd [("value", u)])) a = none →
      Gr F H F' (upd (upd H' dd (.xd [("value", u)])) a (ExJ C0 dd a)) ∧ (upd (upd H' dd (.xd [("value", u)])) a (ExJ C0 dd a)) dd = some (.xd [("value", u)]) := fun F' H' dd g hdd a ha => by
    have g1 := g.trans (Gr.only g.fh hdd (o := .xd [("value", u)]))
    have g2 := g1.trans (Gr.only g1.fh ha (o := ExJ C0 dd a))
    refine ⟨g2, ?_⟩
    rw [upd_ne (fun z => by rw [← z, upd_same] at ha; exact nomatch ha), upd_same]
  refine ⟨_, rfl, _, rfl, fun x dx hx hdx ne => thr H x dx _ _ e hx hdx ne fun F' H' dd g hdd => ?_⟩
  refine ⟨true, xm, fun _ a ha => ⟨_, rfl, C0, dd, rfl, rfl, fun na => ?_⟩, fun z => nomatch z⟩
  obtain ⟨t1, t2⟩ := tail F' H' dd g hdd a ha
  exact fin F' _ a dd t1 upd_same t2
end
end R3

set_option Elab.async false
set_option linter.all false
set_option maxRecDepth 100000
set_option maxHeartbeats 4000000
/-! the odd names, stuffs, recipes (printed by gen_w6i.py) -/
namespace Dv
open PySem PySem.Spec PyProof.Rows L2 Evl
section
variable {K : PySem.W.Frag} {σ : L2.St} {F F1 H H1 : Hp} {te ta tb : TE} {d : PyData} {ds es : List PyData} {D : Ends}
mutual
theorem dp_dy : ∀ {d : PyData} {v : V}, noList d = true → Dp K F v d → Dy K F v d
  | .none, _, _, h => by cases h; exact .non
  | .bool b, _, _, h => by cases h; exact .bl b
  | .int i, _, _, h => by cases h; exact .int i
  | .str y, _, _, h => by cases h; exact .str y
  | .list ds, _, n, h => by rw [noList] at n; cases n
  | .tuple ds, _, n, h => by
    cases h with
    | tup hs ha => exact .tup hs (dps_dy (by rw [noList] at n; exact n) ha)
  | .dict _, _, _, h => by cases h
theorem dps_dy : ∀ {ds : List PyData} {vs : List V}, noLists ds = true → DpAll K F vs ds → DyAll K F vs ds
  | [], _, _, h => by cases h; exact .nil
  | d :: ds, _, n, h => by
    rw [noLists, Bool.and_eq_true] at n
    cases h with
    | cons h1 h2 => exact .cons (dp_dy n.1 h1) (dps_dy n.2 h2)
end
theorem ey_of (n : noList d = true) (h : EvD K te σ F d) : EvY K te σ F d := fun H e Q q => h H e Q fun v F' H' g hv => q v F' H' g (dp_dy n hv)
theorem dys_app : ∀ {ds es : List PyData} {vs ws : List V}, DyAll K F vs ds → DyAll K F ws es → DyAll K F (vs ++ ws) (ds ++ es)
  | _, _, _, _, .nil, h => h
  | _, _, _, _, .cons h t, h' => .cons h (dys_app t h')
variable (K) in
/-- a new list of such, not yet of F' -/
def ElY (te : TE) (σ : L2.St) (F : Hp) (ds : List PyData) : Prop := ∀ H, Ex F H → ∀ Q : VK, (∀ p vs F' H', Gr F H F' H' → H p = none → F' p = none → H' p = some (.lst vs) → DyAll K F' vs ds → Q (.ref p) H') → te σ H Q
theorem ely_lst {tr : TA} (h : EaY K tr σ F ds) (hl : ds.length ≤ 100000) : ElY K (tLst tr) σ F ds := fun H eH Q q =>
  h H eH _ fun vs F1 H1 g1 hv => ⟨by rw [dys_len hv]; exact sz_of hl, fun p hp => q p vs F1 _ (g1.trans (Gr.only g1.fh hp)) (ex_none g1.hx hp) (ex_none g1.fh hp) upd_same hv⟩
theorem allp_dys {α : Type} {h : α → PyData} : ∀ {vs : List V} {xs : List α}, AllP (fun F v x => Dy K F v (h x)) F vs xs → DyAll K F vs (xs.map h)
  | _, _, .nil => .nil
  | _, _, .cons a t => .cons a (allp_dys t)
theorem lcy_rule {α : Type} {wi : TI} {g : TG} {vs : List Nat} (xs : List α) (enc h : α → PyData) (hi : ItD K wi σ F (xs.map enc)) (hz : xs.length ≤ 40000)
    (hb : ∀ x, x ∈ xs → ∀ v F1, Ex F F1 → Dp K F1 v (enc x) → ∃ σ2, (∀ H, Ex F1 H → ∀ Q : L2.St → Hp → Prop, Q σ2 H → g v (wipe σ vs) H Q) ∧ wipe σ2 vs = wipe σ vs ∧ EvY K te σ2 F1 (h x)) : ElY K (tLc wi g tYes te vs) σ F (xs.map h) := fun H e Q q =>
  lcP_rule (K := K) (fun F v x => Dy K F v (h x)) (fun F F' v x e hd => dy_ex e hd) xs enc hi hz hb e fun p ws F' H' g h1 h2 h3 h4 => q p ws F' H' g h1 h2 h3 (allp_dys h4)
theorem el_y (n : noLists ds = true) (h : EvL K te σ F ds) : ElY K te σ F ds := fun H e Q q => h H e Q fun p vs F' H' g h1 h2 h3 h4 => q p vs F' H' g h1 h2 h3 (dps_dy n h4)
theorem cat_y {i : Nat} {p : Addr} {ws : List V} {Q : VK} (hp : H p = some (.lst ws)) (fp : F p = none) (hd : DyAll K F ws ds) (hi : σ[i]? = some (some (.ref p))) (h : ElY K tb σ F es) (e : Ex F H) (hz : ds.length + es.length ≤ 100000)
    (k : ∀ q vs F' H', Gr F H F' H' → H q = none → F' q = none → H' q = some (.lst vs) → DyAll K F' vs (ds ++ es) → Q (.ref q) H') : tOp rCat (tVar i) tb σ H Q :=
  ⟨_, hi, h H e _ fun r vs F1 H1 g1 h1 h2 h3 h4 => by
    have kp := g1.keep hp fp
    refine ⟨p, r, ws, vs, rfl, rfl, kp.1, h3, by
      rw [dys_len hd, dys_len h4]
      exact sz_of hz, fun q hq => k q _ F1 _ (g1.trans (Gr.only g1.fh hq)) (ex_none g1.hx hq) (ex_none g1.fh hq) upd_same (dys_app (dys_ex g1.fx hd) h4)⟩⟩
end
section
variable {X : Cx} {x : Str} {p pos : Pos} {k j : Nat} {sp : Sp}
theorem pe_call0C (C : Cal X.prog X.w X.K X.mg X.base x [] k sp) (hr : RoomG j X.A) (hg : Gl X x := by rfl) (hj : k ≤ j := by decide) (hdb : (x == ("__debug__" : Str)) = false := by decide) : PE X (.Call (.Name x p) [] [] pos) (tCall sp [] E0 tNil) := by
  obtain ⟨f, fd, g, kp, b, G, _⟩ := C.ex
  exact pe_call0G G (hr.mono hj) hg g kp b .nil pass0 hdb
end
end Dv
namespace R3
open PySem PySem.Spec PyProof.Rows L2 Evl Dv
def oS0 (name : Str) : List PyData := [.none, .int 3, .str "a", .list [], .dict [], .tuple [.str "zz"], .tuple [.str "zz", .none, .none], .list [.str "zz", .none], .tuple [.str name, .none], .tuple [.str "Zz", .int 1], .tuple [.str "", .int 1]]
def oS1 (name : Str) : List PyData := [.tuple [.str "1a", .int 1]]
def oS2 (name : Str) : List PyData := [.tuple [.str "abcdefghi", .int 1], .tuple [.str "a b", .int 1], .tuple [.none, .int 1], .tuple [.list [.str "zz"], .int 1], .tuple [.dict [], .int 1], .tuple [.str "zz", .int (-1)], .tuple [.str "zz", .bool true]]
def oS3 (name : Str) : List PyData := [.tuple [.str "zz", .str "1"]]
def oS4 (name : Str) : List PyData := [.tuple [.str "zz", .int 1000001], .tuple [.str "zz", .tuple [.int 1, .int 1]], .tuple [.str "zz", .list [.int 1]], .tuple [.str "z_", .int 1], .tuple [.str "zz", .dict []]]
def oR0 (stuff name : Str) : List PyData := [.none, .int 3, .str "r", .list [], .dict [], .tuple [.str "zz", .list []], .tuple [.str "zz", .list [], .list [], .list []], .list [.str "zz", .list [], .list []], .tuple [.str name, .list [], .list []], .tuple [.str "Zz", .list [], .list []]]
def oR1 (stuff name : Str) : List PyData := [.tuple [.str "", .list [], .list []], .tuple [.none, .list [], .list []], .tuple [.list [.str "zz"], .list [], .list []], .tuple [.str "zz", .none, .list []], .tuple [.str "zz", .list [], .none]]
def oR2 (stuff name : Str) : List PyData := [.tuple [.str "zz", .tuple [], .list []]]
def oR3 (stuff name : Str) : List PyData := [.tuple [.str "zz", .list [], .tuple [.tuple [.str stuff, .int 1]]], .tuple [.str "zz", .list [.tuple [.str stuff, .int 0]], .list []], .tuple [.str "zz", .list [.tuple [.str stuff, .int (-1)]], .list []]]
def oR4 (stuff name : Str) : List PyData := [.tuple [.str "zz", .list [.tuple [.str stuff]], .list []]]
def oR5 (stuff name : Str) : List PyData := [.tuple [.str "zz", .list [.tuple [.str stuff, .bool true]], .list []], .tuple [.str "zz", .list [], .list [.tuple [.str stuff, .str "1"]]], .tuple [.str "zz", .list [.list [.str stuff, .int 1]], .list []]]
def oR6 (stuff name : Str) : List PyData := [.tuple [.str "zz", .list [.none], .list []]]
def oR7 (stuff name : Str) : List PyData := [.tuple [.str "zz", .list [.tuple [.str "zy", .int 1]], .list []], .tuple [.str "zz", .list [], .list [.tuple [.str stuff, .int 1], .tuple [.str stuff, .int 2]]]]
def oR8 (stuff name : Str) : List PyData := [.tuple [.str "zz", .list [.tuple [.str stuff, .int 1000001]], .list []]]
def oR9 (stuff name : Str) : List PyData := [.tuple [.str "zz", .list [.tuple [.str stuff, .int 1, .int 1]], .list []], .tuple [.str "zz", .list [.tuple [.str stuff, .tuple [.int 1, .int 1]]], .list []]]
def oR11 (stuff name : Str) : List PyData := [.tuple [.str "zz", .list [], .list [.tuple [.dict [], .int 1]]], .tuple [.str "zz", .list [.tuple [.list [.str stuff], .int 1]], .list []]]
section
variable {P : Program} {w : World} {K : PySem.W.Frag} {mg : Str → Option Value} {base : Heap}
def oddT : Str := "\n \tZ-.+"
def oddN : List Str := oddT.cps.toList.map fun c => ("z" : Str) ++ ⟨#[c]⟩
def fOddN : List PyData → PyData → Prop := fun ds d => ds = [] ∧ d = .list (oddN.map PyData.str)
theorem sc__law_odd_names : FnScope (["sign"] : List Str) ([] : List Str) (defScope sLawOddNames) := ⟨rfl, rfl, rfl, by decide +kernel, rfl, by decide +kernel, by decide +kernel⟩
theorem ok_law_odd_names (D : Def K mg "_law_odd_names" sLawOddNames []) : Cal P w K mg base "_law_odd_names" [] 1 (spD K fOddN) := by
  refine cal_mk D sc__law_odd_names (len_D fun ds d h => by rw [h.1]; rfl) (fun f cdv A outer s H vs Q E hr h => ?_)
  obtain ⟨F, ds, d, e, hd, ⟨rfl, rfl⟩, q⟩ := h
  cases hd
  refine ⟨_, (pss_one (ps_ret (pe_lc (own := [("sign", 0)]) (g := gName 0) rfl sc__law_odd_names.nd (pi_str pe_str) (blkOk_by (own := [("sign", 0)]) (N := ["sign"]) (sc := defScope sLawOddNames) (by decide +kernel)) (fun _ _ _ _ _ => (pg_name (i := 0) sc__law_odd_names.nd rfl (.inl rfl)))  (fun _ _ _ _ _ => pts_nil) (fun _ _ _ _ _ => (pe_op op_add_str pe_str (pv 0)))))), ?_⟩
  have st : start ["sign"] ([] : List V) = [none] := rfl
  rw [st]
  have lc := lc_rule (K := K) (F := F) (te := tOp (fun x y H Q => ∃ i j, x = .str i ∧ y = .str j ∧ i.length + j.length ≤ sizeLine ∧ Q (.str (i ++ j)) H) (tC (.str "z")) (tVar 0)) (vs := [0]) (tt := tYes) (g := gName 0) (σ := [none]) oddT.cps.toList (fun c => PyData.str ⟨#[c]⟩) (fun c => PyData.str (("z" : Str) ++ ⟨#[c]⟩)) (fun _ => true)
    (it_str (Dv.ev_str oddT)) (by decide +kernel) (fun c hc v F1 e1 hv => ⟨[some v], fun H e Q q => q, rfl, fun H e Q q => q F1 H (Gr.refl e), fun _ => ev_op (a := .str "z") (b := .str ⟨#[c]⟩) (Dv.ev_str "z") (Dv.ev_var (i := 0) rfl hv) fun v u F2 H2 _ eH hv hu Q q => by
      cases hv
      cases hu
      exact ⟨_, _, rfl, rfl, sz_of (by show 1 + 1 ≤ 100000; decide), q _ F2 H2 (Gr.refl eH) (.str _)⟩⟩)
  rw [filt_true, show oddT.cps.toList.map (fun c => PyData.str (("z" : Str) ++ ⟨#[c]⟩)) = oddN.map PyData.str from by unfold oddN; rw [List.map_map] <;> rfl] at lc
  exact Dv.s_ret (K := K) (EvL.ev lc) e q
/-! stuffs -/
def oddS (name : Str) : List PyData := oS0 name ++ oS1 name ++ oS2 name ++ oS3 name ++ oS4 name ++ oddN.map fun o => .tuple [.str o, .int 1]
def spOddS (K : PySem.W.Frag) : Sp := fun vs H Q _ => ∃ (F : Hp) (n : Str), vs = [.str n] ∧ Ex F H ∧ ∀ p ws F' H', Gr F H F' H' → H p = none → F' p = none → H' p = some (.lst ws) → DyAll K F' ws (oddS n) → Q (.ref p) H'
theorem ol_n : noLists (oddN.map fun o => PyData.tuple [.str o, .int 1]) = true := by decide +kernel
theorem sc__law_odd_stuffs : FnScope (["name", "found", "odd"] : List Str) (["name"] : List Str) (defScope sLawOddStuffs) := ⟨rfl, rfl, rfl, by decide +kernel, rfl, by decide +kernel, by decide +kernel⟩
theorem ok_law_odd_stuffs (D : Def K mg "_law_odd_stuffs" sLawOddStuffs ["name"]) (C__law_odd_names : Cal P w K mg base "_law_odd_names" [] 1 (spD K fOddN)) : Cal P w K mg base "_law_odd_stuffs" ["name"] 2 (spOddS K) := by
  refine cal_mk D sc__law_odd_stuffs (fun vs H Q E h => ?_) (fun f cdv A outer s H vs Q E hr h => ?_)
  · obtain ⟨F, n, rfl, _⟩ := h
    rfl
  obtain ⟨F, n, rfl, e, q⟩ := h
  refine ⟨_, (pss_cons (ps_set (i := 1) sc__law_odd_stuffs.nd rfl (.inl rfl) (pe_lst (pa_cons pe_non (pa_cons pe_int (pa_cons pe_str (pa_cons (pe_lstN pa_nil) (pa_cons pe_dnewK (pa_cons (pe_tup (pa_cons pe_str pa_nil)) (pa_cons (pe_tup (pa_cons pe_str (pa_cons pe_non (pa_cons pe_non pa_nil)))) (pa_cons (pe_lstN (pa_cons pe_str (pa_cons pe_non pa_nil))) (pa_cons (pe_tup (pa_cons (pv 0) (pa_cons pe_non pa_nil))) (pa_cons (pe_tup (pa_cons pe_str (pa_cons pe_int pa_nil))) (pa_cons (pe_tup (pa_cons pe_str (pa_cons pe_int pa_nil))) pa_nil)))))))))))))
      (pss_cons (ps_set (i := 1) sc__law_odd_stuffs.nd rfl (.inl rfl) (pe_op op_cat (pv 1) (pe_lst (pa_cons (pe_tup (pa_cons pe_str (pa_cons pe_int pa_nil))) pa_nil))))
      (pss_cons (ps_set (i := 1) sc__law_odd_stuffs.nd rfl (.inl rfl) (pe_op op_cat (pv 1) (pe_lst (pa_cons (pe_tup (pa_cons pe_str (pa_cons pe_int pa_nil))) (pa_cons (pe_tup (pa_cons pe_str (pa_cons pe_int pa_nil))) (pa_cons (pe_tup (pa_cons pe_non (pa_cons pe_int pa_nil))) (pa_cons (pe_tup (pa_cons (pe_lstN (pa_cons pe_str pa_nil)) (pa_cons pe_int pa_nil))) (pa_cons (pe_tup (pa_cons pe_dnewK (pa_cons pe_int pa_nil))) (pa_cons (pe_tup (pa_cons pe_str (pa_cons (pe_un un_neg pe_int) pa_nil))) (pa_cons (pe_tup (pa_cons pe_str (pa_cons pe_bl pa_nil))) pa_nil))))))))))
      (pss_cons (ps_set (i := 1) sc__law_odd_stuffs.nd rfl (.inl rfl) (pe_op op_cat (pv 1) (pe_lst (pa_cons (pe_tup (pa_cons pe_str (pa_cons pe_str pa_nil))) pa_nil))))
      (pss_cons (ps_set (i := 1) sc__law_odd_stuffs.nd rfl (.inl rfl) (pe_op op_cat (pv 1) (pe_lst (pa_cons (pe_tup (pa_cons pe_str (pa_cons (pe_op op_add (pe_op op_pow pe_int pe_int) pe_int) pa_nil))) (pa_cons (pe_tup (pa_cons pe_str (pa_cons (pe_tup (pa_cons pe_int (pa_cons pe_int pa_nil))) pa_nil))) (pa_cons (pe_tup (pa_cons pe_str (pa_cons (pe_lstN (pa_cons pe_int pa_nil)) pa_nil))) (pa_cons (pe_tup (pa_cons pe_str (pa_cons pe_int pa_nil))) (pa_cons (pe_tup (pa_cons pe_str (pa_cons pe_dnewK pa_nil))) pa_nil))))))))
      (pss_one (ps_ret (pe_op op_cat (pv 1) (pe_lc (own := [("odd", 2)]) (g := gName 2) rfl sc__law_odd_stuffs.nd (pi_list (pe_call0C C__law_odd_names hr)) (blkOk_by (own := [("odd", 2)]) (N := ["name", "found", "odd"]) (sc := defScope sLawOddStuffs) (by decide +kernel)) (fun _ _ _ _ _ => (pg_name (i := 2) sc__law_odd_stuffs.nd rfl (.inl rfl)))  (fun _ _ _ _ _ => pts_nil) (fun _ _ _ _ _ => (pe_tup (pa_cons (pv 2) (pa_cons pe_int pa_nil))))))))))))), ?_⟩
  have st : start ["name", "found", "odd"] [V.str n] = [some (.str n), none, none] := rfl
  rw [st]
  refine seq_of (asg_of (ely_lst (K := K) (F := F) (ds := oS0 n) ?_ (by simp [oS0]) H e _ fun p0 w0 F0 H0 g0 hn0 f0 h0 d0 => ?_))
  · unfold oS0
    (repeat (first | exact ey_int _ | exact ey_non | exact ey_bl _ | exact ey_str _ | exact ey_mt | exact eay_nil | exact ey_var rfl (.str _) | exact ey_of (by rfl) (Dv.ev_U (i := 1) (k := .int (-1)) (fun _ => .int _) (Dv.ev_int 1)) | exact ey_of (by rfl) (Dv.ev_I0 (i := 1000000) (j := 1) (fun _ => .int _) (Dv.ev_I (i := 10) (j := 6) ⟨by decide, by decide, by decide⟩ (fun _ => .int _) (Dv.ev_int 10) (Dv.ev_int 6)) (Dv.ev_int 1)) | refine ey_tup ?_ (by simp) | refine ey_lst ?_ (by simp) | refine eay_cons ?_ ?_))
  dsimp only
  refine seq_of (asg_of (cat_y (K := K) (i := 1) (es := oS1 n) h0 f0 d0 rfl (ely_lst ?_ (by simp [oS1])) g0.fh (by simp [oS0, oS1]) fun p1 w1 F1 H1 g1 hn1 f1 h1 d1 => ?_))
  · unfold oS1
    (repeat (first | exact ey_int _ | exact ey_non | exact ey_bl _ | exact ey_str _ | exact ey_mt | exact eay_nil | exact ey_var rfl (.str _) | exact ey_of (by rfl) (Dv.ev_U (i := 1) (k := .int (-1)) (fun _ => .int _) (Dv.ev_int 1)) | exact ey_of (by rfl) (Dv.ev_I0 (i := 1000000) (j := 1) (fun _ => .int _) (Dv.ev_I (i := 10) (j := 6) ⟨by decide, by decide, by decide⟩ (fun _ => .int _) (Dv.ev_int 10) (Dv.ev_int 6)) (Dv.ev_int 1)) | refine ey_tup ?_ (by simp) | refine ey_lst ?_ (by simp) | refine eay_cons ?_ ?_))
  dsimp only
  refine seq_of (asg_of (cat_y (K := K) (i := 1) (es := oS2 n) h1 f1 d1 rfl (ely_lst ?_ (by simp [oS2])) g1.fh (by simp [oS0, oS1, oS2]) fun p2 w2 F2 H2 g2 hn2 f2 h2 d2 => ?_))
  · unfold oS2
    (repeat (first | exact ey_int _ | exact ey_non | exact ey_bl _ | exact ey_str _ | exact ey_mt | exact eay_nil | exact ey_var rfl (.str _) | exact ey_of (by rfl) (Dv.ev_U (i := 1) (k := .int (-1)) (fun _ => .int _) (Dv.ev_int 1)) | exact ey_of (by rfl) (Dv.ev_I0 (i := 1000000) (j := 1) (fun _ => .int _) (Dv.ev_I (i := 10) (j := 6) ⟨by decide, by decide, by decide⟩ (fun _ => .int _) (Dv.ev_int 10) (Dv.ev_int 6)) (Dv.ev_int 1)) | refine ey_tup ?_ (by simp) | refine ey_lst ?_ (by simp) | refine eay_cons ?_ ?_))
  dsimp only
  refine seq_of (asg_of (cat_y (K := K) (i := 1) (es := oS3 n) h2 f2 d2 rfl (ely_lst ?_ (by simp [oS3])) g2.fh (by simp [oS0, oS1, oS2, oS3]) fun p3 w3 F3 H3 g3 hn3 f3 h3 d3 => ?_))
  · unfold oS3
    (repeat (first | exact ey_int _ | exact ey_non | exact ey_bl _ | exact ey_str _ | exact ey_mt | exact eay_nil | exact ey_var rfl (.str _) | exact ey_of (by rfl) (Dv.ev_U (i := 1) (k := .int (-1)) (fun _ => .int _) (Dv.ev_int 1)) | exact ey_of (by rfl) (Dv.ev_I0 (i := 1000000) (j := 1) (fun _ => .int _) (Dv.ev_I (i := 10) (j := 6) ⟨by decide, by decide, by decide⟩ (fun _ => .int _) (Dv.ev_int 10) (Dv.ev_int 6)) (Dv.ev_int 1)) | refine ey_tup ?_ (by simp) | refine ey_lst ?_ (by simp) | refine eay_cons ?_ ?_))
  dsimp only
  refine seq_of (asg_of (cat_y (K := K) (i := 1) (es := oS4 n) h3 f3 d3 rfl (ely_lst ?_ (by simp [oS4])) g3.fh (by simp [oS0, oS1, oS2, oS3, oS4]) fun p4 w4 F4 H4 g4 hn4 f4 h4 d4 => ?_))
  · unfold oS4
    (repeat (first | exact ey_int _ | exact ey_non | exact ey_bl _ | exact ey_str _ | exact ey_mt | exact eay_nil | exact ey_var rfl (.str _) | exact ey_of (by rfl) (Dv.ev_U (i := 1) (k := .int (-1)) (fun _ => .int _) (Dv.ev_int 1)) | exact ey_of (by rfl) (Dv.ev_I0 (i := 1000000) (j := 1) (fun _ => .int _) (Dv.ev_I (i := 10) (j := 6) ⟨by decide, by decide, by decide⟩ (fun _ => .int _) (Dv.ev_int 10) (Dv.ev_int 6)) (Dv.ev_int 1)) | refine ey_tup ?_ (by simp) | refine ey_lst ?_ (by simp) | refine eay_cons ?_ ?_))
  dsimp only
  have gg := (((g0.trans g1).trans g2).trans g3).trans g4
  have lc : EvL K _ _ F4 _ := lc_rule (K := K) (F := F4) (te := tTup (tCons (tVar 2) (tCons (tC (.int 1)) tNil))) (vs := [2]) (tt := tYes) (g := gName 2) (σ := [some (.str n), some (.ref p4), none]) oddN PyData.str (fun o => PyData.tuple [.str o, .int 1]) (fun _ => true)
    (it_list (ev_callD (f := fOddN) (E := E0) Dv.ea_nil ⟨rfl, rfl⟩)) (by decide +kernel) (fun o ho v F1 e1 hv => ⟨[some (.str n), some (.ref p4), some v], fun H e Q q => q, rfl, fun H e Q q => q F1 H (Gr.refl e), fun _ => Dv.ev_tup (Dv.ea_cons (Dv.ev_var (i := 2) rfl hv) (Dv.ea_cons (Dv.ev_int 1) Dv.ea_nil)) (by simp)⟩)
  rw [filt_true] at lc
  have oddl : oddN.length ≤ 100 := by decide +kernel
  refine ret_of (cat_y (K := K) (i := 1) h4 f4 d4 rfl (el_y ol_n lc) g4.fh (by simp [oS0, oS1, oS2, oS3, oS4]; omega) fun p5 w5 F5 H5 g5 hn5 f5 h5 d5 => ?_)
  exact q p5 w5 F5 H5 (gg.trans g5) (ex_none gg.hx hn5) f5 h5 d5
/-! recipes -/
def oR10 : List PyData := oddN.map fun o => .tuple [.str o, .list [], .list []]
def oddR (stuff name : Str) : List PyData := oR0 stuff name ++ oR1 stuff name ++ oR2 stuff name ++ oR3 stuff name ++ oR4 stuff name ++ oR5 stuff name ++ oR6 stuff name ++ oR7 stuff name ++ oR8 stuff name ++ oR9 stuff name ++ oR10 ++ oR11 stuff name
def spOddR (K : PySem.W.Frag) : Sp := fun vs H Q _ => ∃ (F : Hp) (s n : Str), vs = [.str s, .str n] ∧ Ex F H ∧ ∀ p ws F' H', Gr F H F' H' → H p = none → F' p = none → H' p = some (.lst ws) → DyAll K F' ws (oddR s n) → Q (.ref p) H'
theorem sc__law_odd_recipes : FnScope (["stuff", "name", "found", "odd"] : List Str) (["stuff", "name"] : List Str) (defScope sLawOddRecipes) := ⟨rfl, rfl, rfl, by decide +kernel, rfl, by decide +kernel, by decide +kernel⟩
theorem ok_law_odd_recipes (D : Def K mg "_law_odd_recipes" sLawOddRecipes ["stuff", "name"]) (C__law_odd_names : Cal P w K mg base "_law_odd_names" [] 1 (spD K fOddN)) : Cal P w K mg base "_law_odd_recipes" ["stuff", "name"] 2 (spOddR K) := by
  refine cal_mk D sc__law_odd_recipes (fun vs H Q E h => ?_) (fun f cdv A outer s H vs Q E hr h => ?_)
  · obtain ⟨F, s, n, rfl, _⟩ := h
    rfl
  obtain ⟨F, sf, n, rfl, e, q⟩ := h
  refine ⟨_, (pss_cons (ps_set (i := 2) sc__law_odd_recipes.nd rfl (.inl rfl) (pe_lst (pa_cons pe_non (pa_cons pe_int (pa_cons pe_str (pa_cons (pe_lstN pa_nil) (pa_cons pe_dnewK (pa_cons (pe_tup (pa_cons pe_str (pa_cons (pe_lstN pa_nil) pa_nil))) (pa_cons (pe_tup (pa_cons pe_str (pa_cons (pe_lstN pa_nil) (pa_cons (pe_lstN pa_nil) (pa_cons (pe_lstN pa_nil) pa_nil))))) (pa_cons (pe_lstN (pa_cons pe_str (pa_cons (pe_lstN pa_nil) (pa_cons (pe_lstN pa_nil) pa_nil)))) (pa_cons (pe_tup (pa_cons (pv 1) (pa_cons (pe_lstN pa_nil) (pa_cons (pe_lstN pa_nil) pa_nil)))) (pa_cons (pe_tup (pa_cons pe_str (pa_cons (pe_lstN pa_nil) (pa_cons (pe_lstN pa_nil) pa_nil)))) pa_nil))))))))))))
      (pss_cons (ps_set (i := 2) sc__law_odd_recipes.nd rfl (.inl rfl) (pe_op op_cat (pv 2) (pe_lst (pa_cons (pe_tup (pa_cons pe_str (pa_cons (pe_lstN pa_nil) (pa_cons (pe_lstN pa_nil) pa_nil)))) (pa_cons (pe_tup (pa_cons pe_non (pa_cons (pe_lstN pa_nil) (pa_cons (pe_lstN pa_nil) pa_nil)))) (pa_cons (pe_tup (pa_cons (pe_lstN (pa_cons pe_str pa_nil)) (pa_cons (pe_lstN pa_nil) (pa_cons (pe_lstN pa_nil) pa_nil)))) (pa_cons (pe_tup (pa_cons pe_str (pa_cons pe_non (pa_cons (pe_lstN pa_nil) pa_nil)))) (pa_cons (pe_tup (pa_cons pe_str (pa_cons (pe_lstN pa_nil) (pa_cons pe_non pa_nil)))) pa_nil))))))))
      (pss_cons (ps_set (i := 2) sc__law_odd_recipes.nd rfl (.inl rfl) (pe_op op_cat (pv 2) (pe_lst (pa_cons (pe_tup (pa_cons pe_str (pa_cons (pe_tup pa_nil) (pa_cons (pe_lstN pa_nil) pa_nil)))) pa_nil))))
      (pss_cons (ps_set (i := 2) sc__law_odd_recipes.nd rfl (.inl rfl) (pe_op op_cat (pv 2) (pe_lst (pa_cons (pe_tup (pa_cons pe_str (pa_cons (pe_lstN pa_nil) (pa_cons (pe_tup (pa_cons (pe_tup (pa_cons (pv 0) (pa_cons pe_int pa_nil))) pa_nil)) pa_nil)))) (pa_cons (pe_tup (pa_cons pe_str (pa_cons (pe_lstN (pa_cons (pe_tup (pa_cons (pv 0) (pa_cons pe_int pa_nil))) pa_nil)) (pa_cons (pe_lstN pa_nil) pa_nil)))) (pa_cons (pe_tup (pa_cons pe_str (pa_cons (pe_lstN (pa_cons (pe_tup (pa_cons (pv 0) (pa_cons (pe_un un_neg pe_int) pa_nil))) pa_nil)) (pa_cons (pe_lstN pa_nil) pa_nil)))) pa_nil))))))
      (pss_cons (ps_set (i := 2) sc__law_odd_recipes.nd rfl (.inl rfl) (pe_op op_cat (pv 2) (pe_lst (pa_cons (pe_tup (pa_cons pe_str (pa_cons (pe_lstN (pa_cons (pe_tup (pa_cons (pv 0) pa_nil)) pa_nil)) (pa_cons (pe_lstN pa_nil) pa_nil)))) pa_nil))))
      (pss_cons (ps_set (i := 2) sc__law_odd_recipes.nd rfl (.inl rfl) (pe_op op_cat (pv 2) (pe_lst (pa_cons (pe_tup (pa_cons pe_str (pa_cons (pe_lstN (pa_cons (pe_tup (pa_cons (pv 0) (pa_cons pe_bl pa_nil))) pa_nil)) (pa_cons (pe_lstN pa_nil) pa_nil)))) (pa_cons (pe_tup (pa_cons pe_str (pa_cons (pe_lstN pa_nil) (pa_cons (pe_lstN (pa_cons (pe_tup (pa_cons (pv 0) (pa_cons pe_str pa_nil))) pa_nil)) pa_nil)))) (pa_cons (pe_tup (pa_cons pe_str (pa_cons (pe_lstN (pa_cons (pe_lstN (pa_cons (pv 0) (pa_cons pe_int pa_nil))) pa_nil)) (pa_cons (pe_lstN pa_nil) pa_nil)))) pa_nil))))))
      (pss_cons (ps_set (i := 2) sc__law_odd_recipes.nd rfl (.inl rfl) (pe_op op_cat (pv 2) (pe_lst (pa_cons (pe_tup (pa_cons pe_str (pa_cons (pe_lstN (pa_cons pe_non pa_nil)) (pa_cons (pe_lstN pa_nil) pa_nil)))) pa_nil))))
      (pss_cons (ps_set (i := 2) sc__law_odd_recipes.nd rfl (.inl rfl) (pe_op op_cat (pv 2) (pe_lst (pa_cons (pe_tup (pa_cons pe_str (pa_cons (pe_lstN (pa_cons (pe_tup (pa_cons pe_str (pa_cons pe_int pa_nil))) pa_nil)) (pa_cons (pe_lstN pa_nil) pa_nil)))) (pa_cons (pe_tup (pa_cons pe_str (pa_cons (pe_lstN pa_nil) (pa_cons (pe_lstN (pa_cons (pe_tup (pa_cons (pv 0) (pa_cons pe_int pa_nil))) (pa_cons (pe_tup (pa_cons (pv 0) (pa_cons pe_int pa_nil))) pa_nil))) pa_nil)))) pa_nil)))))
      (pss_cons (ps_set (i := 2) sc__law_odd_recipes.nd rfl (.inl rfl) (pe_op op_cat (pv 2) (pe_lst (pa_cons (pe_tup (pa_cons pe_str (pa_cons (pe_lstN (pa_cons (pe_tup (pa_cons (pv 0) (pa_cons (pe_op op_add (pe_op op_pow pe_int pe_int) pe_int) pa_nil))) pa_nil)) (pa_cons (pe_lstN pa_nil) pa_nil)))) pa_nil))))
      (pss_cons (ps_set (i := 2) sc__law_odd_recipes.nd rfl (.inl rfl) (pe_op op_cat (pv 2) (pe_lst (pa_cons (pe_tup (pa_cons pe_str (pa_cons (pe_lstN (pa_cons (pe_tup (pa_cons (pv 0) (pa_cons pe_int (pa_cons pe_int pa_nil)))) pa_nil)) (pa_cons (pe_lstN pa_nil) pa_nil)))) (pa_cons (pe_tup (pa_cons pe_str (pa_cons (pe_lstN (pa_cons (pe_tup (pa_cons (pv 0) (pa_cons (pe_tup (pa_cons pe_int (pa_cons pe_int pa_nil))) pa_nil))) pa_nil)) (pa_cons (pe_lstN pa_nil) pa_nil)))) pa_nil)))))
      (pss_cons (ps_set (i := 2) sc__law_odd_recipes.nd rfl (.inl rfl) (pe_op op_cat (pv 2) (pe_lc (own := [("odd", 3)]) (g := gName 3) rfl sc__law_odd_recipes.nd (pi_list (pe_call0C C__law_odd_names hr)) (blkOk_by (own := [("odd", 3)]) (N := ["stuff", "name", "found", "odd"]) (sc := defScope sLawOddRecipes) (by decide +kernel)) (fun _ _ _ _ _ => (pg_name (i := 3) sc__law_odd_recipes.nd rfl (.inl rfl)))  (fun _ _ _ _ _ => pts_nil) (fun _ _ _ _ _ => (pe_tup (pa_cons (pv 3) (pa_cons (pe_lstN pa_nil) (pa_cons (pe_lstN pa_nil) pa_nil))))))))
      (pss_one (ps_ret (pe_op op_cat (pv 2) (pe_lst (pa_cons (pe_tup (pa_cons pe_str (pa_cons (pe_lstN pa_nil) (pa_cons (pe_lstN (pa_cons (pe_tup (pa_cons pe_dnewK (pa_cons pe_int pa_nil))) pa_nil)) pa_nil)))) (pa_cons (pe_tup (pa_cons pe_str (pa_cons (pe_lstN (pa_cons (pe_tup (pa_cons (pe_lstN (pa_cons (pv 0) pa_nil)) (pa_cons pe_int pa_nil))) pa_nil)) (pa_cons (pe_lstN pa_nil) pa_nil)))) pa_nil))))))))))))))))), ?_⟩
  have st : start ["stuff", "name", "found", "odd"] [V.str sf, .str n] = [some (.str sf), some (.str n), none, none] := rfl
  rw [st]
  have oddl : oddN.length ≤ 100 := by decide +kernel
  have olr : oR10.length = oddN.length := by unfold oR10; rw [List.length_map]
  refine seq_of (asg_of (ely_lst (K := K) (F := F) (ds := oR0 sf n) ?_ (by simp [oR0]) H e _ fun p0 w0 F0 H0 g0 hn0 f0 h0 d0 => ?_))
  · unfold oR0
    (repeat (first | exact ey_int _ | exact ey_non | exact ey_bl _ | exact ey_str _ | exact ey_mt | exact eay_nil | exact ey_var rfl (.str _) | exact ey_of (by rfl) (Dv.ev_U (i := 1) (k := .int (-1)) (fun _ => .int _) (Dv.ev_int 1)) | exact ey_of (by rfl) (Dv.ev_I0 (i := 1000000) (j := 1) (fun _ => .int _) (Dv.ev_I (i := 10) (j := 6) ⟨by decide, by decide, by decide⟩ (fun _ => .int _) (Dv.ev_int 10) (Dv.ev_int 6)) (Dv.ev_int 1)) | refine ey_tup ?_ (by simp) | refine ey_lst ?_ (by simp) | refine eay_cons ?_ ?_))
  dsimp only
  refine seq_of (asg_of (cat_y (K := K) (i := 2) (es := oR1 sf n) h0 f0 d0 rfl (ely_lst ?_ (by simp [oR1])) g0.fh (by simp [oR0, oR1]) fun p1 w1 F1 H1 g1 hn1 f1 h1 d1 => ?_))
  · unfold oR1
    (repeat (first | exact ey_int _ | exact ey_non | exact ey_bl _ | exact ey_str _ | exact ey_mt | exact eay_nil | exact ey_var rfl (.str _) | exact ey_of (by rfl) (Dv.ev_U (i := 1) (k := .int (-1)) (fun _ => .int _) (Dv.ev_int 1)) | exact ey_of (by rfl) (Dv.ev_I0 (i := 1000000) (j := 1) (fun _ => .int _) (Dv.ev_I (i := 10) (j := 6) ⟨by decide, by decide, by decide⟩ (fun _ => .int _) (Dv.ev_int 10) (Dv.ev_int 6)) (Dv.ev_int 1)) | refine ey_tup ?_ (by simp) | refine ey_lst ?_ (by simp) | refine eay_cons ?_ ?_))
  dsimp only
  refine seq_of (asg_of (cat_y (K := K) (i := 2) (es := oR2 sf n) h1 f1 d1 rfl (ely_lst ?_ (by simp [oR2])) g1.fh (by simp [oR0, oR1, oR2]) fun p2 w2 F2 H2 g2 hn2 f2 h2 d2 => ?_))
  · unfold oR2
    (repeat (first | exact ey_int _ | exact ey_non | exact ey_bl _ | exact ey_str _ | exact ey_mt | exact eay_nil | exact ey_var rfl (.str _) | exact ey_of (by rfl) (Dv.ev_U (i := 1) (k := .int (-1)) (fun _ => .int _) (Dv.ev_int 1)) | exact ey_of (by rfl) (Dv.ev_I0 (i := 1000000) (j := 1) (fun _ => .int _) (Dv.ev_I (i := 10) (j := 6) ⟨by decide, by decide, by decide⟩ (fun _ => .int _) (Dv.ev_int 10) (Dv.ev_int 6)) (Dv.ev_int 1)) | refine ey_tup ?_ (by simp) | refine ey_lst ?_ (by simp) | refine eay_cons ?_ ?_))
  dsimp only
  refine seq_of (asg_of (cat_y (K := K) (i := 2) (es := oR3 sf n) h2 f2 d2 rfl (ely_lst ?_ (by simp [oR3])) g2.fh (by simp [oR0, oR1, oR2, oR3]) fun p3 w3 F3 H3 g3 hn3 f3 h3 d3 => ?_))
  · unfold oR3
    (repeat (first | exact ey_int _ | exact ey_non | exact ey_bl _ | exact ey_str _ | exact ey_mt | exact eay_nil | exact ey_var rfl (.str _) | exact ey_of (by rfl) (Dv.ev_U (i := 1) (k := .int (-1)) (fun _ => .int _) (Dv.ev_int 1)) | exact ey_of (by rfl) (Dv.ev_I0 (i := 1000000) (j := 1) (fun _ => .int _) (Dv.ev_I (i := 10) (j := 6) ⟨by decide, by decide, by decide⟩ (fun _ => .int _) (Dv.ev_int 10) (Dv.ev_int 6)) (Dv.ev_int 1)) | refine ey_tup ?_ (by simp) | refine ey_lst ?_ (by simp) | refine eay_cons ?_ ?_))
  dsimp only
  refine seq_of (asg_of (cat_y (K := K) (i := 2) (es := oR4 sf n) h3 f3 d3 rfl (ely_lst ?_ (by simp [oR4])) g3.fh (by simp [oR0, oR1, oR2, oR3, oR4]) fun p4 w4 F4 H4 g4 hn4 f4 h4 d4 => ?_))
  · unfold oR4
    (repeat (first | exact ey_int _ | exact ey_non | exact ey_bl _ | exact ey_str _ | exact ey_mt | exact eay_nil | exact ey_var rfl (.str _) | exact ey_of (by rfl) (Dv.ev_U (i := 1) (k := .int (-1)) (fun _ => .int _) (Dv.ev_int 1)) | exact ey_of (by rfl) (Dv.ev_I0 (i := 1000000) (j := 1) (fun _ => .int _) (Dv.ev_I (i := 10) (j := 6) ⟨by decide, by decide, by decide⟩ (fun _ => .int _) (Dv.ev_int 10) (Dv.ev_int 6)) (Dv.ev_int 1)) | refine ey_tup ?_ (by simp) | refine ey_lst ?_ (by simp) | refine eay_cons ?_ ?_))
  dsimp only
  refine seq_of (asg_of (cat_y (K := K) (i := 2) (es := oR5 sf n) h4 f4 d4 rfl (ely_lst ?_ (by simp [oR5])) g4.fh (by simp [oR0, oR1, oR2, oR3, oR4, oR5]) fun p5 w5 F5 H5 g5 hn5 f5 h5 d5 => ?_))
  · unfold oR5
    (repeat (first | exact ey_int _ | exact ey_non | exact ey_bl _ | exact ey_str _ | exact ey_mt | exact eay_nil | exact ey_var rfl (.str _) | exact ey_of (by rfl) (Dv.ev_U (i := 1) (k := .int (-1)) (fun _ => .int _) (Dv.ev_int 1)) | exact ey_of (by rfl) (Dv.ev_I0 (i := 1000000) (j := 1) (fun _ => .int _) (Dv.ev_I (i := 10) (j := 6) ⟨by decide, by decide, by decide⟩ (fun _ => .int _) (Dv.ev_int 10) (Dv.ev_int 6)) (Dv.ev_int 1)) | refine ey_tup ?_ (by simp) | refine ey_lst ?_ (by simp) | refine eay_cons ?_ ?_))
  dsimp only
  refine seq_of (asg_of (cat_y (K := K) (i := 2) (es := oR6 sf n) h5 f5 d5 rfl (ely_lst ?_ (by simp [oR6])) g5.fh (by simp [oR0, oR1, oR2, oR3, oR4, oR5, oR6]) fun p6 w6 F6 H6 g6 hn6 f6 h6 d6 => ?_))
  · unfold oR6
    (repeat (first | exact ey_int _ | exact ey_non | exact ey_bl _ | exact ey_str _ | exact ey_mt | exact eay_nil | exact ey_var rfl (.str _) | exact ey_of (by rfl) (Dv.ev_U (i := 1) (k := .int (-1)) (fun _ => .int _) (Dv.ev_int 1)) | exact ey_of (by rfl) (Dv.ev_I0 (i := 1000000) (j := 1) (fun _ => .int _) (Dv.ev_I (i := 10) (j := 6) ⟨by decide, by decide, by decide⟩ (fun _ => .int _) (Dv.ev_int 10) (Dv.ev_int 6)) (Dv.ev_int 1)) | refine ey_tup ?_ (by simp) | refine ey_lst ?_ (by simp) | refine eay_cons ?_ ?_))
  dsimp only
  refine seq_of (asg_of (cat_y (K := K) (i := 2) (es := oR7 sf n) h6 f6 d6 rfl (ely_lst ?_ (by simp [oR7])) g6.fh (by simp [oR0, oR1, oR2, oR3, oR4, oR5, oR6, oR7]) fun p7 w7 F7 H7 g7 hn7 f7 h7 d7 => ?_))
  · unfold oR7
    (repeat (first | exact ey_int _ | exact ey_non | exact ey_bl _ | exact ey_str _ | exact ey_mt | exact eay_nil | exact ey_var rfl (.str _) | exact ey_of (by rfl) (Dv.ev_U (i := 1) (k := .int (-1)) (fun _ => .int _) (Dv.ev_int 1)) | exact ey_of (by rfl) (Dv.ev_I0 (i := 1000000) (j := 1) (fun _ => .int _) (Dv.ev_I (i := 10) (j := 6) ⟨by decide, by decide, by decide⟩ (fun _ => .int _) (Dv.ev_int 10) (Dv.ev_int 6)) (Dv.ev_int 1)) | refine ey_tup ?_ (by simp) | refine ey_lst ?_ (by simp) | refine eay_cons ?_ ?_))
  dsimp only
  refine seq_of (asg_of (cat_y (K := K) (i := 2) (es := oR8 sf n) h7 f7 d7 rfl (ely_lst ?_ (by simp [oR8])) g7.fh (by simp [oR0, oR1, oR2, oR3, oR4, oR5, oR6, oR7, oR8]) fun p8 w8 F8 H8 g8 hn8 f8 h8 d8 => ?_))
  · unfold oR8
    (repeat (first | exact ey_int _ | exact ey_non | exact ey_bl _ | exact ey_str _ | exact ey_mt | exact eay_nil | exact ey_var rfl (.str _) | exact ey_of (by rfl) (Dv.ev_U (i := 1) (k := .int (-1)) (fun _ => .int _) (Dv.ev_int 1)) | exact ey_of (by rfl) (Dv.ev_I0 (i := 1000000) (j := 1) (fun _ => .int _) (Dv.ev_I (i := 10) (j := 6) ⟨by decide, by decide, by decide⟩ (fun _ => .int _) (Dv.ev_int 10) (Dv.ev_int 6)) (Dv.ev_int 1)) | refine ey_tup ?_ (by simp) | refine ey_lst ?_ (by simp) | refine eay_cons ?_ ?_))
  dsimp only
  refine seq_of (asg_of (cat_y (K := K) (i := 2) (es := oR9 sf n) h8 f8 d8 rfl (ely_lst ?_ (by simp [oR9])) g8.fh (by simp [oR0, oR1, oR2, oR3, oR4, oR5, oR6, oR7, oR8, oR9]) fun p9 w9 F9 H9 g9 hn9 f9 h9 d9 => ?_))
  · unfold oR9
    (repeat (first | exact ey_int _ | exact ey_non | exact ey_bl _ | exact ey_str _ | exact ey_mt | exact eay_nil | exact ey_var rfl (.str _) | exact ey_of (by rfl) (Dv.ev_U (i := 1) (k := .int (-1)) (fun _ => .int _) (Dv.ev_int 1)) | exact ey_of (by rfl) (Dv.ev_I0 (i := 1000000) (j := 1) (fun _ => .int _) (Dv.ev_I (i := 10) (j := 6) ⟨by decide, by decide, by decide⟩ (fun _ => .int _) (Dv.ev_int 10) (Dv.ev_int 6)) (Dv.ev_int 1)) | refine ey_tup ?_ (by simp) | refine ey_lst ?_ (by simp) | refine eay_cons ?_ ?_))
  dsimp only
  have lc := lcy_rule (K := K) (F := F9) (te := tTup (tCons (tVar 3) (tCons (tLstN tNil) (tCons (tLstN tNil) tNil)))) (vs := [3]) (g := gName 3) (σ := [some (.str sf), some (.str n), some (.ref p9), none]) oddN PyData.str (fun o => PyData.tuple [.str o, .list [], .list []])
    (it_list (ev_callD (f := fOddN) (E := E0) Dv.ea_nil ⟨rfl, rfl⟩)) (by decide +kernel) (fun o ho v F1 e1 hv => ⟨[some (.str sf), some (.str n), some (.ref p9), some v], fun H e Q q => q, rfl, ey_tup (eay_cons (ey_of rfl (Dv.ev_var (i := 3) rfl hv)) (eay_cons (ey_lst eay_nil (by simp)) (eay_cons (ey_lst eay_nil (by simp)) eay_nil))) (by simp)⟩)
  refine seq_of (asg_of (cat_y (K := K) (i := 2) (es := oR10) h9 f9 d9 rfl lc g9.fh (by simp [oR0, oR1, oR2, oR3, oR4, oR5, oR6, oR7, oR8, oR9]; omega) fun p10 w10 F10 H10 g10 hn10 f10 h10 d10 => ?_))
  dsimp only
  refine ret_of (cat_y (K := K) (i := 2) (es := oR11 sf n) h10 f10 d10 rfl (ely_lst ?_ (by simp [oR11])) g10.fh (by simp [oR0, oR1, oR2, oR3, oR4, oR5, oR6, oR7, oR8, oR9, oR11]; omega) fun p11 w11 F11 H11 g11 hn11 f11 h11 d11 => ?_)
  · unfold oR11
    (repeat (first | exact ey_int _ | exact ey_non | exact ey_bl _ | exact ey_str _ | exact ey_mt | exact eay_nil | exact ey_var rfl (.str _) | exact ey_of (by rfl) (Dv.ev_U (i := 1) (k := .int (-1)) (fun _ => .int _) (Dv.ev_int 1)) | exact ey_of (by rfl) (Dv.ev_I0 (i := 1000000) (j := 1) (fun _ => .int _) (Dv.ev_I (i := 10) (j := 6) ⟨by decide, by decide, by decide⟩ (fun _ => .int _) (Dv.ev_int 10) (Dv.ev_int 6)) (Dv.ev_int 1)) | refine ey_tup ?_ (by simp) | refine ey_lst ?_ (by simp) | refine eay_cons ?_ ?_))
  exact q p11 w11 F11 H11 (((((((((((g0.trans g1).trans g2).trans g3).trans g4).trans g5).trans g6).trans g7).trans g8).trans g9).trans g10).trans g11) (ex_none ((((((((((g0.trans g1).trans g2).trans g3).trans g4).trans g5).trans g6).trans g7).trans g8).trans g9).trans g10).hx hn11) f11 h11 d11
end
end R3

set_option Elab.async false
set_option linter.all false
set_option maxHeartbeats 4000000
/-! GENERAL: a text times a number -/
namespace L2
open PySem PySem.Spec PyProof.Rows
def strRep (x : Str) (n : Int) : Str := if n < 1 then Str.empty else if (n == 1 || x.length == 0) = true then x else ⟨(List.replicate n.toNat x.cps).foldl (· ++ ·) #[]⟩
def rMulStr : R2 := fun x y H Q => ∃ a n, x = .str a ∧ y = .int n ∧ 0 ≤ n ∧ n ≤ 1000 ∧ a.length ≤ 1000 ∧ (strRep a n).length ≤ sizeLine ∧ Q (.str (strRep a n)) H
theorem op_mulStr {X : Cx} : OpR X (binaryOp .Mult) rMulStr := by
  intro pins s σ H x y v u Q I rx ry h
  obtain ⟨a, n, rfl, rfl, h0, h1, hl, hz, q⟩ := h
  obtain ⟨t, rfl⟩ := rx
  obtain ⟨t', rfl⟩ := ry
  refine PySem.P.mul_str ?_ (fun _ _ => ?_) (fun _ _ => ?_) ?_
  · rw [decide_eq_false (by omega), decide_eq_false (by omega)]
    rfl
  · rename_i hn _
    have : (1000 : Int) ≤ (2 ^ 63 - 1) / n := by
      rw [Int.le_ediv_iff_mul_le (by omega)]
      omega
    omega
  · show decide (a.length * n.toNat > sizeLine) = false
    have h2 : a.length * n.toNat ≤ 1000 * 1000 := Nat.mul_le_mul hl (by omega)
    rw [decide_eq_false (by rw [sizeLine_eq]; omega)]
  · unfold strRep at hz q
    split
    · rename_i c
      rw [if_pos c] at hz q
      exact ⟨hz, .str _, H, I.tok _, ⟨_, rfl⟩, q⟩
    · rename_i c
      rw [if_neg c] at hz q
      split
      · rename_i c2
        rw [if_pos c2] at hz q
        exact ⟨.str _, H, I, ⟨_, rfl⟩, q⟩
      · rename_i c2
        rw [if_neg c2] at hz q
        exact ⟨hz, .str _, H, I.tok _, ⟨_, rfl⟩, q⟩
end L2

set_option Elab.async false
set_option linter.all false
set_option maxRecDepth 100000
set_option maxHeartbeats 4000000
/-! pieces of _law_refused -/
namespace R3
open PySem PySem.Spec PyProof.Rows L2 Evl Dv
section
variable {P : Program} {w : World} {K : PySem.W.Frag} {mg : Str → Option Value} {base : Heap} {C CL CI : Addr} {σ : L2.St} {F : Hp}
theorem test_call {sp : Sp} {dvs : List V} {E : XK} {ta : TA} {tb : TE} {r : R2} {H : Hp} {Q : Bool → Hp → Prop} (h : ta σ H fun vs H1 => sp (vs ++ dvs) H1 (fun v H2 => tb σ H2 fun u H3 => r v u H3 fun x H4 => ∃ b, x = .bl b ∧ Q b H4) E) : tTest (tOp r (tCall sp dvs E ta) tb) σ H Q := h
theorem et_caught {tx ty : TE} {j : Nat} {k : Int} {C0 : Addr} {v : V} {d : PyData} (hv5 : σ[j]? = some (some v)) (hrz : Rz K F v d) (hk : (C0 = CL ∧ k = 0) ∨ (C0 = CI ∧ k = 1))
    (h : ∀ H, Ex F H → ∀ Q : List V → Hp → Prop, (∀ sv rv F' H', Gr F H F' H' → ThrM K C CL CI F' sv rv C0 v → Q [sv, rv] H') → (tCons tx (tCons ty tNil)) σ H Q) :
    EtD (tTest (tOp (rNeSame K) (tCall (spCaught K C CL CI) [] E0 (tCons tx (tCons ty tNil))) (tLst (tCons (tC (.int k)) (tCons (tCB (rReprZ K) (tCons (tVar j) tNil)) tNil))))) σ F false := fun H e Q q =>
  test_call (h H e _ fun sv rv F1 H1 g1 thr => ⟨sv, rv, v, d, F1, C0, k, rfl, g1.fh, thr, hrz.mono g1.fx, hk, fun p F2 H2 g2 hp => by
    have g12 := g1.trans g2
    refine ⟨v, hv5, rz_read hrz (e.trans g12.hx) ⟨sz_of (by simp), fun p2 hp2 => ?_⟩⟩
    cases hp with
    | lst hs hd =>
      obtain ⟨x1, x2, rfl, h1, h2⟩ := Dv.two hd
      cases h1
      cases h2
      have g3 := g12.trans (Gr.only (o := .lst [V.int k, .str d.shown]) g12.fh hp2)
      refine ⟨p, p2, [V.int k, .str d.shown], rfl, rfl, ex_l g3.fh hs, SqL.of upd_same, fun z hz => ?_, ⟨false, rfl, q _ _ g3⟩⟩
      simp only [List.mem_cons, List.not_mem_nil, or_false] at hz
      rcases hz with rfl | rfl
      · exact .inl rfl
      · exact .inl rfl⟩)
/-- xs[:at] + [bad, None] + xs[at:] -/
theorem mix_list {tp : TE} {ds : List PyData} {a : Nat} {v : V} (hp : EvD K tp σ F (.list ds)) (hat : σ[4]? = some (some (.int a))) (hv5 : σ[5]? = some (some v)) (hz : ds.length ≤ 1000) {H : Hp} (e : Ex F H) {Q : VK} (q : ∀ p w1 w2 F' H', Gr F H F' H' → F' p = some (.lst ((w1 ++ [v, .non]) ++ w2)) → DpAll K F' w1 (ds.take a) → DpAll K F' w2 (ds.drop a) → Q (.ref p) H') :
    tOp rCat (tOp rCat (tSl (rSlL K) tp tNoPart (tPart (tVar 4))) (tLst (tCons (tVar 5) (tCons (tC .non) tNil)))) (tSl (rSlL K) tp (tPart (tVar 4)) tNoPart) σ H Q := by
  have ha : ∀ F', EvD K (tVar 4) σ F' (.int (a : Int)) := fun F' => Dv.ev_var hat (.int _)
  have c1 : Dv.cutD ds none (some (a : Int)) = ds.take a := by
    unfold Dv.cutD
    rw [HT.sIx_none, HT.sIx_nat]
    simp
  have l1 : (ds.take a).length ≤ 1000 := by rw [List.length_take]; omega
  have l2 : (ds.drop a).length ≤ 1000 := by rw [List.length_drop]; omega
  refine (Dv.el_is (Dv.el_sl hp Dv.eo_none (Dv.eo_some (ha F))) c1) H e _ fun p1 w1 F1 H1 g1 hn1 f1 h1 d1 => ?_
  refine ⟨v, hv5, ⟨sz_of (by simp), fun p2 hp2 => ?_⟩⟩
  have n12 : p1 ≠ p2 := ne_of_none h1 hp2
  have lw1 := dps_len d1
  refine ⟨p1, p2, w1, [v, .non], rfl, rfl, by rw [upd_ne n12]; exact h1, upd_same, sz_of (by simp; omega), fun p3 hp3 => ?_⟩
  have g2 := g1.trans (Gr.only (o := .lst [v, V.non]) g1.fh hp2)
  have g3 := g2.trans (Gr.only (o := .lst (w1 ++ [v, V.non])) g2.fh hp3)
  refine (Dv.el_is (Dv.el_sl (Dv.EvD.mono g1.fx hp) (Dv.eo_some (ha F1)) Dv.eo_none) (cutD_from ds a)) _ g3.fh _ fun p4 w2 F4 H4 g4 hn4 f4 h4 d4 => ?_
  have k3 := g4.hx _ _ (show (upd (upd H1 p2 (.lst [v, V.non])) p3 (.lst (w1 ++ [v, V.non]))) p3 = some (.lst (w1 ++ [v, V.non])) from upd_same)
  have lw2 := dps_len d4
  refine ⟨p3, p4, w1 ++ [v, .non], w2, rfl, rfl, k3, h4, sz_of (by simp; omega), fun p5 hp5 => ?_⟩
  have g5 := (g3.trans g4).trans (Gr.new (o := .lst ((w1 ++ [v, V.non]) ++ w2)) (g3.trans g4).fh hp5)
  have e5 : Ex F4 (upd F4 p5 (.lst ((w1 ++ [v, V.non]) ++ w2))) := Ex.new (ex_none g4.fh hp5)
  exact q p5 w1 w2 _ _ g5 upd_same (dps_ex (g4.fx.trans e5) d1) (dps_ex e5 d4)
theorem dr_randomE {g : Addr} {i : Nat} {b : Int} {te : TE} (hi : σ[i]? = some (some (.ref g))) (ht : EvD K te σ F (.int b)) (b0 : 1 ≤ b) (b1 : b < 1000) (eb : Builtin.Int.intBits b < 30) :
    DrD K g 1 (tCall spRandom [] E0 (tCons (tVar i) (tCons te tNil))) σ F fun d => ∃ r : Int, d = .int r ∧ 0 ≤ r ∧ r < b := by
  intro H c e f hg hc Q q
  refine ⟨_, hi, ht H e _ fun v F1 H1 g1 hv => ?_⟩
  cases hv
  obtain ⟨k1, a, s, n, h3, a0, s0, s1, n0, n1⟩ := GenAt.of hg g1 f
  refine ⟨g, a, s, n, b, rfl, h3, a0, s0, s1, n0, by omega, b0, b1, eb, fun r a' c' r0 r1 a0' c0' c1' => ?_⟩
  exact q _ F1 _ (.int r) (k1.trans (GrG.refl k1.fh k1.fg).draw) ⟨a', s, c', upd_same, a0', s0, s1, by omega, by omega⟩ ⟨r, rfl, r0, r1⟩ (.int r)
/-- a walk over a new list of odd things -/
theorem dys_get : ∀ {ds : List PyData} {vs : List V} {i : Nat} {v : V}, DyAll K F vs ds → vs[i]? = some v → ∃ d, ds[i]? = some d ∧ Dy K F v d
  | _, _, _, _, .nil, e => by cases e
  | _, _, 0, _, .cons h t, e => by cases e; exact ⟨_, rfl, h⟩
  | _, _, i + 1, _, .cons h t, e => dys_get (i := i) t e
theorem s_forY {H : Hp} {ds : List PyData} {te : TE} {ts : TS} {g : TG} {D : Ends} (h : ElY K te σ F ds) (e : Ex F H) (Pv : Nat → L2.St → Hp → Hp → Prop) (h0 : ∀ F' H', Gr F H F' H' → Pv 0 σ F' H')
    (hs : ∀ Fb, Ex F Fb → ∀ n σ' F' H' v d, ds[n]? = some d → Ex Fb F' → Ex F' H' → Pv n σ' F' H' → Dy K F' v d → g v σ' H' fun σ2 H3 => ts { D with nx := NxP Fb (Pv (n + 1)), ct := NxP Fb (Pv (n + 1)), bk := D.nx } σ2 H3)
    (hd : ∀ σ' F' H', Ex F F' → Ex F' H' → Pv ds.length σ' F' H' → D.nx σ' H') : tFor (iList K te) g ts D σ H := h H e _ fun p xs F1 H1 g1 hn f1 hp hx => by
  have g2 := g1.take hn f1 hp
  have e1 : Ex F1 (upd F1 p (.lst xs)) := Ex.new f1
  have hx2 := dys_ex e1 hx
  have hp2 : (upd F1 p (.lst xs)) p = some (.lst xs) := upd_same
  generalize upd F1 p (.lst xs) = F2 at g2 hx2 hp2
  refine ⟨p, rfl, ⟨xs, SqL.of hp⟩, for_it (walk_list (xs := xs)) (fun n => NxP F2 (Pv n)) ⟨F2, Ex.refl _, g2.fh, h0 F2 H1 g2⟩ (fun n σ' H' _ q => ?_) (fun n v σ' H' H2 hn q y => ?_) fun σ' H' q => ?_⟩
  · obtain ⟨F', e1, e2, _⟩ := q
    exact SqL.of (e2 _ _ (e1 _ _ hp2))
  · obtain ⟨rfl, hv⟩ := y
    obtain ⟨F', e1, e2, q⟩ := q
    obtain ⟨d, h1, h2⟩ := dys_get hx2 hv
    exact hs F2 g2.fx n σ' F' _ v d h1 e1 e2 q (dy_ex e1 h2)
  · obtain ⟨F', e1, e2, q⟩ := q
    rw [dys_len hx2] at q
    exact hd σ' F' H' (g2.fx.trans e1) e2 q
/-! values refused as lists -/
def Bd (K : PySem.W.Frag) (l : Int) (F : Hp) (v : V) : Prop := ∃ d, Dz K F v d ∧ Rz K F v d ∧ lenOk d ∧ sizeOk d l 8 = false
theorem Bd.mono {l : Int} {F F' : Hp} {v : V} (e : Ex F F') (h : Bd K l F v) : Bd K l F' v := by
  obtain ⟨d, h1, h2, h3⟩ := h
  exact ⟨d, dz_ex e h1, h2.mono e, h3⟩
def rzB (d : PyData) : Bool := d.showable && decide (shB d ≤ 100000) && decide (d.depth ≤ 50)
theorem rzB.y {d : PyData} (h : rzB d = true) : RpZ d := by
  unfold rzB at h
  simp only [Bool.and_eq_true, decide_eq_true_iff] at h
  exact ⟨h.1.1, h.1.2, h.2⟩
theorem rzB.p {d : PyData} (h : rzB d = true) (n : d.hasDict = false) : Rp d := by
  unfold rzB at h
  simp only [Bool.and_eq_true, decide_eq_true_iff] at h
  exact ⟨n, h.1.1, h.1.2, h.2⟩
def lnB (d : PyData) : Bool := match d with
  | .list xs => decide (xs.length ≤ 100000)
  | _ => true
theorem lnB.ok {d : PyData} (h : lnB d = true) : lenOk d := by
  intro xs e
  subst e
  exact of_decide_eq_true h
def bdB (l : Int) (d : PyData) : Bool := rzB d && lnB d && !sizeOk d l 8
/-- values of a display, each as told -/
def EaV (Pd : Hp → V → Prop) (ta : TA) (σ : L2.St) (F : Hp) (n : Nat) : Prop := ∀ H, Ex F H → ∀ Q : List V → Hp → Prop, (∀ vs F' H', Gr F H F' H' → vs.length = n → (∀ v ∈ vs, Pd F' v) → Q vs H') → ta σ H Q
theorem eav_nil {Pd : Hp → V → Prop} : EaV Pd tNil σ F 0 := fun H e Q q => q [] F H (Gr.refl e) rfl fun v hv => nomatch hv
theorem eav_cons {Pd : Hp → V → Prop} {te : TE} {tr : TA} {n : Nat} (mono : ∀ F F' v, Ex F F' → Pd F v → Pd F' v) (h : EvP te σ F Pd) (hr : ∀ F', Ex F F' → EaV Pd tr σ F' n) : EaV Pd (tCons te tr) σ F (n + 1) := fun H e Q q =>
  h H e _ fun v F1 H1 g1 hv => hr F1 g1.fx H1 g1.fh _ fun vs F2 H2 g2 hl hvs => q _ F2 H2 (g1.trans g2) (by rw [List.length_cons, hl]) fun y hy => by
    rcases List.mem_cons.mp hy with rfl | hy
    · exact mono _ _ _ g2.fx hv
    · exact hvs y hy
theorem bd_y {te : TE} {l : Int} {d : PyData} (h : EvY K te σ F d) (b : bdB l d = true) : EvP te σ F (Bd K l) := fun H e Q q => h H e Q fun v F' H' g hv => by
  unfold bdB at b
  rw [Bool.and_eq_true, Bool.and_eq_true] at b
  exact q v F' H' g ⟨d, dy_z hv, .inr ⟨hv, rzB.y b.1.1⟩, lnB.ok b.1.2, by simpa using b.2⟩
theorem bd_p {te : TE} {l : Int} {d : PyData} (h : EvD K te σ F d) (b : bdB l d = true) (n : d.hasDict = false) : EvP te σ F (Bd K l) := fun H e Q q => h H e Q fun v F' H' g hv => by
  unfold bdB at b
  rw [Bool.and_eq_true, Bool.and_eq_true] at b
  exact q v F' H' g ⟨d, .dat hv, .inl ⟨hv, rzB.p b.1.1 n⟩, lnB.ok b.1.2, by simpa using b.2⟩
end
end R3

set_option Elab.async false
set_option linter.all false
set_option maxRecDepth 100000
set_option maxHeartbeats 4000000
/-! plain facts for _law_refused -/
namespace R3
open PySem PySem.Spec PyProof.Rows L2 Evl Dv
theorem rz_all {P : PyData → Prop} {c k : Nat} (hp : ∀ d, P d → d.hasDict = false ∧ d.showable = true ∧ shB d ≤ c ∧ d.depth ≤ k) : ∀ {ds : List PyData}, (∀ d ∈ ds, P d) → PyData.hasDictAll ds = false ∧ PyData.showableAll ds = true ∧ shBs ds ≤ ds.length * (c + 2) ∧ PyData.depthAll ds ≤ k
  | [], _ => ⟨by rw [PyData.hasDictAll], by rw [PyData.showableAll], by rw [shBs]; exact Nat.zero_le _, by rw [PyData.depthAll]; exact Nat.zero_le _⟩
  | d :: r, h => by
    obtain ⟨a1, a2, a3, a4⟩ := hp d (h d List.mem_cons_self)
    obtain ⟨b1, b2, b3, b4⟩ := rz_all hp fun y hy => h y (List.mem_cons_of_mem _ hy)
    refine ⟨by rw [PyData.hasDictAll, a1, b1] <;> rfl, by rw [PyData.showableAll, a2, b2] <;> rfl, ?_, ?_⟩
    · rw [shBs, List.length_cons, Nat.add_mul, Nat.one_mul]
      omega
    · rw [PyData.depthAll]
      omega
abbrev aS : Str := "a"
abbrev bS : Str := "b"
abbrev cS : Str := "c"
abbrev rS : Str := "r"
abbrev sS : Str := "s"
abbrev tS : Str := "t"
def abc : List Str := [aS, bS, cS]
def rst : List Str := [rS, sS, tS]
def Sml (c k : Nat) (d : PyData) : Prop := d.hasDict = false ∧ d.showable = true ∧ shB d ≤ c ∧ d.depth ≤ k
instance (c k : Nat) (d : PyData) : Decidable (Sml c k d) := by unfold Sml; infer_instance
theorem st_sml : ∀ x ∈ abc, ∀ r ∈ ([none, some 1, some 2, some 3, some 0] : List (Option Int)), Sml 20 2 (encStuff (x, r)) := by decide +kernel
theorem pt_sml : ∀ x ∈ abc, ∀ k ∈ ([1, 2, 3] : List Int), Sml 20 2 (encPart (x, k)) := by decide +kernel
theorem ti_sml : ∀ x ∈ rst, Sml 10 1 (.str x) := by decide +kernel
theorem sml_list {c k n : Nat} {ds : List PyData} (h : ∀ d ∈ ds, Sml c k d) (hl : ds.length ≤ n) : Sml (n * (c + 2) + 3) (k + 1) (.list ds) ∧ Sml (n * (c + 2) + 3) (k + 1) (.tuple ds) := by
  obtain ⟨a, b, e, f⟩ := rz_all (P := Sml c k) (fun d h => h) h
  have : ds.length * (c + 2) ≤ n * (c + 2) := Nat.mul_le_mul_right _ hl
  refine ⟨⟨by rw [PyData.hasDict]; exact a, by rw [PyData.showable]; exact b, by rw [shB]; omega, by rw [PyData.depth]; omega⟩, ⟨by rw [PyData.hasDict]; exact a, by rw [PyData.showable]; exact b, by rw [shB]; omega, by rw [PyData.depth]; omega⟩⟩
theorem Drawn.abc {m : MillD} {wide many : Nat} (d : Drawn m wide many) (w3 : wide ≤ 3) : ∀ x ∈ m.names, x ∈ abc := fun x hx => by
  rw [d.names] at hx
  obtain ⟨i, hi, rfl⟩ := range_names hx
  rcases chr_cad (i := i) (by omega) with e | e | e <;> rw [e] <;> simp [R3.abc]
theorem Drawn.rst {m : MillD} {wide many : Nat} (d : Drawn m wide many) (m3 : many ≤ 3) : ∀ x ∈ m.titles, x ∈ rst := fun x hx => by
  rcases title_rst d m3 hx with e | e | e <;> rw [e] <;> simp [R3.rst]
theorem Drawn.rm {m : MillD} {wide many : Nat} (d : Drawn m wide many) : ∀ z ∈ m.stuffs, z.2 ∈ ([none, some 1, some 2, some 3, some 0] : List (Option Int)) := fun z hz => by
  obtain ⟨rs, h1, h2, h3⟩ := d.st
  rw [h3] at hz
  unfold stuffsOf at hz
  obtain ⟨i, hi, rfl⟩ := List.mem_map.mp hz
  have hi' := List.mem_range.mp hi
  show rs[i]?.getD none ∈ _
  rw [List.getElem?_eq_getElem hi']
  exact h2 _ (List.getElem_mem hi')
theorem Drawn.stSml {m : MillD} {wide many : Nat} (d : Drawn m wide many) (w3 : wide ≤ 3) : Sml 100 3 (.tuple (m.stuffs.map encStuff)) := by
  have := (sml_list (c := 20) (k := 2) (n := 3) (ds := m.stuffs.map encStuff) (fun y hy => by
    obtain ⟨z, hz, rfl⟩ := List.mem_map.mp hy
    exact st_sml z.1 (d.abc w3 _ (List.mem_map.mpr ⟨z, hz, rfl⟩)) z.2 (d.rm z hz)) (by rw [List.length_map, d.slen]; exact w3)).2
  exact ⟨this.1, this.2.1, Nat.le_trans this.2.2.1 (by decide), this.2.2.2⟩
theorem side_sml {names : List Str} {ps : List (Str × Int)} (h : SideOk names ps) (hn : ∀ x ∈ names, x ∈ abc) : Sml 50 3 (.list (ps.map encPart)) := by
  have := (sml_list (c := 20) (k := 2) (n := 2) (ds := ps.map encPart) (fun y hy => by
    obtain ⟨z, hz, rfl⟩ := List.mem_map.mp hy
    have hk := h.num z hz
    exact pt_sml z.1 (hn _ (h.sub.subset (List.mem_map.mpr ⟨z, hz, rfl⟩))) z.2 (by simp only [List.mem_cons, List.not_mem_nil, or_false]; omega)) (by rw [List.length_map]; exact h.few)).1
  exact ⟨this.1, this.2.1, Nat.le_trans this.2.2.1 (by decide), this.2.2.2⟩
theorem Drawn.rcSml {m : MillD} {wide many : Nat} (d : Drawn m wide many) (w3 : wide ≤ 3) (m3 : many ≤ 3) : Sml 1000 5 (.tuple (m.recipes.map encRecipe)) := by
  have := (sml_list (c := 200) (k := 4) (n := 3) (ds := m.recipes.map encRecipe) (fun y hy => by
    obtain ⟨r, hr, rfl⟩ := List.mem_map.mp hy
    obtain ⟨s1, s2⟩ := d.ro r hr
    have t1 := side_sml s1 (d.abc w3)
    have t2 := side_sml s2 (d.abc w3)
    have t0 := ti_sml r.1 (d.rst m3 _ (List.mem_map.mpr ⟨r, hr, rfl⟩))
    have := (sml_list (c := 50) (k := 3) (n := 3) (ds := [.str r.1, .list (r.2.1.map encPart), .list (r.2.2.map encPart)]) (fun y hy => by
      simp only [List.mem_cons, List.not_mem_nil, or_false] at hy
      rcases hy with rfl | rfl | rfl
      · exact ⟨t0.1, t0.2.1, Nat.le_trans t0.2.2.1 (by decide), Nat.le_trans t0.2.2.2 (by decide)⟩
      · exact t1
      · exact t2) (by simp)).2
    exact ⟨this.1, this.2.1, Nat.le_trans this.2.2.1 (by decide), this.2.2.2⟩) (by rw [List.length_map, d.rl]; exact m3)).2
  exact ⟨this.1, this.2.1, Nat.le_trans this.2.2.1 (by decide), this.2.2.2⟩
theorem Sml.bd {c k : Nat} {l : Int} {ds : List PyData} (h : Sml c k (.tuple ds)) (hc : c ≤ 100000) (hk : k ≤ 50) : bdB l (.tuple ds) = true := by
  unfold bdB rzB
  rw [h.2.1, decide_eq_true (Nat.le_trans h.2.2.1 hc), decide_eq_true (Nat.le_trans h.2.2.2 hk)]
  rfl
/-! the odd things -/
def isT2 (x : Str) : PyData → Bool
  | .tuple [.str y, _] => x == y
  | _ => false
def isT3 (x : Str) : PyData → Bool
  | .tuple [.str y, _, _] => x == y
  | _ => false
def okSt (d : PyData) : Bool := rzB d && gd d && (!isStuff d || isT2 aS d)
def okRc (nm : List Str) (d : PyData) : Bool := rzB d && gd d && (!isRecipe nm d || isT3 rS d)
theorem oddS_ok : ((oddS aS).all okSt) = true := by decide +kernel
theorem oddR_ok1 : ((oddR aS rS).all (okRc [aS])) = true := by decide +kernel
theorem oddR_ok2 : ((oddR aS rS).all (okRc [aS, bS])) = true := by decide +kernel
theorem oddR_ok3 : ((oddR aS rS).all (okRc [aS, bS, cS])) = true := by decide +kernel
theorem Drawn.nmE {m : MillD} {wide many : Nat} (d : Drawn m wide many) (w1 : 1 ≤ wide) (w3 : wide ≤ 3) : m.names = [aS] ∨ m.names = [aS, bS] ∨ m.names = [aS, bS, cS] := by
  rw [d.names]
  match wide, w1, w3 with
  | 1, _, _ => exact .inl (by decide +kernel)
  | 2, _, _ => exact .inr (.inl (by decide +kernel))
  | 3, _, _ => exact .inr (.inr (by decide +kernel))
theorem Drawn.tiE {m : MillD} {wide many : Nat} (d : Drawn m wide many) (m1 : 1 ≤ many) (m3 : many ≤ 3) : m.titles = [rS] ∨ m.titles = [rS, sS] ∨ m.titles = [rS, sS, tS] := by
  rw [d.titles]
  match many, m1, m3 with
  | 1, _, _ => exact .inl (by decide +kernel)
  | 2, _, _ => exact .inr (.inl (by decide +kernel))
  | 3, _, _ => exact .inr (.inr (by decide +kernel))
theorem Drawn.oddR {m : MillD} {wide many : Nat} (d : Drawn m wide many) (w1 : 1 ≤ wide) (w3 : wide ≤ 3) : ((R3.oddR aS rS).all (okRc m.names)) = true := by
  rcases d.nmE w1 w3 with e | e | e <;> rw [e]
  · exact oddR_ok1
  · exact oddR_ok2
  · exact oddR_ok3
/-- what is drawn, as it is used -/
theorem Drawn.un {m : MillD} {wide many : Nat} (d : Drawn m wide many) (w1 : 1 ≤ wide) (w3 : wide ≤ 3) (m1 : 1 ≤ many) (m3 : many ≤ 3) : ∃ r0 ss rs l, Un m aS r0 ss rs l := by
  have hs : m.stuffs.length = wide := d.slen
  have hr : m.recipes.length = many := d.rl
  obtain ⟨z, ss, es⟩ : ∃ z ss, m.stuffs = z :: ss := by
    cases h : m.stuffs with
    | nil => rw [h] at hs; simp at hs; omega
    | cons z ss => exact ⟨z, ss, rfl⟩
  obtain ⟨rs, l, er⟩ : ∃ rs l, m.recipes = rs ++ [l] := ⟨m.recipes.dropLast, m.recipes.getLast (fun e => by rw [e] at hr; simp at hr; omega), (List.dropLast_concat_getLast _).symm⟩
  have hz : z.1 = aS := by
    have hn : m.names = z.1 :: ss.map (·.1) := by unfold MillD.names; rw [es]; rfl
    rcases d.nmE w1 w3 with e | e | e <;> rw [e] at hn <;> exact (List.cons.inj hn).1.symm
  have seven : ∀ ps, SideOk m.names ps → ps ≠ [(aS, 7)] := fun ps h e => by
    have := h.num (aS, 7) (by rw [e]; simp)
    simp at this
  have lo := d.ro l (by rw [er]; simp)
  refine ⟨z.2, ss, rs, l, d.ok w1 w3 m3, by rw [es, ← hz], er, by rw [es] at hs; simp at hs; omega, by rw [er] at hr; simp at hr; omega, fun x hx => ?_, fun x hx => title_rst d m3 hx, seven _ lo.1, seven _ lo.2⟩
  rw [d.names] at hx
  obtain ⟨i, hi, rfl⟩ := range_names hx
  exact chr_cad (by omega)
/-! nine names -/
def nm9 (x : Nat) : Str := strRep "a" (1 + (x : Int) % 5) ++ chr "bc" (x / 5)
def n9 : List Str := (List.range 9).map nm9
def eightD : List PyData := (List.range 9).map fun x => .tuple [.str (nm9 x), .int 1]
def nineD : List PyData := (List.range 9).map fun x => .tuple [.str (nm9 x), .list [], .list []]
theorem eight_bd : bdB 1 (.list eightD) = true ∧ (PyData.list eightD).hasDict = false := by decide +kernel
theorem eight2_bd : bdB 1 (.list (.none :: eightD.drop 1)) = true ∧ (PyData.list (.none :: eightD.drop 1)).hasDict = false := by decide +kernel
theorem nine_bd : bdB 0 (.list nineD) = true ∧ (PyData.list nineD).hasDict = false := by decide +kernel
theorem nine2_bd : bdB 0 (.list (nineD.drop 1 ++ [.none])) = true ∧ (PyData.list (nineD.drop 1 ++ [.none])).hasDict = false := by decide +kernel
def m9 : MillD := ⟨(n9.take 8).map fun n => (n, some 1000000), (n9.take 8).map fun n => (n, [], [])⟩
theorem m9_st : (m9.stuffs.all fun z => gd (encStuff z) && isStuff (encStuff z)) = true := by decide +kernel
theorem m9_rc : (m9.recipes.all fun z => gd (encRecipe z) && isRecipe m9.names (encRecipe z)) = true := by decide +kernel
theorem m9_ok : m9.Ok := by
  refine ⟨by decide +kernel, by decide +kernel, by decide +kernel, fun z hz => ?_, by decide +kernel, by decide +kernel, fun z hz => ?_⟩
  · have := List.all_eq_true.mp m9_st z hz
    rwa [Bool.and_eq_true] at this
  · have := List.all_eq_true.mp m9_rc z hz
    rwa [Bool.and_eq_true] at this
theorem m9_len : m9.titles.length = 8 := by decide +kernel
end R3

set_option Elab.async false
set_option linter.all false
set_option maxRecDepth 100000
set_option maxHeartbeats 4000000
/-! _law_refused -/
namespace R3
open PySem PySem.Spec PyProof.Rows L2 Evl Dv
section
variable {P : Program} {w : World} {K : PySem.W.Frag} {mg : Str → Option Value} {base : Heap}
theorem mix_at {u1 u2 : List V} {v : V} {n : Nat} (h : u1.length = n) : ((u1 ++ [v, .non]) ++ u2)[n]? = some v := by
  subst h
  rw [List.append_assoc, List.getElem?_append_right (Nat.le_refl _), Nat.sub_self]
  rfl
theorem isT2_of {x : Str} {d : PyData} (h : isT2 x d = true) : ∃ t, d = .tuple [.str x, t] := by
  unfold isT2 at h
  split at h
  · rename_i y t
    rw [beq_iff_eq] at h
    exact ⟨t, by rw [h]⟩
  · cases h
theorem isT3_of {x : Str} {d : PyData} (h : isT3 x d = true) : ∃ t1 t2, d = .tuple [.str x, t1, t2] := by
  unfold isT3 at h
  split at h
  · rename_i y t1 t2
    rw [beq_iff_eq] at h
    exact ⟨t1, t2, by rw [h]⟩
  · cases h
theorem nine_eq : nineD = n9.map fun n => encRecipe (n, [], []) := by
  unfold nineD n9
  rw [List.map_map]
  rfl
theorem nine_8 : Dv.cutD nineD none (some ((8 : Nat) : Int)) = m9.recipes.map encRecipe := by
  unfold Dv.cutD
  rw [HT.sIx_none, HT.sIx_nat, nine_eq]
  unfold m9
  dsimp only
  rw [List.map_map, List.length_map, show n9.length = 9 from by simp [n9], List.drop_zero]
  show List.take 8 _ = _
  rw [← List.map_take]
  rfl
theorem cat_of {i : Nat} {p : Addr} {tb : TE} {σ : L2.St} {H : Hp} {Q : VK} (hi : σ[i]? = some (some (.ref p))) (h : tb σ H fun u H2 => rCat (.ref p) u H2 Q) : tOp rCat (tVar i) tb σ H Q := ⟨_, hi, h⟩
theorem lst_of {ta : TA} {σ : L2.St} {H : Hp} {Q : VK} (h : ta σ H fun vs H1 => vs.length ≤ sizeLine ∧ ∀ p, H1 p = none → Q (.ref p) (upd H1 p (.lst vs))) : tLst ta σ H Q := h
theorem ev_nm9 {σ : L2.St} {F : Hp} {i x : Nat} (hi : σ[i]? = some (some (.int (x : Int)))) (hx : x < 9) : EvD K (tOp (fun x y H Q => ∃ i j, x = .str i ∧ y = .str j ∧ i.length + j.length ≤ sizeLine ∧ Q (.str (i ++ j)) H) (tOp rMulStr (tC (.str "a")) (tOp (rI0 fun i j => .int (i + j)) (tC (.int 1)) (tOp (rI (fun _ j => 0 < j) fun i j => .int (i % j)) (tVar i) (tC (.int 5))))) (tOp rIxS (tC (.str "bc")) (tOp (rI CDiv fun i j => .int (i / j)) (tVar i) (tC (.int 5))))) σ F (.str (nm9 x)) := by
  have vx : EvD K (tVar i) σ F (.int (x : Int)) := Dv.ev_var hi (.int _)
  have dv : ((x : Int) / 5) = ((x / 5 : Nat) : Int) := by omega
  have h5 : x / 5 < 2 := by omega
  have hc : (("bc" : Str).cps.toList)[x / 5]? = some ((("bc" : Str).cps.toList)[x / 5]?.getD 0) := by
    match h : x / 5, h5 with
    | 0, _ => decide +kernel
    | 1, _ => decide +kernel
  have hl : ∀ k : Int, 1 ≤ k → k ≤ 5 → (strRep "a" k).length ≤ 10 := by
    intro k k1 k5
    have : k = 1 ∨ k = 2 ∨ k = 3 ∨ k = 4 ∨ k = 5 := by omega
    rcases this with rfl | rfl | rfl | rfl | rfl <;> decide +kernel
  have h1 : 1 ≤ 1 + (x : Int) % 5 := by omega
  have h2 : 1 + (x : Int) % 5 ≤ 5 := by omega
  have left : EvD K (tOp rMulStr (tC (.str "a")) (tOp (rI0 fun i j => .int (i + j)) (tC (.int 1)) (tOp (rI (fun _ j => 0 < j) fun i j => .int (i % j)) (tVar i) (tC (.int 5))))) σ F (.str (strRep "a" (1 + (x : Int) % 5))) :=
    ev_op (a := .str "a") (b := .int (1 + (x : Int) % 5)) (Dv.ev_str "a") (Dv.ev_I0 (i := 1) (j := (x : Int) % 5) (fun _ => .int _) (Dv.ev_int 1) (Dv.ev_I (i := (x : Int)) (j := 5) (by decide) (fun _ => .int _) vx (Dv.ev_int 5))) fun v u F1 H1 _ e hv hu Q q => by
      cases hv
      cases hu
      exact ⟨_, _, rfl, rfl, by omega, by omega, by decide, sz_of (Nat.le_trans (hl _ h1 h2) (by decide)), q _ F1 H1 (Gr.refl e) (.str _)⟩
  have right : EvD K (tOp rIxS (tC (.str "bc")) (tOp (rI CDiv fun i j => .int (i / j)) (tVar i) (tC (.int 5)))) σ F (.str (chr "bc" (x / 5))) :=
    Dv.ev_ixS (x := "bc") (i := (x : Int) / 5) (Dv.ev_str "bc") (Dv.ev_I (i := (x : Int)) (j := 5) ⟨by decide, by decide⟩ (fun _ => .int _) vx (Dv.ev_int 5)) (by decide) (by rw [dv]; exact atI_nat hc)
  exact ev_op (a := .str (strRep "a" (1 + (x : Int) % 5))) (b := .str (chr "bc" (x / 5))) left right fun v u F1 H1 _ e hv hu Q q => by
    cases hv
    cases hu
    have : (chr "bc" (x / 5)).length = 1 := rfl
    exact ⟨_, _, rfl, rfl, sz_of (by have := hl _ h1 h2; omega), q _ F1 H1 (Gr.refl e) (.str _)⟩
def spRefused (K : PySem.W.Frag) : Sp := fun vs H Q _ => ∃ (F : Hp) (g : Addr) (c : Nat) (pt : V) (m : MillD) (wide many : Nat), vs = [.ref g, pt] ∧ Ex F H ∧ F g = none ∧ GenAt H g c ∧ c < 900000 ∧ Dp K F pt (encPartsT m) ∧ Drawn m wide many ∧ 1 ≤ wide ∧ wide ≤ 3 ∧ 1 ≤ many ∧ many ≤ 3 ∧ ∀ F' H', GrG g F H F' H' → GenAt H' g (c + 200) → Q (.bl true) H'
theorem sc__law_refused : FnScope (["generator", "parts", "odds", "eight", "at", "bad", "nine", "name", "takes", "gives"] : List Str) (["generator", "parts"] : List Str) (defScope sLawRefused) := ⟨rfl, rfl, rfl, by decide +kernel, rfl, by decide +kernel, by decide +kernel⟩
theorem ok_law_refused (D : Def K mg "_law_refused" sLawRefused ["generator", "parts"]) (B : Bl mg) {C CL CI : Addr} (MC : MillC K C) (C__law_caught : Cal P w K mg base "_law_caught" ["stuffs", "recipes"] 7 (spCaught K C CL CI)) (C__law_random : Cal P w K mg base "_law_random" ["generator", "bound"] 2 spRandom) (C__law_odd_stuffs : Cal P w K mg base "_law_odd_stuffs" ["name"] 2 (spOddS K)) (C__law_odd_recipes : Cal P w K mg base "_law_odd_recipes" ["stuff", "name"] 2 (spOddR K))
    (M_Mill : Mak P w K mg base "Mill" C ["stuffs", "recipes"] 5 (spMillInit K C)) (M_names : CalM P w K mg base C "names" [] 1 (spNames K C)) :
    Cal P w K mg base "_law_refused" ["generator", "parts"] 8 (spRefused K) := by
  refine cal_mk D sc__law_refused (fun vs H Q E h => ?_) (fun f cdv A outer s H vs Q E hr h => ?_)
  · obtain ⟨F, g, c, pt, m, wide, many, rfl, _⟩ := h
    rfl
  obtain ⟨F, g, c, pt, m, wide, many, rfl, e, fg, hg, hc, hv, dr, w1, w3, m1, m3, q⟩ := h
  refine ⟨_, (pss_cons (ps_set (i := 2) sc__law_refused.nd rfl (.inl rfl) (pe_lst (pa_cons pe_non (pa_cons pe_int (pa_cons (pe_tup pa_nil) (pa_cons pe_dnewK (pa_cons pe_str (pa_cons pe_bl (pa_cons (pe_lstN pa_nil) (pa_cons (pe_callTy call_tuple_of (by rfl) B.tuple (by decide +kernel) (pa_cons (pe_ix ix_tup (pv 1) pe_int (fun _ _ => rfl)) pa_nil)) pa_nil))))))))))
      (pss_cons (ps_setLc (i := 3) (own := [("at", 4)]) (g := gName 4) rfl sc__law_refused.nd rfl rfl rfl (pi_range1 rfl B.range (pa_cons pe_int pa_nil)) (blkOk_by (own := [("at", 4)]) (N := ["generator", "parts", "odds", "eight", "at", "bad", "nine", "name", "takes", "gives"]) (sc := defScope sLawRefused) (by decide +kernel)) (fun _ _ _ _ _ => (pg_name (i := 4) sc__law_refused.nd rfl (.inl rfl)))  (fun _ _ _ _ _ => pts_nil) (fun _ _ _ _ _ => (pe_tup (pa_cons (pe_op op_add_str (pe_op op_mulStr pe_str (pe_op op_add pe_int (pe_op op_mod (pv 4) pe_int))) (pe_ix ix_str pe_str (pe_op op_fdiv (pv 4) pe_int) (fun _ _ => rfl))) (pa_cons pe_int pa_nil)))))
      (pss_cons (ps_set (i := 2) sc__law_refused.nd rfl (.inl rfl) (pe_op op_cat (pv 2) (pe_lst (pa_cons (pv 3) (pa_cons (pe_op op_catS (pe_lst (pa_cons pe_non pa_nil)) (pe_slice sl_list (pv 3) (po_some pe_int) po_none)) pa_nil)))))
      (pss_cons (ps_for PassesOwn.never rfl (pi_list (pv 2)) (pg_name (i := 5) sc__law_refused.nd rfl (.inl rfl)) (pss_one (ps_if (pt_cmpR (op_neSame (by exact hr.1.units)) (pe_callC C__law_caught hr (pa_cons (pv 5) (pa_cons pe_non pa_nil))) (pe_lst (pa_cons pe_int (pa_cons (pe_callB (id := "repr") (r := rReprZ K) (call_reprZ (by exact hr.2) (by exact hr.1.units)) (by rfl) B.repr (by decide +kernel) (pa_cons (pv 5) pa_nil)) pa_nil))) (nomark _)) (pss_one (ps_ret pe_bl)) pss_nil)))
      (pss_cons (ps_for PassesOwn.never rfl (pi_list (pe_callC C__law_odd_stuffs hr (pa_cons (pe_ix ix_tup (pe_ix ix_list (pe_ix ix_tup (pv 1) pe_int (fun _ _ => rfl)) pe_int (fun _ _ => rfl)) pe_int (fun _ _ => rfl)) pa_nil))) (pg_name (i := 5) sc__law_refused.nd rfl (.inl rfl)) (pss_cons (ps_set (i := 4) sc__law_refused.nd rfl (.inl rfl) (pe_op op_add pe_int (pe_callC C__law_random hr (pa_cons (pv 0) (pa_cons (pe_callB call_len (by rfl) B.len (by decide +kernel) (pa_cons (pe_ix ix_tup (pv 1) pe_int (fun _ _ => rfl)) pa_nil)) pa_nil)))))
      (pss_one (ps_if (pt_cmpR (op_neSame (by exact hr.1.units)) (pe_callC C__law_caught hr (pa_cons (pe_op op_cat (pe_op op_cat (pe_slice sl_list (pe_ix ix_tup (pv 1) pe_int (fun _ _ => rfl)) po_none (po_some (pv 4))) (pe_lst (pa_cons (pv 5) (pa_cons pe_non pa_nil)))) (pe_slice sl_list (pe_ix ix_tup (pv 1) pe_int (fun _ _ => rfl)) (po_some (pv 4)) po_none)) (pa_cons pe_non pa_nil))) (pe_lst (pa_cons pe_int (pa_cons (pe_callB (id := "repr") (r := rReprZ K) (call_reprZ (by exact hr.2) (by exact hr.1.units)) (by rfl) B.repr (by decide +kernel) (pa_cons (pv 5) pa_nil)) pa_nil))) (nomark _)) (pss_one (ps_ret pe_bl)) pss_nil))))
      (pss_cons (ps_setLc (i := 6) (own := [("at", 4)]) (g := gName 4) rfl sc__law_refused.nd rfl rfl rfl (pi_range1 rfl B.range (pa_cons pe_int pa_nil)) (blkOk_by (own := [("at", 4)]) (N := ["generator", "parts", "odds", "eight", "at", "bad", "nine", "name", "takes", "gives"]) (sc := defScope sLawRefused) (by decide +kernel)) (fun _ _ _ _ _ => (pg_name (i := 4) sc__law_refused.nd rfl (.inl rfl)))  (fun _ _ _ _ _ => pts_nil) (fun _ _ _ _ _ => (pe_tup (pa_cons (pe_op op_add_str (pe_op op_mulStr pe_str (pe_op op_add pe_int (pe_op op_mod (pv 4) pe_int))) (pe_ix ix_str pe_str (pe_op op_fdiv (pv 4) pe_int) (fun _ _ => rfl))) (pa_cons (pe_lst pa_nil) (pa_cons (pe_lst pa_nil) pa_nil))))))
      (pss_cons (ps_for PassesOwn.never rfl (pi_list (pe_lst (pa_cons pe_non (pa_cons pe_int (pa_cons (pe_tup pa_nil) (pa_cons pe_dnewK (pa_cons pe_str (pa_cons pe_bl (pa_cons (pe_callTy call_tuple_of (by rfl) B.tuple (by decide +kernel) (pa_cons (pe_ix ix_tup (pv 1) pe_int (fun _ _ => rfl)) pa_nil)) (pa_cons (pv 6) (pa_cons (pe_op op_catS (pe_slice sl_list (pv 6) (po_some pe_int) po_none) (pe_lst (pa_cons pe_non pa_nil))) pa_nil))))))))))) (pg_name (i := 5) sc__law_refused.nd rfl (.inl rfl)) (pss_one (ps_if (pt_cmpR (op_neSame (by exact hr.1.units)) (pe_callC C__law_caught hr (pa_cons (pe_ix ix_tup (pv 1) pe_int (fun _ _ => rfl)) (pa_cons (pv 5) pa_nil))) (pe_lst (pa_cons pe_int (pa_cons (pe_callB (id := "repr") (r := rReprZ K) (call_reprZ (by exact hr.2) (by exact hr.1.units)) (by rfl) B.repr (by decide +kernel) (pa_cons (pv 5) pa_nil)) pa_nil))) (nomark _)) (pss_one (ps_ret pe_bl)) pss_nil)))
      (pss_cons (ps_for PassesOwn.never rfl (pi_list (pe_callC C__law_odd_recipes hr (pa_cons (pe_ix ix_tup (pe_ix ix_list (pe_ix ix_tup (pv 1) pe_int (fun _ _ => rfl)) pe_int (fun _ _ => rfl)) pe_int (fun _ _ => rfl)) (pa_cons (pe_ix ix_tup (pe_ix ix_list (pe_ix ix_tup (pv 1) pe_int (fun _ _ => rfl)) pe_int (fun _ _ => rfl)) pe_int (fun _ _ => rfl)) pa_nil)))) (pg_name (i := 5) sc__law_refused.nd rfl (.inl rfl)) (pss_cons (ps_set (i := 4) sc__law_refused.nd rfl (.inl rfl) (pe_op op_add pe_int (pe_callC C__law_random hr (pa_cons (pv 0) (pa_cons (pe_callB call_len (by rfl) B.len (by decide +kernel) (pa_cons (pe_ix ix_tup (pv 1) pe_int (fun _ _ => rfl)) pa_nil)) pa_nil)))))
      (pss_one (ps_if (pt_cmpR (op_neSame (by exact hr.1.units)) (pe_callC C__law_caught hr (pa_cons (pe_ix ix_tup (pv 1) pe_int (fun _ _ => rfl)) (pa_cons (pe_op op_cat (pe_op op_cat (pe_slice sl_list (pe_ix ix_tup (pv 1) pe_int (fun _ _ => rfl)) po_none (po_some (pv 4))) (pe_lst (pa_cons (pv 5) (pa_cons pe_non pa_nil)))) (pe_slice sl_list (pe_ix ix_tup (pv 1) pe_int (fun _ _ => rfl)) (po_some (pv 4)) po_none)) pa_nil))) (pe_lst (pa_cons pe_int (pa_cons (pe_callB (id := "repr") (r := rReprZ K) (call_reprZ (by exact hr.2) (by exact hr.1.units)) (by rfl) B.repr (by decide +kernel) (pa_cons (pv 5) pa_nil)) pa_nil))) (nomark _)) (pss_one (ps_ret pe_bl)) pss_nil))))
      (pss_one (ps_ret (pe_cmpR op_eq (pe_callB call_len (by rfl) B.len (by decide +kernel) (pa_cons (pe_meth0C M_names MC.cl hr (pe_makC M_Mill hr (pa_cons (pe_lc (own := [("name", 7), ("takes", 8), ("gives", 9)]) (g := gTup K 3 (gCons (gName 7) (gCons (gName 8) (gCons (gName 9) gNil)))) rfl sc__law_refused.nd (pi_list (pe_slice sl_list (pv 6) po_none (po_some pe_int))) (blkOk_by (own := [("name", 7), ("takes", 8), ("gives", 9)]) (N := ["generator", "parts", "odds", "eight", "at", "bad", "nine", "name", "takes", "gives"]) (sc := defScope sLawRefused) (by decide +kernel)) (fun _ _ _ _ _ => (pg_tup (by rfl) (pgs_cons (pg_name (i := 7) sc__law_refused.nd rfl (.inl rfl)) (pgs_cons (pg_name (i := 8) sc__law_refused.nd rfl (.inl rfl)) (pgs_cons (pg_name (i := 9) sc__law_refused.nd rfl (.inl rfl)) pgs_nil)))))  (fun _ _ _ _ _ => pts_nil) (fun _ _ _ _ _ => (pe_tup (pa_cons (pv 7) (pa_cons (pe_op op_pow pe_int pe_int) pa_nil))))) (pa_cons (pe_slice sl_list (pv 6) po_none (po_some pe_int)) pa_nil)))) pa_nil)) pe_int (nomark _)))))))))))), ?_⟩
  have st : start ["generator", "parts", "odds", "eight", "at", "bad", "nine", "name", "takes", "gives"] [V.ref g, pt] = [some (.ref g), some pt, none, none, none, none, none, none, none, none] := rfl
  rw [st]
  obtain ⟨r0, ss, rs, l, U⟩ := dr.un w1 w3 m1 m3
  have ok := U.ok
  have sl : m.stuffs.length = wide := dr.slen
  have rl : m.recipes.length = many := dr.rl
  have vp : ∀ {σ : L2.St} {F' : Hp}, σ[1]? = some (some pt) → Ex F F' → EvD K (tVar 1) σ F' (encPartsT m) := fun h0 e' => Dv.ev_var (i := 1) h0 (dp_ex e' hv)
  have P0 : ∀ {σ : L2.St} {F' : Hp}, σ[1]? = some (some pt) → Ex F F' → EvD K (tOp (rIxT K) (tVar 1) (tC (.int 0))) σ F' (.list (m.stuffs.map encStuff)) := fun h0 e' => Dv.ev_ixT (vp h0 e') (Dv.ev_int 0) rfl
  have P1 : ∀ {σ : L2.St} {F' : Hp}, σ[1]? = some (some pt) → Ex F F' → EvD K (tOp (rIxT K) (tVar 1) (tC (.int 1))) σ F' (.list (m.recipes.map encRecipe)) := fun h0 e' => Dv.ev_ixT (vp h0 e') (Dv.ev_int 1) rfl
  have a0 : atI (m.stuffs.map encStuff) 0 = some (encStuff (aS, r0)) := atI_nat (j := 0) (by rw [U.es]; rfl)
  obtain ⟨x0, xr, ex0, ti0⟩ : ∃ x0 xr, m.recipes = x0 :: xr ∧ x0.1 = rS := by
    cases hx : m.recipes with
    | nil => rw [hx] at rl; simp at rl; omega
    | cons x0 xr =>
      refine ⟨x0, xr, rfl, ?_⟩
      have hn : m.titles = x0.1 :: xr.map (·.1) := by unfold MillD.titles; rw [hx]; rfl
      rcases dr.tiE m1 m3 with e | e | e <;> rw [e] at hn <;> exact (List.cons.inj hn).1.symm
  have b0 : atI (m.recipes.map encRecipe) 0 = some (encRecipe x0) := atI_nat (j := 0) (by rw [ex0]; rfl)
  have NM : ∀ {σ : L2.St} {F' : Hp}, σ[1]? = some (some pt) → Ex F F' → EvD K (tOp (rIxT K) (tOp (rIxL K) (tOp (rIxT K) (tVar 1) (tC (.int 0))) (tC (.int 0))) (tC (.int 0))) σ F' (.str aS) := fun h0 e' => Dv.ev_ixT (ds := [.str aS, encRoom r0]) (d := .str aS) (Dv.ev_ixL (P0 h0 e') (Dv.ev_int 0) a0) (Dv.ev_int 0) rfl
  have TM : ∀ {σ : L2.St} {F' : Hp}, σ[1]? = some (some pt) → Ex F F' → EvD K (tOp (rIxT K) (tOp (rIxL K) (tOp (rIxT K) (tVar 1) (tC (.int 1))) (tC (.int 0))) (tC (.int 0))) σ F' (.str rS) := fun h0 e' => Dv.ev_is (Dv.ev_ixT (ds := [.str x0.1, .list (x0.2.1.map encPart), .list (x0.2.2.map encPart)]) (d := .str x0.1) (Dv.ev_ixL (P1 h0 e') (Dv.ev_int 0) b0) (Dv.ev_int 0) rfl) (by rw [ti0])
  have stS := dr.stSml w3
  have rcS := dr.rcSml w3 m3
  have bm : ∀ (l : Int) (F F' : Hp) (v : V), Ex F F' → Bd K l F v → Bd K l F' v := fun l F F' v e h => h.mono e
  -- odds
  have E1 : ∀ F', Ex F F' → EaV (Bd K 1) (tCons (tC .non) (tCons (tC (.int 3)) (tCons (tTup tNil) (tCons tDNewK (tCons (tC (.str "stuffs")) (tCons (tC (.bl true)) (tCons (tLstN tNil) (tCons (tCB (fun xs H Q => ∃ p ys, xs = [.ref p] ∧ ((SqL K H p ys ∧ ∀ l, H l = none → Q (.ref l) (upd H l (.tup ys))) ∨ (SqT K H p ys ∧ Q (.ref p) H))) (tCons (tOp (rIxT K) (tVar 1) (tC (.int 0))) tNil)) tNil)))))))) [some (.ref g), some pt, none, none, none, none, none, none, none, none] F' 8 := fun F' e' =>
    eav_cons (bm 1) (bd_y ey_non (by decide +kernel)) fun _ e1 => eav_cons (bm 1) (bd_y (ey_int 3) (by decide +kernel)) fun _ e2 => eav_cons (bm 1) (bd_y (ey_tup eay_nil (by simp)) (by decide +kernel)) fun _ e3 => eav_cons (bm 1) (bd_y ey_mt (by decide +kernel)) fun _ e4 => eav_cons (bm 1) (bd_y (ey_str "stuffs") (by decide +kernel)) fun _ e5 => eav_cons (bm 1) (bd_y (ey_bl true) (by decide +kernel)) fun _ e6 => eav_cons (bm 1) (bd_y (ey_lst eay_nil (by simp)) (by decide +kernel)) fun _ e7 => eav_cons (bm 1) (bd_p (ev_tuple (P0 rfl (e'.trans (e1.trans (e2.trans (e3.trans (e4.trans (e5.trans (e6.trans e7))))))))) (stS.bd (by decide) (by decide)) stS.1) fun _ _ => eav_nil
  refine seq_of (asg_of (E1 F (Ex.refl F) H e _ fun vs1 F1 H1 g1 hl1 hv1 => ⟨by rw [hl1]; exact sz_of (by decide), fun p1 hp1 => ?_⟩))
  dsimp only
  show tSeq _ _ _ [some (.ref g), some pt, some (.ref p1), none, none, none, none, none, none, none] (upd H1 p1 (.lst vs1))
  have g1' := g1.trans (Gr.new (o := .lst vs1) g1.fh hp1)
  have hv1' : ∀ v ∈ vs1, Bd K 1 (upd F1 p1 (.lst vs1)) v := fun v hv => (hv1 v hv).mono (Ex.new (ex_none g1.fh hp1))
  have hp1' : (upd F1 p1 (.lst vs1)) p1 = some (.lst vs1) := upd_same
  generalize upd F1 p1 (.lst vs1) = F1' at g1' hv1' hp1'
  generalize upd H1 p1 (.lst vs1) = H1' at g1' ⊢
  -- eight
  have l8 := lc_rule (K := K) (F := F1') (te := tTup (tCons _ (tCons (tC (.int 1)) tNil))) (vs := [4]) (tt := tYes) (g := gName 4) (σ := [some (.ref g), some pt, some (.ref p1), none, none, none, none, none, none, none]) (List.range 9) (fun x => PyData.int (x : Nat)) (fun x => .tuple [.str (nm9 x), .int 1]) (fun _ => true)
    (Dv.it_is (it_rng1 (n := 9) (Dv.ea_cons (Dv.ev_int 9) Dv.ea_nil) (by decide) (by decide)) rfl) (by simp) (fun x hx v F1 e1 hv => by
      cases hv
      exact ⟨[some (.ref g), some pt, some (.ref p1), none, some (.int (x : Int)), none, none, none, none, none], fun H e Q q => q, rfl, fun H e Q q => q F1 H (Gr.refl e), fun _ => Dv.ev_tup (Dv.ea_cons (ev_nm9 (i := 4) rfl (List.mem_range.mp hx)) (Dv.ea_cons (Dv.ev_int 1) Dv.ea_nil)) (by simp)⟩)
  rw [filt_true] at l8
  refine seq_of (Dv.s_asg (K := K) (F := F1') (d := .list eightD) (EvL.ev l8) g1'.fh fun ev F2 H2 g2 hev => ?_)
  dsimp only
  show tSeq _ _ _ [some (.ref g), some pt, some (.ref p1), some ev, none, none, none, none, none, none] H2
  have g02 := g1'.trans g2
  -- odds = odds + ..
  have V8 : ∀ F', Ex F2 F' → EvD K (tVar 3) [some (.ref g), some pt, some (.ref p1), some ev, none, none, none, none, none, none] F' (.list eightD) := fun F' e' => Dv.ev_var (i := 3) rfl (dp_ex e' hev)
  have E2 : EaV (Bd K 1) (tCons (tVar 3) (tCons (tOp (rCatS K) (tLst (tCons (tC .non) tNil)) (tSl (rSlL K) (tVar 3) (tPart (tC (.int 1))) tNoPart)) tNil)) [some (.ref g), some pt, some (.ref p1), some ev, none, none, none, none, none, none] F2 2 :=
    eav_cons (bm 1) (bd_p (V8 F2 (Ex.refl _)) eight_bd.1 eight_bd.2) fun F3 e3 => eav_cons (bm 1) (bd_p (EvL.ev (Dv.el_is (el_catS (ds := [.none]) (es := eightD.drop 1) (EvL.ev (Dv.el_lst (Dv.ea_cons Dv.ev_non Dv.ea_nil) (by simp))) (EvL.ev (Dv.el_is (Dv.el_sl (V8 F3 e3) (Dv.eo_some (K := K) (i := ((1 : Nat) : Int)) (Dv.ev_int 1)) Dv.eo_none) (cutD_from _ _))) (by decide +kernel)) rfl)) eight2_bd.1 eight2_bd.2) fun _ _ => eav_nil
  refine seq_of (asg_of (cat_of (i := 2) rfl (lst_of (E2 H2 g02.fh _ fun vs2 F3 H3 g3 hl2 hv2 => ⟨by rw [hl2]; exact sz_of (by decide), fun p2 hp2 => ?_⟩))))
  have g03 := g02.trans g3
  have k1 : H3 p1 = some (.lst vs1) := g03.fh _ _ ((g2.fx.trans g3.fx) _ _ hp1')
  have n12 : p1 ≠ p2 := ne_of_none k1 hp2
  refine ⟨p1, p2, vs1, vs2, rfl, rfl, by rw [upd_ne n12]; exact k1, upd_same, by rw [hl1, hl2]; exact sz_of (by decide), fun p3 hp3 => ?_⟩
  dsimp only
  show tSeq _ _ _ [some (.ref g), some pt, some (.ref p3), some ev, none, none, none, none, none, none] (upd (upd H3 p2 (.lst vs2)) p3 (.lst (vs1 ++ vs2)))
  have g3a := g03.trans (Gr.only (o := .lst vs2) g03.fh hp2)
  have g4 := g3a.trans (Gr.new (o := .lst (vs1 ++ vs2)) g3a.fh hp3)
  have e34 : Ex F3 (upd F3 p3 (.lst (vs1 ++ vs2))) := Ex.new (ex_none g3a.fh hp3)
  have hv4 : ∀ v ∈ vs1 ++ vs2, Bd K 1 (upd F3 p3 (.lst (vs1 ++ vs2))) v := fun v hv => by
    rcases List.mem_append.mp hv with hv | hv
    · exact (hv1' v hv).mono ((g2.fx.trans g3.fx).trans e34)
    · exact (hv2 v hv).mono e34
  have hp4 : (upd F3 p3 (.lst (vs1 ++ vs2))) p3 = some (.lst (vs1 ++ vs2)) := upd_same
  generalize upd F3 p3 (.lst (vs1 ++ vs2)) = F4 at g4 hv4 hp4
  generalize upd (upd H3 p2 (.lst vs2)) p3 (.lst (vs1 ++ vs2)) = H4 at g4 ⊢
  obtain ⟨gg4, hg4⟩ := GenAt.of hg g4 fg
  have nonE : ∀ {σ : L2.St} {F' : Hp}, EvD K (tC .non) σ F' .none := Dv.ev_non
  -- for bad in odds
  refine seq_of (s_forP (K := K) (Pd := Bd K 1) (F := F4) (bm 1) (fun Q hQ => ⟨_, rfl, hQ p3 _ F4 H4 (Gr.refl g4.fh) hp4 hv4⟩) (fun σ' F' H' => ∃ s5, σ' = [some (.ref g), some pt, some (.ref p3), some ev, none, s5, none, none, none, none] ∧ Gr F4 H4 F' H') (fun F' H' g => ⟨_, rfl, g⟩) ?_ (fun σ' F5 H5 e5 e5' pq => ?_)) 
  · rintro Fb eb σ' F5 H5 v e5 e5' ⟨s5, rfl, gg5⟩ ⟨d, hz, hr', hl', hs'⟩
    show tIfS _ _ _ _ [some (.ref g), some pt, some (.ref p3), some ev, none, some v, none, none, none, none] H5
    refine s_ifF (et_caught (k := 0) (C0 := CL) rfl hr' (.inl ⟨rfl, rfl⟩) (fun H6 e6 Q q6 => ⟨v, rfl, q6 v .non F5 H6 (Gr.refl e6) (thr1 hz hl' hs')⟩)) e5' fun F6 H6 g6 => ?_
    try unfold tNext
    dsimp only
    exact ⟨F6, e5.trans g6.fx, g6.fh, _, rfl, gg5.trans g6⟩
  obtain ⟨s5, rfl, gr5⟩ := pq
  obtain ⟨k5, hg5⟩ := GenAt.of hg4 gr5 gg4.fg
  have gg5 := gg4.trans k5
  dsimp only
  -- for bad in _law_odd_stuffs(..)
  refine seq_of (s_forY (K := K) (F := F5) (ds := oddS aS) (fun H6 e6 Q q6 => NM (σ := [some (.ref g), some pt, some (.ref p3), some ev, none, s5, none, none, none, none]) rfl gg5.fx H6 e6 _ fun v F7 H7 g7 hv7 => by
      cases hv7
      exact ⟨F7, aS, rfl, g7.fh, fun p ws F8 H8 g8 h1 h2 h3 h4 => q6 p ws F8 H8 (g7.trans g8) (ex_none g7.hx h1) h2 h3 h4⟩) gg5.fh
    (fun k σ' F' H' => ∃ s4 s5, σ' = [some (.ref g), some pt, some (.ref p3), some ev, s4, s5, none, none, none, none] ∧ GrG g F H F' H' ∧ GenAt H' g (c + k)) (fun F' H' g6 => ?_) ?_ (fun σ' F6 H6 e6 e6' pq => ?_))
  · obtain ⟨k6, hg6⟩ := GenAt.of hg5 g6 gg5.fg
    exact ⟨_, _, rfl, gg5.trans k6, hg6⟩
  · rintro Fb eb k σ' F7 H7 v d hd e7 e7' ⟨s4, s5, rfl, gg7, hg7⟩ hz
    have okd := List.all_eq_true.mp oddS_ok d (List.mem_of_getElem? hd)
    have hk : k < 100 := Nat.lt_of_lt_of_le (List.getElem?_eq_some_iff.mp hd).1 (by decide +kernel)
    show tSeq _ _ _ [some (.ref g), some pt, some (.ref p3), some ev, s4, some v, none, none, none, none] H7
    have LN : EvD K (tCB (fun xs H Q => ∃ x n, xs = [x] ∧ LenV K x H n ∧ Q (.int n) H) (tCons (tOp (rIxT K) (tVar 1) (tC (.int 0))) tNil)) [some (.ref g), some pt, some (.ref p3), some ev, s4, some v, none, none, none, none] F7 (.int (wide : Int)) := Dv.ev_len (P0 rfl gg7.fx) (by show some (m.stuffs.map encStuff).length = _; rw [List.length_map, sl]) (by omega)
    refine seq_of (sr_asg (K := K) (F := F7) (dr_add (m := 1) (n := 2) (m' := 0) (n' := (wide : Int)) (dr_of (Dv.ev_int 1) ⟨1, rfl, by decide, by decide⟩) (dr_randomE (i := 0) rfl LN (by omega) (by omega) (by rcases (show wide = 1 ∨ wide = 2 ∨ wide = 3 by omega) with h | h | h <;> subst h <;> decide +kernel))) e7' gg7.fg hg7 (by omega) fun av F8 H8 da g8 hg8 hda hav => ?_)
    obtain ⟨a, rfl, a1, a2⟩ := hda
    cases hav
    obtain ⟨at', rfl⟩ := Int.eq_ofNat_of_zero_le (show 0 ≤ a by omega)
    dsimp only
    show tIfS _ _ _ _ [some (.ref g), some pt, some (.ref p3), some ev, some (.int (at' : Int)), some v, none, none, none, none] H8
    have gg8 := gg7.trans g8
    have hz8 := dy_ex g8.fx hz
    unfold okSt at okd
    rw [Bool.and_eq_true, Bool.and_eq_true] at okd
    refine s_ifF (F := F8) (et_caught (k := 1) (C0 := CI) rfl (.inr ⟨hz8, rzB.y okd.1.1⟩) (.inr ⟨rfl, rfl⟩) (fun H9 e9 Q q9 => mix_list (a := at') (P0 rfl gg8.fx) rfl rfl (by rw [List.length_map]; omega) e9 fun p u1 u2 F9 H9 g9 hp9 d1 d2 => q9 (.ref p) .non F9 H9 g9 ?_)) gg8.fh fun F9 H9 g9 => ?_
    · rw [← List.map_take] at d1
      rw [← List.map_drop] at d2
      have tl : (m.stuffs.take at').length = min at' wide := by rw [List.length_take, sl]
      have dl : (m.stuffs.drop at').length = wide - at' := by rw [List.length_drop, sl]
      refine thr2 (xs := m.stuffs.take at') (b := d) (rest := .none :: (m.stuffs.drop at').map encStuff) hp9 ?_ ?_ ?_ (fun z hz => ok.ss z (List.mem_of_mem_take hz)) okd.1.2 ?_ (mix_at (by rw [dps_len d1, List.length_map]))
      · rw [List.append_assoc]
        exact dzs_app (dzs_of d1) (.cons (dy_z (dy_ex g9.fx hz8)) (.cons (.dat .non) (dzs_of d2)))
      · rw [List.length_cons, List.length_map, tl, dl]
        omega
      · have := ok.sn
        unfold MillD.names at this
        exact List.Nodup.sublist ((List.take_sublist _ _).map _) this
      · cases hs : isStuff d with
        | false => exact .inl rfl
        | true =>
          rw [hs] at okd
          obtain ⟨t, rfl⟩ := isT2_of (x := aS) (by simpa using okd.2)
          refine .inr ⟨rfl, (aS, r0), ?_, t, rfl⟩
          rw [U.es]
          obtain ⟨k, rfl⟩ : ∃ k, at' = k + 1 := ⟨at' - 1, by omega⟩
          simp
    · try unfold tNext
      dsimp only
      obtain ⟨k9, hg9⟩ := GenAt.of hg8 g9 gg8.fg
      exact ⟨F9, e7.trans (g8.fx.trans g9.fx), g9.fh, _, _, rfl, gg8.trans k9, by rw [← Nat.add_assoc]; exact hg9⟩
  obtain ⟨s4, s5, rfl, gg6, hg6⟩ := pq
  have lS : (oddS aS).length ≤ 60 := by decide +kernel
  dsimp only
  -- nine
  have emp : ∀ {σ : L2.St} {F' : Hp}, EvD K (tLst tNil) σ F' (.list []) := EvL.ev (Dv.el_lst Dv.ea_nil (by simp))
  have l9 := lc_rule (K := K) (F := F6) (te := tTup (tCons _ (tCons (tLst tNil) (tCons (tLst tNil) tNil)))) (vs := [4]) (tt := tYes) (g := gName 4) (σ := [some (.ref g), some pt, some (.ref p3), some ev, s4, s5, none, none, none, none]) (List.range 9) (fun x => PyData.int (x : Nat)) (fun x => .tuple [.str (nm9 x), .list [], .list []]) (fun _ => true)
    (Dv.it_is (it_rng1 (n := 9) (Dv.ea_cons (Dv.ev_int 9) Dv.ea_nil) (by decide) (by decide)) rfl) (by simp) (fun x hx v F1 e1 hv => by
      cases hv
      exact ⟨[some (.ref g), some pt, some (.ref p3), some ev, some (.int (x : Int)), s5, none, none, none, none], fun H e Q q => q, rfl, fun H e Q q => q F1 H (Gr.refl e), fun _ => Dv.ev_tup (Dv.ea_cons (ev_nm9 (i := 4) rfl (List.mem_range.mp hx)) (Dv.ea_cons emp (Dv.ea_cons emp Dv.ea_nil))) (by simp)⟩)
  rw [filt_true] at l9
  refine seq_of (Dv.s_asg (K := K) (F := F6) (d := .list nineD) (EvL.ev l9) gg6.fh fun nv F7 H7 g7 hnv => ?_)
  dsimp only
  show tSeq _ _ _ [some (.ref g), some pt, some (.ref p3), some ev, s4, s5, some nv, none, none, none] H7
  obtain ⟨k7, hg7⟩ := GenAt.of hg6 g7 gg6.fg
  have gg7 := gg6.trans k7
  have V9 : ∀ {σ : L2.St} {F' : Hp}, σ[6]? = some (some nv) → Ex F7 F' → EvD K (tVar 6) σ F' (.list nineD) := fun h0 e' => Dv.ev_var (i := 6) h0 (dp_ex e' hnv)
  -- for bad in [..]
  have E3 : EaV (Bd K 0) (tCons (tC .non) (tCons (tC (.int 3)) (tCons (tTup tNil) (tCons tDNewK (tCons (tC (.str "recipes")) (tCons (tC (.bl true)) (tCons (tCB (fun xs H Q => ∃ p ys, xs = [.ref p] ∧ ((SqL K H p ys ∧ ∀ l, H l = none → Q (.ref l) (upd H l (.tup ys))) ∨ (SqT K H p ys ∧ Q (.ref p) H))) (tCons (tOp (rIxT K) (tVar 1) (tC (.int 1))) tNil)) (tCons (tVar 6) (tCons (tOp (rCatS K) (tSl (rSlL K) (tVar 6) (tPart (tC (.int 1))) tNoPart) (tLst (tCons (tC .non) tNil))) tNil))))))))) [some (.ref g), some pt, some (.ref p3), some ev, s4, s5, some nv, none, none, none] F7 9 :=
    eav_cons (bm 0) (bd_y ey_non (by decide +kernel)) fun _ e1 => eav_cons (bm 0) (bd_y (ey_int 3) (by decide +kernel)) fun _ e2 => eav_cons (bm 0) (bd_y (ey_tup eay_nil (by simp)) (by decide +kernel)) fun _ e3 => eav_cons (bm 0) (bd_y ey_mt (by decide +kernel)) fun _ e4 => eav_cons (bm 0) (bd_y (ey_str "recipes") (by decide +kernel)) fun _ e5 => eav_cons (bm 0) (bd_y (ey_bl true) (by decide +kernel)) fun _ e6 => eav_cons (bm 0) (bd_p (ev_tuple (P1 rfl (gg7.fx.trans (e1.trans (e2.trans (e3.trans (e4.trans (e5.trans e6)))))))) (rcS.bd (by decide) (by decide)) rcS.1) fun _ e7 => eav_cons (bm 0) (bd_p (V9 rfl (e1.trans (e2.trans (e3.trans (e4.trans (e5.trans (e6.trans e7))))))) nine_bd.1 nine_bd.2) fun _ e8 =>
    eav_cons (bm 0) (bd_p (EvL.ev (el_catS (ds := nineD.drop 1) (es := [.none]) (EvL.ev (Dv.el_is (Dv.el_sl (V9 rfl (e1.trans (e2.trans (e3.trans (e4.trans (e5.trans (e6.trans (e7.trans e8)))))))) (Dv.eo_some (K := K) (i := ((1 : Nat) : Int)) (Dv.ev_int 1)) Dv.eo_none) (cutD_from _ _))) (EvL.ev (Dv.el_lst (Dv.ea_cons Dv.ev_non Dv.ea_nil) (by simp))) (by decide +kernel))) nine2_bd.1 nine2_bd.2) fun _ _ => eav_nil
  refine seq_of (s_forP (K := K) (Pd := Bd K 0) (F := F7) (bm 0) (fun Q hQ => lst_of (E3 H7 gg7.fh _ fun vs F8 H8 g8 hl hvs => ⟨by rw [hl]; exact sz_of (by decide), fun p hp => hQ p vs _ _ (g8.trans (Gr.new g8.fh hp)) upd_same fun v hv => (hvs v hv).mono (Ex.new (ex_none g8.fh hp))⟩)) (fun σ' F' H' => ∃ s5, σ' = [some (.ref g), some pt, some (.ref p3), some ev, s4, s5, some nv, none, none, none] ∧ Gr F7 H7 F' H') (fun F' H' g => ⟨_, rfl, g⟩) ?_ (fun σ' F8 H8 e8 e8' pq => ?_))
  · rintro Fb eb σ' F8 H8 v e8 e8' ⟨s5, rfl, gg8⟩ ⟨d, hz, hr', hl', hs'⟩
    show tIfS _ _ _ _ [some (.ref g), some pt, some (.ref p3), some ev, s4, some v, some nv, none, none, none] H8
    have x8 := gg7.fx.trans gg8.fx
    refine s_ifF (et_caught (k := 0) (C0 := CL) rfl hr' (.inl ⟨rfl, rfl⟩) (fun H9 e9 Q q9 => P0 (σ := [some (.ref g), some pt, some (.ref p3), some ev, s4, some v, some nv, none, none, none]) rfl x8 H9 e9 _ fun sv F9 H10 g9 hsv => ⟨v, rfl, q9 sv v F9 H10 g9 (thr3 (.dat hsv) ok.s1 ok.s2 ok.sn ok.ss (dz_ex g9.fx hz) hl' hs')⟩)) e8' fun F9 H9 g9 => ?_
    try unfold tNext
    dsimp only
    exact ⟨F9, e8.trans g9.fx, g9.fh, _, rfl, gg8.trans g9⟩
  obtain ⟨s5, rfl, gr8⟩ := pq
  obtain ⟨k8, hg8⟩ := GenAt.of hg7 gr8 gg7.fg
  have gg8 := gg7.trans k8
  dsimp only
  -- for bad in _law_odd_recipes(..)
  refine seq_of (s_forY (K := K) (F := F8) (ds := oddR aS rS) (fun H9 e9 Q q9 => NM (σ := [some (.ref g), some pt, some (.ref p3), some ev, s4, s5, some nv, none, none, none]) rfl gg8.fx H9 e9 _ fun v F10 H10 g10 hv10 => TM (σ := [some (.ref g), some pt, some (.ref p3), some ev, s4, s5, some nv, none, none, none]) rfl (gg8.fx.trans g10.fx) H10 g10.fh _ fun v2 F11 H11 g11 hv11 => by
      cases hv10
      cases hv11
      exact ⟨F11, aS, rS, rfl, g11.fh, fun p ws F12 H12 g12 h1 h2 h3 h4 => q9 p ws F12 H12 ((g10.trans g11).trans g12) (ex_none (g10.trans g11).hx h1) h2 h3 h4⟩) gg8.fh
    (fun k σ' F' H' => ∃ s4 s5, σ' = [some (.ref g), some pt, some (.ref p3), some ev, s4, s5, some nv, none, none, none] ∧ GrG g F H F' H' ∧ GenAt H' g (c + (oddS aS).length + k)) (fun F' H' g9 => ?_) ?_ (fun σ' F9 H9 e9 e9' pq => ?_))
  · obtain ⟨k9, hg9⟩ := GenAt.of hg8 g9 gg8.fg
    exact ⟨_, _, rfl, gg8.trans k9, hg9⟩
  · rintro Fb eb k σ' F10 H10 v d hd e10 e10' ⟨s4, s5, rfl, gg10, hg10⟩ hz
    have okd := List.all_eq_true.mp (dr.oddR w1 w3) d (List.mem_of_getElem? hd)
    have hk : k < 100 := Nat.lt_of_lt_of_le (List.getElem?_eq_some_iff.mp hd).1 (by decide +kernel)
    show tSeq _ _ _ [some (.ref g), some pt, some (.ref p3), some ev, s4, some v, some nv, none, none, none] H10
    have LN : EvD K (tCB (fun xs H Q => ∃ x n, xs = [x] ∧ LenV K x H n ∧ Q (.int n) H) (tCons (tOp (rIxT K) (tVar 1) (tC (.int 1))) tNil)) [some (.ref g), some pt, some (.ref p3), some ev, s4, some v, some nv, none, none, none] F10 (.int (many : Int)) := Dv.ev_len (P1 rfl gg10.fx) (by show some (m.recipes.map encRecipe).length = _; rw [List.length_map, rl]) (by omega)
    refine seq_of (sr_asg (K := K) (F := F10) (dr_add (m := 1) (n := 2) (m' := 0) (n' := (many : Int)) (dr_of (Dv.ev_int 1) ⟨1, rfl, by decide, by decide⟩) (dr_randomE (i := 0) rfl LN (by omega) (by omega) (by rcases (show many = 1 ∨ many = 2 ∨ many = 3 by omega) with h | h | h <;> subst h <;> decide +kernel))) e10' gg10.fg hg10 (by omega) fun av F11 H11 da g11 hg11 hda hav => ?_)
    obtain ⟨a, rfl, a1, a2⟩ := hda
    cases hav
    obtain ⟨at', rfl⟩ := Int.eq_ofNat_of_zero_le (show 0 ≤ a by omega)
    dsimp only
    show tIfS _ _ _ _ [some (.ref g), some pt, some (.ref p3), some ev, some (.int (at' : Int)), some v, some nv, none, none, none] H11
    have gg11 := gg10.trans g11
    have hz11 := dy_ex g11.fx hz
    unfold okRc at okd
    rw [Bool.and_eq_true, Bool.and_eq_true] at okd
    refine s_ifF (F := F11) (et_caught (k := 1) (C0 := CI) rfl (.inr ⟨hz11, rzB.y okd.1.1⟩) (.inr ⟨rfl, rfl⟩) (fun H12 e12 Q q12 => P0 (σ := [some (.ref g), some pt, some (.ref p3), some ev, some (.int (at' : Int)), some v, some nv, none, none, none]) rfl gg11.fx H12 e12 _ fun sv F12 H13 g12 hsv => mix_list (a := at') (P1 rfl (gg11.fx.trans g12.fx)) rfl rfl (by rw [List.length_map]; omega) g12.fh fun p u1 u2 F13 H14 g13 hp13 d1 d2 => q12 sv (.ref p) F13 H14 (g12.trans g13) ?_)) gg11.fh fun F12 H12 g12 => ?_
    · rw [← List.map_take] at d1
      rw [← List.map_drop] at d2
      have tl : (m.recipes.take at').length = min at' many := by rw [List.length_take, rl]
      have dl : (m.recipes.drop at').length = many - at' := by rw [List.length_drop, rl]
      refine thr4 (xs := m.stuffs) (ys := m.recipes.take at') (b := d) (rest := .none :: (m.recipes.drop at').map encRecipe) (.dat (dp_ex g13.fx hsv)) ok.s1 ok.s2 ok.sn ok.ss hp13 ?_ ?_ ?_ (fun z hz => ok.rs z (List.mem_of_mem_take hz)) okd.1.2 ?_ (mix_at (by rw [dps_len d1, List.length_map]))
      · rw [List.append_assoc]
        exact dzs_app (dzs_of d1) (.cons (dy_z (dy_ex (g12.fx.trans g13.fx) hz11)) (.cons (.dat .non) (dzs_of d2)))
      · rw [List.length_cons, List.length_map, tl, dl]
        omega
      · exact List.Nodup.sublist ((List.take_sublist _ _).map _) ok.rn
      · cases hs : isRecipe (m.stuffs.map (·.1)) d with
        | false => exact .inl rfl
        | true =>
          have hs' : isRecipe m.names d = true := hs
          rw [hs'] at okd
          obtain ⟨t1, t2, rfl⟩ := isT3_of (x := rS) (by simpa using okd.2)
          refine .inr ⟨rfl, x0, ?_, t1, t2, by rw [ti0]⟩
          rw [ex0]
          obtain ⟨k, rfl⟩ : ∃ k, at' = k + 1 := ⟨at' - 1, by omega⟩
          simp
    · try unfold tNext
      dsimp only
      obtain ⟨k12, hg12⟩ := GenAt.of hg11 g12 gg11.fg
      exact ⟨F12, e10.trans (g11.fx.trans g12.fx), g12.fh, _, _, rfl, gg11.trans k12, by rw [← Nat.add_assoc]; exact hg12⟩
  obtain ⟨s4, s5, rfl, gg9, hg9⟩ := pq
  have lR : (oddR aS rS).length ≤ 100 := by decide +kernel
  dsimp only
  have S8 : ∀ {σ : L2.St} {F' : Hp}, σ[6]? = some (some nv) → Ex F7 F' → EvD K (tSl (rSlL K) (tVar 6) tNoPart (tPart (tC (.int 8)))) σ F' (.list (m9.recipes.map encRecipe)) := fun h0 e' => EvL.ev (Dv.el_is (Dv.el_sl (V9 h0 e') Dv.eo_none (Dv.eo_some (K := K) (i := ((8 : Nat) : Int)) (Dv.ev_int 8))) nine_8)
  have x79 : Ex F7 F9 := gr8.fx.trans e9
  have lc := lc_rule (K := K) (F := F9) (te := tTup (tCons (tVar 7) (tCons (tOp (rI CPow fun i j => .int (i ^ j.toNat)) (tC (.int 10)) (tC (.int 6))) tNil))) (vs := [7, 8, 9]) (tt := tYes) (g := gTup K 3 (gCons (gName 7) (gCons (gName 8) (gCons (gName 9) gNil)))) (σ := [some (.ref g), some pt, some (.ref p3), some ev, s4, s5, some nv, none, none, none]) m9.recipes encRecipe (fun r => encStuff (r.1, some 1000000)) (fun _ => true)
    (it_list (S8 rfl x79)) (by decide +kernel)
    (fun r1 hr1 v F4 e4 hv4 => by
      obtain ⟨u1, u2, u3, hu1, hu2, hu3, ht3⟩ := tup3 hv4
      exact ⟨[some (.ref g), some pt, some (.ref p3), some ev, s4, s5, some nv, some u1, some u2, some u3], fun H e Q q => ht3 7 8 9 _ H e _ q, rfl, fun H e Q q => q F4 H (Gr.refl e), fun _ => Dv.ev_tup (Dv.ea_cons (Dv.ev_var (i := 7) rfl hu1) (Dv.ea_cons (Dv.ev_I (i := 10) (j := 6) (k := .int 1000000) ⟨by decide, by decide, by decide⟩ (fun _ => .int _) (Dv.ev_int 10) (Dv.ev_int 6)) Dv.ea_nil)) (by simp)⟩)
  rw [filt_true, show m9.recipes.map (fun r => encStuff (r.1, some 1000000)) = m9.stuffs.map encStuff from by
    unfold m9
    dsimp only
    rw [List.map_map, List.map_map] <;> rfl] at lc
  have nmE : EvD K (tMeth C "names" (spNames K C) [] E0 (tMake C (spMillInit K C) [] E0 (tCons _ (tCons (tSl (rSlL K) (tVar 6) tNoPart (tPart (tC (.int 8)))) tNil))) tNil) [some (.ref g), some pt, some (.ref p3), some ev, s4, s5, some nv, none, none, none] F9 (.list (m9.titles.map PyData.str)) := fun H1 e1 Q1 q1 =>
    ev_mill (E := E0) (K := K) (C := C) (m := m9) (F := F9) (Dv.ea_cons (EvL.ev lc) (Dv.ea_cons (S8 rfl x79) Dv.ea_nil)) m9_ok H1 e1 _ fun y F2 H2 g2 hy => by
      obtain ⟨dx, _, _, _, _, _, _, hyx, _⟩ := MillAt.ex hy
      exact ⟨y, dx, _, rfl, g2.fh _ _ hyx, by rfl, F2, y, m9, rfl, g2.fh, hy, fun p ws F' H' g' h1 h2 h3 h4 => q1 _ _ _ ((g2.trans g').take (ex_none g2.hx h1) h2 h3) (.lst (SqL.of upd_same) (dps_ex (Ex.new h2) h4))⟩
  refine Dv.s_ret (K := K) (F := F9) (d := .bool true) (Dv.ev_is (Dv.ev_eqI (i := 8) (j := 8) (Dv.ev_len (n := 8) nmE (by show some (m9.titles.map PyData.str).length = _; rw [List.length_map, m9_len]) (by decide)) (Dv.ev_int 8)) rfl) e9' fun v F10 H10 g10 hv10 => ?_
  cases hv10
  obtain ⟨k10, hg10⟩ := GenAt.of hg9 g10 gg9.fg
  exact q F10 H10 (gg9.trans k10) (GenAt.mono hg10 (by omega))
end
end R3

set_option Elab.async false
set_option linter.all false
set_option maxRecDepth 100000
set_option maxHeartbeats 4000000
/-! _law_made_right -/
namespace R3
open PySem PySem.Spec PyProof.Rows L2 Evl Dv
def spMadeRight (K : PySem.W.Frag) : Sp := fun vs H Q _ => ∃ (F : Hp) (pt : V) (m : MillD), vs = [pt] ∧ Ex F H ∧ Dp K F pt (encPartsT m) ∧ m.Ok ∧ 1 ≤ m.recipes.length ∧ ∀ F' H', Gr F H F' H' → Q (.bl true) H'
section
variable {P : Program} {w : World} {K : PySem.W.Frag} {mg : Str → Option Value} {base : Heap}
theorem sc__law_made_right : FnScope (["parts", "given", "mill", "turn", "told", "name", "takes", "gives", "around"] : List Str) (["parts"] : List Str) (defScope sLawMadeRight) := ⟨rfl, rfl, rfl, by decide +kernel, rfl, by decide +kernel, by decide +kernel⟩
theorem ok_law_made_right (D : Def K mg "_law_made_right" sLawMadeRight ["parts"]) (B : Bl mg) {C : Addr} (MC : MillC K C) (EC : NeC K C) (C__law_copied : Cal P w K mg base "_law_copied" ["parts"] 1 (spCopied K)) (M_Mill : Mak P w K mg base "Mill" C ["stuffs", "recipes"] 5 (spMillInit K C))
    (M_stuffs : CalM P w K mg base C "stuffs" [] 1 (spStuffs K C)) (M_recipes : CalM P w K mg base C "recipes" [] 1 (spRecipes K C)) (M_recipesN : CalM P w K mg base C "recipes" [] 1 (spRecipesN K C)) (M_names : CalM P w K mg base C "names" [] 1 (spNames K C)) (M_eq : CalM P w K mg base C "__eq__" ["other"] 2 (spMillEqG K C)) (C_turned : Cal P w K mg base "turned" ["mill"] 7 (spTurned K C)) :
    Cal P w K mg base "_law_made_right" ["parts"] 8 (spMadeRight K) := by
  refine cal_mk D sc__law_made_right (fun vs H Q E h => ?_) (fun f cdv A outer s H vs Q E hr h => ?_)
  · obtain ⟨F, pt, m, rfl, _⟩ := h
    rfl
  obtain ⟨F, pt, m, rfl, e, hv, ok, h1r, q⟩ := h
  refine ⟨_, (pss_cons (ps_set (i := 1) sc__law_made_right.nd rfl (.inl rfl) (pe_callC C__law_copied hr (pa_cons (pv 0) pa_nil)))
      (pss_cons (ps_set (i := 2) sc__law_made_right.nd rfl (.inl rfl) (pe_makC M_Mill hr (pa_cons (pe_ix ix_list (pv 1) pe_int (fun _ _ => rfl)) (pa_cons (pe_ix ix_list (pv 1) pe_int (fun _ _ => rfl)) pa_nil))))
      (pss_cons (ps_expr (pe_bm PySem.F.plainAttrs_list PySem.F.slot_list_append PySem.F.type_list_append mt_append (pe_ix ix_list (pv 1) pe_int (fun _ _ => rfl)) (pa_cons pe_non pa_nil)))
      (pss_cons (ps_expr (pe_bm PySem.F.plainAttrs_list PySem.F.slot_list_append PySem.F.type_list_append mt_append (pe_ix ix_tup (pe_ix ix_list (pe_ix ix_list (pv 1) pe_int (fun _ _ => rfl)) pe_int (fun _ _ => rfl)) pe_int (fun _ _ => rfl)) (pa_cons pe_non pa_nil)))
      (pss_cons (ps_expr (pe_bm PySem.F.plainAttrs_list PySem.F.slot_list_append PySem.F.type_list_append mt_append (pe_ix ix_tup (pe_ix ix_list (pe_ix ix_list (pv 1) pe_int (fun _ _ => rfl)) (pe_un un_neg pe_int) (fun _ _ => rfl)) pe_int (fun _ _ => rfl)) (pa_cons pe_non pa_nil)))
      (pss_cons (ps_expr (pe_bm PySem.F.plainAttrs_list PySem.F.slot_list_append PySem.F.type_list_append mt_append (pe_ix ix_list (pv 1) pe_int (fun _ _ => rfl)) (pa_cons pe_non pa_nil)))
      (pss_cons (ps_for PassesOwn.never rfl (pi_range1 rfl B.range (pa_cons pe_int pa_nil)) (pg_name (i := 3) sc__law_made_right.nd rfl (.inl rfl)) (pss_cons (ps_set (i := 4) sc__law_made_right.nd rfl (.inl rfl) (pe_lst (pa_cons (pe_meth0C M_stuffs MC.cl hr (pv 2)) (pa_cons (pe_meth0C M_recipesN MC.cl hr (pv 2)) (pa_cons (pe_meth0C M_names MC.cl hr (pv 2)) pa_nil)))))
      (pss_cons (ps_if (pt_cmpR (op_neD (by exact hr.1.units)) (pv 4) (pe_lst (pa_cons (pe_ix ix_tup (pv 0) pe_int (fun _ _ => rfl)) (pa_cons (pe_ix ix_tup (pv 0) pe_int (fun _ _ => rfl)) (pa_cons (pe_lc (own := [("name", 5), ("takes", 6), ("gives", 7)]) (g := gTup K 3 (gCons (gName 5) (gCons (gName 6) (gCons (gName 7) gNil)))) rfl sc__law_made_right.nd (pi_list (pe_ix ix_tup (pv 0) pe_int (fun _ _ => rfl))) (blkOk_by (own := [("name", 5), ("takes", 6), ("gives", 7)]) (N := ["parts", "given", "mill", "turn", "told", "name", "takes", "gives", "around"]) (sc := defScope sLawMadeRight) (by decide +kernel)) (fun _ _ _ _ _ => (pg_tup (by rfl) (pgs_cons (pg_name (i := 5) sc__law_made_right.nd rfl (.inl rfl)) (pgs_cons (pg_name (i := 6) sc__law_made_right.nd rfl (.inl rfl)) (pgs_cons (pg_name (i := 7) sc__law_made_right.nd rfl (.inl rfl)) pgs_nil)))))  (fun _ _ _ _ _ => pts_nil) (fun _ _ _ _ _ => (pv 5))) pa_nil)))) (nomark _)) (pss_one (ps_ret pe_bl)) pss_nil)
      (pss_cons (ps_expr (pe_bm PySem.F.plainAttrs_list PySem.F.slot_list_append PySem.F.type_list_append mt_append (pe_ix ix_tup (pe_ix ix_list (pe_ix ix_list (pv 4) pe_int (fun _ _ => rfl)) pe_int (fun _ _ => rfl)) pe_int (fun _ _ => rfl)) (pa_cons pe_non pa_nil)))
      (pss_cons (ps_expr (pe_bm PySem.F.plainAttrs_list PySem.F.slot_list_append PySem.F.type_list_append mt_append (pe_ix ix_tup (pe_ix ix_list (pe_ix ix_list (pv 4) pe_int (fun _ _ => rfl)) pe_int (fun _ _ => rfl)) pe_int (fun _ _ => rfl)) (pa_cons pe_non pa_nil)))
      (pss_cons (ps_expr (pe_bm PySem.F.plainAttrs_list PySem.F.slot_list_append PySem.F.type_list_append mt_append (pe_ix ix_list (pv 4) pe_int (fun _ _ => rfl)) (pa_cons pe_non pa_nil)))
      (pss_cons (ps_expr (pe_bm PySem.F.plainAttrs_list PySem.F.slot_list_append PySem.F.type_list_append mt_append (pe_ix ix_list (pv 4) pe_int (fun _ _ => rfl)) (pa_cons pe_non pa_nil)))
      (pss_one (ps_expr (pe_bm PySem.F.plainAttrs_list PySem.F.slot_list_append PySem.F.type_list_append mt_append (pe_ix ix_list (pv 4) pe_int (fun _ _ => rfl)) (pa_cons pe_non pa_nil)))))))))))
      (pss_cons (ps_set (i := 8) sc__law_made_right.nd rfl (.inl rfl) (pe_callC C_turned hr (pa_cons (pv 2) pa_nil)))
      (pss_cons (ps_if (pt_cmpR (op_neD (by exact hr.1.units)) (pe_meth0C M_stuffs MC.cl hr (pv 8)) (pe_ix ix_tup (pv 0) pe_int (fun _ _ => rfl)) (nomark _)) (pss_one (ps_ret pe_bl)) pss_nil)
      (pss_cons (ps_if (pt_cmpR (op_neD (by exact hr.1.units)) (pe_meth0C M_recipes MC.cl hr (pv 8)) (pe_lc (own := [("name", 5), ("takes", 6), ("gives", 7)]) (g := gTup K 3 (gCons (gName 5) (gCons (gName 6) (gCons (gName 7) gNil)))) rfl sc__law_made_right.nd (pi_list (pe_ix ix_tup (pv 0) pe_int (fun _ _ => rfl))) (blkOk_by (own := [("name", 5), ("takes", 6), ("gives", 7)]) (N := ["parts", "given", "mill", "turn", "told", "name", "takes", "gives", "around"]) (sc := defScope sLawMadeRight) (by decide +kernel)) (fun _ _ _ _ _ => (pg_tup (by rfl) (pgs_cons (pg_name (i := 5) sc__law_made_right.nd rfl (.inl rfl)) (pgs_cons (pg_name (i := 6) sc__law_made_right.nd rfl (.inl rfl)) (pgs_cons (pg_name (i := 7) sc__law_made_right.nd rfl (.inl rfl)) pgs_nil)))))  (fun _ _ _ _ _ => pts_nil) (fun _ _ _ _ _ => (pe_tup (pa_cons (pv 5) (pa_cons (pv 7) (pa_cons (pv 6) pa_nil)))))) (nomark _)) (pss_one (ps_ret pe_bl)) pss_nil)
      (pss_one (ps_ret (pe_and (pe_cmpR (op_eqV M_eq EC.no hr) (pe_callC C_turned hr (pa_cons (pv 8) pa_nil)) (pv 2) (nomark _)) (pe_and (pe_cmpR (op_eqV M_eq EC.no hr) (pv 2) (pe_makC M_Mill hr (pa_cons (pe_ix ix_tup (pv 0) pe_int (fun _ _ => rfl)) (pa_cons (pe_ix ix_tup (pv 0) pe_int (fun _ _ => rfl)) pa_nil))) (nomark _)) (pe_one (pe_not (pe_cmpR (op_neV M_eq EC hr) (pv 2) (pe_callC C_turned hr (pa_cons (pv 8) pa_nil)) (nomark _)))))))))))))))))), ?_⟩
  have st : start ["parts", "given", "mill", "turn", "told", "name", "takes", "gives", "around"] [pt] = [some pt, none, none, none, none, none, none, none, none] := rfl
  rw [st]
  have h8 := ok.r2
  refine seq_of (asg_of ⟨_, rfl, F, pt, m, rfl, e, hv, h8, fun p l1 l2 us ws F1 H1 g1 fp f1 f2 hp hl1 hus hl2 hall np1 np2 n12 => ?_⟩)
  dsimp only
  show tSeq _ _ _ [some pt, some (.ref p), none, none, none, none, none, none, none] H1
  have dg : Dp K F1 (.ref p) (.list [.list (m.stuffs.map encStuff), .list (m.recipes.map encRecipe)]) := .lst (SqL.of hp) (.cons (.lst (SqL.of hl1) hus) (.cons (.lst (SqL.of hl2) (hall.dps fun v r h => h.dp)) .nil))
  have vg : EvD K (tVar 1) [some pt, some (.ref p), none, none, none, none, none, none, none] F1 (.list [.list (m.stuffs.map encStuff), .list (m.recipes.map encRecipe)]) := Dv.ev_var (i := 1) rfl dg
  refine seq_of (asg_of (ev_mill (E := E0) (K := K) (C := C) (F := F1) (Dv.ea_cons (Dv.ev_ixL (d := .list (m.stuffs.map encStuff)) vg (Dv.ev_int 0) rfl) (Dv.ea_cons (Dv.ev_ixL (d := .list (m.recipes.map encRecipe)) vg (Dv.ev_int 1) rfl) Dv.ea_nil)) ok H1 g1.fh _ fun ml F2 H2 g2 hm => ?_))
  dsimp only
  show tSeq _ _ _ [some pt, some (.ref p), some (.ref ml), none, none, none, none, none, none] H2
  have gg := g1.trans g2
  have x12 := g2.fx
  have hp2 := x12 _ _ hp
  have hl1' := x12 _ _ hl1
  have hl2' := x12 _ _ hl2
  have hall2 := hall.mono fun v r h => RecN.mono x12 h
  have wl : ws.length = m.recipes.length := hall.len
  have usl : us.length = m.stuffs.length := by rw [dps_len hus, List.length_map]
  obtain ⟨w0, wr, hw0⟩ : ∃ w0 wr, ws = w0 :: wr := by
    cases ws with
    | nil => rw [List.length_nil] at wl; omega
    | cons a r => exact ⟨a, r, rfl⟩
  obtain ⟨wi, wz, hwz⟩ : ∃ wi wz, ws = wi ++ [wz] := ⟨ws.dropLast, ws.getLast (by rw [hw0]; simp), (List.dropLast_concat_getLast _).symm⟩
  obtain ⟨r0, hr0, h0⟩ := hall2.at (i := 0) (v := w0) (by rw [hw0]; rfl)
  obtain ⟨rz, hrz, hz⟩ := hall2.at (i := wi.length) (v := wz) (by rw [hwz, List.getElem?_append_right (Nat.le_refl _), Nat.sub_self]; rfl)
  obtain ⟨T0, a1, a2, ua1, ua2, rfl, hT0, fa1, fa2, na1, na2, ha1, da1, ha2, da2⟩ := h0
  obtain ⟨Tz, b1, b2, ub1, ub2, rfl, hTz, fb1, fb2, nb1, nb2, hb1, db1, hb2, db2⟩ := hz
  have lens := ok.lens
  have la1 : ua1.length ≤ 30000 := by rw [dps_len da1, List.length_map]; exact (lens _ (List.mem_of_getElem? hr0)).1
  have lb2 : ub2.length ≤ 30000 := by rw [dps_len db2, List.length_map]; exact (lens _ (List.mem_of_getElem? hrz)).2
  have s2 := ok.s2
  -- what was handed in is lengthened
  have m0 : Mu (fun _ => False) F F2 H2 H2 30000 := Mu.refl
  refine seq_of (s_appMu m0 f1 hl1' (by omega) (by omega) g2.fh (fun Q h => ⟨_, rfl, p, _, _, _, rfl, rfl, SqL.of (g2.fh _ _ hp2), atI_nat (j := 0) rfl, h⟩) fun H3 m1 => ?_)
  dsimp only
  have hp3 : H3 p = some (.lst [.ref l1, .ref l2]) := by rw [m1.out p (by rintro (h | h); exact h; exact np1 h.symm)]; exact g2.fh _ _ hp2
  have hl23 : H3 l2 = some (.lst ws) := by rw [m1.out l2 (by rintro (h | h); exact h; exact n12 h.symm)]; exact g2.fh _ _ hl2'
  have tne : ∀ {T q : Addr} {vs ys : List V}, F2 T = some (.tup vs) → F2 q = some (.lst ys) → T ≠ q := fun h1 h2 z => by rw [z, h2] at h1; cases h1
  have hT03 : H3 T0 = some (.tup [.str r0.1, .ref a1, .ref a2]) := by rw [m1.out T0 (by rintro (h | h); exact h; exact tne hT0 hl1' h)]; exact g2.fh _ _ hT0
  refine seq_of (s_appMu m1 fa1 ha1 (by omega) (by omega) g2.fh (fun Q h => ⟨_, rfl, p, _, _, _, rfl, rfl, SqL.of hp3, atI_nat (j := 1) rfl, l2, ws, _, _, rfl, rfl, SqL.of hl23, atI_nat (j := 0) (by rw [hw0]; rfl), T0, _, _, _, rfl, rfl, SqT.of hT03, atI_nat (j := 1) rfl, h⟩) fun H4 m2 => ?_)
  dsimp only
  have hp4 : H4 p = some (.lst [.ref l1, .ref l2]) := by rw [m2.out p (by rintro ((h | h) | h); exact h; exact np1 h.symm; exact na1.2.2 h.symm)]; exact g2.fh _ _ hp2
  have hl24 : H4 l2 = some (.lst ws) := by rw [m2.out l2 (by rintro ((h | h) | h); exact h; exact n12 h.symm; exact na1.1 h.symm)]; exact g2.fh _ _ hl2'
  have hTz4 : H4 Tz = some (.tup [.str rz.1, .ref b1, .ref b2]) := by rw [m2.out Tz (by rintro ((h | h) | h); exact h; exact tne hTz hl1' h; exact tne hTz ha1 h)]; exact g2.fh _ _ hTz
  refine seq_of (s_appMu m2 fb2 hb2 (by omega) (by omega) g2.fh (fun Q h => ⟨_, rfl, p, _, _, _, rfl, rfl, SqL.of hp4, atI_nat (j := 1) rfl, 1, rfl, l2, ws, _, _, rfl, rfl, SqL.of hl24, by rw [hwz]; exact atI_last _ _, Tz, _, _, _, rfl, rfl, SqT.of hTz4, atI_nat (j := 2) rfl, h⟩) fun H5 m3 => ?_)
  dsimp only
  have hp5 : H5 p = some (.lst [.ref l1, .ref l2]) := by rw [m3.out p (by rintro (((h | h) | h) | h); exact h; exact np1 h.symm; exact na1.2.2 h.symm; exact nb2.2.2 h.symm)]; exact g2.fh _ _ hp2
  refine seq_of (s_appMu m3 f2 hl2' (by omega) (by omega) g2.fh (fun Q h => ⟨_, rfl, p, _, _, _, rfl, rfl, SqL.of hp5, atI_nat (j := 1) rfl, h⟩) fun H6 m4 => ?_)
  dsimp only
  have g6 := m4.nol gg
  have hm6 : MillAt K (nol F F2) C ml m := MillAt.nol gg.fx hm
  generalize nol F F2 = F6 at g6 hm6
  have hv6 := dp_ex g6.fx hv
  have tsh := told_sh ok
  obtain ⟨lay1, lay2, dep1, dep2⟩ := mill_lay ok
  have ssh := sh_of lay1 (by omega)
  refine seq_of (Dv.s_for (K := K) (F := F6) (it_rng1 (σ := [some pt, some (.ref p), some (.ref ml), none, none, none, none, none, none]) (n := 2) (Dv.ea_cons (Dv.ev_int 2) Dv.ea_nil) (by decide) (by decide)) g6.fh
    (fun n σ' F' H' => ∃ s3 s4, σ' = [some pt, some (.ref p), some (.ref ml), s3, s4, none, none, none, none] ∧ Gr F6 H6 F' H') (fun F' H' g => ⟨_, _, rfl, g⟩) ?_ (fun σ' F' H' e1 e2 pv => ?_))
  · rintro Fb eb n σ' F7 H7 u du F8 H8 hdu e7 e8 ⟨s3, s4, rfl, gg7⟩ g8 hu
    have gg8 := gg7.trans g8
    have hm8 := hm6.mono gg8.fx
    have hv8 := dp_ex gg8.fx hv6
    dsimp only
    show tSeq _ _ _ [some pt, some (.ref p), some (.ref ml), some u, s4, none, none, none, none] H8
    refine seq_of (asg_of (lst3_of ?_))
    refine el_new (F := F8) (el_stuffs MC (i := 2) rfl hm8) g8.fh fun sa su F9 H9 g9 hsn hs ds => ?_
    obtain ⟨mdx, ro, sp, ru, v1, v2, v3, hmx, _⟩ := (hm8.mono g9.fx).ex
    refine ⟨_, rfl, ml, mdx, _, rfl, g9.fh _ _ hmx, by rfl, F9, ml, m, rfl, g9.fh, hm8.mono g9.fx, h8, fun ra rs F10 H10 g10 hrn fr hr10 hallr => ?_⟩
    have g10' := g10.take hrn fr hr10
    refine el_new (F := upd F10 ra (.lst rs)) (el_names MC (i := 2) rfl (hm8.mono (g9.fx.trans g10'.fx))) g10'.fh fun na ns F11 H11 g11 hnn hn dn => ?_
    refine ⟨sz_of (by simp), fun ta hta => ?_⟩
    have e10 : Ex F10 (upd F10 ra (.lst rs)) := Ex.new fr
    have g12 := ((g9.trans g10').trans g11).trans (Gr.new (o := .lst [V.ref sa, .ref ra, .ref na]) g11.fh hta)
    have e12 : Ex F11 (upd F11 ta (.lst [V.ref sa, .ref ra, .ref na])) := Ex.new (ex_none g11.fh hta)
    have hs12 := e12 _ _ (g11.fx _ _ (g10'.fx _ _ hs))
    have hr12 := e12 _ _ (g11.fx _ _ (show (upd F10 ra (.lst rs)) ra = some (.lst rs) from upd_same))
    have hn12 := e12 _ _ hn
    have hall12 : AllP (fun F v r => RecN K (fun q => (q ≠ ra ∧ q ≠ na) ∧ q ≠ ta) F9 F v r) (upd F11 ta (.lst [V.ref sa, .ref ra, .ref na])) rs m.recipes := ((((hallr.imp (F' := F10) fun v r h => RecN.ne g10.fh hnn h).mono fun v r h => RecN.mono (e10.trans g11.fx) h).imp (F' := F11) fun v r h => RecN.ne g11.fh hta h).mono fun v r h => RecN.mono e12 h)
    have ds12 := dps_ex (g10'.fx.trans (g11.fx.trans e12)) ds
    have dn12 := dps_ex e12 dn
    have ht12 : (upd F11 ta (.lst [V.ref sa, .ref ra, .ref na])) ta = some (.lst [V.ref sa, .ref ra, .ref na]) := upd_same
    have r_s : ra ≠ sa := fun z => by rw [z, g9.fh _ _ hs] at hrn; cases hrn
    have n_s : na ≠ sa := fun z => by rw [z, g10'.fh _ _ (g10'.fx _ _ hs)] at hnn; cases hnn
    have n_r : na ≠ ra := fun z => by rw [z, g10'.fh _ _ upd_same] at hnn; cases hnn
    have t_s : ta ≠ sa := fun z => by rw [z, g11.fh _ _ (g11.fx _ _ (g10'.fx _ _ hs))] at hta; cases hta
    have t_r : ta ≠ ra := fun z => by rw [z, g11.fh _ _ (g11.fx _ _ upd_same)] at hta; cases hta
    have t_n : ta ≠ na := fun z => by rw [z, g11.fh _ _ hn] at hta; cases hta
    have fs8 : F8 sa = none := ex_none g8.fh hsn
    have fr8 : F8 ra = none := ex_none (g8.fh.trans g9.hx) hrn
    have fn8 : F8 na = none := ex_none (g8.fh.trans (g9.trans g10').hx) hnn
    have ft8 : F8 ta = none := ex_none (g8.fh.trans ((g9.trans g10').trans g11).hx) hta
    clear e12
    dsimp only
    show tSeq _ _ _ [some pt, some (.ref p), some (.ref ml), some u, some (.ref ta), none, none, none, none] (upd H11 ta (.lst [V.ref sa, .ref ra, .ref na]))
    revert hs12 hr12 hn12 hall12 ht12 g12 ds12 dn12
    generalize upd F11 ta (.lst [V.ref sa, .ref ra, .ref na]) = F12
    generalize upd H11 ta (.lst [V.ref sa, .ref ra, .ref na]) = H12
    intro g12 hs12 hr12 hn12 hall12 ds12 dn12 ht12
    have h12 := g12.fh
    have hv12 := dp_ex g12.fx hv8
    have dr12 : DpAll K F12 rs (m.recipes.map encRecipe) := hall12.dps fun v r h => RecN.dp h
    have dt : Dp K F12 (.ref ta) (toldD m) := by
      unfold toldD
      exact .lst (SqL.of ht12) (.cons (.lst (SqL.of hs12) ds12) (.cons (.lst (SqL.of hr12) dr12) (.cons (.lst (SqL.of hn12) dn12) .nil)))
    have vp : ∀ {F' : Hp}, Ex F12 F' → EvD K (tVar 0) [some pt, some (.ref p), some (.ref ml), some u, some (.ref ta), none, none, none, none] F' (encPartsT m) := fun e' => Dv.ev_var (i := 0) rfl (dp_ex e' hv12)
    have vp0 := Dv.ev_ixT (d := .list (m.stuffs.map encStuff)) (vp (Ex.refl _)) (Dv.ev_int 0) rfl
    have vp1 := Dv.ev_ixT (d := .list (m.recipes.map encRecipe)) (vp (Ex.refl _)) (Dv.ev_int 1) rfl
    have lc := lc_rule (K := K) (F := F12) (te := tVar 5) (vs := [5, 6, 7]) (tt := tYes) (g := gTup K 3 (gCons (gName 5) (gCons (gName 6) (gCons (gName 7) gNil)))) (σ := [some pt, some (.ref p), some (.ref ml), some u, some (.ref ta), none, none, none, none]) m.recipes encRecipe (fun r => .str r.1) (fun _ => true)
      (it_list vp1) (by omega)
      (fun r0 hr0 v F4 e4 hv4 => by
        obtain ⟨u1, u2, u3, hu1, hu2, hu3, ht3⟩ := tup3 hv4
        exact ⟨[some pt, some (.ref p), some (.ref ml), some u, some (.ref ta), some u1, some u2, some u3, none], fun H e Q q => ht3 5 6 7 _ H e _ q, rfl, fun H e Q q => q F4 H (Gr.refl e), fun _ => Dv.ev_var (i := 5) rfl hu1⟩)
    rw [filt_true, show m.recipes.map (fun r => PyData.str r.1) = m.titles.map PyData.str from by unfold MillD.titles; rw [List.map_map] <;> rfl] at lc
    refine seq_of (s_ifF (et_v (ev_neD (Dv.ev_var (i := 4) rfl dt) (EvL.ev (Dv.el_lst (Dv.ea_cons vp0 (Dv.ea_cons vp1 (Dv.ea_cons (EvL.ev lc) Dv.ea_nil))) (by simp))) tsh.1 tsh.1) (by show PyData.bool (!PyData.eqv (toldD m) (toldD m)) = _; rw [tsh.2] <;> rfl)) h12 fun F13 H13 g13 => ?_)
    try unfold tNext
    dsimp only
    have g813 := g12.trans g13
    have x13 := g13.fx
    have fh13 := g13.fh
    have ht13 := fh13 _ _ (x13 _ _ ht12)
    have hr13 := fh13 _ _ (x13 _ _ hr12)
    obtain ⟨w1, wr1, hw1⟩ : ∃ w1 wr1, rs = w1 :: wr1 := by
      have := hall12.len
      cases rs with
      | nil => rw [List.length_nil] at this; omega
      | cons a r => exact ⟨a, r, rfl⟩
    obtain ⟨r1, hr1, hq⟩ := hall12.at (i := 0) (v := w1) (by rw [hw1]; rfl)
    obtain ⟨T1, c1, c2, uc1, uc2, rfl, hT1, fc1, fc2, ⟨⟨c1r, c1n⟩, c1t⟩, ⟨⟨c2r, c2n⟩, c2t⟩, hc1, dc1, hc2, dc2⟩ := hq
    have c1s : c1 ≠ sa := fun z => by rw [z, hs] at fc1; cases fc1
    have c2s : c2 ≠ sa := fun z => by rw [z, hs] at fc2; cases fc2
    have lc1 : uc1.length ≤ 30000 := by rw [dps_len dc1, List.length_map]; exact (lens _ (List.mem_of_getElem? hr1)).1
    have lc2 : uc2.length ≤ 30000 := by rw [dps_len dc2, List.length_map]; exact (lens _ (List.mem_of_getElem? hr1)).2
    have sl : su.length ≤ 30000 := by rw [dps_len ds, List.length_map]; omega
    have rl : rs.length ≤ 30000 := by rw [hall12.len]; omega
    have nl : ns.length ≤ 30000 := by rw [dps_len dn]; unfold MillD.titles; rw [List.length_map, List.length_map]; omega
    have hT13 := fh13 _ _ (x13 _ _ hT1)
    have k0 : Mu (fun _ => False) F8 F13 H13 H13 30000 := Mu.refl
    refine seq_of (s_appMu k0 (ex_none g9.fx fc1) (x13 _ _ hc1) (by omega) (by omega) fh13 (fun Q h => ⟨_, rfl, ta, _, _, _, rfl, rfl, SqL.of ht13, atI_nat (j := 1) rfl, ra, rs, _, _, rfl, rfl, SqL.of hr13, atI_nat (j := 0) (by rw [hw1]; rfl), T1, _, _, _, rfl, rfl, SqT.of hT13, atI_nat (j := 1) rfl, h⟩) fun H14 k1 => ?_)
    dsimp only
    have ht14 : H14 ta = some (.lst [.ref sa, .ref ra, .ref na]) := by rw [k1.out ta (by rintro (h | h); exact h; exact c1t h.symm)]; exact ht13
    have hr14 : H14 ra = some (.lst rs) := by rw [k1.out ra (by rintro (h | h); exact h; exact c1r h.symm)]; exact hr13
    have hT14 : H14 T1 = some (.tup [.str r1.1, .ref c1, .ref c2]) := by rw [k1.out T1 (by rintro (h | h); exact h; exact absurd h fun z => by rw [z, hc1] at hT1; cases hT1)]; exact hT13
    refine seq_of (s_appMu k1 (ex_none g9.fx fc2) (x13 _ _ hc2) (by omega) (by omega) fh13 (fun Q h => ⟨_, rfl, ta, _, _, _, rfl, rfl, SqL.of ht14, atI_nat (j := 1) rfl, ra, rs, _, _, rfl, rfl, SqL.of hr14, atI_nat (j := 0) (by rw [hw1]; rfl), T1, _, _, _, rfl, rfl, SqT.of hT14, atI_nat (j := 2) rfl, h⟩) fun H15 k2 => ?_)
    dsimp only
    have ht15 : H15 ta = some (.lst [.ref sa, .ref ra, .ref na]) := by rw [k2.out ta (by rintro ((h | h) | h); exact h; exact c1t h.symm; exact c2t h.symm)]; exact ht13
    refine seq_of (s_appMu k2 fs8 (x13 _ _ hs12) (by omega) (by omega) fh13 (fun Q h => ⟨_, rfl, ta, _, _, _, rfl, rfl, SqL.of ht15, atI_nat (j := 0) rfl, h⟩) fun H16 k3 => ?_)
    dsimp only
    have ht16 : H16 ta = some (.lst [.ref sa, .ref ra, .ref na]) := by rw [k3.out ta (by rintro (((h | h) | h) | h); exact h; exact c1t h.symm; exact c2t h.symm; exact t_s h)]; exact ht13
    refine seq_of (s_appMu k3 fr8 (x13 _ _ hr12) (by omega) (by omega) fh13 (fun Q h => ⟨_, rfl, ta, _, _, _, rfl, rfl, SqL.of ht16, atI_nat (j := 1) rfl, h⟩) fun H17 k4 => ?_)
    dsimp only
    have ht17 : H17 ta = some (.lst [.ref sa, .ref ra, .ref na]) := by rw [k4.out ta (by rintro ((((h | h) | h) | h) | h); exact h; exact c1t h.symm; exact c2t h.symm; exact t_s h; exact t_r h)]; exact ht13
    refine s_appMu k4 fn8 (x13 _ _ hn12) (by omega) (by omega) fh13 (fun Q h => ⟨_, rfl, ta, _, _, _, rfl, rfl, SqL.of ht17, atI_nat (j := 2) rfl, h⟩) fun H18 k5 => ?_
    have gz := k5.gr g813
    exact ⟨F8, e7.trans g8.fx, gz.fh, _, _, rfl, gg8.trans gz⟩
  · obtain ⟨s3, s4, rfl, gg7⟩ := pv
    have hm7 := hm6.mono gg7.fx
    have hv7 := dp_ex gg7.fx hv6
    dsimp only
    refine seq_of (asg_of (eo_turned (E := E0) (i := 2) rfl hm7 ok H' e2 _ fun y F8 H8 g8 hy => ?_))
    dsimp only
    show tSeq _ _ _ [some pt, some (.ref p), some (.ref ml), s3, s4, none, none, none, some (.ref y)] H8
    have hv8 := dp_ex g8.fx hv7
    have hm8 := hm7.mono g8.fx
    have vp : ∀ {F' : Hp}, Ex F8 F' → EvD K (tVar 0) [some pt, some (.ref p), some (.ref ml), s3, s4, none, none, none, some (.ref y)] F' (encPartsT m) := fun e' => Dv.ev_var (i := 0) rfl (dp_ex e' hv8)
    refine seq_of (s_ifF (et_v (ev_neD (a := .list (m.stuffs.map encStuff)) (EvL.ev (el_stuffs (E := E0) (m := m.turn) MC (i := 8) rfl hy)) (Dv.ev_ixT (d := .list (m.stuffs.map encStuff)) (vp (Ex.refl _)) (Dv.ev_int 0) rfl) ssh.1 ssh.1) (by show PyData.bool (!PyData.eqv (.list (m.stuffs.map encStuff)) (.list (m.stuffs.map encStuff))) = _; rw [ssh.2] <;> rfl)) g8.fh fun F9 H9 g9 => ?_)
    try unfold tNext
    dsimp only
    show tSeq _ _ _ [some pt, some (.ref p), some (.ref ml), s3, s4, none, none, none, some (.ref y)] H9
    have okt := ok.turn
    have x89 := g9.fx
    have lay2t := (mill_lay okt).2.1
    have dep2t := (mill_lay okt).2.2.2
    have rsh := sh_of lay2t (by omega)
    have lc := lc_rule (K := K) (F := F9) (te := tTup (tCons (tVar 5) (tCons (tVar 7) (tCons (tVar 6) tNil)))) (vs := [5, 6, 7]) (tt := tYes) (g := gTup K 3 (gCons (gName 5) (gCons (gName 6) (gCons (gName 7) gNil)))) (σ := [some pt, some (.ref p), some (.ref ml), s3, s4, none, none, none, some (.ref y)]) m.recipes encRecipe (fun r => encRecipe (r.1, r.2.2, r.2.1)) (fun _ => true)
      (it_list (Dv.ev_ixT (d := .list (m.recipes.map encRecipe)) (vp x89) (Dv.ev_int 1) rfl)) (by omega)
      (fun r0 hr0 v F4 e4 hv4 => by
        obtain ⟨u1, u2, u3, hu1, hu2, hu3, ht3⟩ := tup3 hv4
        exact ⟨[some pt, some (.ref p), some (.ref ml), s3, s4, some u1, some u2, some u3, some (.ref y)], fun H e Q q => ht3 5 6 7 _ H e _ q, rfl, fun H e Q q => q F4 H (Gr.refl e), fun _ => Dv.ev_tup (Dv.ea_cons (Dv.ev_var (i := 5) rfl hu1) (Dv.ea_cons (Dv.ev_var (i := 7) rfl hu3) (Dv.ea_cons (Dv.ev_var (i := 6) rfl hu2) Dv.ea_nil))) (by simp)⟩)
    rw [filt_true, show m.recipes.map (fun r => encRecipe (r.1, r.2.2, r.2.1)) = m.turn.recipes.map encRecipe from by
      unfold MillD.turn
      rw [List.map_map] <;> rfl] at lc
    refine seq_of (s_ifF (et_v (ev_neD (a := .list (m.turn.recipes.map encRecipe)) (EvL.ev (el_recipes (E := E0) (m := m.turn) MC (i := 8) rfl (MillAt.mono x89 hy) okt.r2)) (EvL.ev lc) rsh.1 rsh.1) (by show PyData.bool (!PyData.eqv (.list (m.turn.recipes.map encRecipe)) (.list (m.turn.recipes.map encRecipe))) = _; rw [rsh.2] <;> rfl)) g9.fh fun F10 H10 g10 => ?_)
    try unfold tNext
    dsimp only
    show tRet _ _ [some pt, some (.ref p), some (.ref ml), s3, s4, none, none, none, some (.ref y)] H10
    have x810 := x89.trans g10.fx
    have hy10 : MillAt K F10 C y m.turn := MillAt.mono x810 hy
    have hm10 := hm8.mono x810
    have msh := (mill_sh ok).2
    have tt : ∀ (F' : Hp), Ex F10 F' → EvO (fun F x => MillAt K F C x m) (tCall (spTurned K C) [] E0 (tCons (tVar 8) tNil)) [some pt, some (.ref p), some (.ref ml), s3, s4, none, none, none, some (.ref y)] F' := fun F' e' => by
      have := eo_turned (K := K) (E := E0) (σ := [some pt, some (.ref p), some (.ref ml), s3, s4, none, none, none, some (.ref y)]) (i := 8) rfl (hy10.mono e') okt
      rwa [MillD.turn_turn] at this
    have me : ∀ (F' : Hp), Ex F10 F' → EvO (fun F x => MillAt K F C x m) (tVar 2) [some pt, some (.ref p), some (.ref ml), s3, s4, none, none, none, some (.ref y)] F' := fun F' e' => eo_var (i := 2) rfl (hm10.mono e')
    have mk : EvO (fun F x => MillAt K F C x m) (tMake C (spMillInit K C) [] E0 (tCons (tOp (rIxT K) (tVar 0) (tC (.int 0))) (tCons (tOp (rIxT K) (tVar 0) (tC (.int 1))) tNil))) [some pt, some (.ref p), some (.ref ml), s3, s4, none, none, none, some (.ref y)] F10 :=
      ev_mill (Dv.ea_cons (Dv.ev_ixT (d := .list (m.stuffs.map encStuff)) (vp x810) (Dv.ev_int 0) rfl) (Dv.ea_cons (Dv.ev_ixT (d := .list (m.recipes.map encRecipe)) (vp x810) (Dv.ev_int 1) rfl) Dv.ea_nil)) ok
    refine Dv.s_ret (K := K) (F := F10) (d := .bool true) (Dv.ev_andT (ev_ownV2 (tt _ (Ex.refl _)) (me _ (Ex.refl _)) ok ok (by rw [msh]; rfl)) (Dv.ev_andT (ev_ownV2 (me _ (Ex.refl _)) mk ok ok (by rw [msh]; rfl)) (Dv.ev_notV (ev_ownV2 (b := false) (me _ (Ex.refl _)) (tt _ (Ex.refl _)) ok ok (by rw [msh]; rfl))))) g10.fh fun v F11 H11 g11 hv => ?_
    cases hv
    exact q F11 H11 ((((((g6.trans gg7).trans g8).trans g9).trans g10).trans g11))
end
end R3

set_option Elab.async false
set_option linter.all false
set_option maxRecDepth 100000
set_option maxHeartbeats 4000000
/-! _law_twice_refused -/
namespace R3
open PySem PySem.Spec PyProof.Rows L2 Evl Dv
def twR : List (Str × Int) := [(aS, 1), (zzS, 1), (aS, 2)]
abbrev zzL (m : MillD) : List (Str × Option Int) := m.stuffs ++ [(zzS, none)]
abbrev zzD (m : MillD) : PyData := .list ((zzL m).map encStuff)
def badsR : List RecD := [("zy", twR, []), ("zy", [], twR), ("zy", twR.take 2, twR)]
def fstR : RecD := ("zx", twR.take 2, twR.drop 1)
def okTw (nm : List Str) (r : RecD) : Bool := rzB (encRecipe r) && !(encRecipe r).hasDict && gd (encRecipe r) && !isRecipe nm (encRecipe r)
theorem tw1 : ([[aS, zzS], [aS, bS, zzS], [aS, bS, cS, zzS]] : List (List Str)).all (fun nm => badsR.all (okTw nm) && gd (encRecipe fstR) && isRecipe nm (encRecipe fstR)) = true := by decide +kernel
theorem Drawn.tw {m : MillD} {wide many : Nat} (d : Drawn m wide many) (w1 : 1 ≤ wide) (w3 : wide ≤ 3) : (badsR.all (okTw (nmsL (m.stuffs ++ [(zzS, none)]))) && gd (encRecipe fstR) && isRecipe (nmsL (m.stuffs ++ [(zzS, none)])) (encRecipe fstR)) = true := by
  have e : nmsL (m.stuffs ++ [(zzS, none)]) = m.names ++ [zzS] := by unfold nmsL MillD.names; rw [List.map_append]; rfl
  rw [e]
  have := List.all_eq_true.mp tw1
  rcases d.nmE w1 w3 with h | h | h <;> rw [h]
  · exact this _ (by simp)
  · exact this _ (by simp)
  · exact this _ (by simp)
section
variable {P : Program} {w : World} {K : PySem.W.Frag} {mg : Str → Option Value} {base : Heap}
def spTwice (K : PySem.W.Frag) : Sp := fun vs H Q _ => ∃ (F : Hp) (pt : V) (m : MillD) (wide many : Nat), vs = [pt] ∧ Ex F H ∧ Dp K F pt (encPartsT m) ∧ Drawn m wide many ∧ 1 ≤ wide ∧ wide ≤ 3 ∧ 1 ≤ many ∧ many ≤ 3 ∧ ∀ F' H', Gr F H F' H' → Q (.bl true) H'
theorem sc__law_twice_refused : FnScope (["parts", "stuffs", "stuff", "twice", "bad"] : List Str) (["parts"] : List Str) (defScope sLawTwiceRefused) := ⟨rfl, rfl, rfl, by decide +kernel, rfl, by decide +kernel, by decide +kernel⟩
theorem ok_law_twice_refused (D : Def K mg "_law_twice_refused" sLawTwiceRefused ["parts"]) (B : Bl mg) {C CL CI : Addr} (C__law_caught : Cal P w K mg base "_law_caught" ["stuffs", "recipes"] 7 (spCaught K C CL CI)) :
    Cal P w K mg base "_law_twice_refused" ["parts"] 8 (spTwice K) := by
  refine cal_mk D sc__law_twice_refused (fun vs H Q E h => ?_) (fun f cdv A outer s H vs Q E hr h => ?_)
  · obtain ⟨F, pt, m, wide, many, rfl, _⟩ := h
    rfl
  obtain ⟨F, pt, m, wide, many, rfl, e, hv, dr, w1, w3, m1, m3, q⟩ := h
  refine ⟨_, (pss_cons (ps_par (i := 1) (j := 2) (by rfl) sc__law_twice_refused.nd rfl rfl (by decide) rfl rfl (pa_cons (pe_op op_catS (pe_ix ix_tup (pv 0) pe_int (fun _ _ => rfl)) (pe_lst (pa_cons (pe_tup (pa_cons pe_str (pa_cons pe_non pa_nil))) pa_nil))) (pa_cons (pe_ix ix_tup (pe_ix ix_list (pe_ix ix_tup (pv 0) pe_int (fun _ _ => rfl)) pe_int (fun _ _ => rfl)) pe_int (fun _ _ => rfl)) pa_nil)) (by rfl))
      (pss_cons (ps_set (i := 3) sc__law_twice_refused.nd rfl (.inl rfl) (pe_lst (pa_cons (pe_tup (pa_cons (pv 2) (pa_cons pe_int pa_nil))) (pa_cons (pe_tup (pa_cons pe_str (pa_cons pe_int pa_nil))) (pa_cons (pe_tup (pa_cons (pv 2) (pa_cons pe_int pa_nil))) pa_nil)))))
      (pss_cons (ps_for PassesOwn.never rfl (pi_list (pe_lst (pa_cons (pe_tup (pa_cons pe_str (pa_cons (pv 3) (pa_cons (pe_lst pa_nil) pa_nil)))) (pa_cons (pe_tup (pa_cons pe_str (pa_cons (pe_lst pa_nil) (pa_cons (pv 3) pa_nil)))) (pa_cons (pe_tup (pa_cons pe_str (pa_cons (pe_slice sl_list (pv 3) po_none (po_some pe_int)) (pa_cons (pv 3) pa_nil)))) pa_nil))))) (pg_name (i := 4) sc__law_twice_refused.nd rfl (.inl rfl)) (pss_one (ps_if (pt_cmpR (op_neSame (by exact hr.1.units)) (pe_callC C__law_caught hr (pa_cons (pv 1) (pa_cons (pe_lst (pa_cons (pe_tup (pa_cons pe_str (pa_cons (pe_slice sl_list (pv 3) po_none (po_some pe_int)) (pa_cons (pe_slice sl_list (pv 3) (po_some pe_int) po_none) pa_nil)))) (pa_cons (pv 4) (pa_cons pe_non pa_nil)))) pa_nil))) (pe_lst (pa_cons pe_int (pa_cons (pe_callB (id := "repr") (r := rReprZ K) (call_reprZ (by exact hr.2) (by exact hr.1.units)) (by rfl) B.repr (by decide +kernel) (pa_cons (pv 4) pa_nil)) pa_nil))) (nomark _)) (pss_one (ps_ret pe_bl)) pss_nil)))
      (pss_one (ps_ret pe_bl))))), ?_⟩
  have st : start ["parts", "stuffs", "stuff", "twice", "bad"] [pt] = [some pt, none, none, none, none] := rfl
  rw [st]
  obtain ⟨r0, ss, rs, l, U⟩ := dr.un w1 w3 m1 m3
  have ok := U.ok
  have sl : m.stuffs.length = wide := dr.slen
  have tw := dr.tw w1 w3
  rw [Bool.and_eq_true, Bool.and_eq_true] at tw
  have P0 : ∀ {σ : L2.St} {F' : Hp}, σ[0]? = some (some pt) → Ex F F' → EvD K (tOp (rIxT K) (tVar 0) (tC (.int 0))) σ F' (.list (m.stuffs.map encStuff)) := fun h0 e' => Dv.ev_ixT (Dv.ev_var (i := 0) h0 (dp_ex e' hv)) (Dv.ev_int 0) rfl
  have a0 : atI (m.stuffs.map encStuff) 0 = some (encStuff (aS, r0)) := atI_nat (j := 0) (by rw [U.es]; rfl)
  have Z0 : EvD K (tOp (rCatS K) (tOp (rIxT K) (tVar 0) (tC (.int 0))) (tLst (tCons (tTup (tCons (tC (.str "zz")) (tCons (tC .non) tNil))) tNil))) [some pt, none, none, none, none] F (zzD m) :=
    EvL.ev (Dv.el_is (el_catS (P0 rfl (Ex.refl F)) (EvL.ev (Dv.el_lst (Dv.ea_cons (Dv.ev_tup (Dv.ea_cons (Dv.ev_str "zz") (Dv.ea_cons Dv.ev_non Dv.ea_nil)) (by simp)) Dv.ea_nil) (by simp))) (by rw [List.length_map]; simp; omega)) (mapS_append m.stuffs [(zzS, none)]))
  refine seq_of (Dv.s_par (K := K) (F := F) (a := zzD m) (b := .str aS) (Dv.ea_cons Z0 (Dv.ea_cons (Dv.ev_ixT (ds := [.str aS, encRoom r0]) (d := .str aS) (Dv.ev_ixL (P0 rfl (Ex.refl F)) (Dv.ev_int 0) a0) (Dv.ev_int 0) rfl) Dv.ea_nil)) e fun sv nv F1 H1 g1 hsv hnv => ?_)
  dsimp only
  show tSeq _ _ _ [some pt, some sv, some nv, none, none] H1
  refine seq_of (Dv.s_asg (K := K) (F := F1) (d := .list (twR.map encPart)) (EvL.ev (Dv.el_lst (Dv.ea_cons (Dv.ev_tup (Dv.ea_cons (Dv.ev_var (i := 2) rfl hnv) (Dv.ea_cons (Dv.ev_int 1) Dv.ea_nil)) (by simp)) (Dv.ea_cons (Dv.ev_tup (Dv.ea_cons (Dv.ev_str "zz") (Dv.ea_cons (Dv.ev_int 1) Dv.ea_nil)) (by simp)) (Dv.ea_cons (Dv.ev_tup (Dv.ea_cons (Dv.ev_var (i := 2) rfl hnv) (Dv.ea_cons (Dv.ev_int 2) Dv.ea_nil)) (by simp)) Dv.ea_nil))) (by simp [twR]))) g1.fh fun tv F2 H2 g2 htv => ?_)
  dsimp only
  show tSeq _ _ _ [some pt, some sv, some nv, some tv, none] H2
  have TV : ∀ {σ : L2.St} {F' : Hp}, σ[3]? = some (some tv) → Ex F2 F' → EvD K (tVar 3) σ F' (.list (twR.map encPart)) := fun h0 e' => Dv.ev_var (i := 3) h0 (dp_ex e' htv)
  have T2 : ∀ {σ : L2.St} {F' : Hp}, σ[3]? = some (some tv) → Ex F2 F' → EvD K (tSl (rSlL K) (tVar 3) tNoPart (tPart (tC (.int 2)))) σ F' (.list ((twR.take 2).map encPart)) := fun h0 e' => EvL.ev (Dv.el_is (Dv.el_sl (TV h0 e') Dv.eo_none (Dv.eo_some (K := K) (i := ((2 : Nat) : Int)) (Dv.ev_int 2))) (by rfl))
  have T1 : ∀ {σ : L2.St} {F' : Hp}, σ[3]? = some (some tv) → Ex F2 F' → EvD K (tSl (rSlL K) (tVar 3) (tPart (tC (.int 1))) tNoPart) σ F' (.list ((twR.drop 1).map encPart)) := fun h0 e' => EvL.ev (Dv.el_is (Dv.el_sl (TV h0 e') (Dv.eo_some (K := K) (i := ((1 : Nat) : Int)) (Dv.ev_int 1)) Dv.eo_none) (by rfl))
  have emp : ∀ {σ : L2.St} {F' : Hp}, EvD K (tLst tNil) σ F' (.list (([] : List (Str × Int)).map encPart)) := EvL.ev (Dv.el_lst Dv.ea_nil (by simp))
  have rT : ∀ {σ : L2.St} {F' : Hp} {ta tb : TE} {x : Str} {a b : List (Str × Int)}, EvD K ta σ F' (.list (a.map encPart)) → EvD K tb σ F' (.list (b.map encPart)) → EvD K (tTup (tCons (tC (.str x)) (tCons ta (tCons tb tNil)))) σ F' (encRecipe (x, a, b)) := fun ha hb => Dv.ev_tup (Dv.ea_cons (Dv.ev_str _) (Dv.ea_cons ha (Dv.ea_cons hb Dv.ea_nil))) (by simp)
  have bl : EvD K _ [some pt, some sv, some nv, some tv, none] F2 (.list (badsR.map encRecipe)) := EvL.ev (Dv.el_lst (Dv.ea_cons (rT (x := "zy") (TV rfl (Ex.refl _)) emp) (Dv.ea_cons (rT (x := "zy") emp (TV rfl (Ex.refl _))) (Dv.ea_cons (rT (x := "zy") (T2 rfl (Ex.refl _)) (TV rfl (Ex.refl _))) Dv.ea_nil))) (by simp [badsR]))
  have g02 := g1.trans g2
  refine seq_of (Dv.s_for (K := K) (F := F2) (it_list bl) g02.fh
    (fun k σ' F' H' => ∃ s4, σ' = [some pt, some sv, some nv, some tv, s4] ∧ Gr F2 H2 F' H') (fun F' H' g => ⟨_, rfl, g⟩) ?_ (fun σ' F' H' e1 e2 pq => ?_))
  · rintro Fb eb k σ' F3 H3 v du F4 H4 hdu e3 e4 ⟨s4, rfl, gg3⟩ g4 hv4
    rw [List.getElem?_map] at hdu
    obtain ⟨r, hr', rfl⟩ := Option.map_eq_some_iff.mp hdu
    have okr := List.all_eq_true.mp tw.1.1 r (List.mem_of_getElem? hr')
    unfold okTw at okr
    simp only [Bool.and_eq_true, Bool.not_eq_true'] at okr
    have x4 := gg3.fx.trans g4.fx
    show tIfS _ _ _ _ [some pt, some sv, some nv, some tv, some v] H4
    refine s_ifF (F := F4) (et_caught (k := 1) (C0 := CI) (j := 4) rfl (.inl ⟨hv4, rzB.p okr.1.1.1 okr.1.1.2⟩) (.inr ⟨rfl, rfl⟩) (fun H5 e5 Q q5 => ⟨sv, rfl, lst_of (rT (x := "zx") (σ := [some pt, some sv, some nv, some tv, some v]) (T2 rfl x4) (T1 rfl x4) H5 e5 _ fun fv F6 H6 g6 hfv => ⟨v, rfl, sz_of (by simp), fun p hp => ?_⟩)⟩)) g4.fh fun F5 H5 g5 => ?_
    · have g7 := g6.trans (Gr.new (o := .lst [fv, v, V.non]) g6.fh hp)
      have e7 : Ex F6 (upd F6 p (.lst [fv, v, V.non])) := Ex.new (ex_none g6.fh hp)
      refine q5 sv (.ref p) _ _ g7 ?_
      refine thr4 (xs := m.stuffs ++ [(zzS, none)]) (ys := [fstR]) (b := encRecipe r) (rest := [.none]) (.dat (dp_ex (g2.fx.trans (x4.trans g7.fx)) hsv)) U.more.s1 U.more.s2 U.more.sn U.more.ss upd_same (.cons (.dat (dp_ex e7 hfv)) (.cons (.dat (dp_ex g7.fx hv4)) (.cons (.dat .non) .nil))) (by simp) (by simp) (fun z hz => by rw [List.mem_singleton.mp hz]; exact ⟨tw.1.2, tw.2⟩) okr.1.2 (.inl okr.2) rfl
    · try unfold tNext
      dsimp only
      exact ⟨F5, e3.trans (g4.fx.trans g5.fx), g5.fh, _, rfl, (gg3.trans g4).trans g5⟩
  · obtain ⟨s4, rfl, gg3⟩ := pq
    exact q F' H' (g02.trans gg3)
end
end R3

set_option Elab.async false
set_option linter.all false
set_option maxRecDepth 100000
set_option maxHeartbeats 4000000
/-! the law -/
namespace R3
open PySem PySem.Spec PyProof.Rows L2 Evl Dv
theorem sml_tl {c k : Nat} {ds : List PyData} (h : Sml c k (.tuple ds)) : Sml c k (.list ds) := by
  obtain ⟨a, b, e, f⟩ := h
  rw [PyData.hasDict] at a
  rw [PyData.showable] at b
  rw [shB] at e
  rw [PyData.depth] at f
  exact ⟨by rw [PyData.hasDict]; exact a, by rw [PyData.showable]; exact b, by rw [shB]; exact e, by rw [PyData.depth]; exact f⟩
theorem Drawn.rp {m : MillD} {wide many : Nat} (d : Drawn m wide many) (w3 : wide ≤ 3) (m3 : many ≤ 3) : Rp (encPartsT m) := by
  have h1 := sml_tl (d.stSml w3)
  have h2 := sml_tl (d.rcSml w3 m3)
  have := (sml_list (c := 1000) (k := 5) (n := 2) (ds := [.list (m.stuffs.map encStuff), .list (m.recipes.map encRecipe)]) (fun y hy => by
    simp only [List.mem_cons, List.not_mem_nil, or_false] at hy
    rcases hy with rfl | rfl
    · exact ⟨h1.1, h1.2.1, Nat.le_trans h1.2.2.1 (by decide), Nat.le_trans h1.2.2.2 (by decide)⟩
    · exact h2) (by simp)).2
  exact ⟨this.1, this.2.1, Nat.le_trans this.2.2.1 (by decide), Nat.le_trans this.2.2.2 (by decide)⟩
def mEnd1 : MillD := ⟨[(aS, some 0)], []⟩
def mEnd2 : MillD := ⟨[("a1b2c3d4", none)], []⟩
theorem mEnd1_ok : mEnd1.Ok := ⟨by decide, by decide, by decide +kernel, by decide +kernel, by decide, by decide +kernel, by decide +kernel⟩
theorem mEnd2_ok : mEnd2.Ok := ⟨by decide, by decide, by decide +kernel, by decide +kernel, by decide, by decide +kernel, by decide +kernel⟩
section
variable {P : Program} {w : World} {K : PySem.W.Frag} {mg : Str → Option Value} {base : Heap} {C CM CL CI : Addr}
/-- no mill, and told by repr -/
def Bq (K : PySem.W.Frag) (F : Hp) (v : V) : Prop := ∃ d, Dq K F v d ∧ Rz K F v d
theorem Bq.mono {F F' : Hp} {v : V} (e : Ex F F') (h : Bq K F v) : Bq K F' v := by
  obtain ⟨d, h1, h2⟩ := h
  exact ⟨d, dq_ex e h1, h2.mono e⟩
theorem bq_p {σ : L2.St} {F : Hp} {te : TE} {d : PyData} (h : EvD K te σ F d) (r : Rp d) : EvP te σ F (Bq K) := fun H e Q q => h H e Q fun v F' H' g hv => q v F' H' g ⟨d, .dat hv, .inl ⟨hv, r⟩⟩
theorem bq_mt {σ : L2.St} {F : Hp} : EvP tDNewK σ F (Bq K) := fun H e Q q d hd => q _ _ _ (Gr.new e hd) ⟨.dict [], .mt upd_same, .inr ⟨.mt upd_same, ⟨by decide +kernel, by decide +kernel, by decide +kernel⟩⟩⟩
structure XM (K : PySem.W.Frag) (mg : Str → Option Value) (CM : Addr) : Prop where
  g : mg "InvalidMill" = some (.ref CM)
  x : PySem.W.exmOne K (.ref CM) (.ref CM) = some true
  e : ExC K CM
  f : XfC K CM
  n : PySem.W.findIn K (.ref CM) "value" = some none
def spLaw (K : PySem.W.Frag) : Sp := fun vs H Q _ => ∃ (a : Addr) (ns : List Int), vs = [.ref a] ∧ SqL K H a (ns.map V.int) ∧ ns.length ≤ 63 ∧ ∀ H', Q (.bl true) H'
theorem sc_law : FnScope (["script", "index", "generator", "parts", "bad", "caught", "error"] : List Str) (["script"] : List Str) (defScope sLaw) := ⟨rfl, rfl, rfl, by decide +kernel, rfl, by decide +kernel, by decide +kernel⟩
theorem ok_law (D : Def K mg "law" sLaw ["script"]) (B : Bl mg) (MC : MillC K C) (XX : XM K mg CM) (C__law_generator : Cal P w K mg base "_law_generator" ["script", "index"] 2 (spGen K)) (C__law_random : Cal P w K mg base "_law_random" ["generator", "bound"] 2 spRandom) (C__law_mill_drawn : Cal P w K mg base "_law_mill_drawn" ["generator", "wide", "many"] 4 (spMillDrawn K))
    (C__law_made_right : Cal P w K mg base "_law_made_right" ["parts"] 8 (spMadeRight K)) (C__law_unlike_right : Cal P w K mg base "_law_unlike_right" ["parts"] 8 (spUnlike K)) (C__law_refused : Cal P w K mg base "_law_refused" ["generator", "parts"] 8 (spRefused K)) (C__law_twice_refused : Cal P w K mg base "_law_twice_refused" ["parts"] 8 (spTwice K))
    (X_turned : CalX P w K mg base "turned" ["mill"] 7 (spTurnedX K CM)) (M_Mill : Mak P w K mg base "Mill" C ["stuffs", "recipes"] 5 (spMillInit K C)) (M_recipes : CalM P w K mg base C "recipes" [] 1 (spRecipes K C)) (M_names : CalM P w K mg base C "names" [] 1 (spNames K C)) : Cal P w K mg base "law" ["script"] 9 (spLaw K) := by
  refine cal_mk D sc_law (fun vs H Q E h => ?_) (fun f cdv A outer s H vs Q E hr h => ?_)
  · obtain ⟨a, ns, rfl, _⟩ := h
    rfl
  obtain ⟨a, ns, rfl, hS, hl, q⟩ := h
  have gM := XX.g
  refine ⟨_, (pss_cons (ps_for PassesOwn.never rfl (pi_range1 rfl B.range (pa_cons pe_int pa_nil)) (pg_name (i := 1) sc_law.nd rfl (.inl rfl)) (pss_cons (ps_set (i := 2) sc_law.nd rfl (.inl rfl) (pe_callC C__law_generator hr (pa_cons (pv 0) (pa_cons (pv 1) pa_nil))))
      (pss_cons (ps_set (i := 3) sc_law.nd rfl (.inl rfl) (pe_callC C__law_mill_drawn hr (pa_cons (pv 2) (pa_cons (pe_op op_add pe_int (pe_callC C__law_random hr (pa_cons (pv 2) (pa_cons pe_int pa_nil)))) (pa_cons (pe_op op_add pe_int (pe_callC C__law_random hr (pa_cons (pv 2) (pa_cons pe_int pa_nil)))) pa_nil)))))
      (pss_cons (ps_if (PW.pt (pw_or (pt_not (pt_val (pe_callC C__law_made_right hr (pa_cons (pv 3) pa_nil)))) (pw_or (pt_not (pt_val (pe_callC C__law_unlike_right hr (pa_cons (pv 3) pa_nil)))) (pw_or1 (pt_not (pt_val (pe_callC C__law_refused hr (pa_cons (pv 2) (pa_cons (pv 3) pa_nil))))))))) (pss_one (ps_ret pe_bl)) pss_nil)
      (pss_one (ps_if (pt_not (pt_val (pe_callC C__law_twice_refused hr (pa_cons (pv 3) pa_nil)))) (pss_one (ps_ret pe_bl)) pss_nil))))))
      (pss_cons (ps_for PassesOwn.never rfl (pi_list (pe_lst (pa_cons pe_non (pa_cons pe_int (pa_cons (pe_lst pa_nil) (pa_cons (pe_tup pa_nil) (pa_cons pe_dnewK (pa_cons pe_str (pa_cons pe_bl (pa_cons (pv 3) pa_nil)))))))))) (pg_name (i := 4) sc_law.nd rfl (.inl rfl)) (pss_cons (ps_set (i := 5) sc_law.nd rfl (.inl rfl) pe_non)
      (pss_cons (ps_try_keep (i := 6) rfl rfl rfl sc_law.nd rfl rfl ⟨rfl, by decide, .inl gM⟩ takes0 (fun W pn xe tk _ => (pss_one (ps_expr (pe_callXC X_turned hr tk (pa_cons (pv 4) pa_nil))))) (fun a oe cls d pn hz hf => pss_one (ps_set (i := 5) sc_law.nd rfl (.inl rfl) (pv 6))))
      (pss_one (ps_if (PW.pt (pw_or (pt_cmpR op_isN (pv 5) pe_non (nomark _)) (pw_or1 (pt_cmpR op_ne (pe_callB (id := "repr") (r := rReprZ K) (call_reprZ (by exact hr.2) (by exact hr.1.units)) (by rfl) B.repr (by decide +kernel) (pa_cons (pe_xjF (pv 5)) pa_nil)) (pe_callB (id := "repr") (r := rReprZ K) (call_reprZ (by exact hr.2) (by exact hr.1.units)) (by rfl) B.repr (by decide +kernel) (pa_cons (pv 4) pa_nil)) (nomark _))))) (pss_one (ps_ret pe_bl)) pss_nil)))))
      (pss_one (ps_ret (pe_and (pe_cmpR (op_eqD (by exact hr.1.units)) (pe_meth0C M_recipes MC.cl hr (pe_makC M_Mill hr (pa_cons (pe_lst (pa_cons (pe_tup (pa_cons pe_str (pa_cons pe_int pa_nil))) pa_nil)) (pa_cons (pe_lst pa_nil) pa_nil)))) (pe_lst pa_nil) (nomark _)) (pe_one (pe_cmpR (op_eqD (by exact hr.1.units)) (pe_meth0C M_names MC.cl hr (pe_makC M_Mill hr (pa_cons (pe_lst (pa_cons (pe_tup (pa_cons pe_str (pa_cons pe_non pa_nil))) pa_nil)) (pa_cons (pe_lst pa_nil) pa_nil)))) (pe_lst pa_nil) (nomark _)))))))), ?_⟩
  have st : start ["script", "index", "generator", "parts", "bad", "caught", "error"] [.ref a] = [some (.ref a), none, none, none, none, none, none] := rfl
  rw [st]
  refine seq_of (Dv.s_for (K := K) (F := H) (it_rng1 (n := 3) (Dv.ea_cons (Dv.ev_int 3) Dv.ea_nil) (by decide) (by decide)) (Ex.refl H)
    (fun n σ' F' H' => ∃ s1 s2 s3, σ' = [some (.ref a), s1, s2, s3, none, none, none] ∧ Ex H F' ∧ (1 ≤ n → ∃ pt d, s3 = some pt ∧ Dp K F' pt d ∧ Rp d))
    (fun F' H' g1 => ⟨none, none, none, rfl, g1.fx, fun h => absurd h (by decide)⟩) ?_ (fun σ' F1 H1 e1 e1' pq => ?_))
  · rintro Fb eb n σ' F' H' u dd F1 H1 hdd e1 e2 ⟨s1, s2, s3, rfl, e0, _⟩ g1 hu
    obtain ⟨hn, hdn⟩ := List.getElem?_eq_some_iff.mp hdd
    rw [List.length_map, List.length_range] at hn
    have hn3 : n < 3 := hn
    have hdn' : dd = .int (n : Int) := by rw [← hdn, List.getElem_map, List.getElem_range]
    subst hdn'
    cases hu
    have x1 : Ex H F1 := e0.trans g1.fx
    show tSeq (tAsg _ _) _ _ [some (.ref a), some (.int (n : Int)), s2, s3, none, none, none] H1
    refine seq_of (asg_of ⟨_, rfl, _, rfl, a, ns, n, rfl, by omega, ex_l (x1.trans g1.fh) hS, hl, fun g gx gs H2 sm hg2 x0 s0 s1' => ?_⟩)
    have eF2 : Ex F1 (upd H2 g (.lst [.int gx, .int gs, .int (1000 * (n : Int))])) := fun b o hb => by
      have hb2 := sm b o (g1.fh b o hb)
      rw [upd_ne (ne_of_none hb2 hg2)]
      exact hb2
    have fg : F1 g = none := by
      cases z : F1 g with
      | none => rfl
      | some o =>
        have := sm g o (g1.fh g o z)
        rw [hg2] at this
        cases this
    have hgen : GenAt (upd H2 g (.lst [.int gx, .int gs, .int (1000 * (n : Int))])) g (1000 * n) := ⟨gx, gs, _, upd_same, x0, s0, s1', by omega, by omega⟩
    dsimp only
    show tSeq _ _ _ [some (.ref a), some (.int (n : Int)), some (.ref g), s3, none, none, none] _
    -- parts
    have args := da_cons (K := K) (g := g) (σ := [some (.ref a), some (.int (n : Int)), some (.ref g), s3, none, none, none]) (F := F1) (dr_add (m := 1) (n := 2) (m' := 0) (n' := 3) (dr_of (Dv.ev_int 1) ⟨1, rfl, by decide, by decide⟩) (dr_random (i := 2) rfl (by decide) (by decide) (by decide +kernel)))
      (da_cons (dr_add (m := 1) (n := 2) (m' := 0) (n' := 3) (dr_of (Dv.ev_int 1) ⟨1, rfl, by decide, by decide⟩) (dr_random (i := 2) rfl (by decide) (by decide) (by decide +kernel))) da_nil)
    refine seq_of (asg_of ⟨_, rfl, args _ (1000 * n) eF2 fg hgen (by omega) _ fun vs F3 H3 ds k3 hg3 pds hvs => ?_⟩)
    obtain ⟨d1, r1, rfl, ⟨i1, rfl, i10, i11⟩, d2, r2, rfl, ⟨i2, rfl, i20, i21⟩, rfl⟩ := pds
    obtain ⟨v1, v2, rfl, hv1, hv2⟩ := Dv.two hvs
    cases hv1
    cases hv2
    obtain ⟨wide, rfl⟩ := Int.eq_ofNat_of_zero_le (show 0 ≤ i1 by omega)
    obtain ⟨many, rfl⟩ := Int.eq_ofNat_of_zero_le (show 0 ≤ i2 by omega)
    refine ⟨F3, g, _, wide, many, rfl, by omega, by omega, by omega, k3.fh, k3.fg, hg3, by omega, fun qv F4 H4 m k4 hg4 dr hqv => ?_⟩
    have w1 : 1 ≤ wide := by omega
    have w3 : wide ≤ 3 := by omega
    have m1 : 1 ≤ many := by omega
    have m3 : many ≤ 3 := by omega
    have ok := dr.ok w1 w3 m3
    obtain ⟨r0, ss, rs, l, U⟩ := dr.un w1 w3 m1 m3
    dsimp only
    show tSeq _ _ _ [some (.ref a), some (.int (n : Int)), some (.ref g), some qv, none, none, none] H4
    refine seq_of ?_
    refine ⟨_, rfl, F4, qv, m, rfl, k4.fh, hqv, ok, by rw [dr.rl]; exact m1, fun F5 H5 g5 => ⟨true, rfl, iteF ?_⟩⟩
    obtain ⟨k5, hg5⟩ := hg4.of g5 k4.fg
    refine ⟨_, rfl, F5, qv, m, aS, r0, ss, rs, l, rfl, g5.fh, dp_ex g5.fx hqv, U, fun F6 H6 g6 => ⟨true, rfl, iteF ?_⟩⟩
    obtain ⟨k6, hg6⟩ := hg5.of g6 k5.fg
    have x46 := g5.fx.trans g6.fx
    refine ⟨_, rfl, _, rfl, F6, g, _, qv, m, wide, many, rfl, g6.fh, k6.fg, hg6, by omega, dp_ex x46 hqv, dr, w1, w3, m1, m3, fun F7 H7 k7 hg7 => ⟨true, rfl, iteF ?_⟩⟩
    have x47 := x46.trans k7.fx
    try unfold tNext
    dsimp only
    show tIfS _ _ _ _ [some (.ref a), some (.int (n : Int)), some (.ref g), some qv, none, none, none] H7
    refine ⟨_, rfl, F7, qv, m, wide, many, rfl, k7.fh, dp_ex x47 hqv, dr, w1, w3, m1, m3, fun F8 H8 g8 => ⟨true, rfl, iteF ?_⟩⟩
    have xa : Ex F1 F8 := k3.fx.trans (k4.fx.trans (x47.trans g8.fx))
    try unfold tNext
    dsimp only
    exact ⟨F8, e1.trans (g1.fx.trans xa), g8.fh, _, _, _, rfl, x1.trans xa, fun _ => ⟨qv, _, rfl, dp_ex (x47.trans g8.fx) hqv, dr.rp w3 m3⟩⟩
  obtain ⟨s1, s2, s3, rfl, x1, h3⟩ := pq
  obtain ⟨pt, dt, rfl, hpt, rpt⟩ := h3 (by decide)
  dsimp only
  -- what is no mill
  have bm : ∀ (F F' : Hp) (v : V), Ex F F' → Bq K F v → Bq K F' v := fun F F' v e h => h.mono e
  have rpO : ∀ {d : PyData}, d.hasDict = false → d.showable = true → shB d ≤ 100000 → d.depth ≤ 50 → Rp d := fun h1 h2 h3 h4 => ⟨h1, h2, h3, h4⟩
  have E1 : EaV (Bq K) (tCons (tC .non) (tCons (tC (.int 3)) (tCons (tLst tNil) (tCons (tTup tNil) (tCons tDNewK (tCons (tC (.str "mill")) (tCons (tC (.bl true)) (tCons (tVar 3) tNil)))))))) [some (.ref a), s1, s2, some pt, none, none, none] F1 8 :=
    eav_cons bm (bq_p Dv.ev_non (rpO (by decide +kernel) (by decide +kernel) (by decide +kernel) (by decide +kernel))) fun _ y1 => eav_cons bm (bq_p (Dv.ev_int 3) (rpO (by decide +kernel) (by decide +kernel) (by decide +kernel) (by decide +kernel))) fun _ y2 => eav_cons bm (bq_p (EvL.ev (Dv.el_lst Dv.ea_nil (by simp))) (rpO (by decide +kernel) (by decide +kernel) (by decide +kernel) (by decide +kernel))) fun _ y3 =>
    eav_cons bm (bq_p (Dv.ev_tup Dv.ea_nil (by simp)) (rpO (by decide +kernel) (by decide +kernel) (by decide +kernel) (by decide +kernel))) fun _ y4 => eav_cons bm bq_mt fun _ y5 => eav_cons bm (bq_p (Dv.ev_str "mill") (rpO (by decide +kernel) (by decide +kernel) (by decide +kernel) (by decide +kernel))) fun _ y6 => eav_cons bm (bq_p (Dv.ev_bl true) (rpO (by decide +kernel) (by decide +kernel) (by decide +kernel) (by decide +kernel))) fun _ y7 =>
    eav_cons bm (bq_p (Dv.ev_var (i := 3) rfl (dp_ex (y1.trans (y2.trans (y3.trans (y4.trans (y5.trans (y6.trans y7)))))) hpt)) rpt) fun _ _ => eav_nil
  refine seq_of (s_forP (K := K) (Pd := Bq K) (F := F1) bm (fun Q hQ => lst_of (E1 H1 e1' _ fun vs F2 H2 g2 hl hvs => ⟨by rw [hl]; exact sz_of (by decide), fun p hp => hQ p vs _ _ (g2.trans (Gr.new g2.fh hp)) upd_same fun v hv => (hvs v hv).mono (Ex.new (ex_none g2.fh hp))⟩)) (fun σ' F' H' => ∃ s4 s5, σ' = [some (.ref a), s1, s2, some pt, s4, s5, none]) (fun F' H' g => ⟨_, _, rfl⟩) ?_ (fun σ' F2 H2 e2 e2' pq => ?_))
  · rintro Fb eb σ' F2 H2 v e2 e2' ⟨s4, s5, rfl⟩ ⟨d, hq, hrz⟩
    show tSeq _ _ _ [some (.ref a), s1, s2, some pt, some v, s5, none] H2
    refine seq_of (asg_of ?_)
    show tSeq _ _ _ [some (.ref a), s1, s2, some pt, some v, some .non, none] H2
    refine seq_of ⟨_, rfl, F2, v, d, rfl, e2', hq, fun F3 H3 dd g3 hdd => ⟨true, XX.x, fun _ z hz => ⟨_, rfl, CM, dd, rfl, rfl, fun na => ?_⟩, fun z => nomatch z⟩⟩
    have n1 := g3.trans (Gr.new (o := .xd [("value", v)]) g3.fh hdd)
    have n2 := n1.trans (Gr.new (o := ExJ CM dd z) n1.fh hz)
    have nz : dd ≠ z := fun w => by rw [← w, upd_same] at hz; exact nomatch hz
    have r2 : (upd (upd F3 dd (.xd [("value", v)])) z (ExJ CM dd z)) dd = some (.xd [("value", v)]) := by rw [upd_ne nz, upd_same]
    have r1 : (upd (upd F3 dd (.xd [("value", v)])) z (ExJ CM dd z)) z = some (ExJ CM dd z) := upd_same
    generalize upd (upd F3 dd (.xd [("value", v)])) z (ExJ CM dd z) = F4 at n2 r1 r2
    dsimp only
    show tIfS _ _ _ _ [some (.ref a), s1, s2, some pt, some v, some (.ref z), none] _
    have hrz4 := hrz.mono n2.fx
    refine s_ifF (F := F4) (et_orF (fun H5 e5 Q5 q5 => ⟨_, rfl, rfl, false, rfl, q5 F4 H5 (Gr.refl e5)⟩) (et_test (K := K) (Dv.ev_is (ev_neS (x := d.shown) (y := d.shown) (fun H5 e5 Q5 q5 => ⟨_, rfl, z, CM, dd, _, v, rfl, e5 _ _ r1, e5 _ _ r2, by simp [List.lookup], XX.f, XX.n, rz_read hrz4 e5 (q5 _ F4 H5 (Gr.refl e5) (.str _))⟩) (ev_rz (i := 4) rfl hrz4)) (by simp)))) n2.fh fun F5 H5 g5 => ?_
    try unfold tNext
    dsimp only
    exact ⟨F5, e2.trans (n2.fx.trans g5.fx), g5.fh, _, _, rfl⟩
  · obtain ⟨s4, s5, rfl⟩ := pq
    dsimp only
    have emp : ∀ {σ : L2.St} {F' : Hp}, EvD K (tLst tNil) σ F' (.list []) := EvL.ev (Dv.el_lst Dv.ea_nil (by simp))
    have rec1 : EvD K (tMeth C "recipes" (spRecipes K C) [] E0 (tMake C (spMillInit K C) [] E0 (tCons (tLst (tCons (tTup (tCons (tC (.str "a")) (tCons (tC (.int 0)) tNil))) tNil)) (tCons (tLst tNil) tNil))) tNil) [some (.ref a), s1, s2, some pt, s4, s5, none] F2 (.list []) := fun H3 e3 Q3 q3 =>
      ev_mill (K := K) (C := C) (E := E0) (m := mEnd1) (F := F2) (Dv.ea_cons (EvL.ev (Dv.el_lst (Dv.ea_cons (Dv.ev_tup (Dv.ea_cons (Dv.ev_str "a") (Dv.ea_cons (Dv.ev_int 0) Dv.ea_nil)) (by simp)) Dv.ea_nil) (by decide))) (Dv.ea_cons emp Dv.ea_nil)) mEnd1_ok H3 e3 _ fun ml F4 H4 g4 hm => by
        obtain ⟨dx, ro, sp, ru, v1, v2, v3, hx, _⟩ := hm.ex
        exact ⟨ml, dx, _, rfl, g4.fh _ _ hx, by rfl, F4, ml, mEnd1, rfl, g4.fh, hm, by decide, fun p ws F' H' g h1 h2 h3 h4 => q3 _ (upd F' p (.lst ws)) H' (g4.trans (g.take h1 h2 h3)) (.lst (SqL.of upd_same) (dps_ex (Ex.new h2) h4))⟩
    have nam1 : EvD K (tMeth C "names" (spNames K C) [] E0 (tMake C (spMillInit K C) [] E0 (tCons (tLst (tCons (tTup (tCons (tC (.str "a1b2c3d4")) (tCons (tC .non) tNil))) tNil)) (tCons (tLst tNil) tNil))) tNil) [some (.ref a), s1, s2, some pt, s4, s5, none] F2 (.list []) := fun H3 e3 Q3 q3 =>
      ev_mill (K := K) (C := C) (E := E0) (m := mEnd2) (F := F2) (Dv.ea_cons (EvL.ev (Dv.el_lst (Dv.ea_cons (Dv.ev_tup (Dv.ea_cons (Dv.ev_str "a1b2c3d4") (Dv.ea_cons Dv.ev_non Dv.ea_nil)) (by simp)) Dv.ea_nil) (by decide))) (Dv.ea_cons emp Dv.ea_nil)) mEnd2_ok H3 e3 _ fun ml F4 H4 g4 hm => by
        obtain ⟨dx, ro, sp, ru, v1, v2, v3, hx, _⟩ := hm.ex
        exact ⟨ml, dx, _, rfl, g4.fh _ _ hx, by rfl, F4, ml, mEnd2, rfl, g4.fh, hm, fun p ws F' H' g h1 h2 h3 h4 => q3 _ (upd F' p (.lst ws)) H' (g4.trans (g.take h1 h2 h3)) (.lst (SqL.of upd_same) (dps_ex (Ex.new h2) h4))⟩
    exact Dv.s_ret (K := K) (F := F2) (d := .bool true) (ev_andT (Dv.ev_is (Dv.ev_eqD rec1 emp (by decide +kernel) (by decide +kernel)) (congrArg PyData.bool (by decide +kernel))) (Dv.ev_is (Dv.ev_eqD nam1 emp (by decide +kernel) (by decide +kernel)) (congrArg PyData.bool (by decide +kernel)))) e2' fun v F3 H3 g3 hv => by
      cases hv
      exact q H3
end
end R3

set_option Elab.async false
set_option linter.all false
set_option maxRecDepth 100000
set_option maxHeartbeats 4000000
/-! GENERAL: what an END has to tell of defs, of own errors and of classes. -/
namespace Hd
open PySem PySem.Spec PyProof.Rows PySem.Xn PySem.W
abbrev veT (ME : Addr) : List Value := [.ref ME, .type "ValueError", .type "Exception", .type "BaseException", .type "object"]
section
variable {P : Program} {K : Frag} {h : Heap} {mg : Str → Option Value} {cn fld qual file : Str} {C ME fI cda cc da N : Addr} {nm q0 : Str} {bs : List Value} {sn : List Str} {sub : List Value} {ab : Bool} {col : Option Bool}
  {dd od an cdd cld ddi : Option Addr} {k0 k1 k2 k3 k5 : Option Value} {oc doc pm ct ccl cl dcl : Value} {osl ccs csl dsl : Array (Option Value)} {p1 p2 p3 : Pos} {q : Nat → Pos} {vs : Array Value} {tf : Tok} {dn : Nat} {code : Value}
/-- what is alike for all the classes -/
structure Com (P : Program) (K : Frag) (mg : Str → Option Value) (ME : Addr) : Prop where
  al : alongIn K "__init__" (veT ME) = some (some (.builtin "ValueError.__init__"))
  opq : nsIn K cStatics "thirdparty.any" = some none
  noS : mg "super" = none
  hn : specialIn K (.builtin "object.__class__") "__get__" = some (some (.builtin "getset_descriptor.__get__"))
  ht : takesIn K (.builtin "object.__class__") = some true
/-- what is asked of each class -/
structure One (K : Frag) (mg : Str → Option Value) (cn : Str) (C : Addr) (bm : List Value) : Prop where
  g : mg cn = some (.ref C)
  l : ∃ nm q N bs sn sub ab col dd k0 k1 k2 k3 k5, K.lookup C = some (excClassObj nm q C N bs bm true sn sub ab col dd k0 k1 k2 k3 k5 "ValueError.__new__")
  ga : findIn K (.ref C) "__getattribute__" = some (some (.builtin "BaseException.__getattribute__"))
  gg : findIn K (.ref C) "__getattr__" = some none
  ha : findIn K (.ref C) "__class__" = some (some (.builtin "object.__class__"))
variable {bm : List Value}
theorem One.cd (O : One K mg cn C bm) : ∃ cd : ClassData, clsIn K C = some cd ∧ cd.mro = .ref C :: bm ∧ cd.hasDict = true := by
  obtain ⟨nm, q, N, bs, sn, sub, ab, col, dd, k0, k1, k2, k3, k5, e⟩ := O.l
  exact ⟨_, by unfold clsIn; rw [e] <;> rfl, rfl, rfl⟩
theorem One.mro (O : One K mg cn C bm) (b : Value) : mroIn K C b = some ((.ref C :: bm : List Value).contains b) := by
  obtain ⟨cd, e, m, _⟩ := O.cd
  unfold mroIn
  rw [e]
  show (if cd.mro.isEmpty = true then none else some (cd.mro.contains b)) = _
  rw [m] <;> rfl
theorem One.ty (O : One K mg cn C bm) : typeIn K (.ref C) = some (.type "type") := by
  obtain ⟨nm, q, N, bs, sn, sub, ab, col, dd, k0, k1, k2, k3, k5, e⟩ := O.l
  show (K.lookup C).map (·.cls) = _
  rw [e] <;> rfl
theorem One.exC (O : One K mg cn C bm) (c : Com P K mg ME) (h1 : bm.contains (.type "BaseException") = true) (h2 : bm.contains (.type "object") = true) : L2.ExC K C := by
  obtain ⟨cd, e, m, _⟩ := O.cd
  refine ⟨by rw [e] <;> rfl, O.ga, O.gg, ?_, O.ha, c.hn, c.ht, ?_⟩
  · show mroIn K C (.type "BaseException") = _
    rw [O.mro, List.contains_cons, h1]
    simp
  · rw [O.mro, List.contains_cons, h2]
    simp
theorem contains_ne {x c : Addr} {l : List Value} (h : x ≠ c) : ((.ref c :: l : List Value).contains (.ref x)) = l.contains (.ref x) := by
  rw [List.contains_cons]
  have e : ((Value.ref x) == (.ref c)) = false := by
    apply Bool.eq_false_iff.mpr
    intro z
    have := eq_of_beq z
    cases this
    exact h rfl
  rw [e, Bool.false_or]
theorem kit_own (O : One K mg cn C bm) {cn' : Str} {D : Addr} {bm' : List Value} (O' : One K mg cn' D bm') :
    kitOne K (.ref C) (.ref D) = some (decide (C = D) || bm.contains (.ref D)) := by
  unfold kitOne
  by_cases e : C = D
  · subst e
    rw [if_pos (by simp)]
    simp
  · rw [if_neg (fun z => e (by have := eq_of_beq z; cases this; rfl))]
    unfold kitCls
    have hd : ((clsIn K D).isSome && typeIn K (.ref D) == some (.type "type")) = true := by
      obtain ⟨cd, q, _⟩ := O'.cd
      rw [q, O'.ty]
      rfl
    try dsimp only
    rw [if_pos hd]
    show mroIn K C (.ref D) = _
    rw [O.mro, contains_ne (Ne.symm e)]
    simp [e]
theorem kit_VE (O : One K mg cn C bm) (h : bm.contains (.type "ValueError") = true) : kitOne K (.ref C) (.type "ValueError") = some true := by
  unfold kitOne
  rw [if_neg (fun z => by have := eq_of_beq z; cases this)]
  unfold kitCls
  dsimp only
  rw [if_pos (by decide +kernel)]
  show mroIn K C (.type "ValueError") = _
  rw [O.mro, List.contains_cons, h]
  simp
theorem ext_mk (c : Com P K mg ME) (O : One K mg cn C (veT ME))
    (sa : findIn K (.ref C) "__setattr__" = some (some (.builtin "object.__setattr__"))) (nb : findIn K (.ref C) fld = some none) (iC : findIn K (.ref C) "__init__" = some (some (.ref fI))) (kC : keepIn K (.ref C) = true)
    (l1 : K.lookup fI = some ⟨.type "function", od, .func (ksFn "__init__" qual (iA fld p1 p2 p3) (iB fld q) (iS fld) (.ref da) .none doc pm an (.ref cda) ct cc), osl⟩) (c1 : codeIn K (.ref cda) qual = true)
    (l2 : K.lookup cda = some ⟨ccl, cdd, .fields vs, ccs⟩) (v2 : vs[2]? = some (.str file tf)) (hf : ((P.main.file : Str) == file) = true)
    (l3 : K.lookup cc = some ⟨cl, cld, .cell (some (.ref C)), csl⟩) (l4 : K.lookup da = some ⟨dcl, ddi, .seq #[.none] dn, dsl⟩)
    (tx : TextOk fld q) (bd : BindOk fld (ksFn "__init__" qual (iA fld p1 p2 p3) (iB fld q) (iS fld) (.ref da) .none doc pm an (.ref cda) ct cc) da)
    (nc : (fld == ("__debug__" : Str)) = false ∧ ¬ (fld = ("self" : Str)) ∧ ¬ (fld = ("__class__" : Str)) ∧ ¬ (fld = ("super" : Str))) : ExT P K mg cn fld C fI where
  gC := O.g
  cls := by
    obtain ⟨nm, q, N, bs, sn, sub, ab, col, dd, k0, k1, k2, k3, k5, e⟩ := O.l
    exact ⟨nm, q, N, bs, _, sn, sub, ab, col, dd, k0, k1, k2, k3, k5, e, rfl, c.al⟩
  sa := sa
  ga := O.ga
  gg := O.gg
  noN := nb
  iC := iC
  tC := by
    show (K.lookup fI).map (·.cls) = _
    rw [l1] <;> rfl
  kC := kC
  exC := by
    show mroIn K C (.type "BaseException") = _
    rw [O.mro]
    rfl
  exV := by
    show mroIn K C (.type "ValueError") = _
    rw [O.mro]
    rfl
  exO := by
    rw [O.mro]
    rw [List.contains_cons]
    simp
  tyC := O.ty
  hdC := by
    obtain ⟨cd, e, m, d⟩ := O.cd
    unfold hasDictIn
    rw [e]
    exact d
  opq := c.opq
  noS := c.noS
  fn := ⟨_, od, qual, .ref da, doc, pm, an, cda, cc, ct, osl, p1, p2, p3, q, ccl, cdd, vs, ccs, file, tf, cl, cld, csl, dcl, ddi, dn, dsl, da, l1, c1, l2, v2, hf, l3, tx, bd, rfl, l4⟩
  nclash := nc
abbrev veT0 : List Value := [.type "ValueError", .type "Exception", .type "BaseException", .type "object"]
end
section
variable {P : Program} {K : Frag} {h : Heap} {mg : Str → Option Value} {cn fld qual file : Str} {C ME fI cda cc da N : Addr} {nm q0 : Str} {bs bm : List Value} {sn : List Str} {sub : List Value} {ab : Bool} {col : Option Bool}
  {dd od an cdd cld ddi : Option Addr} {k0 k1 k2 k3 k5 : Option Value} {oc doc pm ct ccl cl dcl : Value} {osl ccs csl dsl : Array (Option Value)} {p1 p2 p3 : Pos} {q : Nat → Pos} {vs : Array Value} {tf : Tok} {dn : Nat} {code : Value}
theorem one_mk (X : K.In h) (G : h.Ns mainGlobals mg) (a : nsIn K mainGlobals cn = some (some (.ref C)))
    (l : K.lookup C = some (excClassObj nm q0 C N bs bm true sn sub ab col dd k0 k1 k2 k3 k5 "ValueError.__new__"))
    (ga : findIn K (.ref C) "__getattribute__" = some (some (.builtin "BaseException.__getattribute__"))) (gg : findIn K (.ref C) "__getattr__" = some none) (ha : findIn K (.ref C) "__class__" = some (some (.builtin "object.__class__"))) : One K mg cn C bm :=
  ⟨mg_of X G a, ⟨_, _, _, _, _, _, _, _, _, _, _, _, _, _, l⟩, ga, gg, ha⟩
theorem ext_one (X : K.In h) (G : h.Ns mainGlobals mg) (c : Com P K mg ME) (a : nsIn K mainGlobals cn = some (some (.ref C)))
    (l : K.lookup C = some (excClassObj nm q0 C N bs (veT ME) true sn sub ab col dd k0 k1 k2 k3 k5 "ValueError.__new__"))
    (ga : findIn K (.ref C) "__getattribute__" = some (some (.builtin "BaseException.__getattribute__"))) (gg : findIn K (.ref C) "__getattr__" = some none) (ha : findIn K (.ref C) "__class__" = some (some (.builtin "object.__class__")))
    (sa : findIn K (.ref C) "__setattr__" = some (some (.builtin "object.__setattr__"))) (nb : findIn K (.ref C) fld = some none) (iC : findIn K (.ref C) "__init__" = some (some (.ref fI))) (kC : keepIn K (.ref C) = true)
    (l1 : K.lookup fI = some ⟨.type "function", od, .func (ksFn "__init__" qual (iA fld p1 p2 p3) (iB fld q) (iS fld) (.ref da) .none doc pm an (.ref cda) ct cc), osl⟩) (c1 : codeIn K (.ref cda) qual = true)
    (l2 : K.lookup cda = some ⟨ccl, cdd, .fields vs, ccs⟩) (v2 : vs[2]? = some (.str file tf)) (hf : ((P.main.file : Str) == file) = true)
    (l3 : K.lookup cc = some ⟨cl, cld, .cell (some (.ref C)), csl⟩) (l4 : K.lookup da = some ⟨dcl, ddi, .seq #[.none] dn, dsl⟩)
    (tx : TextOk fld q) (bd : BindOk fld (ksFn "__init__" qual (iA fld p1 p2 p3) (iB fld q) (iS fld) (.ref da) .none doc pm an (.ref cda) ct cc) da)
    (nc : (fld == ("__debug__" : Str)) = false ∧ ¬ (fld = ("self" : Str)) ∧ ¬ (fld = ("__class__" : Str)) ∧ ¬ (fld = ("super" : Str))) : ExT P K mg cn fld C fI ∧ One K mg cn C (veT ME) :=
  have O := one_mk X G a l ga gg ha
  ⟨ext_mk c O sa nb iC kC l1 c1 l2 v2 hf l3 l4 tx bd nc, O⟩
end
theorem bd_value {qual : Str} {p1 p2 p3 : Pos} {q : Nat → Pos} {doc pm ct : Value} {an : Option Addr} {cda cc da : Addr} : BindOk "value" (ksFn "__init__" qual (iA "value" p1 p2 p3) (iB "value" q) (iS "value") (.ref da) .none doc pm an (.ref cda) ct cc) da := ⟨fun _ _ => ⟨_, rfl, rfl⟩, fun _ _ => ⟨_, rfl, rfl⟩, fun _ => ⟨_, rfl, rfl⟩⟩
end Hd
namespace Hd
open PySem PySem.Spec PyProof.Rows L2
structure DefIn (K : PySem.W.Frag) (nm : Str) (st : Stmt) : Prop where
  ex : ∃ f fd, PySem.W.nsIn K mainGlobals nm = some (some (.ref f)) ∧ Fun K nm nm st f fd
theorem def_in {K : PySem.W.Frag} {nm : Str} {st : Stmt} {f : Addr} {oc : Value} {od an : Option Addr} {osl : Array (Option Value)} {kV doc pm cdv ct : Value} (a : PySem.W.nsIn K mainGlobals nm = some (some (.ref f)))
    (l : K.lookup f = some ⟨oc, od, .func (PySem.W.fnOf nm nm (defArgs st) (defBody st) (defScope st) .none kV doc pm an cdv ct), osl⟩)
    (c : PySem.W.codeIn K cdv nm = true) (k : PySem.W.keepIn K (.ref f) = true) : DefIn K nm st := ⟨_, _, a, fun_mk (st := st) l c k⟩
theorem def_of {K : PySem.W.Frag} {h : Heap} {mg : Str → Option Value} {nm : Str} {st : Stmt} {ps : List Str} (X : K.In h) (G : h.Ns mainGlobals mg) (d : DefIn K nm st) (b : ∀ f fd, Fun K nm nm st f fd → Binds K fd ps []) : Dv.Def K mg nm st ps := by
  obtain ⟨f, fd, a, F⟩ := d.ex
  exact ⟨f, fd, PySem.W.mg_of X G a, F, b f fd F⟩
/-- a class and its __init__ -/
structure ClsIn (K : PySem.W.Frag) (nm qi : Str) (st : Stmt) (C : Addr) : Prop where
  g : PySem.W.nsIn K mainGlobals nm = some (some (.ref C))
  cl : Cls K C
  ini : ∃ f fd, Mk K C f ∧ Fun K "__init__" qi st f fd
theorem cls_in {K : PySem.W.Frag} {nm qi : Str} {st : Stmt} {C f : Addr} {oc : Value} {od an : Option Addr} {osl : Array (Option Value)} {kV doc pm cdv ct : Value} (g : PySem.W.nsIn K mainGlobals nm = some (some (.ref C)))
    (pg : PySem.W.plainGet K C Str.empty = true) (hd : PySem.W.hasDictIn K C = true) (po : PySem.W.plainOver K C = true) (sa : PySem.W.findIn K (.ref C) "__setattr__" = some (some (.builtin "object.__setattr__")))
    (mk : PySem.W.makesIn K C = true) (i : PySem.W.findIn K (.ref C) "__init__" = some (some (.ref f))) (fn : PySem.W.isFn K (.ref f) = true) (kc : PySem.W.keepIn K (.ref C) = true)
    (l : K.lookup f = some ⟨oc, od, .func (PySem.W.fnOf "__init__" qi (defArgs st) (defBody st) (defScope st) .none kV doc pm an cdv ct), osl⟩)
    (c : PySem.W.codeIn K cdv qi = true) (k : PySem.W.keepIn K (.ref f) = true) : ClsIn K nm qi st C := ⟨g, ⟨pg, hd, po, sa⟩, _, _, ⟨mk, i, fn, kc⟩, fun_mk (st := st) l c k⟩
end Hd

set_option Elab.async false
set_option linter.all false
set_option maxRecDepth 100000
set_option maxHeartbeats 4000000
namespace Hd
open PySem PySem.Spec PyProof.Rows L2
/-- a method of a class -/
structure MethIn (K : PySem.W.Frag) (C : Addr) (m qual : Str) (st : Stmt) : Prop where
  ex : ∃ f fd, Meth K C m f ∧ Fun K m qual st f fd
theorem meth_in {K : PySem.W.Frag} {m qual : Str} {st : Stmt} {C f : Addr} {oc : Value} {od an : Option Addr} {osl : Array (Option Value)} {kV doc pm cdv ct : Value} (a : PySem.W.findIn K (.ref C) m = some (some (.ref f))) (fn : PySem.W.isFn K (.ref f) = true)
    (l : K.lookup f = some ⟨oc, od, .func (PySem.W.fnOf m qual (defArgs st) (defBody st) (defScope st) .none kV doc pm an cdv ct), osl⟩)
    (c : PySem.W.codeIn K cdv qual = true) (k : PySem.W.keepIn K (.ref f) = true) : MethIn K C m qual st := ⟨_, _, ⟨a, fn, k⟩, fun_mk (st := st) l c k⟩
theorem meth_of {K : PySem.W.Frag} {C : Addr} {m qual : Str} {st : Stmt} {ps : List Str} (d : MethIn K C m qual st) (b : ∀ f fd, Fun K m qual st f fd → Binds K fd ("self" :: ps) []) : Dv.DefM K C m qual st ps := by
  obtain ⟨f, fd, a, F⟩ := d.ex
  exact ⟨f, fd, a, F, b f fd F⟩
end Hd
namespace R3
open PySem PySem.Spec PyProof.Rows L2 Hd
def p0 : Pos := ⟨0, 0, 0, 0⟩
def qL : List (List Pos) := [[⟨17, 8, 17, 13⟩, ⟨17, 8, 17, 15⟩, ⟨17, 8, 17, 24⟩, ⟨17, 25, 17, 30⟩, ⟨17, 8, 17, 31⟩, ⟨18, 8, 18, 12⟩, ⟨18, 8, 18, 18⟩, ⟨18, 21, 18, 26⟩, ⟨18, 8, 18, 26⟩],
  [⟨7, 8, 7, 13⟩, ⟨7, 8, 7, 15⟩, ⟨7, 8, 7, 24⟩, ⟨7, 25, 7, 30⟩, ⟨7, 8, 7, 31⟩, ⟨8, 8, 8, 12⟩, ⟨8, 8, 8, 18⟩, ⟨8, 21, 8, 26⟩, ⟨8, 8, 8, 26⟩],
  [⟨12, 8, 12, 13⟩, ⟨12, 8, 12, 15⟩, ⟨12, 8, 12, 24⟩, ⟨12, 25, 12, 30⟩, ⟨12, 8, 12, 31⟩, ⟨13, 8, 13, 12⟩, ⟨13, 8, 13, 18⟩, ⟨13, 21, 13, 26⟩, ⟨13, 8, 13, 26⟩]]
def pL : List (List Pos) := [[⟨16, 17, 16, 21⟩, ⟨16, 23, 16, 28⟩, ⟨16, 29, 16, 33⟩],
  [⟨6, 17, 6, 21⟩, ⟨6, 23, 6, 28⟩, ⟨6, 29, 6, 33⟩],
  [⟨11, 17, 11, 21⟩, ⟨11, 23, 11, 28⟩, ⟨11, 29, 11, 33⟩]]
abbrev qq (i : Nat) : Nat → Pos := fun j => (qL.getD i []).getD j p0
abbrev pp (i j : Nat) : Pos := (pL.getD i []).getD j p0
theorem tx0 : PySem.Xn.TextOk "value" (qq 0) := ⟨⟨_, fun _ => rfl⟩, fun _ => rfl, fun _ => rfl, fun _ => rfl, fun _ => rfl⟩
theorem tx1 : PySem.Xn.TextOk "value" (qq 1) := ⟨⟨_, fun _ => rfl⟩, fun _ => rfl, fun _ => rfl, fun _ => rfl, fun _ => rfl⟩
theorem tx2 : PySem.Xn.TextOk "value" (qq 2) := ⟨⟨_, fun _ => rfl⟩, fun _ => rfl, fun _ => rfl, fun _ => rfl, fun _ => rfl⟩
section
variable {P : Program} {w : World} {K : PySem.W.Frag} {h : Heap} {mg : Str → Option Value} {fa C CM CX CI CE fM fX fI' : Addr}
/-- what is written of the names that hold things -/
structure Words (K : PySem.W.Frag) : Prop where
  letters : ∃ t, PySem.W.nsIn K mainGlobals "LETTERS" = some (some (.str "abcdefghijklmnopqrstuvwxyz" t))
  figures : ∃ t, PySem.W.nsIn K mainGlobals "FIGURES" = some (some (.str "0123456789" t))
  mostName : ∃ t, PySem.W.nsIn K mainGlobals "MOST_NAME" = some (some (.int 8 t))
  mostStuffs : ∃ t, PySem.W.nsIn K mainGlobals "MOST_STUFFS" = some (some (.int 8 t))
  mostRecipes : ∃ t, PySem.W.nsIn K mainGlobals "MOST_RECIPES" = some (some (.int 8 t))
  mostNumber : ∃ t, PySem.W.nsIn K mainGlobals "MOST_NUMBER" = some (some (.int 1000000 t))
theorem words_mk {K : PySem.W.Frag} {t0 t1 t2 t3 t4 t5 : Tok} (w0 : PySem.W.nsIn K mainGlobals "LETTERS" = some (some (.str "abcdefghijklmnopqrstuvwxyz" t0))) (w1 : PySem.W.nsIn K mainGlobals "FIGURES" = some (some (.str "0123456789" t1))) (w2 : PySem.W.nsIn K mainGlobals "MOST_NAME" = some (some (.int 8 t2)))
    (w3 : PySem.W.nsIn K mainGlobals "MOST_STUFFS" = some (some (.int 8 t3))) (w4 : PySem.W.nsIn K mainGlobals "MOST_RECIPES" = some (some (.int 8 t4))) (w5 : PySem.W.nsIn K mainGlobals "MOST_NUMBER" = some (some (.int 1000000 t5))) : Words K := ⟨⟨_, w0⟩, ⟨_, w1⟩, ⟨_, w2⟩, ⟨_, w3⟩, ⟨_, w4⟩, ⟨_, w5⟩⟩
structure NoWords (K : PySem.W.Frag) : Prop where
  z_int : PySem.W.nsIn K mainGlobals "int" = some none
  z_bool : PySem.W.nsIn K mainGlobals "bool" = some none
  z_str : PySem.W.nsIn K mainGlobals "str" = some none
  z_list : PySem.W.nsIn K mainGlobals "list" = some none
  z_tuple : PySem.W.nsIn K mainGlobals "tuple" = some none
  z_dict : PySem.W.nsIn K mainGlobals "dict" = some none
  z_len : PySem.W.nsIn K mainGlobals "len" = some none
  z_range : PySem.W.nsIn K mainGlobals "range" = some none
  z_sum : PySem.W.nsIn K mainGlobals "sum" = some none
  z_max : PySem.W.nsIn K mainGlobals "max" = some none
  z_abs : PySem.W.nsIn K mainGlobals "abs" = some none
  z_isinstance : PySem.W.nsIn K mainGlobals "isinstance" = some none
  z_repr : PySem.W.nsIn K mainGlobals "repr" = some none
  z_zip : PySem.W.nsIn K mainGlobals "zip" = some none
  z_enumerate : PySem.W.nsIn K mainGlobals "enumerate" = some none
structure DefsIn (K : PySem.W.Frag) : Prop where
  d_is_whole : DefIn K "is_whole" sIsWhole
  d_is_name : DefIn K "is_name" sIsName
  d_check_size : DefIn K "check_size" sCheckSize
  d_is_number : DefIn K "is_number" sIsNumber
  d_is_stuff : DefIn K "is_stuff" sIsStuff
  d_are_parts : DefIn K "are_parts" sAreParts
  d_is_recipe : DefIn K "is_recipe" sIsRecipe
  d_check_mill : DefIn K "check_mill" sCheckMill
  d_turned : DefIn K "turned" sTurned
  d__law_hash : DefIn K "_law_hash" sLawHash
  d__law_random : DefIn K "_law_random" sLawRandom
  d__law_parts_drawn : DefIn K "_law_parts_drawn" sLawPartsDrawn
  d__law_mill_drawn : DefIn K "_law_mill_drawn" sLawMillDrawn
  d__law_cell : DefIn K "_law_cell" sLawCell
  d__law_generator : DefIn K "_law_generator" sLawGenerator
  d__law_copied : DefIn K "_law_copied" sLawCopied
  d__law_caught : DefIn K "_law_caught" sLawCaught
  d__law_made_right : DefIn K "_law_made_right" sLawMadeRight
  d__law_two : DefIn K "_law_two" sLawTwo
  d__law_unlike_right : DefIn K "_law_unlike_right" sLawUnlikeRight
  d__law_odd_names : DefIn K "_law_odd_names" sLawOddNames
  d__law_odd_stuffs : DefIn K "_law_odd_stuffs" sLawOddStuffs
  d__law_odd_recipes : DefIn K "_law_odd_recipes" sLawOddRecipes
  d__law_refused : DefIn K "_law_refused" sLawRefused
  d__law_twice_refused : DefIn K "_law_twice_refused" sLawTwiceRefused
  d_law : DefIn K "law" sLaw
/-- what is asked of the classes -/
structure ClsOf (K : PySem.W.Frag) (C : Addr) : Prop where
  mill : ClsIn K "Mill" "Mill.__init__" sMillInit C
  m1 : PySem.W.findIn K (.ref C) "rooms" = some none
  m2 : PySem.W.findIn K (.ref C) "spots" = some none
  m3 : PySem.W.findIn K (.ref C) "rules" = some none
  k_stuffs : MethIn K C "stuffs" "Mill.stuffs" sMillStuffs
  k_recipes : MethIn K C "recipes" "Mill.recipes" sMillRecipes
  k_names : MethIn K C "names" "Mill.names" sMillNames
  k_eq : MethIn K C "__eq__" "Mill.__eq__" sMillEq
  ha : PySem.W.findIn K (.ref C) "__class__" = some (some (.builtin "object.__class__"))
  hm : PySem.W.mroIn K C (.type "object") = some true
  me : PySem.W.kitOne K (.ref C) (.ref C) = some true
  ne : PySem.W.findIn K (.ref C) "__ne__" = some (some (.builtin "object.__ne__"))
  n1 : PySem.W.kitOne K (.type "NoneType") (.ref C) = some false
  n2 : PySem.W.kitOne K (.type "bool") (.ref C) = some false
  n3 : PySem.W.kitOne K (.type "int") (.ref C) = some false
  n4 : PySem.W.kitOne K (.type "str") (.ref C) = some false
  n5 : PySem.W.kitOne K (.type "list") (.ref C) = some false
  n6 : PySem.W.kitOne K (.type "tuple") (.ref C) = some false
  n7 : PySem.W.kitOne K (.type "dict") (.ref C) = some false
  s1 : PySem.W.mroIn K C (.type "NoneType") = some false
  s2 : PySem.W.mroIn K C (.type "bool") = some false
  s3 : PySem.W.mroIn K C (.type "int") = some false
  s4 : PySem.W.mroIn K C (.type "str") = some false
  s5 : PySem.W.mroIn K C (.type "list") = some false
  s6 : PySem.W.mroIn K C (.type "tuple") = some false
  s7 : PySem.W.mroIn K C (.type "dict") = some false
theorem all_mk (X : K.In h) (Gl : h.Ns mainGlobals mg) (hfa : mg "law" = some (.ref fa)) (ht : (P.main.scope.names.lookup ("super" : Str)).isSome = false) (Z : NoWords K) (WO : Words K) (DD : DefsIn K) (CO : ClsOf K C)
    (c : Com P K mg CE) (eM : PySem.Xn.ExT P K mg "InvalidMill" "value" CM fM ∧ One K mg "InvalidMill" CM (veT CE)) (eX : PySem.Xn.ExT P K mg "InvalidList" "value" CX fX ∧ One K mg "InvalidList" CX (veT CE)) (eI : PySem.Xn.ExT P K mg "InvalidItem" "value" CI fI' ∧ One K mg "InvalidItem" CI (veT CE)) (oE : One K mg "MillError" CE veT0)
    (ne1 : CM ≠ CX) (ne2 : CM ≠ CI) (ne3 : CX ≠ CI) (neM : CM ≠ CE) (neX : CX ≠ CE) (neI : CI ≠ CE) (hE : PySem.W.hasDictIn K CE = true) :
    ∃ fd : FuncData, (∀ (s : Shared) (v : Value), BindsTo s fd ⟨[v], []⟩ [("script", v)]) ∧ ∀ base : Heap, K.In base → base.Ns mainGlobals mg → FnOkG P w K mg base CX0 9 fa fd ["script"] (spLaw K) := by
  have nn : ∀ {n : Str}, PySem.W.nsIn K mainGlobals n = some none → mg n = none := fun e => PySem.W.mg_none_of X Gl e
  have B : Bl mg := ⟨nn Z.z_int, nn Z.z_bool, nn Z.z_str, nn Z.z_list, nn Z.z_tuple, nn Z.z_dict, nn Z.z_len, nn Z.z_range, nn Z.z_sum, nn Z.z_max, nn Z.z_abs, nn Z.z_isinstance, nn Z.z_repr, nn Z.z_zip, nn Z.z_enumerate⟩
  have CC : Cst mg := ⟨WO.letters.imp fun _ e => PySem.W.mg_of X Gl e, WO.figures.imp fun _ e => PySem.W.mg_of X Gl e, WO.mostName.imp fun _ e => PySem.W.mg_of X Gl e, WO.mostStuffs.imp fun _ e => PySem.W.mg_of X Gl e, WO.mostRecipes.imp fun _ e => PySem.W.mg_of X Gl e, WO.mostNumber.imp fun _ e => PySem.W.mg_of X Gl e⟩
  have gC := PySem.W.mg_of X Gl CO.mill.g
  have MC : MillC K C := ⟨CO.mill.cl, CO.m1, CO.m2, CO.m3⟩
  have IC : C8.InsC K C := ⟨CO.mill.cl, CO.ha, c.hn, c.ht, CO.hm, CO.me⟩
  have NC : MillN K C := ⟨fun t ht => by
    simp only [List.mem_cons, List.not_mem_nil, or_false] at ht
    rcases ht with rfl | rfl | rfl | rfl | rfl | rfl | rfl
    · exact CO.n1
    · exact CO.n2
    · exact CO.n3
    · exact CO.n4
    · exact CO.n5
    · exact CO.n6
    · exact CO.n7⟩
  have EM : ErrC P K mg "InvalidMill" CM := ⟨⟨_, eM.1⟩, ht⟩
  have EC : NeC K C := ⟨CO.ne, CO.hm, ⟨fun t ht => by
    simp only [List.mem_cons, List.not_mem_nil, or_false] at ht
    rcases ht with rfl | rfl | rfl | rfl | rfl | rfl | rfl
    · exact CO.s1
    · exact CO.s2
    · exact CO.s3
    · exact CO.s4
    · exact CO.s5
    · exact CO.s6
    · exact CO.s7⟩⟩
  have EL : ErrC P K mg "InvalidList" CX := ⟨⟨_, eX.1⟩, ht⟩
  have EI : ErrC P K mg "InvalidItem" CI := ⟨⟨_, eI.1⟩, ht⟩
  have xE : ∀ {cn : Str} {D : Addr}, One K mg cn D (veT CE) → PySem.W.exmOne K (.ref D) (.ref CE) = some true := fun {cn D} O => by
    refine PySem.W.exm_ref ?_ hE oE.ty ?_
    · show PySem.W.mroIn K CE (.type "BaseException") = _
      rw [oE.mro]
      rfl
    · show PySem.W.mroIn K D (.ref CE) = _
      rw [O.mro, List.contains_cons, List.contains_cons]
      simp
  have kk : ∀ {cn cn' : Str} {D D' : Addr}, One K mg cn D (veT CE) → One K mg cn' D' (veT CE) → D' ≠ CE → PySem.W.kitOne K (.ref D) (.ref D') = some (decide (D = D')) := fun {cn cn' D D'} O O' hn => by
    rw [kit_own O O', show veT CE = .ref CE :: veT0 from rfl, contains_ne hn]
    have : veT0.contains (.ref D') = false := by simp
    rw [this, Bool.or_false]
  have ER : ErrsC K mg CX CI CE := ⟨oE.g, eX.2.g, eI.2.g, xE eX.2, xE eI.2, eX.2.exC c rfl rfl, eI.2.exC c rfl rfl, by rw [kk eX.2 eX.2 neX, decide_eq_true rfl], by rw [kk eX.2 eI.2 neI, decide_eq_false ne3], by rw [kk eI.2 eX.2 neX, decide_eq_false (Ne.symm ne3)], by rw [kk eI.2 eI.2 neI, decide_eq_true rfl], ⟨eX.1.ga, eX.1.gg, eX.1.exC, eX.1.hdC⟩, ⟨eI.1.ga, eI.1.gg, eI.1.exC, eI.1.hdC⟩, eX.1.noN, eI.1.noN⟩
  have XX : XM K mg CM := ⟨eM.2.g, PySem.W.exm_ref (by
    show PySem.W.mroIn K CM (.type "BaseException") = _
    rw [eM.2.mro]
    rfl) eM.1.hdC eM.2.ty (by
    show PySem.W.mroIn K CM (.ref CM) = _
    rw [eM.2.mro, List.contains_cons]
    simp), eM.2.exC c rfl rfl, ⟨eM.1.ga, eM.1.gg, eM.1.exC, eM.1.hdC⟩, eM.1.noN⟩
  have D_is_whole := def_of (ps := ["value"]) X Gl DD.d_is_whole fun f fd F => F.binds fun _ _ _ _ _ _ us hl => match us, hl with | [_], _ => rfl
  have D_is_name := def_of (ps := ["value"]) X Gl DD.d_is_name fun f fd F => F.binds fun _ _ _ _ _ _ us hl => match us, hl with | [_], _ => rfl
  have D_check_size := def_of (ps := ["value", "least", "most"]) X Gl DD.d_check_size fun f fd F => F.binds fun _ _ _ _ _ _ us hl => match us, hl with | [_, _, _], _ => rfl
  have D_is_number := def_of (ps := ["value", "least"]) X Gl DD.d_is_number fun f fd F => F.binds fun _ _ _ _ _ _ us hl => match us, hl with | [_, _], _ => rfl
  have D_is_stuff := def_of (ps := ["value"]) X Gl DD.d_is_stuff fun f fd F => F.binds fun _ _ _ _ _ _ us hl => match us, hl with | [_], _ => rfl
  have D_are_parts := def_of (ps := ["value", "spots"]) X Gl DD.d_are_parts fun f fd F => F.binds fun _ _ _ _ _ _ us hl => match us, hl with | [_, _], _ => rfl
  have D_is_recipe := def_of (ps := ["value", "spots"]) X Gl DD.d_is_recipe fun f fd F => F.binds fun _ _ _ _ _ _ us hl => match us, hl with | [_, _], _ => rfl
  have D_check_mill := def_of (ps := ["value"]) X Gl DD.d_check_mill fun f fd F => F.binds fun _ _ _ _ _ _ us hl => match us, hl with | [_], _ => rfl
  have D_turned := def_of (ps := ["mill"]) X Gl DD.d_turned fun f fd F => F.binds fun _ _ _ _ _ _ us hl => match us, hl with | [_], _ => rfl
  have D__law_hash := def_of (ps := ["seed", "index"]) X Gl DD.d__law_hash fun f fd F => F.binds fun _ _ _ _ _ _ us hl => match us, hl with | [_, _], _ => rfl
  have D__law_random := def_of (ps := ["generator", "bound"]) X Gl DD.d__law_random fun f fd F => F.binds fun _ _ _ _ _ _ us hl => match us, hl with | [_, _], _ => rfl
  have D__law_parts_drawn := def_of (ps := ["generator", "stuffs", "most"]) X Gl DD.d__law_parts_drawn fun f fd F => F.binds fun _ _ _ _ _ _ us hl => match us, hl with | [_, _, _], _ => rfl
  have D__law_mill_drawn := def_of (ps := ["generator", "wide", "many"]) X Gl DD.d__law_mill_drawn fun f fd F => F.binds fun _ _ _ _ _ _ us hl => match us, hl with | [_, _, _], _ => rfl
  have D__law_cell := def_of (ps := ["script", "index"]) X Gl DD.d__law_cell fun f fd F => F.binds fun _ _ _ _ _ _ us hl => match us, hl with | [_, _], _ => rfl
  have D__law_generator := def_of (ps := ["script", "index"]) X Gl DD.d__law_generator fun f fd F => F.binds fun _ _ _ _ _ _ us hl => match us, hl with | [_, _], _ => rfl
  have D__law_copied := def_of (ps := ["parts"]) X Gl DD.d__law_copied fun f fd F => F.binds fun _ _ _ _ _ _ us hl => match us, hl with | [_], _ => rfl
  have D__law_caught := def_of (ps := ["stuffs", "recipes"]) X Gl DD.d__law_caught fun f fd F => F.binds fun _ _ _ _ _ _ us hl => match us, hl with | [_, _], _ => rfl
  have D__law_made_right := def_of (ps := ["parts"]) X Gl DD.d__law_made_right fun f fd F => F.binds fun _ _ _ _ _ _ us hl => match us, hl with | [_], _ => rfl
  have D__law_two := def_of (ps := ["name"]) X Gl DD.d__law_two fun f fd F => F.binds fun _ _ _ _ _ _ us hl => match us, hl with | [_], _ => rfl
  have D__law_unlike_right := def_of (ps := ["parts"]) X Gl DD.d__law_unlike_right fun f fd F => F.binds fun _ _ _ _ _ _ us hl => match us, hl with | [_], _ => rfl
  have D__law_odd_names := def_of (ps := []) X Gl DD.d__law_odd_names fun f fd F => F.binds fun _ _ _ _ _ _ us hl => match us, hl with | [], _ => rfl
  have D__law_odd_stuffs := def_of (ps := ["name"]) X Gl DD.d__law_odd_stuffs fun f fd F => F.binds fun _ _ _ _ _ _ us hl => match us, hl with | [_], _ => rfl
  have D__law_odd_recipes := def_of (ps := ["stuff", "name"]) X Gl DD.d__law_odd_recipes fun f fd F => F.binds fun _ _ _ _ _ _ us hl => match us, hl with | [_, _], _ => rfl
  have D__law_refused := def_of (ps := ["generator", "parts"]) X Gl DD.d__law_refused fun f fd F => F.binds fun _ _ _ _ _ _ us hl => match us, hl with | [_, _], _ => rfl
  have D__law_twice_refused := def_of (ps := ["parts"]) X Gl DD.d__law_twice_refused fun f fd F => F.binds fun _ _ _ _ _ _ us hl => match us, hl with | [_], _ => rfl
  have D_law := def_of (ps := ["script"]) X Gl DD.d_law fun f fd F => F.binds fun _ _ _ _ _ _ us hl => match us, hl with | [_], _ => rfl
  have DM_stuffs := meth_of (ps := []) CO.k_stuffs fun f fd F => F.binds fun _ _ _ _ _ _ us hl => match us, hl with | [_], _ => rfl
  have DM_recipes := meth_of (ps := []) CO.k_recipes fun f fd F => F.binds fun _ _ _ _ _ _ us hl => match us, hl with | [_], _ => rfl
  have DM_names := meth_of (ps := []) CO.k_names fun f fd F => F.binds fun _ _ _ _ _ _ us hl => match us, hl with | [_], _ => rfl
  have DM_eq := meth_of (ps := ["other"]) CO.k_eq fun f fd F => F.binds fun _ _ _ _ _ _ us hl => match us, hl with | [_, _], _ => rfl
  obtain ⟨f0, fd0, a0, F0, b0⟩ := D_law.ex
  have e0 := hfa.symm.trans a0
  cases e0
  refine ⟨fd0, fun s v => ?_, fun base _ _ => ?_⟩
  · obtain ⟨⟨oc, od, kV, doc, pm, an, cdv, ct, osl, rfl, lk, hcd⟩, _⟩ := F0
    exact .of_eq rfl
  obtain ⟨fI, fdI, MkC, FI⟩ := CO.mill.ini

  have C_is_whole := ok_is_whole (P := P) (w := w) (base := base) D_is_whole B
  have C_is_name := ok_is_name (P := P) (w := w) (base := base) D_is_name B CC
  have C_is_number := ok_is_number (P := P) (w := w) (base := base) D_is_number CC C_is_whole
  have C_is_stuff := ok_is_stuff (P := P) (w := w) (base := base) D_is_stuff B C_is_name C_is_number
  have C_are_parts := ok_are_parts (P := P) (w := w) (base := base) D_are_parts B C_is_name C_is_number
  have C_is_recipe := ok_is_recipe (P := P) (w := w) (base := base) D_is_recipe B C_is_name C_are_parts
  have C_check_size := ok_check_size (P := P) (w := w) (base := base) D_check_size B
  have M_Mill : Dv.Mak P w K mg base "Mill" C ["stuffs", "recipes"] 5 (spMillInit K C) := ⟨fI, fdI, gC, MkC, FI.binds fun _ _ _ _ _ _ us hl => match us, hl with | [_, _, _], _ => rfl, ok_mill_init FI MC B CC C_check_size C_is_stuff C_is_recipe⟩
  have C__law_hash := ok_law_hash (P := P) (w := w) (base := base) D__law_hash B
  have C__law_random := ok_law_random (P := P) (w := w) (base := base) D__law_random B C__law_hash
  have C__law_cell := ok_law_cell (P := P) (w := w) (base := base) D__law_cell B
  have C__law_generator := ok_law_generator (P := P) (w := w) (base := base) D__law_generator B C__law_cell
  have C__law_parts_drawn := ok_law_parts_drawn (P := P) (w := w) (base := base) D__law_parts_drawn B C__law_random
  have C__law_mill_drawn := ok_law_mill_drawn (P := P) (w := w) (base := base) D__law_mill_drawn B C__law_random C__law_parts_drawn
  have C_is_nameN := ok_is_nameN (P := P) (w := w) (base := base) D_is_name B CC
  have C_is_nameZ := nameZ_of C_is_name C_is_nameN
  have C_is_wholeN := ok_is_wholeZ (P := P) (w := w) (base := base) D_is_whole B
  have C_is_numberZ := ok_is_numberZ (P := P) (w := w) (base := base) D_is_number CC C_is_wholeN
  have C_is_stuffZ := ok_is_stuffZ (P := P) (w := w) (base := base) D_is_stuff B C_is_nameZ C_is_numberZ
  have C_are_partsZ := ok_are_partsZ (P := P) (w := w) (base := base) D_are_parts B C_is_nameZ C_is_numberZ
  have C_is_recipeZ := ok_is_recipeZ (P := P) (w := w) (base := base) D_is_recipe B C_is_nameZ C_are_partsZ
  have X_check_size := ok_check_sizeZ (P := P) (w := w) (base := base) D_check_size B EL
  have C_check_mill := ok_check_mill (P := P) (w := w) (base := base) D_check_mill B gC IC
  have M_stuffs := ok_mill_stuffs (P := P) (w := w) (base := base) DM_stuffs B MC
  have M_recipes := ok_mill_recipes (P := P) (w := w) (base := base) DM_recipes B MC
  have C_turned := ok_turned (P := P) (w := w) (base := base) D_turned B MC C_check_mill M_stuffs M_recipes M_Mill
  have X_check_mill := ok_check_millX (P := P) (w := w) (base := base) D_check_mill B gC IC NC EM
  have M_names := ok_mill_names (P := P) (w := w) (base := base) DM_names B MC
  have M_recipesN := ok_mill_recipesN (P := P) (w := w) (base := base) DM_recipes B MC
  have M_eq := ok_mill_eqG (P := P) (w := w) (base := base) DM_eq B MC gC IC NC M_stuffs M_recipes
  have X_turned := ok_turnedX (P := P) (w := w) (base := base) D_turned B MC X_check_mill M_stuffs M_recipes M_Mill
  have C__law_copied := ok_law_copied (P := P) (w := w) (base := base) D__law_copied B
  have C__law_two := ok_law_two (P := P) (w := w) (base := base) D__law_two
  have C__law_unlike_right := ok_law_unlike_right (P := P) (w := w) (base := base) D__law_unlike_right B MC EC C__law_two M_Mill M_recipes M_eq
  have M_MillX : Dv.MakX P w K mg base "Mill" C ["stuffs", "recipes"] 5 (spMillX K C CX CI) := ⟨fI, fdI, gC, MkC, FI.binds fun _ _ _ _ _ _ us hl => match us, hl with | [_, _, _], _ => rfl, ok_mill_initX FI MC B CC EI X_check_size C_is_stuffZ C_is_recipeZ⟩
  have C__law_caught := ok_law_caught (P := P) (w := w) (base := base) D__law_caught B ER M_MillX
  have C__law_odd_names := ok_law_odd_names (P := P) (w := w) (base := base) D__law_odd_names
  have C__law_odd_stuffs := ok_law_odd_stuffs (P := P) (w := w) (base := base) D__law_odd_stuffs C__law_odd_names
  have C__law_odd_recipes := ok_law_odd_recipes (P := P) (w := w) (base := base) D__law_odd_recipes C__law_odd_names
  have C__law_refused := ok_law_refused (P := P) (w := w) (base := base) D__law_refused B MC C__law_caught C__law_random C__law_odd_stuffs C__law_odd_recipes M_Mill M_names
  have C__law_made_right := ok_law_made_right (P := P) (w := w) (base := base) D__law_made_right B MC EC C__law_copied M_Mill M_stuffs M_recipes M_recipesN M_names M_eq C_turned
  have C__law_twice_refused := ok_law_twice_refused (P := P) (w := w) (base := base) D__law_twice_refused B C__law_caught
  have key := ok_law (P := P) (w := w) (base := base) D_law B MC XX C__law_generator C__law_random C__law_mill_drawn C__law_made_right C__law_unlike_right C__law_refused C__law_twice_refused X_turned M_Mill M_recipes M_names
  obtain ⟨f1, fd1, a1, kp1, b1, OK, oc1, od1, osl1, l1⟩ := key.ex
  rw [a0] at a1
  cases a1
  obtain ⟨oc, od, kV, doc, pm, an, cdv, ct, osl, e1, lk, hcd⟩ := F0.ex
  rw [l1] at lk
  cases lk
  exact OK
end
theorem walk {l : PySem.W.OpenLaw} {q : Program} {loose : List Str} {XP : (Str → Option Value) → Heap → Prop} {YP : World → Heap → Prop} {d : DefRec} {K : Params → PySem.W.Frag} (hn : l.most = some 63) (hdf : d.params.defaults = [])
    (hY : ∀ (w : World) (h : Heap), YP w h → (K w.params).In h)
    (F : ∀ (w : World) (mg : Str → Option Value) (fa : Addr) (h : Heap), (K w.params).In h → h.Ns mainGlobals mg → mg d.name = some (.ref fa) →
      ∃ fd : FuncData, (∀ (s : Shared) (u : Value), BindsTo s fd ⟨[u], []⟩ [("script", u)]) ∧ ∀ base : Heap, (K w.params).In base → base.Ns mainGlobals mg → FnOkG l.prog w (K w.params) mg base CX0 9 fa fd ["script"] (spLaw (K w.params))) :
    PySem.W.WalkO q loose XP YP l.row.toRowW d [] (fun f vs => PySem.call f vs) :=
  L2.walk_ofG (n := 63) (k := 9) (x := "script") (CX := fun _ => CX0) (sp := fun w => spLaw (K w.params)) hn (by decide) hdf ⟨rfl, by decide, by decide⟩ hY F (fun _ _ a ns hl _ hS => ⟨a, ns, rfl, hS, hl, fun _ => rfl⟩) fun _ _ _ _ _ z => z
end R3

set_option Elab.async false
set_option linter.all false
open PySem PySem.W PyProof.Rows
set_option maxRecDepth 100000 in
set_option maxHeartbeats 0 in
theorem PySem.Challenge.cw_wholemills_k10_mills_made_holds : PySem.Challenge.rw_wholemills_k10_mills_made.Holds := by
  w_on; o_law; k_head; (case hw => w_witness2)
  k_fill
  refine R3.walk (l := PySem.Challenge.rw_wholemills_k10_mills_made) rfl rfl (fun w h Y => PySem.W.kIn_of Y) ?F
  case F =>
    intro w mg fa h KX G hmg
    refine' R3.all_mk KX G hmg ?ht ?Z ?W ?DD ?CO ?com ?eM ?eX ?eI ?oE ?ne1 ?ne2 ?ne3 ?neM ?neX ?neI ?hE
    (case ht => kernel_rfl)
    (case oE => refine' Hd.one_mk (cn := "MillError") KX G ?a ?l ?ga ?gg ?ha; (case a => k_is); (case l => k_is); (case ga => k_is); (case gg => k_is); (case ha => k_is))
    (case com => refine' Hd.Com.mk ?al ?opq (PySem.W.mg_none_of KX G ?noS) ?hn ?ht2; (case al => kernel_rfl); (case opq => k_is); (case noS => k_is); (case hn => k_is); (case ht2 => k_is))
    (case eM =>
      refine' Hd.ext_one (cn := "InvalidMill") (fld := "value") (p1 := R3.pp 0 0) (p2 := R3.pp 0 1) (p3 := R3.pp 0 2) (q := R3.qq 0) KX G ?com ?a ?l ?ga ?gg ?ha ?sa ?nb ?iC ?kC ?l1 ?c1 ?l2 ?v2 ?hf ?l3 ?l4 R3.tx0 Hd.bd_value ⟨by decide, by decide, by decide, by decide⟩
      (case com => refine' Hd.Com.mk ?al ?opq (PySem.W.mg_none_of KX G ?noS) ?hn ?ht2; (case al => kernel_rfl); (case opq => k_is); (case noS => k_is); (case hn => k_is); (case ht2 => k_is))
      (case a => k_is); (case l => k_is); (case ga => k_is); (case gg => k_is); (case ha => k_is); (case sa => k_is); (case nb => k_is); (case iC => k_is); (case kC => k_is)
      (case l1 => k_is); (case c1 => k_is); (case l2 => k_is); (case v2 => rfl); (case hf => kernel_rfl); (case l3 => k_is); (case l4 => k_is))
    (case eX =>
      refine' Hd.ext_one (cn := "InvalidList") (fld := "value") (p1 := R3.pp 1 0) (p2 := R3.pp 1 1) (p3 := R3.pp 1 2) (q := R3.qq 1) KX G ?com ?a ?l ?ga ?gg ?ha ?sa ?nb ?iC ?kC ?l1 ?c1 ?l2 ?v2 ?hf ?l3 ?l4 R3.tx1 Hd.bd_value ⟨by decide, by decide, by decide, by decide⟩
      (case com => refine' Hd.Com.mk ?al ?opq (PySem.W.mg_none_of KX G ?noS) ?hn ?ht2; (case al => kernel_rfl); (case opq => k_is); (case noS => k_is); (case hn => k_is); (case ht2 => k_is))
      (case a => k_is); (case l => k_is); (case ga => k_is); (case gg => k_is); (case ha => k_is); (case sa => k_is); (case nb => k_is); (case iC => k_is); (case kC => k_is)
      (case l1 => k_is); (case c1 => k_is); (case l2 => k_is); (case v2 => rfl); (case hf => kernel_rfl); (case l3 => k_is); (case l4 => k_is))
    (case eI =>
      refine' Hd.ext_one (cn := "InvalidItem") (fld := "value") (p1 := R3.pp 2 0) (p2 := R3.pp 2 1) (p3 := R3.pp 2 2) (q := R3.qq 2) KX G ?com ?a ?l ?ga ?gg ?ha ?sa ?nb ?iC ?kC ?l1 ?c1 ?l2 ?v2 ?hf ?l3 ?l4 R3.tx2 Hd.bd_value ⟨by decide, by decide, by decide, by decide⟩
      (case com => refine' Hd.Com.mk ?al ?opq (PySem.W.mg_none_of KX G ?noS) ?hn ?ht2; (case al => kernel_rfl); (case opq => k_is); (case noS => k_is); (case hn => k_is); (case ht2 => k_is))
      (case a => k_is); (case l => k_is); (case ga => k_is); (case gg => k_is); (case ha => k_is); (case sa => k_is); (case nb => k_is); (case iC => k_is); (case kC => k_is)
      (case l1 => k_is); (case c1 => k_is); (case l2 => k_is); (case v2 => rfl); (case hf => kernel_rfl); (case l3 => k_is); (case l4 => k_is))
    (case CO =>
      refine' R3.ClsOf.mk ?mill ?m1 ?m2 ?m3 ?k_stuffs ?k_recipes ?k_names ?k_eq ?ha ?hm ?me ?ne ?n1 ?n2 ?n3 ?n4 ?n5 ?n6 ?n7 ?s1 ?s2 ?s3 ?s4 ?s5 ?s6 ?s7
      (case mill => refine' Hd.cls_in ?g ?pg ?hd ?po ?sa ?mk ?i ?fn ?kc ?l ?c ?k; (case g => k_is); (case pg => k_is); (case hd => k_is); (case po => k_is); (case sa => k_is); (case mk => k_is); (case i => k_is); (case fn => k_is); (case kc => k_is); (case l => k_is); (case c => k_is); (case k => k_is))
      (case m1 => k_is)
      (case m2 => k_is)
      (case m3 => k_is)
      (case k_stuffs => refine' Hd.meth_in ?a ?fn ?l ?c ?k; (case a => k_is); (case fn => k_is); (case l => k_is); (case c => k_is); (case k => k_is))
      (case k_recipes => refine' Hd.meth_in ?a ?fn ?l ?c ?k; (case a => k_is); (case fn => k_is); (case l => k_is); (case c => k_is); (case k => k_is))
      (case k_names => refine' Hd.meth_in ?a ?fn ?l ?c ?k; (case a => k_is); (case fn => k_is); (case l => k_is); (case c => k_is); (case k => k_is))
      (case k_eq => refine' Hd.meth_in ?a ?fn ?l ?c ?k; (case a => k_is); (case fn => k_is); (case l => k_is); (case c => k_is); (case k => k_is))
      (case ha => first | k_is | kernel_rfl)
      (case hm => first | k_is | kernel_rfl)
      (case me => first | k_is | kernel_rfl)
      (case ne => first | k_is | kernel_rfl)
      (case n1 => first | k_is | kernel_rfl)
      (case n2 => first | k_is | kernel_rfl)
      (case n3 => first | k_is | kernel_rfl)
      (case n4 => first | k_is | kernel_rfl)
      (case n5 => first | k_is | kernel_rfl)
      (case n6 => first | k_is | kernel_rfl)
      (case n7 => first | k_is | kernel_rfl)
      (case s1 => first | k_is | kernel_rfl)
      (case s2 => first | k_is | kernel_rfl)
      (case s3 => first | k_is | kernel_rfl)
      (case s4 => first | k_is | kernel_rfl)
      (case s5 => first | k_is | kernel_rfl)
      (case s6 => first | k_is | kernel_rfl)
      (case s7 => first | k_is | kernel_rfl))
    (case Z => refine' R3.NoWords.mk ?z0 ?z1 ?z2 ?z3 ?z4 ?z5 ?z6 ?z7 ?z8 ?z9 ?z10 ?z11 ?z12 ?z13 ?z14; (case z0 => k_is); (case z1 => k_is); (case z2 => k_is); (case z3 => k_is); (case z4 => k_is); (case z5 => k_is); (case z6 => k_is); (case z7 => k_is); (case z8 => k_is); (case z9 => k_is); (case z10 => k_is); (case z11 => k_is); (case z12 => k_is); (case z13 => k_is); (case z14 => k_is))
    (case W => refine' R3.words_mk ?w0 ?w1 ?w2 ?w3 ?w4 ?w5; (case w0 => k_is); (case w1 => k_is); (case w2 => k_is); (case w3 => k_is); (case w4 => k_is); (case w5 => k_is))
    (case hE => k_is)
    (case ne1 => decide); (case ne2 => decide); (case ne3 => decide); (case neM => decide); (case neX => decide); (case neI => decide)
    (case DD =>
      refine' R3.DefsIn.mk ?d0 ?d1 ?d2 ?d3 ?d4 ?d5 ?d6 ?d7 ?d8 ?d9 ?d10 ?d11 ?d12 ?d13 ?d14 ?d15 ?d16 ?d17 ?d18 ?d19 ?d20 ?d21 ?d22 ?d23 ?d24 ?d25
      (case d0 => refine' Hd.def_in ?a ?l ?c ?k; (case a => k_is); (case l => k_is); (case c => k_is); (case k => k_is))
      (case d1 => refine' Hd.def_in ?a ?l ?c ?k; (case a => k_is); (case l => k_is); (case c => k_is); (case k => k_is))
      (case d2 => refine' Hd.def_in ?a ?l ?c ?k; (case a => k_is); (case l => k_is); (case c => k_is); (case k => k_is))
      (case d3 => refine' Hd.def_in ?a ?l ?c ?k; (case a => k_is); (case l => k_is); (case c => k_is); (case k => k_is))
      (case d4 => refine' Hd.def_in ?a ?l ?c ?k; (case a => k_is); (case l => k_is); (case c => k_is); (case k => k_is))
      (case d5 => refine' Hd.def_in ?a ?l ?c ?k; (case a => k_is); (case l => k_is); (case c => k_is); (case k => k_is))
      (case d6 => refine' Hd.def_in ?a ?l ?c ?k; (case a => k_is); (case l => k_is); (case c => k_is); (case k => k_is))
      (case d7 => refine' Hd.def_in ?a ?l ?c ?k; (case a => k_is); (case l => k_is); (case c => k_is); (case k => k_is))
      (case d8 => refine' Hd.def_in ?a ?l ?c ?k; (case a => k_is); (case l => k_is); (case c => k_is); (case k => k_is))
      (case d9 => refine' Hd.def_in ?a ?l ?c ?k; (case a => k_is); (case l => k_is); (case c => k_is); (case k => k_is))
      (case d10 => refine' Hd.def_in ?a ?l ?c ?k; (case a => k_is); (case l => k_is); (case c => k_is); (case k => k_is))
      (case d11 => refine' Hd.def_in ?a ?l ?c ?k; (case a => k_is); (case l => k_is); (case c => k_is); (case k => k_is))
      (case d12 => refine' Hd.def_in ?a ?l ?c ?k; (case a => k_is); (case l => k_is); (case c => k_is); (case k => k_is))
      (case d13 => refine' Hd.def_in ?a ?l ?c ?k; (case a => k_is); (case l => k_is); (case c => k_is); (case k => k_is))
      (case d14 => refine' Hd.def_in ?a ?l ?c ?k; (case a => k_is); (case l => k_is); (case c => k_is); (case k => k_is))
      (case d15 => refine' Hd.def_in ?a ?l ?c ?k; (case a => k_is); (case l => k_is); (case c => k_is); (case k => k_is))
      (case d16 => refine' Hd.def_in ?a ?l ?c ?k; (case a => k_is); (case l => k_is); (case c => k_is); (case k => k_is))
      (case d17 => refine' Hd.def_in ?a ?l ?c ?k; (case a => k_is); (case l => k_is); (case c => k_is); (case k => k_is))
      (case d18 => refine' Hd.def_in ?a ?l ?c ?k; (case a => k_is); (case l => k_is); (case c => k_is); (case k => k_is))
      (case d19 => refine' Hd.def_in ?a ?l ?c ?k; (case a => k_is); (case l => k_is); (case c => k_is); (case k => k_is))
      (case d20 => refine' Hd.def_in ?a ?l ?c ?k; (case a => k_is); (case l => k_is); (case c => k_is); (case k => k_is))
      (case d21 => refine' Hd.def_in ?a ?l ?c ?k; (case a => k_is); (case l => k_is); (case c => k_is); (case k => k_is))
      (case d22 => refine' Hd.def_in ?a ?l ?c ?k; (case a => k_is); (case l => k_is); (case c => k_is); (case k => k_is))
      (case d23 => refine' Hd.def_in ?a ?l ?c ?k; (case a => k_is); (case l => k_is); (case c => k_is); (case k => k_is))
      (case d24 => refine' Hd.def_in ?a ?l ?c ?k; (case a => k_is); (case l => k_is); (case c => k_is); (case k => k_is))
      (case d25 => refine' Hd.def_in ?a ?l ?c ?k; (case a => k_is); (case l => k_is); (case c => k_is); (case k => k_is)))

