import PyProof.Rows.All
import Wide.All
import OpenK.AllK
import Wide.FinOn
import PyProof.EqAt
import PyProof.EqKinds
import PyProof.TupleCall
import HandS.ForMost
import HandS.ForExc
import HandS.ExcSuper
import HandS.ExcValue
import HandS.ExcField
import HandS.IsInst
import KE.KExcIs
import HandS.RaiseMore
import KE.KExcSuper
import KE.KSuper
import HandS.Defaults
import HandS.WideBits
import HandS.Wide
import PySem.Challenge.RW_wholemills_k00_errors
import HandS.Evl
set_option Elab.async false
set_option linter.all false
set_option maxRecDepth 100000
set_option maxHeartbeats 4000000
/-! An own exception over ValueError whose __init__(self, f=None) says super().__init__(f) and self.f = f: made, read, told by isinstance. -/
namespace PySem
namespace Xn
open PySem.W PySem.Calls PyProof.Rows PySem.HandSPX
/-! ### the text of __init__ -/
def iA (fld : Str) (p1 p2 p3 : Pos) : Arguments := { posonlyargs := [], args := [{ arg := "self", annotation := none, pos := p1 }, { arg := fld, annotation := none, pos := p2 }], vararg := none, kwonlyargs := [], kw_defaults := [], kwarg := none, defaults := [.Constant .none 0 p3] }
def iB (fld : Str) (q : Nat → Pos) : List Stmt :=
  [.Expr (.Call (.Attribute (.Call (.Name "super" (q 0)) [] [] (q 1)) "__init__" (q 2)) [.Name fld (q 3)] [] (q 4)) (q 4),
   .Assign [.Attribute (.Name "self" (q 5)) fld (q 6)] (.Name fld (q 7)) (q 8)]
def iS (fld : Str) : Scope := { kind := .function, names := [(PySem.Str.ofString "self", .local), (fld, .local), (PySem.Str.ofString "__class__", .free), (PySem.Str.ofString "super", .globalImplicit)], isGenerator := false, isCoroutine := false, more := [] }
/-- what is asked of the places in the text: closed by rfl where they are written -/
structure TextOk (fld : Str) (q : Nat → Pos) : Prop where
  ev : ∃ pl : Sem Bool, ∀ env : Env, eval (.Call (.Attribute (.Call (.Name "super" (q 0)) [] [] (q 1)) "__init__" (q 2)) [.Name fld (q 3)] [] (q 4)) env = (do
      let ov ← attributeBase (.Call (.Name "super" (q 0)) [] [] (q 1)) "__init__" env (eval (.Call (.Name "super" (q 0)) [] [] (q 1)) env)
      standAt (q 2).atName
      let (f, first) ← holding [ov] (getMethod ov "__init__" pl)
      callWith (q 4) f first (backTo (q 4) (starEach [.Name fld (q 3)] env)) [])
  sw1 : ∀ env : Env, swapsWith (.Call (.Attribute (.Call (.Name "super" (q 0)) [] [] (q 1)) "__init__" (q 2)) [.Name fld (q 3)] [] (q 4)) none (q 4).line env = pure false
  st : ∀ env : Env, starEach [.Name fld (q 3)] env = (false, eval (.Name fld (q 3)) env) :: starEach [] env
  pl : ∀ env : Env, (backTo (q 4) (starEach [] env)).any (·.1) = false
  sw2 : ∀ env : Env, swapsWith (.Name fld (q 7)) (some (.Attribute (.Name "self" (q 5)) fld (q 6))) (q 8).line env = pure false
/-- how its arguments are bound -/
structure BindOk (fld : Str) (fd : FuncData) (da : Addr) : Prop where
  two : ∀ x v : Value, ∃ k, bindArgs fd ⟨[x, v], []⟩ = seqItems? (.ref da) >>= k ∧ k (some #[.none]) = pure [(("self" : Str), x), (fld, v)]
  kw : ∀ x v : Value, ∃ k, bindArgs fd ⟨[x], [(fld, v)]⟩ = seqItems? (.ref da) >>= k ∧ k (some #[.none]) = pure [(("self" : Str), x), (fld, v)]
  one : ∀ x : Value, ∃ k, bindArgs fd ⟨[x], []⟩ = seqItems? (.ref da) >>= k ∧ k (some #[.none]) = pure [(("self" : Str), x), (fld, Value.none)]
/-- what the written part says of the class at C, field fld, its __init__ at fI -/
structure ExT (P : Program) (K : Frag) (mg : Str → Option Value) (cn fld : Str) (C fI : Addr) : Prop where
  gC : mg cn = some (.ref C)
  cls : ∃ nm q N bs bm sn sub ab col dd k0 k1 k2 k3 k5, K.lookup C = some (excClassObj nm q C N bs bm true sn sub ab col dd k0 k1 k2 k3 k5 "ValueError.__new__") ∧ refsVE bm = true ∧ alongIn K "__init__" bm = some (some (.builtin "ValueError.__init__"))
  sa : findIn K (.ref C) "__setattr__" = some (some (.builtin "object.__setattr__"))
  ga : findIn K (.ref C) "__getattribute__" = some (some (.builtin "BaseException.__getattribute__"))
  gg : findIn K (.ref C) "__getattr__" = some none
  noN : findIn K (.ref C) fld = some none
  iC : findIn K (.ref C) "__init__" = some (some (.ref fI))
  tC : typeIn K (.ref fI) = some (.type "function")
  kC : keepIn K (.ref C) = true
  exC : subIn K (.ref C) (.type "BaseException") = some true
  exV : subIn K (.ref C) (.type "ValueError") = some true
  exO : mroIn K C (.ref C) = some true
  tyC : typeIn K (.ref C) = some (.type "type")
  hdC : hasDictIn K C = true
  opq : nsIn K cStatics "thirdparty.any" = some none
  noS : mg "super" = none
  fn : ∃ (oc : Value) (od : Option Addr) (qual : Str) (dV doc pm : Value) (an : Option Addr) (cda cc : Addr) (ct : Value) (osl : Array (Option Value)) (p1 p2 p3 : Pos) (q : Nat → Pos)
    (ccl : Value) (cdd : Option Addr) (vs : Array Value) (ccs : Array (Option Value)) (file : Str) (tf : Tok) (cl : Value) (cld : Option Addr) (csl : Array (Option Value)) (dcl : Value) (ddi : Option Addr) (dn : Nat) (dsl : Array (Option Value)) (da : Addr),
    K.lookup fI = some ⟨oc, od, .func (ksFn "__init__" qual (iA fld p1 p2 p3) (iB fld q) (iS fld) dV .none doc pm an (.ref cda) ct cc), osl⟩ ∧ codeIn K (.ref cda) qual = true ∧
    K.lookup cda = some ⟨ccl, cdd, .fields vs, ccs⟩ ∧ vs[2]? = some (.str file tf) ∧ ((P.main.file : Str) == file) = true ∧
    K.lookup cc = some ⟨cl, cld, .cell (some (.ref C)), csl⟩ ∧ TextOk fld q ∧ BindOk fld (ksFn "__init__" qual (iA fld p1 p2 p3) (iB fld q) (iS fld) dV .none doc pm an (.ref cda) ct cc) da ∧ dV = .ref da ∧ K.lookup da = some ⟨dcl, ddi, .seq #[.none] dn, dsl⟩
  nclash : (fld == ("__debug__" : Str)) = false ∧ ¬ (fld = ("self" : Str)) ∧ ¬ (fld = ("__class__" : Str)) ∧ ¬ (fld = ("super" : Str))
theorem one_size (v : Value) : [v].length ≤ sizeLine := by
  rw [sizeLine_eq]
  exact (by decide : 1 ≤ 16777216)
/-- what __init__ leaves of a fresh exception at x -/
structure InitEnd (h h' : Heap) (x C dx t1 : Addr) (fld : Str) (v : Value) : Prop where
  keep : ∀ b o, b ≠ x → h.get? b = some o → h'.get? b = some o
  obj : h'.get? x = some { cls := .ref C, dict := some dx, data := .fields #[.ref t1, .none, .none, .none, .bool false, .none] }
  dbig : h.objs.size ≤ dx
  dne : dx ≠ x
  ns : h'.Ns1 dx (fun y => if y = fld then some v else none)
/-- a made one -/
structure OwnMade (h h' : Heap) (e C d : Addr) (fld : Str) (v : Value) : Prop where
  keep : ∀ b o, h.get? b = some o → h'.get? b = some o
  new : h.objs.size ≤ e
  obj : ∃ t1, h'.get? e = some { cls := .ref C, dict := some d, data := .fields #[.ref t1, .none, .none, .none, .bool false, .none] }
  dbig : h.objs.size ≤ d
  dne : d ≠ e
  ns : h'.Ns1 d (fun y => if y = fld then some v else none)
/-- the module's names and the built-in ones, by the heap -/
structure Nms (h : Heap) (mg : Str → Option Value) : Prop where
  g : h.Ns mainGlobals mg
  b : ∃ mb, h.Ns builtinsNs mb ∧ ∀ x : Str, x ≠ "__name__" → mb x = bootBuiltins x
theorem Nms.keeps {h h' : Heap} {mg : Str → Option Value} (n : Nms h mg) (k : ∀ b o, h.get? b = some o → h'.get? b = some o) : Nms h' mg :=
  ⟨n.g.keeps k, let ⟨mb, a, b⟩ := n.b; ⟨mb, a.keeps k, b⟩⟩
section
variable {prog : Program} {w : World} {A : Around} {E : Value → Shared → Prop} {R : Result → Shared → Prop} {s : Shared} {K : Frag} {mg : Str → Option Value} {cn fld : Str} {C fI : Addr}
theorem call_mw {h : Heap} {g : Array GenState} {d : Drawn} {t : Nat} {os : OsState} {nm q : Str} {N : Addr} {bs bm : List Value} {hdct : Bool} {sn : List Str} {sub : List Value} {ab : Bool} {col : Option Bool} {dd : Option Addr} {k0 k1 k2 k3 k5 : Option Value} {u e t0 : Addr} {rest : List Value} {Q : Value → Shared → Prop}
    (hC : h.get? C = some (excClassObj nm q C N bs bm hdct sn sub ab col dd k0 k1 k2 k3 k5 "ValueError.__new__")) (he : h.get? e = some (excO C t0)) (hu : h.get? u = some (kxs_mw "ValueError.__init__" e)) (hrest : rest.length ≤ sizeLine)
    (hq : ∀ h' t1, (∀ b o, b ≠ e → h.get? b = some o → h'.get? b = some o) → h'.get? e = some (excO C t1) → Q .none ⟨h', g, d, t, os⟩) :
    wpAny (model prog w) A (call (.ref u) rest) Q E ⟨h, g, d, t, os⟩ := by
  refine wpAny_call (codeAny_of_tree ?_)
  show wpAny _ A.in1 (callAny (.ref u) ⟨rest, []⟩) _ _ _
  simp only [callAny]
  refine wpAny_bind (wpAny_load hu ?_)
  simp only [kxs_mw, show (Value.type "method-wrapper" == Value.type "method" || Value.type "method-wrapper" == Value.type "builtin_function_or_method" || Value.type "method-wrapper" == Value.type "method-wrapper") = true by decide, if_true]
  refine W.KFB.if_so (by decide) ?_
  refine wpAny_bind (check_bound_init F.excBase_ValueError.toExcCallFacts hC he rfl ?_)
  refine wpAny_bind (wpAny_pure (wpAny_pure ?_))
  refine ⟨Code.quiet_builtin _ (by decide +kernel), codeAny_builtin F.excBase_ValueError.initEntry ?_⟩
  rw [Around.under_plainId F.excBase_ValueError.init.plain _]
  wp_walk
  refine hq _ h.objs.size (fun b o hb ho => ?_) ?_
  · rw [Heap.get?_update_other _ _ (Ne.symm hb)]
    exact Heap.get?_push_of_some _ ho
  · rw [Heap.get?_update_self _ (Heap.get?_push_of_some _ he) rfl]
    rfl

theorem kept_but {K : Frag} {h h' : Heap} {x : Addr} (X : K.In h) (hx : K.lookup x = none) (k : ∀ b o, b ≠ x → h.get? b = some o → h'.get? b = some o) : K.In h' := fun a o e =>
  k a o (fun z => by rw [z, hx] at e; cases e) (X a o e)
theorem xn_init (T : ExT prog K mg cn fld C fI) {x t0 : Addr} {v : Value} (X : K.In s.heap) (G : Nms s.heap mg) (hlim : s.heap.NoLimit) (hx : s.heap.get? x = some (excO C t0)) (hnx : K.lookup x = none) (hroom : A.depth < recursionLimit)
    (htop : (prog.main.scope.names.lookup ("super" : Str)).isSome = false)
    {args : Args} (hbind : ∀ fd : FuncData, (∃ o : Obj, K.lookup fI = some o ∧ o.data = .func fd) → BindsTo s fd args [("self", .ref x), (fld, v)])
    (hq : ∀ h' tk dx t1, InitEnd s.heap h' x C dx t1 fld v → R (.ok (.ret .none)) { s with heap := h', toks := tk }) :
    codeAny (model prog w) A (.call (.ref fI) args) R s := by
  obtain ⟨oc, od, qual, dV, doc, pm, an, cda, cc, ct, osl, p1, p2, p3, q, ccl, cdd, vs, ccs, file, tf, cl, cld, csl, dcl, ddi, dn, dsl, da, ho, hcd, hcda, hvs, hfile, hcc, hTx, hBd, hdV, hda⟩ := T.fn
  obtain ⟨pl, hev⟩ := hTx.ev
  obtain ⟨nm, qn, N, bs, bm, sn, sub, ab, col, dd, k0, k1, k2, k3, k5, hC, hbm, hal⟩ := T.cls
  obtain ⟨n1, n2, n3, n4⟩ := T.nclash
  have n2' : ¬ (("self" : Str) = fld) := fun e => n2 e.symm
  have hcl : clsIn K C = some { name := nm, bases := bs, mro := .ref C :: bm, ns := N, qualname := qn, hasDict := true, slotNames := sn, subclasses := sub, abstract := ab, collection := col, hasDel := false } := by unfold clsIn; rw [hC] <;> rfl
  have lkS : (iS fld).names.lookup ("self" : Str) = some .local := by simp [iS, List.lookup]
  have lkF : (iS fld).names.lookup fld = some .local := by
    show List.lookup fld [(PySem.Str.ofString "self", NameKind.local), (fld, .local), (PySem.Str.ofString "__class__", .free), (PySem.Str.ofString "super", .globalImplicit)] = _
    have e : (fld == PySem.Str.ofString "self") = false := by simpa using n2
    rw [List.lookup_cons, e, List.lookup_cons]
    simp
  have lkC : (iS fld).names.lookup ("__class__" : Str) = some .free := by
    show List.lookup (PySem.Str.ofString "__class__") [(PySem.Str.ofString "self", NameKind.local), (fld, .local), (PySem.Str.ofString "__class__", .free), (PySem.Str.ofString "super", .globalImplicit)] = _
    have e : (PySem.Str.ofString "__class__" == PySem.Str.ofString "self") = false := by decide +kernel
    have e2 : (PySem.Str.ofString "__class__" == fld) = false := by simpa using fun e => n3 e.symm
    rw [List.lookup_cons, e, List.lookup_cons, e2, List.lookup_cons]
    simp
  have lkSu : (iS fld).names.lookup ("super" : Str) = some .globalImplicit := by
    show List.lookup (PySem.Str.ofString "super") [(PySem.Str.ofString "self", NameKind.local), (fld, .local), (PySem.Str.ofString "__class__", .free), (PySem.Str.ofString "super", .globalImplicit)] = _
    have e : (PySem.Str.ofString "super" == PySem.Str.ofString "self") = false := by decide +kernel
    have e2 : (PySem.Str.ofString "super" == fld) = false := by simpa using fun e => n4 e.symm
    have e3 : (PySem.Str.ofString "super" == PySem.Str.ofString "__class__") = false := by decide +kernel
    rw [List.lookup_cons, e, List.lookup_cons, e2, List.lookup_cons, e3, List.lookup_cons]
    simp
  have hcellN : ∀ y ∈ (iS fld).names, y.2 ≠ .cell := by
    intro y hy
    rcases List.mem_cons.mp hy with rfl | hy
    · intro z; cases z
    rcases List.mem_cons.mp hy with rfl | hy
    · intro z; cases z
    rcases List.mem_cons.mp hy with rfl | hy
    · intro z; cases z
    rcases List.mem_cons.mp hy with rfl | hy
    · intro z; cases z
    · cases hy
  refine ks_codeAny_call_defAt (fd := ksFn "__init__" qual (iA fld p1 p2 p3) (iB fld q) (iS fld) dV .none doc pm an (.ref cda) ct cc) (body := iB fld q) (binds := [("self", .ref x), (fld, v)]) hroom (X _ _ ho) rfl hlim (codeRec_of X hcd) rfl
    (hbind _ ⟨_, ho, rfl⟩) hcellN (fun y hy => ?_) (fun h₁ hns hk₁ => ?_) rfl rfl rfl
  · rcases List.mem_cons.mp hy with rfl | hy
    · exact lkS
    · rcases List.mem_cons.mp hy with rfl | hy
      · exact lkF
      · cases hy
  have X₁ : K.In h₁ := X.keeps hk₁
  have G₁ : Nms h₁ mg := G.keeps hk₁
  have hx₁ := hk₁ _ _ hx
  have mS : (fun y => ([(("self" : Str), Value.ref x), (fld, v)] : List (Str × Value)).reverse.lookup y) "self" = some (.ref x) := by
    show List.lookup ("self" : Str) [(fld, v), (("self" : Str), Value.ref x)] = _
    have e : (("self" : Str) == fld) = false := by simpa using n2'
    rw [List.lookup_cons, e, List.lookup_cons]
    simp
  have mF : (fun y => ([(("self" : Str), Value.ref x), (fld, v)] : List (Str × Value)).reverse.lookup y) fld = some v := by
    show List.lookup fld [(fld, v), (("self" : Str), Value.ref x)] = _
    rw [List.lookup_cons]
    simp
  have hL : s.heap.objs.size ≠ x := Nat.ne_of_gt (Heap.lt_size hx)
  have hLlt : s.heap.objs.size < h₁.objs.size := hns.lt
  obtain ⟨mb, hb, hbb⟩ := G₁.b
  have hcC₁ := X₁ _ _ hC
  have iV : Looks (model prog w) h₁ (isInstance (.ref x) (.type "ValueError")) true := by
    have I : InstAt h₁ x (excO C t0) C none := ⟨hx₁, rfl, rfl, trivial⟩
    exact I.type.andThen (looks_subIn X₁ T.exV)
  -- super().__init__(value)
  unfold iB
  refine ks_wpAt_execs_cons (ks_wpAt_Expr_any (ks_wpAt_MethodCall (pl := pl) ?_ (hev _)) rfl (hTx.sw1 _))
  refine ks_wpAt_super_base (env := ksEnv qual (iS fld) s.heap.objs.size fI (.ref cda) cc) lkSu lkC rfl rfl (X₁ _ _ ho) rfl rfl rfl (X₁ _ _ hcda) rfl hvs hfile htop ?_
  refine ks_loadName_global rfl lkSu (loadGlobal_builtin (env := ksEnv qual (iS fld) s.heap.objs.size fI (.ref cda) cc) G₁.g T.noS hb ((hbb _ (by decide +kernel)).trans (by first | boot_by_name | rfl | kernel_rfl)) ⟨rfl, ?_⟩)
  refine wpAny_loadName_free rfl lkC rfl ⟨_, X₁ _ _ hcc, rfl⟩ ?_
  refine wpAny_loadName_local rfl lkS hns mS ?_
  refine ks_wpAny_isType_cls hcC₁ rfl ⟨rfl, ?_⟩
  refine ks_wpAny_call_super hcC₁ rfl hx₁ rfl (fun c e => by cases e) (looks_mroIn X₁ T.exO) (fun h₂ e₂ k₂ => ?_)
  have X₂ : K.In h₂ := X₁.keeps k₂
  refine kxs_getMethod kxs_ValueError e₂ (looks_opaque X₂ T.opq) (l₀ := .ref C :: bm) ?_ (l := bm) (by simp [List.dropWhile_cons]) X₂ hal (iV.keeps k₂) ?_ (by decide +kernel) ?_
  · exact fun A Q E s k q => wpAny_bind ((looks_clsIn X₂ hcl) A _ E s k (wpAny_pure q))
  · rintro rfl
    rw [hcC₁] at hx₁
    cases hx₁
  -- the argument, the call
  have hx₂ := k₂ _ _ hx₁
  have k₃ : ∀ b o, h₂.get? b = some o → (h₂.push (kxs_mw "ValueError.__init__" x)).get? b = some o := fun b o e => Heap.get?_push_of_some _ e
  have hu : (h₂.push (kxs_mw "ValueError.__init__" x)).get? h₂.objs.size = some (kxs_mw "ValueError.__init__" x) := Heap.get?_push_at rfl rfl
  have X₃ := X₂.keeps k₃
  show wpAny _ _ (callWith (q 4) (.ref h₂.objs.size) [] (backTo (q 4) (starEach [.Name fld (q 3)] _)) []) _ _ _
  rw [hTx.st]
  refine kxs_callWith (i := "ValueError.__init__") (x := x) (by show (false || (backTo (q 4) (starEach [] _)).any (·.1)) = false; rw [hTx.pl]; rfl) ?_
  refine evalArgs_plain ?_
  refine Calls.spliced_cons ?_
  refine ESX.ldL (v := v) (hns.keeps fun b o e => k₃ b o (k₂ b o e)) mF ?_ rfl lkF n1
  refine Calls.spliced_nil ?_
  refine ⟨hu, ?_⟩
  refine call_mw (X₃ _ _ hC) (k₃ _ _ hx₂) hu (one_size v) fun h₄ t₁ k₄ hx₄ => ?_
  have kk : ∀ b o, b ≠ x → h₁.get? b = some o → h₄.get? b = some o := fun b o hb e => k₄ b o hb (k₃ b o (k₂ b o e))
  have X₄ : K.In h₄ := kept_but X₁ hnx kk
  have hns₄ : h₄.Ns s.heap.objs.size (fun y => ([(("self" : Str), Value.ref x), (fld, v)] : List (Str × Value)).reverse.lookup y) := by
    obtain ⟨o, es, ep, e, r⟩ := hns
    exact ⟨o, es, ep, kk _ _ hL e, r⟩
  refine wpAt_of_wpAny ?_
  show wpAny _ _ (execs [_] _) _ _ _
  refine wpAny_execs_cons (plainObj_wpAny_Assign_Attribute ?_ (hTx.sw2 _))
  refine ESX.ldL (v := v) hns₄ mF (ESX.ldL (v := .ref x) hns₄ mS ?_ rfl lkS (by decide)) rfl lkF n1
  refine set_plain X₄ (ox := excO C t₁) (od := none) ⟨hx₄, rfl, rfl, trivial⟩ T.sa ?_
  refine exc_osa X₄ hx₄ hcl (show refsVE (.ref C :: bm) = true from hbm) rfl T.noN (fun h₅ tk₅ dx k₅ dn dne hx₅ hn₅ => ?_)
  show wpAny _ _ (execs _ _) _ _ _
  have z1 : s.heap.objs.size ≤ h₄.objs.size := Nat.le_of_lt hns₄.lt
  exact wpAny_execs_nil (hq h₅ tk₅ dx t₁ ⟨fun b o hb e => k₅ b o hb (kk b o hb (hk₁ b o e)), hx₅, Nat.le_trans z1 dn, dne, hn₅⟩)
end

/-! ### C(f=v): the call with the field's name -/
section
variable {M : Model} {A : Around} {E : Value → Shared → Prop} {h : Heap} {g : Array GenState} {d : Drawn} {t : Nat} {os : OsState}
variable {nm q : Str} {C N : Addr} {bs bm bmB : List Value} {hdct : Bool} {sn : List Str} {sub : List Value} {ab : Bool} {col : Option Bool} {dd : Option Addr} {k0 k1 k2 k3 k5 : Option Value} {B newId initId : String}
theorem check_new_ownK (F : ExcBaseFacts B newId initId bmB) (hT : ∀ X : String, bm.contains (.type X) = bmB.contains (.type X)) {rest : List Value} {kw : List (Str × Value)} {Q : Unit → Shared → Prop}
    (hC : h.get? C = some (excClassObj nm q C N bs bm hdct sn sub ab col dd k0 k1 k2 k3 k5 newId)) (hq : Q () ⟨h, g, d, t, os⟩) : wpAny M A (checkBuiltinCall newId ⟨.ref C :: rest, kw⟩) Q E ⟨h, g, d, t, os⟩ := by
  have hcont : (Value.ref C :: bm).contains (.type B) = true := by rw [List.contains_cons, hT, F.hasB, Bool.or_true]
  have hstar := F.noStar
  simp only [checkBuiltinCall, F.newKind, F.newSplit, F.newRow]
  repeat (first | refine wpAny_loadPart_at hC ?_ | (refine wpAny_isSubtype_exc hC ?_; rw [hcont]) | refine wpAny_staticBase_exc hC ?_ | refine wpAny_madeBy_exc hC ?_ | simp only [bne_self_eq_false, Bool.false_eq_true, if_false] | wp_step)
  exact hq
end
section
variable {prog : Program} {w : World} {A : Around} {E : Value → Shared → Prop} {R : Result → Shared → Prop} {h : Heap} {g : Array GenState} {d : Drawn} {t : Nat} {os : OsState}
variable {nm q : Str} {C N : Addr} {bs bm bmB : List Value} {hdct : Bool} {sn : List Str} {sub : List Value} {ab : Bool} {col : Option Bool} {dd : Option Addr} {k0 k1 k2 k3 k5 : Option Value} {B newId initId : String}
theorem new_ownK (F : ExcBaseFacts B newId initId bmB) (hT : ∀ X : String, bm.contains (.type X) = bmB.contains (.type X)) {rest : List Value} {kw : List (Str × Value)}
    (hC : h.get? C = some (excClassObj nm q C N bs bm hdct sn sub ab col dd k0 k1 k2 k3 k5 newId))
    (hq : R (.ok (.ret (.ref (h.objs.size + 1)))) ⟨(h.push { cls := .type "tuple", data := .seq rest.toArray }).push
      { cls := .ref C, data := .fields #[.ref h.objs.size, .none, .none, .none, .bool false, .none] }, g, d, t, os⟩) (hrest : rest.length ≤ sizeLine) :
    codeAny (model prog w) A (.builtin newId ⟨.ref C :: rest, kw⟩) R ⟨h, g, d, t, os⟩ := by
  have hends := F.ends
  have hcB : (Value.ref C :: bm).contains (.type B) = true := by rw [List.contains_cons, hT, F.hasB, Bool.or_true]
  have hcA : (Value.ref C :: bm).contains (.type "AttributeError") = false := by rw [List.contains_cons, hT, F.noAttr]; rfl
  have hcN : (Value.ref C :: bm).contains (.type "NameError") = false := by rw [List.contains_cons, hT, F.noName]; rfl
  refine codeAny_builtinAt F.entry ?_
  unfold Builtin.«BaseException.__new__»
  refine wpAt_bind ?_
  show wpAt _ _ _ (stack >>= _) _ _ _
  refine wpAt_bind (wpAt_stack fun p below => wpAt_of_wpAny ?_)
  wp_walk
  refine wpAt_of_wpAny ?_
  rw [F.owner]
  repeat (first | with_reducible refine wpAny_madeHere_exc F.canon hC ?_ | with_reducible refine wpAny_loadPart_at hC ?_ | (with_reducible refine wpAny_isSubtype_exc hC ?_; first | rw [hcB] | rw [hcA] | rw [hcN]) | wp_step)
  show R _ _
  rw [Heap.size_push]
  exact hq
theorem type_call_ownK (F : ExcBaseFacts B newId initId bmB) (hT : ∀ X : String, bm.contains (.type X) = bmB.contains (.type X)) {rest : List Value} {kw : List (Str × Value)} {fI : Addr} {Q : Fin → Shared → Prop}
    (hC : h.get? C = some (excClassObj nm q C N bs bm hdct sn sub ab col dd k0 k1 k2 k3 k5 newId))
    (hi : W.Looks (model prog w) h (typeLookup (.ref C) "__init__") (some (.ref fI))) (hb : ∀ self, W.Looks (model prog w) h (bindSpecial (.ref fI) self) (.ref fI, [self])) (hrest : rest.length ≤ sizeLine)
    (hq : codeAny (model prog w) A (.call (.ref fI) ⟨.ref (h.objs.size + 1) :: rest, kw⟩)
      (fun r s' => match r with | .ok (.ret v) => v = .none ∧ Q (.done (.ret (.ref (h.objs.size + 1)))) s' | .ok _ => False | .error e => E e s')
      ⟨(h.push (W.kdv_tup rest)).push (excO C h.objs.size), g, d, t, os⟩) :
    wpAny (model prog w) A (Builtin.«type.__call__» ⟨.ref C :: rest, kw⟩) Q E ⟨h, g, d, t, os⟩ := by
  repeat (first | with_reducible refine wpAny_loadPart_at hC ?_ | with_reducible refine wpAny_madeBy_exc hC ?_ | wp_step)
  refine codeAny_call_builtin_code (Code.quiet_builtin _ F.quiet) (check_new_ownK F hT hC ?_)
  refine new_ownK F hT hC ?_ hrest
  show wpAny _ _ _ _ _ _
  have k : ∀ b o, h.get? b = some o → ((h.push (W.kdv_tup rest)).push (excO C h.objs.size)).get? b = some o := fun b o e => Heap.get?_push_of_some _ (Heap.get?_push_of_some _ e)
  have hC₁ := k _ _ hC
  have hget : ((h.push (W.kdv_tup rest)).push (excO C h.objs.size)).get? (h.objs.size + 1) = some (excO C h.objs.size) := by heap_get
  have hcC : (Value.ref C :: bm).contains (.ref C) = true := by simp
  have i1 := hi.keeps k
  have b1 := (hb (.ref (h.objs.size + 1))).keeps k
  unfold isInstance
  repeat (first | with_reducible refine wpAny_loadPart_at hget ?_ | (with_reducible refine wpAny_isSubtype_exc hC₁ ?_; rw [hcC]) | wp_step)
  show wpAny _ _ (typeLookup (.ref C) _) _ _ _
  refine i1.at ?_
  refine wpAny_holding (wpAny_bind (b1.at ?_))
  refine wpAny_bind (wpAny_call (codeAny_mono hq fun r s' z => ?_))
  rcases r with e | (v | _ | _ | _) <;> first | exact z | exact z.elim | skip
  obtain ⟨rfl, z⟩ := z
  first
    | exact wpAny_pure (wpAny_pure z)
    | (wp_walk; exact z)
theorem call_ownK (F : ExcBaseFacts B newId initId bmB) (hT : ∀ X : String, bm.contains (.type X) = bmB.contains (.type X)) {rest : List Value} {kw : List (Str × Value)} {fI : Addr}
    (hC : h.get? C = some (excClassObj nm q C N bs bm hdct sn sub ab col dd k0 k1 k2 k3 k5 newId))
    (hi : W.Looks (model prog w) h (typeLookup (.ref C) "__init__") (some (.ref fI))) (hb : ∀ self, W.Looks (model prog w) h (bindSpecial (.ref fI) self) (.ref fI, [self])) (hrest : rest.length ≤ sizeLine)
    (hq : codeAny (model prog w) (A.under (.builtin "type.__call__" ⟨.ref C :: rest, kw⟩)) (.call (.ref fI) ⟨.ref (h.objs.size + 1) :: rest, kw⟩) (W.InitBack (h.objs.size + 1) R)
      ⟨(h.push (W.kdv_tup rest)).push (excO C h.objs.size), g, d, t, os⟩) :
    codeAny (model prog w) A (.call (.ref C) ⟨rest, kw⟩) R ⟨h, g, d, t, os⟩ := by
  have f1 := tc_lookup
  have f2 := tc_bind (.ref C)
  have f3 := tc_sub
  have hTy : (⟨h, g, d, t, os⟩ : Shared).TypeIs (.ref C) "type" := ⟨_, hC, rfl⟩
  refine codeAny_of_tree ?_
  show wpAny _ _ (callAny (.ref C) _) _ _ _
  repeat (any_goals (first | assumption | with_reducible refine wpAny_loadPart_at hC ?_ | wp_step))
  refine ⟨rfl, ?_⟩
  have typ : W.Looks (model prog w) h (isInstance (.ref C) (.type "type")) true := by
    intro A' Q' E' s' k' q'
    have hT' : s'.TypeIs (.ref C) "type" := ⟨_, k' _ _ hC, rfl⟩
    unfold isInstance
    refine wpAny_bind (wpAny_typeOf hT' ?_)
    refine wpAny_of_eq tc_sub ?_
    exact q'

  refine codeAny_call_builtin_at (Code.quiet_builtin _ (by decide +kernel)) entry_typeCall (W.check_slot tc_kind tc_split typ (W.tc_args _ _ _) (type_call_ownK F hT hC hi hb hrest ?_))
  refine codeAny_mono hq fun r s' z => ?_
  rcases r with e | (v | _ | _ | _) <;> exact z
end

end Xn
end PySem

set_option Elab.async false
set_option linter.all false
set_option maxRecDepth 100000
set_option maxHeartbeats 4000000
namespace PySem
namespace Xn
open PySem.W PySem.Calls PyProof.Rows PySem.HandSPX

section
variable {prog : Program} {w : World} {A : Around} {R : Result → Shared → Prop} {s : Shared} {K : Frag} {mg : Str → Option Value} {cn fld : Str} {C fI : Addr}
/-- a new exception of the class: by position (args [v], no keyword), by name, or bare -/
theorem xn_made (T : ExT prog K mg cn fld C fI) {v : Value} {rest : List Value} {kw : List (Str × Value)} (hform : (rest = [v] ∧ kw = []) ∨ (rest = [] ∧ kw = [(fld, v)]) ∨ (rest = [] ∧ kw = [] ∧ v = .none))
    (X : K.In s.heap) (G : Nms s.heap mg) (hlim : s.heap.NoLimit) (hroom : A.depth + 1 < recursionLimit) (htop : (prog.main.scope.names.lookup ("super" : Str)).isSome = false)
    (hq : ∀ h' tk e d, OwnMade s.heap h' e C d fld v → R (.ok (.ret (.ref e))) { s with heap := h', toks := tk }) :
    codeAny (model prog w) A (.call (.ref C) ⟨rest, kw⟩) R s := by
  obtain ⟨nm, q, N, bs, bm, sn, sub, ab, col, dd, k0, k1, k2, k3, k5, hC, hbm, hal⟩ := T.cls
  obtain ⟨hp, g, dr, tk, os⟩ := s
  have k : ∀ b o, hp.get? b = some o → ((hp.push (kdv_tup rest)).push (excO C hp.objs.size)).get? b = some o := fun b o e => Heap.get?_push_of_some _ (Heap.get?_push_of_some _ e)
  have hget : ((hp.push (kdv_tup rest)).push (excO C hp.objs.size)).get? (hp.objs.size + 1) = some (excO C hp.objs.size) := by heap_get
  have hnx : K.lookup (hp.objs.size + 1) = none := by
    cases e : K.lookup (hp.objs.size + 1) with
    | none => rfl
    | some o =>
      have z : hp.get? (hp.objs.size + 1) = some o := X _ _ e
      exact absurd (Nat.lt_of_succ_lt (Heap.lt_size z)) (Nat.lt_irrefl _)
  have hrest : rest.length ≤ sizeLine := by
    rcases hform with ⟨rfl, _⟩ | ⟨rfl, _⟩ | ⟨rfl, _⟩
    · exact one_size v
    · exact Nat.zero_le _
    · exact Nat.zero_le _
  refine call_ownK F.excBase_ValueError (fun X => refsVE_contains X bm hbm) (X _ _ hC) (looks_findIn X T.iC) (fun self => bind_fn X self T.tC) hrest ?_
  refine xn_init (v := v) (s := ⟨(hp.push (kdv_tup rest)).push (excO C hp.objs.size), g, dr, tk, os⟩) T (X.keeps k) (G.keeps k) (hlim.keeps k) hget hnx ?_ htop ?_ fun h' tk' dx t1 ⟨k', hx, dn, dne, hns⟩ => ?_
  · show (A.under _).depth < recursionLimit
    have : (A.under (.builtin "type.__call__" ⟨.ref C :: rest, kw⟩)).depth = A.depth + 1 := by
      first | rfl | simp [Around.under, Code.weight, Code.isCreation, Code.isGuard, Code.isCaller, Code.frames, Code.isFrame, guardIds]
    rw [this]
    exact hroom
  · intro fd ⟨o, ho, hfd⟩
    obtain ⟨oc, od, qual, dV, doc, pm, an, cda, cc, ct, osl, p1, p2, p3, q, ccl, cdd, vs, ccs, file, tf, cl, cld, csl, dcl, ddi, dn, dsl, da, ho', hcd, hcda, hvs, hfile, hcc, hTx, hBd, hdV, hda⟩ := T.fn
    rw [ho] at ho'
    cases ho'
    cases hfd
    have X' := X.keeps k
    rcases hform with ⟨rfl, rfl⟩ | ⟨rfl, rfl⟩ | ⟨rfl, rfl, rfl⟩
    · obtain ⟨kk, e1, e2⟩ := hBd.two (.ref (hp.objs.size + 1)) v
      exact L2.BindsTo.of_looks fun M => by rw [e1]; exact L2.looks_items X' hda rfl (.of_pure e2)
    · obtain ⟨kk, e1, e2⟩ := hBd.kw (.ref (hp.objs.size + 1)) v
      exact L2.BindsTo.of_looks fun M => by rw [e1]; exact L2.looks_items X' hda rfl (.of_pure e2)
    · obtain ⟨kk, e1, e2⟩ := hBd.one (.ref (hp.objs.size + 1))
      exact L2.BindsTo.of_looks fun M => by rw [e1]; exact L2.looks_items X' hda rfl (.of_pure e2)
  · have old : ∀ b o, hp.get? b = some o → h'.get? b = some o := fun b o e => k' b o (Nat.ne_of_lt (Nat.lt_succ_of_lt (Heap.lt_size e))) (k b o e)
    have z : hp.objs.size + 1 + 1 ≤ dx := by
      first
        | (simpa only [Heap.size_push] using dn)
        | exact dn
        | (have q := dn; rw [Heap.size_push, Heap.size_push] at q; exact q)
    exact ⟨rfl, hq h' tk' (hp.objs.size + 1) dx ⟨old, Nat.le_succ _, ⟨t1, hx⟩, Nat.le_trans (Nat.le_trans (Nat.le_succ _) (Nat.le_succ _)) z, dne, hns⟩⟩
end
end Xn
end PySem

set_option Elab.async false
set_option linter.all false
set_option maxRecDepth 100000
set_option maxHeartbeats 4000000
namespace L2
open PySem PySem.Spec PyProof.Rows
/-- an exception object of the class at C, its own dict at d, at a -/
def ExI (C d a : Addr) : HO := .ext fun h => ∃ t1, h.get? a = some { cls := .ref C, dict := some d, data := .fields #[.ref t1, .none, .none, .none, .bool false, .none] }
theorem exI_ok {P : Program} {w : World} {H : Hp} {h : Heap} {C d a : Addr} {t1 : Addr} (e : h.get? a = some { cls := .ref C, dict := some d, data := .fields #[.ref t1, .none, .none, .none, .bool false, .none] }) : ObjOk P w H h a (ExI C d a) :=
  ⟨⟨t1, e⟩, ⟨_, e⟩, fun _ _ ⟨t, q⟩ k => ⟨t, k _ q⟩⟩
theorem relO_one {fld : Str} {v : V} {v' : Value} (r : RelV v v') (f : Str) : RelO (List.lookup f [(fld, v)]) (if f = fld then some v' else none) := by
  by_cases hw : f = fld
  · subst hw
    rw [if_pos rfl]
    have q : List.lookup f [(f, v)] = some v := by simp [List.lookup]
    rw [q]
    exact r
  · rw [if_neg hw]
    have qw : (f == fld) = false := by simpa using hw
    have q2 : List.lookup f [(fld, v)] = none := by simp [List.lookup, qw]
    rw [q2]
    trivial
/-- C(v) in every form -/
def tXn (C : Addr) (fld : Str) (ta : St → Hp → (V → Hp → Prop) → Prop) : TE := fun σ H Q => ta σ H fun v H1 => ∀ e d, H1 e = none → H1 d = none → d ≠ e →
  Q (.ref e) (upd (upd H1 d (.xd [(fld, v)])) e (ExI C d e))
section
variable {X : Cx} {cn fld : Str} {C fI : Addr} {k : Nat}
theorem xn_fin (T : PySem.Xn.ExT X.prog X.K X.mg cn fld C fI) {pins : List (Addr × Obj)} {σ : St} {H : Hp} {s : Shared} {Q : VK} {v : V} {v' : Value} {h' : Heap} {tk : Nat} {e d : Addr} (I : Inv X pins σ H s) (rv : RelV v v') (M : PySem.Xn.OwnMade s.heap h' e C d fld v')
    (q : ∀ e d, H e = none → H d = none → d ≠ e → Q (.ref e) (upd (upd H d (.xd [(fld, v)])) e (ExI C d e))) : EP X pins σ Q (.ref e) { s with heap := h', toks := tk } := by
  obtain ⟨t1, hoe⟩ := M.obj
  have hns := M.ns
  obtain ⟨hp, g, dr, tk0, os⟩ := s
  obtain ⟨G', g1, g2⟩ := restrict h' fun b => decide (b ≠ e)
  have gk : ∀ b, b ≠ e → G'.get? b = h'.get? b := fun b hb => g1 b (decide_eq_true hb)
  have ge : G'.get? e = none := g2 e (by simp)
  have old : ∀ b o, hp.get? b = some o → G'.get? b = some o := fun b o q => (gk b (Nat.ne_of_lt (Nat.lt_of_lt_of_le (Heap.lt_size q) M.new))).trans (M.keep b o q)
  have ob : ObjOk X.prog X.w (upd H d (.xd [(fld, v)])) G' d (.xd [(fld, v)]) :=
    ⟨_, hns.at (fun o q => (gk d M.dne).trans q), fun f => relO_one rv f⟩
  have J : Inv X pins σ (upd H d (.xd [(fld, v)])) ⟨G', g, dr, tk, os⟩ := I.laid (t' := tk) old M.dbig ob
  have hne : (upd H d (.xd [(fld, v)])) e = none := by
    rw [upd_ne (Ne.symm M.dne)]
    exact I.hok.fresh M.new
  have J2 : Inv X pins σ (upd (upd H d (.xd [(fld, v)])) e (ExI C d e)) ⟨h', g, dr, tk, os⟩ :=
    J.laidN (t' := tk) (h' := h') (fun b o q => by
      by_cases hb : b = e
      · have q' : G'.get? b = some o := q
        rw [hb, ge] at q'; cases q'
      · exact (gk b hb).symm.trans q) ge hne (exI_ok hoe)
  exact ⟨.ref e, _, J2, rfl, q e d (I.hok.fresh M.new) (I.hok.fresh M.dbig) M.dne⟩
theorem Inv.nms {pins : List (Addr × Obj)} {σ : St} {H : Hp} {s : Shared} (I : Inv X pins σ H s) : PySem.Xn.Nms s.heap X.mg :=
  ⟨I.mod.glob.keeps I.bk, let ⟨mb, a, b⟩ := I.mod.blt; ⟨mb, a.keeps I.bk, b⟩⟩
/-- C(e) -/
def t1A (ta : TA) : St → Hp → (V → Hp → Prop) → Prop := fun σ H Q => ta σ H fun vs H1 => ∃ v, vs = [v] ∧ Q v H1
theorem pe_xn1 {a : Expr} {ta : TA} {p pos : Pos} (T : PySem.Xn.ExT X.prog X.K X.mg cn fld C fI) (hr : Room k X.A) (ht : (X.prog.main.scope.names.lookup ("super" : Str)).isSome = false) (ha : PA X [a] ta) (hg : Gl X cn := by rfl) (hdb : (cn == ("__debug__" : Str)) = false := by decide)
    (he : starEach (a :: []) X.env = (false, eval a X.env) :: starEach [] X.env := by rfl) (hpl : (backTo pos (starEach [] X.env)).any (·.1) = false := by rfl) :
    PE X (.Call (.Name cn p) [a] [] pos) (tXn C fld (t1A ta)) := by
  refine ⟨fun pins s σ H Q I h => ?_⟩
  refine wpAny_Call_Name_kw (ld_glob I hg T.gC ?_ hdb)
  refine PySem.W.callWith_K (h₀ := X.base) I.ok.mod.kin T.kC (thn (ha.run pos pins s σ H _ I h) fun us s1 hh => ?_) he hpl
  obtain ⟨vs, H1, I1, r1, v, ev, q1⟩ := hh
  subst ev
  refine ⟨I1.kIn, ?_⟩
  cases r1 with
  | cons rv rn =>
    rename_i v' us'
    cases rn
    show wpAny _ _ (call (.ref C) [v']) _ _ _
    exact wpAny_call (PySem.Xn.xn_made T (.inl ⟨rfl, rfl⟩) I1.kIn I1.nms I1.nolimit (by have := hr.dp; omega) ht fun h' tk' e d M => xn_fin T I1 rv M q1)
/-- C() -/
theorem pe_xn0 {p pos : Pos} (T : PySem.Xn.ExT X.prog X.K X.mg cn fld C fI) (hr : Room k X.A) (ht : (X.prog.main.scope.names.lookup ("super" : Str)).isSome = false) (hg : Gl X cn := by rfl) (hdb : (cn == ("__debug__" : Str)) = false := by decide) :
    PE X (.Call (.Name cn p) [] [] pos) (tXn C fld fun _ H Q => Q .non H) := by
  refine ⟨fun pins s σ H Q I h => ?_⟩
  refine wpAny_Call_Name_kw (ld_glob I hg T.gC ?_ hdb)
  refine PySem.W.callWith_K0 I.kIn T.kC ?_
  show wpAny _ _ (call (.ref C) []) _ _ _
  exact wpAny_call (PySem.Xn.xn_made T (v := .none) (.inr (.inr ⟨rfl, rfl, rfl⟩)) I.kIn I.nms I.nolimit (by have := hr.dp; omega) ht fun h' tk' e d M => xn_fin T I (v := .non) rfl M h)
/-- C(f=e) -/
theorem pe_xnK {kws : List Keyword} {tk : TA} {p pos : Pos} (T : PySem.Xn.ExT X.prog X.K X.mg cn fld C fI) (hr : Room k X.A) (ht : (X.prog.main.scope.names.lookup ("super" : Str)).isSome = false) (hkw : PK X kws tk) (hg : Gl X cn := by rfl) (hdb : (cn == ("__debug__" : Str)) = false := by decide)
    (hall : (backToKw pos (keywordEach kws X.env)).all (·.1.isSome) = true := by rfl) (hks : (backToKw pos (keywordEach kws X.env)).filterMap (·.1) = [fld] := by rfl)
    (hpl : ((backTo pos (starEach [] X.env)).any (·.1) || (backToKw pos (keywordEach kws X.env)).any (·.1.isNone)) = false := by rfl) :
    PE X (.Call (.Name cn p) [] kws pos) (tXn C fld (t1A tk)) := by
  refine ⟨fun pins s σ H Q I h => ?_⟩
  refine wpAny_Call_Name_kw (ld_glob I hg T.gC ?_ hdb)
  refine PySem.W.callWith_KW0 (h₀ := X.base) I.ok.mod.kin T.kC hall ?_ hpl
  refine thn (hkw.run pos pins s σ H _ I h) fun ws s2 hh => ?_
  obtain ⟨zs, H2, I2, rz, v, ev, q2⟩ := hh
  subst ev
  refine ⟨I2.kIn, ?_⟩
  rw [hks]
  cases rz with
  | cons rv rn =>
    rename_i v' us'
    cases rn
    show wpAny _ _ (call (.ref C) [] [(fld, v')]) _ _ _
    exact wpAny_call (PySem.Xn.xn_made T (.inr (.inl ⟨rfl, rfl⟩)) I2.kIn I2.nms I2.nolimit (by have := hr.dp; omega) ht fun h' tk' e d M => xn_fin T I2 rv M q2)
/-- e.f of a made exception that stands in H -/
def tXnF (K : PySem.W.Frag) (f : Str) (te : TE) : TE := fun σ H Q => te σ H fun x H1 => ∃ (a C d : Addr) (fs : List (Str × V)) (v : V), x = .ref a ∧ H1 a = some (ExI C d a) ∧ H1 d = some (.xd fs) ∧ fs.lookup f = some v ∧ XfC K C ∧ PySem.W.findIn K (.ref C) f = some none ∧ Q v H1
theorem pe_xnF {e : Expr} {te : TE} {pos : Pos} {n : Str} (he : PE X e te) (hb : attributeBase e n X.env (eval e X.env) = eval e X.env := by rfl) : PE X (.Attribute e n pos) (tXnF X.K n te) := by
  refine ⟨fun pins s σ H Q I h => ?_⟩
  refine attr_of hb (thn (he.run pins s σ H _ I h) fun u s1 hh => ?_)
  obtain ⟨x, H1, I1, rx, a, C, dd, fs, v, ex, ha, ea, l, T, hno, q⟩ := hh
  subst ex
  obtain rfl : u = Value.ref a := rx
  obtain ⟨⟨t1, hoa⟩, _, _⟩ := I1.hok a _ ha
  have hx : ObjOk X.prog X.w H1 s1.heap dd (.xd fs) := I1.hok dd _ ea
  obtain ⟨mA, hns, hr⟩ := hx
  obtain ⟨od, ho, hl⟩ := lookIn_ns hns
  obtain ⟨u, hu, ru⟩ := RelO.some_of (v := v) (o := mA n) (by rw [← l]; exact hr n)
  have J : PySem.W.InstAt s1.heap a _ C (some od) := ⟨hoa, rfl, rfl, ho⟩
  exact HandSPX.exc_get I1.kIn J T.ga T.gg T.exC (PySem.W.findObj_own T.hdC hno rfl (by rw [hl, hu])) (handed_of ru) ⟨v, H1, I1.tok _, ru, q⟩
/-- isinstance(e, c) of a made exception that stands in H -/
structure ExC (K : PySem.W.Frag) (C : Addr) : Prop where
  hcl : (PySem.W.clsIn K C).isSome = true
  hg : PySem.W.findIn K (.ref C) "__getattribute__" = some (some (.builtin "BaseException.__getattribute__"))
  hk : PySem.W.findIn K (.ref C) "__getattr__" = some none
  hs : PySem.W.subIn K (.ref C) (.type "BaseException") = some true
  ha : PySem.W.findIn K (.ref C) "__class__" = some (some (.builtin "object.__class__"))
  hn : PySem.W.specialIn K (.builtin "object.__class__") "__get__" = some (some (.builtin "getset_descriptor.__get__"))
  ht : PySem.W.takesIn K (.builtin "object.__class__") = some true
  hm : PySem.W.mroIn K C (.type "object") = some true
def rIsX (K : PySem.W.Frag) : List V → Hp → VK → Prop := fun xs H Q => ∃ (a C d : Addr) (c : V) (cv : Value) (b : Bool), xs = [.ref a, c] ∧ H a = some (ExI C d a) ∧ (∃ fs, H d = some (.xd fs)) ∧ ClsV c cv ∧ ExC K C ∧ PySem.W.kitOne K (.ref C) cv = some b ∧ Q (.bl b) H
theorem call_isX : CallR X (.builtin "isinstance") (rIsX X.K) := by
  intro pins s σ H xs us Q I r h
  obtain ⟨a, C, d, c, cv, b, rfl, ha, ⟨fs, hd⟩, hcv, T, e, q⟩ := h
  obtain ⟨u1, u2, rfl, r1, r2⟩ := vals2 r
  have e2 := hcv.eq r2
  subst e2
  obtain rfl : u1 = Value.ref a := r1
  obtain ⟨⟨t1, hoa⟩, _, _⟩ := I.hok a _ ha
  obtain ⟨mA, hns, _⟩ : ObjOk X.prog X.w H s.heap d (.xd fs) := I.hok d _ hd
  obtain ⟨od, hod, _⟩ := lookIn_ns hns
  have J : PySem.W.InstAt s.heap a _ C (some od) := ⟨hoa, rfl, rfl, hod⟩
  exact PySem.W.kia_one (PySem.W.kitx_exc T.hcl T.hg T.hk T.hs T.ha T.hn T.ht T.hm) I.kIn J e (fun z => nomatch z) fun tk => ⟨.bl b, H, I.tok tk, rfl, q⟩
end
end L2

set_option Elab.async false
set_option linter.all false
set_option maxRecDepth 100000
set_option maxHeartbeats 4000000
/-! The hand layer's calls once more, where it is told that no repr runs around (A.guards). -/
namespace L2
open PySem PySem.Spec PyProof.Rows
abbrev RoomG (k : Nat) (A : Around) : Prop := Room k A ∧ A.guards = some []
theorem RoomG.mono {j k : Nat} {A : Around} (r : RoomG k A) (h : j ≤ k) : RoomG j A := ⟨r.1.mono h, r.2⟩
structure FnOkG (P : Program) (w : World) (K : PySem.W.Frag) (mg : Str → Option Value) (base : Heap) (CX : CXT) (k : Nat) (f : Addr) (fd : FuncData) (ps : List Str) (sp : Sp) : Prop where
  len : ∀ vs H Q E, sp vs H Q E → vs.length = ps.length
  run : ∀ (A : Around) (outer : List Env) (s : Shared) (H : Hp) (args : Args) (us : List Value) (vs : List V) (Q : VK) (E : XK), RoomG k A → Env0 P w K mg base A outer s H → BindsTo s fd args (ps.zip us) → Vals vs us → sp vs H Q E →
    codeAny (model P w) A (.call (.ref f) args) (CR CX outer P w H s Q E) s
theorem FnOk.g {P : Program} {w : World} {K : PySem.W.Frag} {mg : Str → Option Value} {base : Heap} {CX : CXT} {k : Nat} {f : Addr} {fd : FuncData} {ps : List Str} {sp : Sp} (F : FnOk P w K mg base CX k f fd ps sp) : FnOkG P w K mg base CX k f fd ps sp :=
  ⟨F.len, fun A outer s H args us vs Q E hr => F.run A outer s H args us vs Q E hr.1⟩
theorem FnOkG.imp {P : Program} {w : World} {K : PySem.W.Frag} {mg : Str → Option Value} {base : Heap} {CX : CXT} {k : Nat} {f : Addr} {fd : FuncData} {ps : List Str} {sp sp' : Sp} (F : FnOkG P w K mg base CX k f fd ps sp)
    (h : ∀ vs H Q E, sp' vs H Q E → sp vs H Q E) : FnOkG P w K mg base CX k f fd ps sp' :=
  ⟨fun vs H Q E q => F.len vs H Q E (h _ _ _ _ q), fun A outer s H args us vs Q E hr he hb hv hs => F.run A outer s H args us vs Q E hr he hb hv (h _ _ _ _ hs)⟩
section
variable {X : Cx} {CX : CXT} {k : Nat} {f C : Addr} {fd : FuncData} {ps : List Str} {sp : Sp} {dvs : List V} {ds : List Value} {E : XK} {x m : Str} {p pos apos : Pos} {e o : Expr} {es : List Expr} {ta : TE} {t : TA}
theorem run_fnG {pins : List (Addr × Obj)} {σ : St} {H : Hp} {s : Shared} {Q : VK} {us : List Value} {vs : List V} (F : FnOkG X.prog X.w X.K X.mg X.base CX k f fd ps sp) (hr : RoomG k X.A) (hb : Binds X.K fd ps ds) (hd : Vals dvs ds) (hx : Passes CX X E)
    (I : Inv X pins σ H s) (r : Vals vs us) (h : sp (vs ++ dvs) H Q E) : wpAny (model X.prog X.w) X.A (call (.ref f) us) (EP X pins σ Q) X.xe s := by
  have r2 : Vals (vs ++ dvs) (us ++ ds) := r.append hd
  have hl : (us ++ ds).length = ps.length := by rw [← r2.length]; exact F.len _ _ _ _ h
  refine wpAny_call (codeAny_mono (F.run X.A X.stack s H ⟨us, []⟩ (us ++ ds) (vs ++ dvs) Q E hr I.env0 (hb s us I.kIn hl) r2 h) fun r s' hq => ?_)
  cases r with
  | error e => exact hx pins σ H s e s' I hq
  | ok fl =>
    cases fl with
    | ret u => exact I.after hq
    | next => exact False.elim hq
    | brk => exact False.elim hq
    | cont => exact False.elim hq

theorem pe_callG (F : FnOkG X.prog X.w X.K X.mg X.base CX k f fd ps sp) (hr : RoomG k X.A) (hg : Gl X x) (hm : X.mg x = some (.ref f)) (hk : PySem.W.keepIn X.K (.ref f) = true) (hb : Binds X.K fd ps ds) (hd : Vals dvs ds) (hx : Passes CX X E)
    (ha : PA X (e :: es) t) (hdb : (x == ("__debug__" : Str)) = false := by decide) (he : starEach (e :: es) X.env = (false, eval e X.env) :: starEach es X.env := by rfl) (hpl : (backTo pos (starEach es X.env)).any (·.1) = false := by rfl) :
    PE X (.Call (.Name x p) (e :: es) [] pos) (tCall sp dvs E t) := by
  refine ⟨fun pins s σ H Q I h => ?_⟩
  refine wpAny_Call_Name_kw (ld_glob I hg hm ?_ hdb)
  refine PySem.W.callWith_K (h₀ := X.base) I.ok.mod.kin hk (thn (ha.run pos pins s σ H _ I h) fun us s1 ⟨vs, H1, I1, r, q⟩ => ⟨I1.kIn, ?_⟩) he hpl
  exact run_fnG F hr hb hd hx I1 r q
theorem pe_call0G (F : FnOkG X.prog X.w X.K X.mg X.base CX k f fd ps sp) (hr : RoomG k X.A) (hg : Gl X x) (hm : X.mg x = some (.ref f)) (hk : PySem.W.keepIn X.K (.ref f) = true) (hb : Binds X.K fd ps ds) (hd : Vals dvs ds) (hx : Passes CX X E)
    (hdb : (x == ("__debug__" : Str)) = false := by decide) : PE X (.Call (.Name x p) [] [] pos) (tCall sp dvs E tNil) := by
  refine ⟨fun pins s σ H Q I h => ?_⟩
  refine wpAny_Call_Name_kw (ld_glob I hg hm ?_ hdb)
  exact PySem.W.callWith_K0 I.kIn hk (run_fnG (us := []) F hr hb hd hx I .nil h)

/-- o.m(e, ..) -/
theorem pe_methG {pl : Sem Bool} (he : PE X o ta) (c : Cls X.K C) (hm : Meth X.K C m f) (F : FnOkG X.prog X.w X.K X.mg X.base CX k f fd ps sp) (hr : RoomG k X.A) (hb : Binds X.K fd ps ds) (hd : Vals dvs ds) (hx : Passes CX X E) (ha : PA X (e :: es) t)
    (hst : starEach (e :: es) X.env = (false, eval e X.env) :: starEach es X.env := by rfl) (hpl : (backTo pos (starEach es X.env)).any (·.1) = false := by rfl)
    (ht : eval (.Call (.Attribute o m apos) (e :: es) [] pos) X.env = (do
      let ov ← eval o X.env
      standAt apos.atName
      let (f, first) ← holding [ov] (getMethod ov m pl)
      callWith pos f first (backTo pos (starEach (e :: es) X.env)) (backToKw pos (keywordEach [] X.env))) := by rfl) :
    PE X (.Call (.Attribute o m apos) (e :: es) [] pos) (tMeth C m sp dvs E ta t) := by
  refine ⟨fun pins s σ H Q I h => ?_⟩
  refine PySem.W.methodCall_KW (pl := pl) (thn (he.run pins s σ H _ I h) fun u s1 ⟨x, H1, I1, rx, a, dx, fs, ex, ea, l, q⟩ => ?_) ht
  subst ex
  obtain rfl : u = Value.ref a := rx
  refine getmeth_ok I1 ea c hm l ?_
  refine PySem.W.callWith_K (first := [.ref a]) (h₀ := X.base) I.ok.mod.kin hm.kp (thn (ha.run pos pins s1 σ H1 _ I1 q) fun us s2 ⟨vs, H2, I2, r, q2⟩ => ⟨I2.kIn, ?_⟩) hst hpl
  exact run_fnG (us := .ref a :: us) (vs := .ref a :: vs) F hr hb hd hx I2 (.cons rfl r) q2
/-- o.m() -/
theorem pe_meth0G {pl : Sem Bool} (he : PE X o ta) (c : Cls X.K C) (hm : Meth X.K C m f) (F : FnOkG X.prog X.w X.K X.mg X.base CX k f fd ps sp) (hr : RoomG k X.A) (hb : Binds X.K fd ps ds) (hd : Vals dvs ds) (hx : Passes CX X E)
    (ht : eval (.Call (.Attribute o m apos) [] [] pos) X.env = (do
      let ov ← eval o X.env
      standAt apos.atName
      let (f, first) ← holding [ov] (getMethod ov m pl)
      callWith pos f first (backTo pos (starEach [] X.env)) (backToKw pos (keywordEach [] X.env))) := by rfl) :
    PE X (.Call (.Attribute o m apos) [] [] pos) (tMeth C m sp dvs E ta tNil) := by
  refine ⟨fun pins s σ H Q I h => ?_⟩
  refine PySem.W.methodCall_KW (pl := pl) (thn (he.run pins s σ H _ I h) fun u s1 ⟨x, H1, I1, rx, a, dx, fs, ex, ea, l, q⟩ => ?_) ht
  subst ex
  obtain rfl : u = Value.ref a := rx
  refine getmeth_ok I1 ea c hm l ?_
  exact PySem.W.callWith_K0 (first := [.ref a]) I1.kIn hm.kp (run_fnG (us := [.ref a]) (vs := [.ref a]) F hr hb hd hx I1 (.cons rfl .nil) q)

theorem run_makeG {pins : List (Addr × Obj)} {σ : St} {H : Hp} {s : Shared} {Q : VK} {us : List Value} {vs : List V} (M : Mk X.K C f) (F : FnOkG X.prog X.w X.K X.mg X.base CX k f fd ps sp) (hr : RoomG (k + 1) X.A) (hb : Binds X.K fd ps ds) (hd : Vals dvs ds)
    (hx : Passes CX X E) (I : Inv X pins σ H s) (r : Vals vs us)
    (h : ∀ x dx, H x = none → H dx = none → dx ≠ x → sp (.ref x :: (vs ++ dvs)) (upd (upd H dx (.own x)) x (.ins C dx [])) (fun v H2 => v = .non ∧ Q (.ref x) H2) E) :
    wpAny (model X.prog X.w) X.A (call (.ref C) us) (EP X pins σ Q) X.xe s := by
  have hq := h (s.heap.objs.size + 1) s.heap.objs.size (I.hok.fresh (Nat.le_succ _)) (I.hok.fresh (Nat.le_refl _)) (Nat.ne_of_lt (Nat.lt_succ_self _))
  have I2 := Inv.made (C := C) I
  have r2 : Vals (V.ref (s.heap.objs.size + 1) :: (vs ++ dvs)) (Value.ref (s.heap.objs.size + 1) :: (us ++ ds)) := .cons rfl (r.append hd)
  have hl : (Value.ref (s.heap.objs.size + 1) :: us ++ ds).length = ps.length := by
    have e := r2.length
    rw [F.len _ _ _ _ hq] at e
    exact e.symm
  refine wpAny_call (make_map (f := f) I.kIn M.makes M.init (beq_iff_eq.mp M.fn) (codeAny_mono (F.run _ X.stack _ _ ⟨Value.ref (s.heap.objs.size + 1) :: us, []⟩ (Value.ref (s.heap.objs.size + 1) :: (us ++ ds)) _ _ E ⟨hr.1.make C us [], hr.2⟩
    (I2.env0.make C us []) (hb _ (Value.ref (s.heap.objs.size + 1) :: us) I2.kIn hl) r2 hq) fun r s' hq' => ?_))
  cases r with
  | error e => exact hx pins σ _ _ e s' I2 hq'
  | ok fl =>
    cases fl with
    | ret u =>
      obtain ⟨v, H', I3, rv, ev, q3⟩ := I2.after hq'
      subst ev
      exact ⟨rv, ⟨V.ref (s.heap.objs.size + 1), H', I3, rfl, q3⟩⟩
    | next => exact False.elim hq'
    | brk => exact False.elim hq'
    | cont => exact False.elim hq'
theorem pe_makeG (M : Mk X.K C f) (F : FnOkG X.prog X.w X.K X.mg X.base CX k f fd ps sp) (hr : RoomG (k + 1) X.A) (hg : Gl X x) (hm : X.mg x = some (.ref C)) (hb : Binds X.K fd ps ds) (hd : Vals dvs ds) (hx : Passes CX X E)
    (ha : PA X (e :: es) t) (hdb : (x == ("__debug__" : Str)) = false := by decide) (he : starEach (e :: es) X.env = (false, eval e X.env) :: starEach es X.env := by rfl) (hpl : (backTo pos (starEach es X.env)).any (·.1) = false := by rfl) :
    PE X (.Call (.Name x p) (e :: es) [] pos) (tMake C sp dvs E t) := by
  refine ⟨fun pins s σ H Q I h => ?_⟩
  refine wpAny_Call_Name_kw (ld_glob I hg hm ?_ hdb)
  refine PySem.W.callWith_K (h₀ := X.base) I.ok.mod.kin M.kp (thn (ha.run pos pins s σ H _ I h) fun us s1 ⟨vs, H1, I1, r, q⟩ => ⟨I1.kIn, ?_⟩) he hpl
  exact run_makeG M F hr hb hd hx I1 r q
theorem pe_make0G (M : Mk X.K C f) (F : FnOkG X.prog X.w X.K X.mg X.base CX k f fd ps sp) (hr : RoomG (k + 1) X.A) (hg : Gl X x) (hm : X.mg x = some (.ref C)) (hb : Binds X.K fd ps ds) (hd : Vals dvs ds) (hx : Passes CX X E)
    (hdb : (x == ("__debug__" : Str)) = false := by decide) : PE X (.Call (.Name x p) [] [] pos) (tMake C sp dvs E tNil) := by
  refine ⟨fun pins s σ H Q I h => ?_⟩
  refine wpAny_Call_Name_kw (ld_glob I hg hm ?_ hdb)
  exact PySem.W.callWith_K0 I.kIn M.kp (run_makeG (us := []) M F hr hb hd hx I .nil h)
end
theorem fn_ofG {CX : CXT} {P : Program} {w : World} {K : PySem.W.Frag} {mg : Str → Option Value} {base : Heap} {k : Nat} {f : Addr} {name qual : Str} {params : Arguments} {body : List Stmt} {scope : Scope} {dV kV doc pm cdv ct oc : Value} {an od : Option Addr}
    {osl : Array (Option Value)} {N ps : List Str} {sp : Sp} (lk : K.lookup f = some ⟨oc, od, .func (PySem.W.fnOf name qual params body scope dV kV doc pm an cdv ct), osl⟩) (hcd : PySem.W.codeIn K cdv qual = true) (S : FnScope N ps scope)
    (len : ∀ vs H Q E, sp vs H Q E → vs.length = ps.length)
    (hbody : ∀ (A : Around) (outer : List Env) (s : Shared) (H : Hp) (vs : List V) (Q : VK) (E : XK), RoomG k (A.deeper (envOfC qual scope s.heap.objs.size f cdv)) → sp vs H Q E →
      ∃ t, PSs (cxOf CX P w K mg base N qual scope f cdv A outer s H E) body t ∧ t { nx := fun _ H' => Q .non H', rt := Q } (start N vs) H) :
    FnOkG P w K mg base CX (k + 1) f (PySem.W.fnOf name qual params body scope dV kV doc pm an cdv ct) ps sp := by
  refine ⟨len, fun A outer s H args us vs Q E hr e0 hb r hsp => ?_⟩
  have hl := len _ _ _ _ hsp
  have KX : K.In s.heap := e0.mod.kin.keeps fun b o e => (e0.bs b o e).1
  have lim : s.heap.NoLimit := e0.mod.nolimit.keeps fun b o e => (e0.bs b o e).1
  have hkind : ∀ y ∈ ps.zip us, scope.names.lookup y.1 = some .local ∨ (scope.names.lookup y.1 = some .cell ∧ ((cellsFrom (s.heap.objs.size + 1) scope.names []).lookup y.1).isSome = true) := fun ⟨n, v⟩ hy => by
    rcases S.par n (List.of_mem_zip hy).1 with q | q
    · exact .inl q
    · exact .inr ⟨q, PySem.W.cellsFrom_some _ _ _ (.inl q)⟩
  refine codeAny_call_function hr.1.depth (KX _ _ lk) rfl S.co S.gen rfl (PySem.W.codeRec_of KX hcd) (hb _ _ _ _ ?_)
  refine wpAny_newFunctionEnv_cells S.kind hkind fun env he s1 x => ?_
  subst he
  refine ⟨lim.keeps x.toInCall.keep, codeAny_func ?_⟩
  obtain ⟨t, ht, hq⟩ := hbody A outer s H vs Q E ⟨hr.1.deeper _, hr.2⟩ hsp
  have I : Inv (cxOf CX P w K mg base N qual scope f cdv A outer s H E) [] (start N vs) H s1 := inv_start S hr.1.hd e0 hl r x
  refine wpAny_mono (ht.run [] s1 (start N vs) H _ I hq) (fun fl s' hs => ?_) fun e s' hs => hs
  have fin : ∀ {σ' : St} {H' : Hp} {v : V} {u : Value}, Inv (cxOf CX P w K mg base N qual scope f cdv A outer s H E) [] σ' H' s' → RelV v u → Q v H' → CE outer P w H s Q u s' :=
    fun {σ' H' v u} J rv q => ⟨v, H', J.os, J.bare, J.base, J.hok, rv, q⟩
  cases fl with
  | ret u =>
    obtain ⟨v, σ', H', J, rv, q⟩ := hs
    exact fin J rv q
  | next =>
    obtain ⟨σ', H', J, q⟩ := hs
    exact fin (v := V.non) (u := Value.none) J rfl q
  | brk =>
    obtain ⟨_, _, _, q⟩ := hs
    exact False.elim q
  | cont =>
    obtain ⟨_, _, _, q⟩ := hs
    exact False.elim q

theorem Fun.okG {P : Program} {w : World} {K : PySem.W.Frag} {mg : Str → Option Value} {base : Heap} {x qual : Str} {st : Stmt} {f : Addr} {fd : FuncData} {N ps : List Str} {k : Nat} {sp : Sp} (F : Fun K x qual st f fd) (S : FnScope N ps (defScope st)) (len : ∀ vs H Q E, sp vs H Q E → vs.length = ps.length)
    (hbody : ∀ (cdv : Value) (A : Around) (outer : List Env) (s : Shared) (H : Hp) (vs : List V) (Q : VK) (E : XK), RoomG k (A.deeper (envOfC qual (defScope st) s.heap.objs.size f cdv)) → sp vs H Q E →
      ∃ t, PSs (cxOf CX0 P w K mg base N qual (defScope st) f cdv A outer s H E).nox (defBody st) t ∧ t { nx := fun _ H' => Q .non H', rt := Q } (start N vs) H) : FnOkG P w K mg base CX0 (k + 1) f fd ps sp := by
  obtain ⟨oc, od, kV, doc, pm, an, cdv, ct, osl, rfl, lk, hcd⟩ := F.ex
  refine fn_ofG lk hcd S len fun A outer s H vs Q E hr hsp => ?_
  obtain ⟨t, h, q⟩ := hbody cdv A outer s H vs Q E hr hsp
  exact ⟨t, h.nox, q⟩
theorem Fun.okXG {P : Program} {w : World} {K : PySem.W.Frag} {mg : Str → Option Value} {base : Heap} {x qual : Str} {st : Stmt} {f : Addr} {fd : FuncData} {N ps : List Str} {k : Nat} {sp : Sp} (F : Fun K x qual st f fd) (S : FnScope N ps (defScope st)) (len : ∀ vs H Q E, sp vs H Q E → vs.length = ps.length)
    (hbody : ∀ (cdv : Value) (A : Around) (outer : List Env) (s : Shared) (H : Hp) (vs : List V) (Q : VK) (E : XK), RoomG k (A.deeper (envOfC qual (defScope st) s.heap.objs.size f cdv)) → sp vs H Q E →
      ∃ t, PSs (cxOf (L2.CX P w) P w K mg base N qual (defScope st) f cdv A outer s H E) (defBody st) t ∧ t { nx := fun _ H' => Q .non H', rt := Q } (start N vs) H) : FnOkG P w K mg base (L2.CX P w) (k + 1) f fd ps sp := by
  obtain ⟨oc, od, kV, doc, pm, an, cdv, ct, osl, rfl, lk, hcd⟩ := F.ex
  exact fn_ofG lk hcd S len fun A outer s H vs Q E hr hsp => hbody cdv A outer s H vs Q E hr hsp
theorem law_callG {P : Program} {w : World} {K : PySem.W.Frag} {mg mb : Str → Option Value} {CX : CXT} {k : Nat} {fa a : Addr} {fd : FuncData} {x : Str} {sp : Sp} {s₁ : Shared} {vs : List Value} {ns : List Int}
    (KX : K.In s₁.heap) (hns : s₁.heap.Ns mainGlobals mg) (hb : s₁.heap.Ns builtinsNs mb) (hbb : ∀ x : Str, x ≠ "__name__" → mb x = bootBuiltins x) (hlim : s₁.heap.NoLimit) (hg : s₁.gens = #[])
    (ha : s₁.heap.get? a = some { cls := .type "list", data := .seq vs.toArray }) (hi : IntsAre vs ns) (hl : ns.length ≤ sizeLine) (hr : Room k callerA)
    (F : ∀ base : Heap, K.In base → base.Ns mainGlobals mg → FnOkG P w K mg base CX k fa fd [x] sp) (hbind : ∀ (s : Shared) (u : Value), BindsTo s fd ⟨[u], []⟩ [(x, u)])
    (hsp : ∀ H : Hp, Only H → SqL K H a (ns.map V.int) → sp [.ref a] H (fun v _ => v = .bl true) fun _ _ _ => False)
    (hCX : ∀ H e s', CX [] H s₁ (fun _ _ _ => False) e s' → False) :
    codeAny (model P w) callerA (.call (.ref fa) ⟨[.ref a], []⟩) (fun r s' => r = .ok (.ret (.bool true)) ∧ OldK s₁.heap s'.heap ∧ s'.os = s₁.os ∧ AllBare s'.gens) s₁ := by
  have rv := vals_ints hi
  have lenV := hi.length
  -- from an abstract heap in which nothing but the script may be tracked
  have core : ∀ H : Hp, Only H → SqL K H a (ns.map V.int) → HOk P w H s₁.heap → (∀ b, H b ≠ none → b = a) → (H a ≠ none → K.lookup a = none) →
      codeAny (model P w) callerA (.call (.ref fa) ⟨[.ref a], []⟩) (fun r s' => r = .ok (.ret (.bool true)) ∧ OldK s₁.heap s'.heap ∧ s'.os = s₁.os ∧ AllBare s'.gens) s₁ := by
    intro H hO hS hok hA hK
    have base_of : ∀ {b : Addr} {o : Obj}, s₁.heap.get? b = some o → H b = none → (hidT s₁.heap H).get? b = some o := fun e n => hidT_get e n
    have noA : ∀ {b : Addr} {o : Obj} {es : Array DictEntry} {ep : Nat}, s₁.heap.get? b = some o → o.data = .dict es ep → H b = none := fun {b o es ep} e d => by
      cases q : H b with
      | none => rfl
      | some u =>
        have e' : b = a := hA b (by rw [q]; simp)
        subst e'
        rw [ha] at e; cases e
        have d' : Data.seq vs.toArray _ = Data.dict es ep := d
        cases d'
    have nsK : ∀ {b : Addr} {m : Str → Option Value}, s₁.heap.Ns b m → (hidT s₁.heap H).Ns b m := fun {b m} ⟨o, es, ep, e, d, r⟩ => ⟨o, es, ep, base_of e (noA e d), d, r⟩
    have hKb : K.In (hidT s₁.heap H) := fun b o e => base_of (KX b o e) (by
      cases q : H b with
      | none => rfl
      | some u =>
        have e' : b = a := hA b (by rw [q]; simp)
        subst e'
        rw [hK (by rw [q]; simp)] at e; cases e)
    have hM : Mod K mg (hidT s₁.heap H) := ⟨hKb, nsK hns, ⟨mb, nsK hb, hbb⟩, let ⟨mc, h1, h2⟩ := hlim; ⟨mc, nsK h1, h2⟩⟩
    have e0 : Env0 P w K mg (hidT s₁.heap H) callerA [] s₁ H := ⟨rfl, hM, fun b o e => of_hidT e, Nat.le_of_eq (hidT_size _ _), trivial, fun b hb => absurd (show b ∈ ([] : List Addr) from hb) (by simp), hok, .of_eq hg⟩
    refine codeAny_mono ((F _ hKb (nsK hns)).run callerA [] s₁ H ⟨[.ref a], []⟩ [.ref a] [.ref a] _ _ ⟨hr, rfl⟩ e0 (hbind s₁ (.ref a)) (.cons rfl .nil) (hsp H hO hS)) fun r s' h => ?_
    cases r with
    | error e => exact (hCX H e s' h).elim
    | ok fl =>
      cases fl with
      | next => exact False.elim h
      | brk => exact False.elim h
      | cont => exact False.elim h
      | ret u =>
        obtain ⟨v, H', os, bare, un, hok', r', q⟩ := h
        have q' : v = .bl true := q
        subst q'
        obtain rfl : u = Value.bool true := r'
        refine ⟨rfl, OldK.of_keep fun b o e => ?_, os, bare⟩
        cases q : H b with
        | none => exact un.keep b o e q (by intro z; exact absurd (show b ∈ ([] : List Addr) from z) (by simp)) (by simp)
        | some u =>
          rcases hO b with z | ⟨ob, xs, z⟩
          · rw [q] at z; cases z
          · have z2 := un.frzs b ob _ z
            obtain ⟨e1, _⟩ := hok b _ z
            obtain ⟨e2, _⟩ := hok' b _ z2
            rw [e] at e1; cases e1
            exact e2
  cases hk : K.lookup a with
  | some o =>
    -- the script is one of the module's own objects
    have e := KX a o hk
    rw [ha] at e
    cases e
    refine core (fun _ => none) (fun _ => .inl rfl) (.inr ⟨_, vs.toArray, _, hk, rfl, rfl, rfl, by rw [List.size_toArray, lenV]; exact hl, by simpa using rv⟩) (fun b u z => by have z' : (none : Option HO) = some u := z; cases z') (fun b z => absurd rfl z) fun z => absurd rfl z
  | none =>
    refine core (fun b => if b = a then some (.frz { cls := .type "list", data := .seq vs.toArray } (.lst (ns.map V.int))) else none) (fun b => ?_) (.inl (.inr ⟨{ cls := .type "list", data := .seq vs.toArray }, if_pos rfl⟩)) (fun b u z => ?_) (fun b z => ?_) fun _ => hk
    · by_cases hb : b = a
      · exact .inr ⟨_, _, if_pos hb⟩
      · exact .inl (if_neg hb)
    · by_cases hb : b = a
      · have z' := (if_pos hb).symm.trans z
        cases z'
        subst hb
        exact ⟨ha, by rw [List.length_map]; exact hl, vs, _, rv, ha⟩
      · have z' := (if_neg hb).symm.trans z
        cases z'
    · by_cases hb : b = a
      · exact hb
      · exact absurd (if_neg hb) z
theorem walk_ofG {l : PySem.W.OpenLaw} {n k : Nat} {q : Program} {loose : List Str} {XP : (Str → Option Value) → Heap → Prop} {YP : World → Heap → Prop} {d : DefRec} {K : Params → PySem.W.Frag} {CX : World → CXT} {sp : World → Sp} {x : Str}
    (hn : l.most = some n) (hn2 : n ≤ sizeLine) (hdf : d.params.defaults = []) (hr : Room k callerA)
    (hY : ∀ (w : World) (h : Heap), YP w h → (K w.params).In h)
    (F : ∀ (w : World) (mg : Str → Option Value) (fa : Addr) (h : Heap), (K w.params).In h → h.Ns mainGlobals mg → mg d.name = some (.ref fa) →
      ∃ fd : FuncData, (∀ (s : Shared) (u : Value), BindsTo s fd ⟨[u], []⟩ [(x, u)]) ∧
        ∀ base : Heap, (K w.params).In base → base.Ns mainGlobals mg → FnOkG l.prog w (K w.params) mg base (CX w) k fa fd [x] (sp w))
    (hsp : ∀ (w : World) (H : Hp) (a : Addr) (ns : List Int), ns.length ≤ n → Only H → SqL (K w.params) H a (ns.map V.int) → sp w [.ref a] H (fun v _ => v = .bl true) fun _ _ _ => False)
    (hCX : ∀ (w : World) (H : Hp) (s : Shared) (e : Value) (s' : Shared), CX w [] H s (fun _ _ _ => False) e s' → False) :
    PySem.W.WalkO q loose XP YP l.row.toRowW d [] (fun f vs => PySem.call f vs) := by
  refine Att.attach_call hn hdf fun w s₀ s₁ mg mb fa o pm cd doc a vs ns G Y ho hd hcd hmg hobj hints hlen hg => ?_
  have KX := hY w _ Y
  obtain ⟨fd, hb, hF⟩ := F w mg fa _ KX G.T.g hmg
  exact law_callG KX G.T.g G.T.b G.T.builtins G.T.nolimit hg hobj hints (Nat.le_trans hlen hn2) hr hF hb (fun H hO hS => hsp w H a ns hlen hO hS) fun H e s' => hCX w H s₁ e s'

end L2

set_option Elab.async false
set_option linter.all false
set_option maxRecDepth 100000
set_option maxHeartbeats 4000000
namespace L2
open PySem PySem.Spec PyProof.Rows
def keyD : Key → PyData
  | .inl i => .int i
  | .inr x => .str x
/-- a scalar -/
inductive Sc : V → PyData → Prop
  | non : Sc .non .none
  | bl (b : Bool) : Sc (.bl b) (.bool b)
  | int (i : Int) : Sc (.int i) (.int i)
  | str (x : Str) : Sc (.str x) (.str x)
theorem Sc.reads {h : Heap} : ∀ {v : V} {d : PyData} {u : Value}, Sc v d → RelV v u → Reads h u d []
  | _, _, _, .non, r => by cases r; exact .none
  | _, _, _, .bl b, r => by cases r; exact .bool b
  | _, _, _, .int i, r => by obtain ⟨t, rfl⟩ := r; exact .int i t
  | _, _, _, .str x, r => by obtain ⟨t, rfl⟩ := r; exact .str x t
theorem Sc.readsAll {h : Heap} : ∀ {vs : List V} {ds : List PyData} {us : List Value}, Paired Sc vs ds → Vals vs us → ReadsAll h us ds []
  | _, _, _, .nil, .nil => .nil
  | _, _, _, .cons a b, .cons r t => by
    have := ReadsAll.cons (a.reads (h := h) r) (Sc.readsAll b t)
    simpa using this
/-- repr of data without dicts, or of a dict of scalars -/
def rReprD (K : PySem.W.Frag) : List V → Hp → VK → Prop := fun xs H Q => ∃ (v : V) (d : PyData), xs = [v] ∧
  ((Dp K H v d ∧ d.hasDict = false) ∨ ∃ (a : Addr) (kvs : List (Key × V)) (ds : List PyData), v = .ref a ∧ H a = some (.dK kvs) ∧ Paired Sc (kvs.map (·.2)) ds ∧ d = .dict ((kvs.map fun p => keyD p.1).zip ds)) ∧
  d.showable = true ∧ d.shown.length ≤ sizeLine ∧ d.depth ≤ 50 ∧ Q (.str d.shown) H
theorem keys_read {P : Program} {w : World} {h : Heap} : ∀ {es : List DictEntry} {kvs : List (Key × Value)}, Pairs (mixKind P w) es kvs → ReadsAll h (es.map (·.key)) (kvs.map fun p => keyD p.1) [] ∧ es.map (·.val) = kvs.map (·.2)
  | _, _, .nil => ⟨.nil, rfl⟩
  | _, _, .cons (e := e) (kv := kv) a b c => by
    obtain ⟨r1, r2⟩ := keys_read c
    refine ⟨?_, by rw [List.map_cons, List.map_cons, b, r2]⟩
    have k1 : Reads h e.key (keyD kv.1) [] := by
      rcases keyIs_shape (show keyIs kv.1 e.key = true from a) with ⟨i, t, e1, e2⟩ | ⟨x, t, e1, e2⟩
      · rw [e1, e2]
        exact .int i t
      · rw [e1, e2]
        exact .str x t
    have := ReadsAll.cons k1 r1
    simpa using this
section
variable {X : Cx}
theorem call_reprD (hg : X.A.guards = some []) (hu : X.A.units + 64 < cLine) : CallR X (.builtin "repr") (rReprD X.K) := by
  intro pins s σ H xs us Q I r h
  obtain ⟨v, d, rfl, hv, hs, hz, hdp, q⟩ := h
  obtain ⟨u, rfl, rv⟩ := vals1 r
  have fin : ∀ (as : List Addr), Reads s.heap u d as → (d.hasDict = true → sysModules ∉ as) → wpAny (model X.prog X.w) X.A (call (.builtin "repr") [u]) (EP X pins σ Q) X.xe s := by
    intro as hr hno
    cases hr with
    | none => exact PySem.P.repr_of_none ⟨.str _, H, I.tok _, ⟨_, rfl⟩, q⟩
    | bool b => exact PySem.P.repr_of_bool ⟨.str _, H, I.tok _, ⟨_, rfl⟩, q⟩
    | int i t => exact PySem.P.repr_of_int (by simpa [PyData.showable] using hs) ⟨.str _, H, I.tok _, ⟨_, rfl⟩, q⟩
    | str x t => exact PySem.P.repr_of_str ⟨.str _, H, I.tok _, ⟨_, rfl⟩, q⟩ hz
    | list a b c e => exact repr_of_reads' (.list a b c e) hs hno hg (by omega) (fun _ _ z => z) (fun h' u' tk k => ⟨.str _, H, I.kept (t' := tk) k, ⟨_, rfl⟩, q⟩) hz
    | tuple a b c e => exact repr_of_reads' (.tuple a b c e) hs hno hg (by omega) (fun _ _ z => z) (fun h' u' tk k => ⟨.str _, H, I.kept (t' := tk) k, ⟨_, rfl⟩, q⟩) hz
    | dict a b c e f => exact repr_of_reads' (.dict a b c e f) hs hno hg (by omega) (fun _ _ z => z) (fun h' u' tk k => ⟨.str _, H, I.kept (t' := tk) k, ⟨_, rfl⟩, q⟩) hz
  rcases hv with ⟨hd, hno⟩ | ⟨a, kvs, ds, rfl, ha, hp, rfl⟩
  · obtain ⟨as, hr⟩ := Dp.reads I d v u hd rv
    exact fin as hr fun z => by rw [hno] at z; cases z
  · obtain rfl : u = Value.ref a := rv
    obtain ⟨_, hsys, vs, kv, o, es, ep, ho, hE, hD, _, hP, _⟩ : ObjOk X.prog X.w H s.heap a (.dK kvs) := I.hok a _ ha
    obtain ⟨kr, vr⟩ := keys_read (h := s.heap) hP
    have e1 : ∀ {l1 : List (Key × V)} {l2 : List (Key × Value)}, KV l1 l2 → (l2.map fun p => keyD p.1) = (l1.map fun p => keyD p.1) ∧ Vals (l1.map (·.2)) (l2.map (·.2)) := by
      intro l1 l2 hk
      induction hk with
      | nil => exact ⟨rfl, .nil⟩
      | cons a _ ih => exact ⟨by rw [List.map_cons, List.map_cons, a.1, ih.1], .cons a.2 ih.2⟩
    obtain ⟨ek, ev⟩ := e1 kv
    have hlen : (kvs.map fun p => keyD p.1).length = ds.length := by
      have := Paired.length hp
      simpa using this
    have vr2 : ReadsAll s.heap (es.toList.map (·.val)) ds [] := by
      rw [vr]
      exact Sc.readsAll hp ev
    have R : Reads s.heap (.ref a) (.dict ((kvs.map fun p => keyD p.1).zip ds)) (a :: [] ++ []) :=
      .dict ho hE.1 hD (by rw [List.map_fst_zip (Nat.le_of_eq hlen), ← ek]; exact kr) (by rw [List.map_snd_zip (Nat.le_of_eq hlen.symm)]; exact vr2)
    exact fin _ R fun _ z => by
      have : sysModules = a := by simpa using z
      rw [this] at hsys
      simp at hsys
end
end L2

set_option Elab.async false
set_option linter.all false
set_option maxRecDepth 100000
set_option maxHeartbeats 4000000
namespace K0
open PySem PySem.Spec PyProof.Rows L2
def top (i : Nat) : Stmt := PySem.Challenge.pw_wholemills_k00_errors.main.body.getD i (.Pass ⟨0, 0, 0, 0⟩)
abbrev sHash : Stmt := top 27
abbrev sRandom : Stmt := top 28
abbrev sCell : Stmt := top 29
abbrev sGen : Stmt := top 30
abbrev sKinds : Stmt := top 31
abbrev sPlain : Stmt := top 32
abbrev sNamed : Stmt := top 33
abbrev sBare : Stmt := top 34
abbrev sFields : Stmt := top 35
abbrev sRight : Stmt := top 36
abbrev sLaw : Stmt := top 37
section
variable {P : Program} {w : World} {K : PySem.W.Frag} {mg : Str → Option Value} {base : Heap}
/-- what is asked of a built-in name: the module does not hold it -/
structure Bl (mg : Str → Option Value) : Prop where
  int : mg "int" = none
  range : mg "range" = none
  len : mg "len" = none
  sum : mg "sum" = none
  max : mg "max" = none
  isi : mg "isinstance" = none
  repr : mg "repr" = none
  list : mg "list" = none
  dict : mg "dict" = none
def hash (s x : Int) : Int :=
  let a := (s * 1299709 + 104729 * x * x + 31 * x + 7) % 2147483629
  let b := (a * a + 48271 * x + 15485863) % 2147483587
  (b * 69621) % 2147483647
theorem hash_nn (s x : Int) : 0 ≤ hash s x := Int.emod_nonneg _ (by decide)
theorem hash_lt (s x : Int) : hash s x < 2147483647 := Int.emod_lt_of_pos _ (by decide)
def spHash : Sp := fun vs H Q _ => ∃ s x : Int, vs = [.int s, .int x] ∧ 0 ≤ s ∧ s < 2147483647 ∧ 0 ≤ x ∧ x < 1000000 ∧ Q (.int (hash s x)) H
theorem scH : FnScope ["seed", "index", "mixed"] ["seed", "index"] (defScope sHash) := ⟨rfl, rfl, rfl, by decide +kernel, rfl, by decide +kernel, by decide +kernel⟩
theorem ok_hash {f : Addr} {fd : FuncData} (F : Fun K "_law_hash" "_law_hash" sHash f fd) (B : Bl mg) : FnOkG P w K mg base CX0 1 f fd ["seed", "index"] spHash := by
  refine F.okG scH (fun vs H Q E h => ?_) (fun cdv A outer s H vs Q E hr h => ?_)
  · obtain ⟨s, x, rfl, _⟩ := h
    rfl
  · obtain ⟨a, x, rfl, h1, h2, h3, h4, q⟩ := h
    refine ⟨_, pss_cons (ps_set (i := 2) scH.nd rfl (.inl rfl) (pe_op op_mod (pe_callTy call_int1 (by rfl) B.int (by decide +kernel) (pa_cons (pe_op op_add (pe_op op_add (pe_op op_add (pe_op op_mul (pv 0) pe_int) (pe_op op_mul (pe_op op_mul pe_int (pv 1)) (pv 1))) (pe_op op_mul pe_int (pv 1))) pe_int) pa_nil)) pe_int))
      (pss_cons (ps_set (i := 2) scH.nd rfl (.inl rfl) (pe_op op_mod (pe_callTy call_int1 (by rfl) B.int (by decide +kernel) (pa_cons (pe_op op_add (pe_op op_add (pe_op op_mul (pv 2) (pv 2)) (pe_op op_mul pe_int (pv 1))) pe_int) pa_nil)) pe_int))
      (pss_one (ps_ret (pe_op op_mod (pe_callTy call_int1 (by rfl) B.int (by decide +kernel) (pa_cons (pe_op op_mul (pv 2) pe_int) pa_nil)) pe_int)))), ?_⟩
    have e1 : 0 ≤ (a * 1299709 + 104729 * x * x + 31 * x + 7) % 2147483629 := Int.emod_nonneg _ (by decide)
    have e2 : (a * 1299709 + 104729 * x * x + 31 * x + 7) % 2147483629 < 2147483629 := Int.emod_lt_of_pos _ (by decide)
    have e3 : 0 ≤ ((a * 1299709 + 104729 * x * x + 31 * x + 7) % 2147483629 * ((a * 1299709 + 104729 * x * x + 31 * x + 7) % 2147483629) + 48271 * x + 15485863) % 2147483587 := Int.emod_nonneg _ (by decide)
    have e4 : ((a * 1299709 + 104729 * x * x + 31 * x + 7) % 2147483629 * ((a * 1299709 + 104729 * x * x + 31 * x + 7) % 2147483629) + 48271 * x + 15485863) % 2147483587 < 2147483587 := Int.emod_lt_of_pos _ (by decide)
    refine ⟨_, rfl, _, _, rfl, rfl, .inl ⟨by omega, by omega⟩, _, rfl, _, _, rfl, rfl, .inl ⟨by decide, by decide⟩, _, rfl, _, _, rfl, rfl, .inl ⟨by omega, by omega⟩, _, _, rfl, rfl, _, rfl, _, _, rfl, rfl, .inl ⟨by decide, by decide⟩, _, _, rfl, rfl, _, _, rfl, rfl, .inl ⟨_, rfl, ?_⟩⟩
    refine ⟨_, _, rfl, rfl, (by show (0 : Int) < _; decide), ?_⟩
    refine ⟨_, rfl, _, rfl, _, _, rfl, rfl, .inl ⟨by omega, by omega⟩, _, rfl, _, _, rfl, rfl, .inl ⟨by decide, by decide⟩, _, _, rfl, rfl, _, _, rfl, rfl, .inl ⟨_, rfl, ?_⟩⟩
    refine ⟨_, _, rfl, rfl, (by show (0 : Int) < _; decide), ?_⟩
    refine ⟨_, rfl, _, _, rfl, rfl, .inl ⟨by omega, by omega⟩, .inl ⟨_, rfl, ?_⟩⟩
    refine ⟨_, _, rfl, rfl, (by show (0 : Int) < _; decide), ?_⟩
    exact q

/-! ### the draws: the generator is a list of three ints -/
def G3 (H : Hp) (g : Addr) (a s c : Int) : Prop := H g = some (.lst [.int a, .int s, .int c])
/-- a draw below 10 ** 9 -/
def spRandom : Sp := fun vs H Q _ => ∃ (g : Addr) (a s c : Int), vs = [.ref g, .int 1000000000] ∧ G3 H g a s c ∧ 0 ≤ a ∧ 0 ≤ s ∧ s < 2147483647 ∧ 0 ≤ c ∧ c < 1000 ∧
  ∀ (r a' c' : Int), 0 ≤ r → r < 1000000000 → Q (.int r) (upd H g (.lst [.int a', .int s, .int c']))
theorem scR : FnScope ["generator", "bound", "drawn", "turn"] ["generator", "bound"] (defScope sRandom) := ⟨rfl, rfl, rfl, by decide +kernel, rfl, by decide +kernel, by decide +kernel⟩
theorem ok_random {f fH : Addr} {fd fdH : FuncData} (F : Fun K "_law_random" "_law_random" sRandom f fd) (B : Bl mg) (FH : Fun K "_law_hash" "_law_hash" sHash fH fdH) (bH : Binds K fdH ["seed", "index"] []) (gH : mg "_law_hash" = some (.ref fH)) : FnOkG P w K mg base CX0 2 f fd ["generator", "bound"] spRandom := by
  have GH : FnOkG P w K mg base CX0 1 fH fdH ["seed", "index"] spHash := ok_hash FH B
  refine F.okG scR (fun vs H Q E h => ?_) (fun cdv A outer s H vs Q E hr h => ?_)
  · obtain ⟨g, a, s, c, rfl, _⟩ := h
    rfl
  · obtain ⟨g, a, sd, c, rfl, hg, a0, s0, s1, c0, c1, q⟩ := h
    have hr1 : RoomG 1 _ := hr.mono (by decide)
    refine ⟨_, pss_cons (ps_if (pt_cmpR op_gt (pe_ix ix_list (pv 0) pe_int (fun _ _ => rfl)) pe_int (nomark _))
        (pss_cons (ps_set (i := 2) scR.nd rfl (.inl rfl) (pe_op op_mod (pe_callTy call_int1 (by rfl) B.int (by decide +kernel) (pa_cons (pe_ix ix_list (pv 0) pe_int (fun _ _ => rfl)) pa_nil)) (pv 1)))
        (pss_cons (ps_asg (pe_op op_fdivN (pe_ix ix_list (pv 0) pe_int (fun _ _ => rfl)) (pv 1)) (pg_sub (pv 0) pe_int set_list) )
        (pss_one (ps_ret (pv 2))))) pss_nil)
      (pss_cons (ps_set (i := 2) scR.nd rfl (.inl rfl) pe_int)
      (pss_cons (ps_for PassesOwn.never rfl (pi_range1 rfl B.range (pa_cons (pe_op op_add pe_int (pe_op op_fdiv (pe_bits (pv 1)) pe_int)) pa_nil)) (pg_name (i := 3) scR.nd rfl (.inl rfl))
        (pss_cons (ps_asg (pe_op op_add (pe_ix ix_list (pv 0) pe_int (fun _ _ => rfl)) pe_int) (pg_sub (pv 0) pe_int set_list))
        (pss_one (ps_set (i := 2) scR.nd rfl (.inl rfl) (pe_op op_add (pe_op op_mul (pv 2) pe_int) (pe_callG GH hr1 rfl gH FH.kp bH .nil pass0 (pa_cons (pe_ix ix_list (pv 0) pe_int (fun _ _ => rfl)) (pa_cons (pe_ix ix_list (pv 0) pe_int (fun _ _ => rfl)) pa_nil))))))))
      (pss_one (ps_ret (pe_op op_mod (pe_callTy call_int1 (by rfl) B.int (by decide +kernel) (pa_cons (pv 2) pa_nil)) (pv 1)))))), ?_⟩
    have hS : SqL K H g [.int a, .int sd, .int c] := SqL.of hg
    refine ⟨_, rfl, g, _, _, _, rfl, rfl, hS, atI_nat (j := 0) rfl, _, _, rfl, rfl, _, rfl, ?_⟩
    refine ite2 (fun _ => ?_) (fun _ => ?_)
    · refine ⟨_, rfl, g, _, _, _, rfl, rfl, hS, atI_nat (j := 0) rfl, .inl ⟨_, rfl, ?_⟩⟩
      refine ⟨_, rfl, _, _, rfl, rfl, (by show (0 : Int) < _; decide), ?_⟩
      refine ⟨_, rfl, g, _, _, _, rfl, rfl, hS, atI_nat (j := 0) rfl, _, rfl, _, _, rfl, rfl, ⟨by decide, by decide⟩, ?_⟩
      refine ⟨_, rfl, g, _, _, 0, rfl, rfl, hg, rfl, ?_⟩
      refine ⟨_, rfl, ?_⟩
      exact q _ _ _ (Int.emod_nonneg _ (by decide)) (Int.emod_lt_of_pos _ (by decide))
    · have eb : (Builtin.Int.intBits 1000000000 : Nat) = 30 := by decide +kernel
      refine ⟨_, rfl, 1000000000, rfl, _, _, rfl, rfl, ⟨by decide, by decide⟩, _, _, rfl, rfl, ?_⟩
      rw [eb]
      refine ⟨2, rfl, by decide, by decide, for_range (lo := 0) (n := 2) (fun i σ H' => ∃ (d c' : Int) (v : Option V), σ = [some (.ref g), some (.int 1000000000), some (.int d), v] ∧ H' = upd H g (.lst [.int a, .int sd, .int c']) ∧ 0 ≤ d ∧ (i = 0 → d = 0) ∧ (i ≤ 1 → d < 2147483647) ∧ c' = c + i)
        ⟨0, c, none, rfl, ?_, Int.le_refl 0, fun _ => rfl, fun _ => by decide, by simp⟩ ?_ ?_⟩
      · funext b
        by_cases hb : b = g
        · rw [hb, upd_same]; exact hg
        · rw [upd_ne hb]
      · rintro i σ H' hi ⟨d, c', v, rfl, rfl, d0, dz, d1, rfl⟩
        have hS' : ∀ z : Int, SqL K (upd H g (.lst [.int a, .int sd, .int z])) g [.int a, .int sd, .int z] := fun z => SqL.of upd_same
        refine ⟨_, rfl, g, _, _, _, rfl, rfl, hS' _, atI_nat (j := 2) rfl, _, _, rfl, rfl, ?_⟩
        refine ⟨_, rfl, g, _, _, 2, rfl, rfl, upd_same, rfl, ?_⟩
        rw [upd_upd]
        have d2 := d1 (by omega)
        refine ⟨_, rfl, _, _, rfl, rfl, .inl ⟨by omega, by omega⟩, ?_⟩
        refine ⟨_, rfl, g, _, _, _, rfl, rfl, hS' _, atI_nat (j := 1) rfl, ?_⟩
        refine ⟨_, rfl, g, _, _, _, rfl, rfl, hS' _, atI_nat (j := 2) rfl, ?_⟩
        refine ⟨sd, c + i + 1, rfl, s0, s1, by omega, by omega, ?_⟩
        refine ⟨_, _, rfl, rfl, ?_⟩
        have h1 := hash_nn sd (c + i + 1)
        have h2 := hash_lt sd (c + i + 1)
        refine ⟨_, _, _, rfl, rfl, by omega, fun z => by omega, fun z => ?_, by omega⟩
        have z0 := dz (by omega)
        subst z0
        omega
      · rintro σ H' ⟨d, c', v, rfl, rfl, d0, dz, d1, rfl⟩
        refine ⟨_, rfl, .inl ⟨_, rfl, ?_⟩⟩
        refine ⟨_, rfl, _, _, rfl, rfl, (by show (0 : Int) < _; decide), ?_⟩
        exact q _ _ _ (Int.emod_nonneg _ (by decide)) (Int.emod_lt_of_pos _ (by decide))
end
end K0

set_option Elab.async false
set_option linter.all false
set_option maxRecDepth 100000
set_option maxHeartbeats 4000000
namespace K0
open PySem PySem.Spec PyProof.Rows L2
section
variable {P : Program} {w : World} {K : PySem.W.Frag} {mg : Str → Option Value} {base : Heap}
theorem sm_new {H : Hp} {p : Addr} {o : HO} (h : H p = none) : Same H (upd H p o) := fun b u e => by
  rw [upd_ne (ne_of_none e h)]
  exact e
def spCell (K : PySem.W.Frag) : Sp := fun vs H Q _ => ∃ (a : Addr) (ns : List Int), vs = [.ref a, .int 0] ∧ SqL K H a (ns.map V.int) ∧ ns.length ≤ 63 ∧ ∀ (z : Int) (H' : Hp), Same H H' → Q (.int z) H'
theorem scC : FnScope ["script", "index"] ["script", "index"] (defScope sCell) := ⟨rfl, rfl, rfl, by decide +kernel, rfl, by decide +kernel, by decide +kernel⟩
theorem ok_cell {f : Addr} {fd : FuncData} (F : Fun K "_law_cell" "_law_cell" sCell f fd) (B : Bl mg) : FnOkG P w K mg base CX0 1 f fd ["script", "index"] (spCell K) := by
  refine F.okG scC (fun vs H Q E h => ?_) (fun cdv A outer s H vs Q E hr h => ?_)
  · obtain ⟨a, ns, rfl, _⟩ := h
    rfl
  · obtain ⟨a, ns, rfl, hS, hl, q⟩ := h
    refine ⟨_, pss_cons (ps_if (pt_cmpR op_lt (pv 1) (pe_callB call_len_seq (by rfl) B.len PySem.boot_len (pa_cons (pv 0) pa_nil)) (nomark _)) (pss_one (ps_ret (pe_ix ix_list (pv 0) (pv 1) (fun _ _ => rfl)))) pss_nil)
      (pss_one (ps_ret (pe_op op_mod (pe_callB (cr_sum rfl) (by rfl) B.sum (by decide +kernel) (pa_cons (pe_slice sl_list (pv 0) po_none (po_some pe_int)) pa_nil)) pe_int))), ?_⟩
    refine ⟨_, rfl, _, rfl, a, _, rfl, .inl hS, _, _, rfl, rfl, _, rfl, ?_⟩
    refine ite2 (fun h => ?_) (fun h => ?_)
    · rw [List.length_map] at h
      have h' : 0 < ns.length := by simpa using h
      obtain ⟨z, hz⟩ : ∃ z, ns[0]? = some z := ⟨ns[0], List.getElem?_eq_getElem h'⟩
      refine ⟨_, rfl, _, rfl, a, _, _, .int z, rfl, rfl, hS, atI_nat (j := 0) (by rw [List.getElem?_map, hz]; rfl), ?_⟩
      exact q z H (Same.refl H)
    · have h' : ns = [] := by
        rw [List.length_map] at h
        cases ns with
        | nil => rfl
        | cons x r => simp at h
      subst h'
      refine ⟨_, rfl, _, rfl, a, _, rfl, hS, fun p hp => ?_⟩
      refine ⟨p, [], rfl, SqL.of upd_same, ?_⟩
      refine ⟨_, _, rfl, rfl, (by show (0 : Int) < _; decide), ?_⟩
      exact q _ _ (sm_new hp)

def CPowW : Int → Int → Prop := fun i j => 0 ≤ j ∧ (Builtin.Int.intBits i : Int) * j ≤ 2 ^ 27
theorem op_powW {X : Cx} : OpR X (binaryOp .Pow) (rI CPowW fun i j => .int (i ^ j.toNat)) := by
  intro pins s σ H x y v u Q I rx ry h
  obtain ⟨i, j, rfl, rfl, hc, q⟩ := h
  obtain ⟨t, rfl⟩ := rx
  obtain ⟨t', rfl⟩ := ry
  exact pow_int hc.1 hc.2 ⟨.int _, H, I.tok _, ⟨_, rfl⟩, q⟩
def spGen (K : PySem.W.Frag) : Sp := fun vs H Q _ => ∃ (a : Addr) (ns : List Int), vs = [.ref a, .int 0] ∧ SqL K H a (ns.map V.int) ∧ ns.length ≤ 63 ∧
  ∀ (g : Addr) (x s : Int) (H' : Hp), Same H H' → H g = none → G3 H' g x s 0 → 0 ≤ x → 0 ≤ s → s < 2147483647 → Q (.ref g) H'
theorem scG : FnScope ["script", "index", "seed"] ["script", "index"] (defScope sGen) := ⟨rfl, rfl, rfl, by decide +kernel, rfl, by decide +kernel, by decide +kernel⟩
theorem ok_gen {f fC : Addr} {fd fdC : FuncData} (F : Fun K "_law_generator" "_law_generator" sGen f fd) (B : Bl mg) (FC : Fun K "_law_cell" "_law_cell" sCell fC fdC) (bC : Binds K fdC ["script", "index"] []) (gC : mg "_law_cell" = some (.ref fC)) : FnOkG P w K mg base CX0 2 f fd ["script", "index"] (spGen K) := by
  have GC : FnOkG P w K mg base CX0 1 fC fdC ["script", "index"] (spCell K) := ok_cell FC B
  refine F.okG scG (fun vs H Q E h => ?_) (fun cdv A outer s H vs Q E hr h => ?_)
  · obtain ⟨a, ns, rfl, _⟩ := h
    rfl
  · obtain ⟨a, ns, rfl, hS, hl, q⟩ := h
    have hr1 : RoomG 1 _ := hr.mono (by decide)
    refine ⟨_, pss_cons (ps_set (i := 2) scG.nd rfl (.inl rfl) (pe_callG GC hr1 rfl gC FC.kp bC .nil pass0 (pa_cons (pv 0) (pa_cons (pv 1) pa_nil))))
      (pss_one (ps_ret (pe_lst (pa_cons (pe_op op_modN (pe_callTy call_int1 (by rfl) B.int (by decide +kernel) (pa_cons (pe_callB (call_max2 rfl) (by rfl) B.max (by decide +kernel) (pa_cons (pe_op op_sub (pv 2) (pe_op op_pow pe_int pe_int)) (pa_cons pe_int pa_nil))) pa_nil)) (pe_op op_powW (pe_op op_pow pe_int pe_int) pe_int))
        (pa_cons (pe_op op_mod (pe_callTy call_int1 (by rfl) B.int (by decide +kernel) (pa_cons (pv 2) pa_nil)) pe_int)
        (pa_cons (pe_op op_mul pe_int (pv 1)) pa_nil)))))), ?_⟩
    refine ⟨_, rfl, _, rfl, a, ns, rfl, hS, hl, fun z H1 s1 => ?_⟩
    refine ⟨_, rfl, _, _, rfl, rfl, ⟨by decide, by decide, by decide⟩, _, _, rfl, rfl, _, _, rfl, .inl ⟨_, rfl, ?_⟩⟩
    refine ⟨_, _, rfl, rfl, ⟨by decide, by decide, by decide⟩, ?_⟩
    refine ⟨_, _, rfl, rfl, ⟨by decide, by decide +kernel⟩, ?_⟩
    refine ⟨_, _, rfl, rfl, (by show (_ : Int) ≠ 0; decide +kernel), ?_⟩
    refine ⟨_, rfl, .inl ⟨_, rfl, _, _, rfl, rfl, (by show (0 : Int) < _; decide), ?_⟩⟩
    refine ⟨_, rfl, _, _, rfl, rfl, .inl ⟨by decide, by decide⟩, (by show 3 ≤ sizeLine; decide), fun p hp => ?_⟩
    refine q p _ _ _ (s1.trans (sm_new hp)) (s1.free hp) upd_same ?_ (Int.emod_nonneg _ (by decide)) (Int.emod_lt_of_pos _ (by decide))
    exact Int.fmod_nonneg_of_pos _ (by decide +kernel)
end
end K0

set_option Elab.async false
set_option linter.all false
set_option maxRecDepth 100000
set_option maxHeartbeats 4000000
namespace K0
open PySem PySem.Spec PyProof.Rows L2
def names : List Str := ["InvalidList", "InvalidItem", "InvalidNumber", "InvalidMill", "InvalidHoldings", "InvalidRow", "InvalidBox", "InvalidChain", "InvalidBrew", "InvalidBands", "InvalidEntries", "InvalidBook", "UnlikeBooks", "InvalidText", "InvalidLot", "InvalidPrices", "InvalidClaim", "InvalidName", "TakenName", "UnknownName", "Lacking", "UnknownBooking", "UnknownClaim", "NothingToUndo", "MillError"]
def cn (i : Nat) : Str := names.getD i "MillError"
def fl (i : Nat) : Str := if i < 17 then "value" else if i < 21 then "name" else "number"
/-- what the top has written of the error classes: Cf the class at each number (23 NothingToUndo, 24 MillError) -/
structure TX (P : Program) (K : PySem.W.Frag) (mg : Str → Option Value) (Cf If : Nat → Addr) : Prop where
  e : ∀ i, i < 23 → PySem.Xn.ExT P K mg (cn i) (fl i) (Cf i) (If i)
  g : ∀ i, i < 25 → mg (cn i) = some (.ref (Cf i))
  x : ∀ i, i < 25 → L2.ExC K (Cf i)
  kit : ∀ i, i < 25 → ∀ j, j < 25 → PySem.W.kitOne K (.ref (Cf i)) (.ref (Cf j)) = some (i == j || j == 24)
  kitV : ∀ i, i < 25 → PySem.W.kitOne K (.ref (Cf i)) (.type "ValueError") = some true
  nVE : mg "ValueError" = none
/-- an exception that stands in H, of the class at C: with a dict of its own, or without -/
def IsX (H : Hp) (a C : Addr) : Prop := (∃ d fs, H a = some (ExI C d a) ∧ H d = some (.xd fs)) ∨ H a = some (ExO (.ref C) a)
def rIsA (K : PySem.W.Frag) : List V → Hp → VK → Prop := fun xs H Q => ∃ (a C : Addr) (c : V) (cv : Value) (b : Bool), xs = [.ref a, c] ∧ IsX H a C ∧ ClsV c cv ∧ L2.ExC K C ∧ PySem.W.kitOne K (.ref C) cv = some b ∧ Q (.bl b) H
theorem call_isA {X : Cx} : CallR X (.builtin "isinstance") (rIsA X.K) := by
  intro pins s σ H xs us Q I r h
  obtain ⟨a, C, c, cv, b, rfl, hx, hcv, T, e, q⟩ := h
  rcases hx with ⟨d, fs, ha, hd⟩ | ha
  · exact call_isX pins s σ H _ us Q I r ⟨a, C, d, c, cv, b, rfl, ha, ⟨fs, hd⟩, hcv, T, e, q⟩
  · obtain ⟨u1, u2, rfl, r1, r2⟩ := vals2 r
    have e2 := hcv.eq r2
    subst e2
    obtain rfl : u1 = Value.ref a := r1
    obtain ⟨⟨oe, vs, hoa, ⟨hz1, hz2⟩, hdat, _⟩, _, _⟩ := I.hok a _ ha
    have J : PySem.W.InstAt s.heap a oe C none := by
      obtain ⟨oc, od, oda, osl⟩ := oe
      dsimp only at hz1 hz2 hdat
      subst hz1 hz2 hdat
      exact ⟨hoa, rfl, rfl, trivial⟩
    exact PySem.W.kia_one (PySem.W.kitx_exc T.hcl T.hg T.hk T.hs T.ha T.hn T.ht T.hm) I.kIn J e (fun z => nomatch z) fun tk => ⟨.bl b, H, I.tok tk, rfl, q⟩

theorem cat_step {σ : L2.St} {H : Hp} {p : Addr} {xs ys : List V} {i : Nat} {ta : TA} (h1 : σ[i]? = some (some (.ref p))) (h2 : H p = some (.lst xs)) (ha : Evl.EvA ta σ H ys) (hl : xs.length + ys.length ≤ 1000) (Q : VK)
    (q : ∀ p' H', Same H H' → H p' = none → H' p' = some (.lst (xs ++ ys)) → Q (.ref p') H') : tOp rCat (tVar i) (tLst ta) σ H Q := by
  refine ⟨_, h1, ha H (Evl.Ex.refl H) _ fun H2 e2 => ⟨Evl.sz_of (by omega), fun r hr => ?_⟩⟩
  have e3 : Same H2 (upd H2 r (.lst ys)) := sm_new hr
  refine ⟨p, r, xs, ys, rfl, rfl, e3 p _ (e2 p _ h2), upd_same, Evl.sz_of (by omega), fun p' hp' => ?_⟩
  have e4 := sm_new (o := .lst (xs ++ ys)) hp'
  exact q p' _ (Same.trans (Same.trans e2 e3) e4) (Same.free e2 (Same.free e3 hp')) upd_same
theorem lst_step {σ : L2.St} {H : Hp} {ys : List V} {ta : TA} (ha : Evl.EvA ta σ H ys) (hl : ys.length ≤ 1000) (Q : VK)
    (q : ∀ p' H', Same H H' → H p' = none → H' p' = some (.lst ys) → Q (.ref p') H') : tLst ta σ H Q := by
  refine ha H (Evl.Ex.refl H) _ fun H2 e2 => ⟨Evl.sz_of (by omega), fun r hr => ?_⟩
  exact q r _ (Same.trans e2 (sm_new hr)) (Same.free e2 hr) upd_same
theorem seq_cat {σ : L2.St} {H : Hp} {p : Addr} {xs ys : List V} {i j : Nat} {ta : TA} {u : TS} {D : Ends} (h1 : σ[i]? = some (some (.ref p))) (h2 : H p = some (.lst xs)) (ha : Evl.EvA ta σ H ys) (hl : xs.length + ys.length ≤ 1000)
    (q : ∀ p' H', Same H H' → H p' = none → H' p' = some (.lst (xs ++ ys)) → u D (σ.set j (some (.ref p'))) H') : tSeq (tAsg (tOp rCat (tVar i) (tLst ta)) (gName j)) u D σ H := cat_step h1 h2 ha hl _ q
theorem seq_lst {σ : L2.St} {H : Hp} {ys : List V} {j : Nat} {ta : TA} {u : TS} {D : Ends} (ha : Evl.EvA ta σ H ys) (hl : ys.length ≤ 1000)
    (q : ∀ p' H', Same H H' → H p' = none → H' p' = some (.lst ys) → u D (σ.set j (some (.ref p'))) H') : tSeq (tAsg (tLst ta) (gName j)) u D σ H := by
  have z := lst_step ha hl (fun x H1 => gName j x σ H1 fun σ' H' => u D σ' H') q
  exact z
theorem two_A {σ : L2.St} {H : Hp} {t1 t2 : TE} {x y : V} (h1 : Evl.Ev t1 σ H x) (h2 : Evl.Ev t2 σ H y) : Evl.EvA (tCons t1 (tCons t2 tNil)) σ H [x, y] := fun H1 e Q q =>
  h1 H1 e _ fun H2 e2 => h2 H2 (e.trans e2) _ fun H3 e3 => q H3 (e2.trans e3)
theorem isX_ex {H H' : Hp} {a C : Addr} (e : Same H H') (h : IsX H a C) : IsX H' a C := by
  rcases h with ⟨d, fs, h1, h2⟩ | h
  · exact .inl ⟨d, fs, e _ _ h1, e _ _ h2⟩
  · exact .inr (e _ _ h)
theorem ev_isA {K : PySem.W.Frag} {σ : L2.St} {H : Hp} {a C : Addr} {c : V} {cv : Value} {b : Bool} (h0 : σ[0]? = some (some (.ref a))) (hx : IsX H a C) (hc : ClsV c cv) (T : L2.ExC K C) (hk : PySem.W.kitOne K (.ref C) cv = some b) :
    Evl.Ev (tCB (rIsA K) (tCons (tVar 0) (tCons (tC c) tNil))) σ H (.bl b) := fun H1 e Q q =>
  ⟨_, h0, a, C, c, cv, b, rfl, isX_ex e hx, hc, T, hk, q H1 (Evl.Ex.refl H1)⟩
section
variable {P : Program} {w : World} {K : PySem.W.Frag} {mg : Str → Option Value} {base : Heap} {Cf If : Nat → Addr}
/-- what _law_kinds tells of the class with the number i -/
def kindsOf (i : Nat) : List Int := if i = 24 then [] else [(i : Int)]
def spKinds (Cf : Nat → Addr) : Sp := fun vs H Q _ => ∃ (a : Addr) (i : Nat), vs = [.ref a] ∧ i < 25 ∧ IsX H a (Cf i) ∧ ∀ (p : Addr) (H' : Hp), Same H H' → H p = none → H' p = some (.lst ((kindsOf i).map V.int)) → Q (.ref p) H'
theorem scK : FnScope ["error", "classes", "at"] ["error"] (defScope sKinds) := ⟨rfl, rfl, rfl, by decide +kernel, rfl, by decide +kernel, by decide +kernel⟩
def bits (i : Nat) : List V := (List.range 24).map fun j => V.bl (i == j || j == 24)
theorem ok_kinds {f : Addr} {fd : FuncData} (F : Fun K "_law_kinds" "_law_kinds" sKinds f fd) (B : Bl mg) (T : TX P K mg Cf If) : FnOkG P w K mg base CX0 1 f fd ["error"] (spKinds Cf) := by
  refine F.okG scK (fun vs H Q E h => ?_) (fun cdv A outer s H vs Q E hr h => ?_)
  · obtain ⟨a, i, rfl, _⟩ := h
    rfl
  · obtain ⟨a, i, rfl, hi, hx, q⟩ := h
    refine ⟨_, pss_cons (ps_set (i := 1) scK.nd rfl (.inr rfl) (pe_lst (pa_cons (pe_callB call_isA (by rfl) B.isi (by decide +kernel) (pa_cons (pv 0) (pa_cons (pe_glob (v := .ref (Cf 0)) rfl (T.g 0 (by decide)) rfl) pa_nil))) (pa_cons (pe_callB call_isA (by rfl) B.isi (by decide +kernel) (pa_cons (pv 0) (pa_cons (pe_glob (v := .ref (Cf 1)) rfl (T.g 1 (by decide)) rfl) pa_nil))) pa_nil))))
      (pss_cons (ps_set (i := 1) scK.nd rfl (.inr rfl) (pe_op op_cat (pv 1) (pe_lst (pa_cons (pe_callB call_isA (by rfl) B.isi (by decide +kernel) (pa_cons (pv 0) (pa_cons (pe_glob (v := .ref (Cf 2)) rfl (T.g 2 (by decide)) rfl) pa_nil))) (pa_cons (pe_callB call_isA (by rfl) B.isi (by decide +kernel) (pa_cons (pv 0) (pa_cons (pe_glob (v := .ref (Cf 3)) rfl (T.g 3 (by decide)) rfl) pa_nil))) pa_nil)))))
      (pss_cons (ps_set (i := 1) scK.nd rfl (.inr rfl) (pe_op op_cat (pv 1) (pe_lst (pa_cons (pe_callB call_isA (by rfl) B.isi (by decide +kernel) (pa_cons (pv 0) (pa_cons (pe_glob (v := .ref (Cf 4)) rfl (T.g 4 (by decide)) rfl) pa_nil))) (pa_cons (pe_callB call_isA (by rfl) B.isi (by decide +kernel) (pa_cons (pv 0) (pa_cons (pe_glob (v := .ref (Cf 5)) rfl (T.g 5 (by decide)) rfl) pa_nil))) pa_nil)))))
      (pss_cons (ps_set (i := 1) scK.nd rfl (.inr rfl) (pe_op op_cat (pv 1) (pe_lst (pa_cons (pe_callB call_isA (by rfl) B.isi (by decide +kernel) (pa_cons (pv 0) (pa_cons (pe_glob (v := .ref (Cf 6)) rfl (T.g 6 (by decide)) rfl) pa_nil))) (pa_cons (pe_callB call_isA (by rfl) B.isi (by decide +kernel) (pa_cons (pv 0) (pa_cons (pe_glob (v := .ref (Cf 7)) rfl (T.g 7 (by decide)) rfl) pa_nil))) pa_nil)))))
      (pss_cons (ps_set (i := 1) scK.nd rfl (.inr rfl) (pe_op op_cat (pv 1) (pe_lst (pa_cons (pe_callB call_isA (by rfl) B.isi (by decide +kernel) (pa_cons (pv 0) (pa_cons (pe_glob (v := .ref (Cf 8)) rfl (T.g 8 (by decide)) rfl) pa_nil))) (pa_cons (pe_callB call_isA (by rfl) B.isi (by decide +kernel) (pa_cons (pv 0) (pa_cons (pe_glob (v := .ref (Cf 9)) rfl (T.g 9 (by decide)) rfl) pa_nil))) pa_nil)))))
      (pss_cons (ps_set (i := 1) scK.nd rfl (.inr rfl) (pe_op op_cat (pv 1) (pe_lst (pa_cons (pe_callB call_isA (by rfl) B.isi (by decide +kernel) (pa_cons (pv 0) (pa_cons (pe_glob (v := .ref (Cf 10)) rfl (T.g 10 (by decide)) rfl) pa_nil))) (pa_cons (pe_callB call_isA (by rfl) B.isi (by decide +kernel) (pa_cons (pv 0) (pa_cons (pe_glob (v := .ref (Cf 11)) rfl (T.g 11 (by decide)) rfl) pa_nil))) pa_nil)))))
      (pss_cons (ps_set (i := 1) scK.nd rfl (.inr rfl) (pe_op op_cat (pv 1) (pe_lst (pa_cons (pe_callB call_isA (by rfl) B.isi (by decide +kernel) (pa_cons (pv 0) (pa_cons (pe_glob (v := .ref (Cf 12)) rfl (T.g 12 (by decide)) rfl) pa_nil))) (pa_cons (pe_callB call_isA (by rfl) B.isi (by decide +kernel) (pa_cons (pv 0) (pa_cons (pe_glob (v := .ref (Cf 13)) rfl (T.g 13 (by decide)) rfl) pa_nil))) pa_nil)))))
      (pss_cons (ps_set (i := 1) scK.nd rfl (.inr rfl) (pe_op op_cat (pv 1) (pe_lst (pa_cons (pe_callB call_isA (by rfl) B.isi (by decide +kernel) (pa_cons (pv 0) (pa_cons (pe_glob (v := .ref (Cf 14)) rfl (T.g 14 (by decide)) rfl) pa_nil))) (pa_cons (pe_callB call_isA (by rfl) B.isi (by decide +kernel) (pa_cons (pv 0) (pa_cons (pe_glob (v := .ref (Cf 15)) rfl (T.g 15 (by decide)) rfl) pa_nil))) pa_nil)))))
      (pss_cons (ps_set (i := 1) scK.nd rfl (.inr rfl) (pe_op op_cat (pv 1) (pe_lst (pa_cons (pe_callB call_isA (by rfl) B.isi (by decide +kernel) (pa_cons (pv 0) (pa_cons (pe_glob (v := .ref (Cf 16)) rfl (T.g 16 (by decide)) rfl) pa_nil))) (pa_cons (pe_callB call_isA (by rfl) B.isi (by decide +kernel) (pa_cons (pv 0) (pa_cons (pe_glob (v := .ref (Cf 17)) rfl (T.g 17 (by decide)) rfl) pa_nil))) pa_nil)))))
      (pss_cons (ps_set (i := 1) scK.nd rfl (.inr rfl) (pe_op op_cat (pv 1) (pe_lst (pa_cons (pe_callB call_isA (by rfl) B.isi (by decide +kernel) (pa_cons (pv 0) (pa_cons (pe_glob (v := .ref (Cf 18)) rfl (T.g 18 (by decide)) rfl) pa_nil))) (pa_cons (pe_callB call_isA (by rfl) B.isi (by decide +kernel) (pa_cons (pv 0) (pa_cons (pe_glob (v := .ref (Cf 19)) rfl (T.g 19 (by decide)) rfl) pa_nil))) pa_nil)))))
      (pss_cons (ps_set (i := 1) scK.nd rfl (.inr rfl) (pe_op op_cat (pv 1) (pe_lst (pa_cons (pe_callB call_isA (by rfl) B.isi (by decide +kernel) (pa_cons (pv 0) (pa_cons (pe_glob (v := .ref (Cf 20)) rfl (T.g 20 (by decide)) rfl) pa_nil))) (pa_cons (pe_callB call_isA (by rfl) B.isi (by decide +kernel) (pa_cons (pv 0) (pa_cons (pe_glob (v := .ref (Cf 21)) rfl (T.g 21 (by decide)) rfl) pa_nil))) pa_nil)))))
      (pss_cons (ps_set (i := 1) scK.nd rfl (.inr rfl) (pe_op op_cat (pv 1) (pe_lst (pa_cons (pe_callB call_isA (by rfl) B.isi (by decide +kernel) (pa_cons (pv 0) (pa_cons (pe_glob (v := .ref (Cf 22)) rfl (T.g 22 (by decide)) rfl) pa_nil))) (pa_cons (pe_callB call_isA (by rfl) B.isi (by decide +kernel) (pa_cons (pv 0) (pa_cons (pe_glob (v := .ref (Cf 23)) rfl (T.g 23 (by decide)) rfl) pa_nil))) pa_nil)))))
      (pss_cons (ps_if (PW.pt (pw_or (pt_not (pt_val (pe_callB call_isA (by rfl) B.isi (by decide +kernel) (pa_cons (pv 0) (pa_cons (pe_glob (v := .ref (Cf 24)) rfl (T.g 24 (by decide)) rfl) pa_nil))))) (pw_or1 (pt_not (pt_val (pe_callB call_isA (by rfl) B.isi (by decide +kernel) (pa_cons (pv 0) (pa_cons (pe_bltn (v := .ty "ValueError") (by rfl) T.nVE (by decide +kernel) rfl) pa_nil)))))))) (pss_one (ps_ret (pe_lst pa_nil))) pss_nil)
      (pss_one (ps_ret (pe_lc (own := [("at", 2)]) (g := gName 2) rfl scK.nd (pi_range1 rfl B.range (pa_cons pe_int pa_nil)) (blkOk_by (own := [("at", 2)]) (N := ["error", "classes", "at"]) (sc := defScope sKinds) (by decide +kernel)) (fun _ _ _ _ _ => pg_name (i := 2) scK.nd rfl (.inl rfl)) (fun _ _ _ _ _ => pts_one (pt_val (pe_ix (r := rIxL K) ix_list (pv 1) (pv 2) (fun _ _ => rfl)))) (fun _ _ _ _ _ => pv 2)))))))))))))))), ?_⟩
    have ev : ∀ (j : Nat), j < 25 → ∀ (σ : L2.St) (H' : Hp), Same H H' → σ[0]? = some (some (.ref a)) → Evl.Ev (tCB (rIsA K) (tCons (tVar 0) (tCons (tC (.ref (Cf j))) tNil))) σ H' (.bl (i == j || j == 24)) :=
      fun j hj σ H' e h0 => ev_isA h0 (isX_ex e hx) (.own _) (T.x i hi) (T.kit i hi j hj)
    have s0 : Same H H := Same.refl H
    refine seq_lst (two_A (ev 0 (by decide) _ _ s0 (by rfl)) (ev 1 (by decide) _ _ s0 (by rfl))) (by simp) fun p0 H0 x0 n0 h0 => ?_
    have s1 : Same H H0 := x0
    refine seq_cat (by rfl) h0 (two_A (ev 2 (by decide) _ _ s1 rfl) (ev 3 (by decide) _ _ s1 rfl)) (by simp) fun p1 H1 x1 n1 h1 => ?_
    have s2 : Same H H1 := s1.trans x1
    refine seq_cat (by rfl) h1 (two_A (ev 4 (by decide) _ _ s2 rfl) (ev 5 (by decide) _ _ s2 rfl)) (by simp) fun p2 H2 x2 n2 h2 => ?_
    have s3 : Same H H2 := s2.trans x2
    refine seq_cat (by rfl) h2 (two_A (ev 6 (by decide) _ _ s3 rfl) (ev 7 (by decide) _ _ s3 rfl)) (by simp) fun p3 H3 x3 n3 h3 => ?_
    have s4 : Same H H3 := s3.trans x3
    refine seq_cat (by rfl) h3 (two_A (ev 8 (by decide) _ _ s4 rfl) (ev 9 (by decide) _ _ s4 rfl)) (by simp) fun p4 H4 x4 n4 h4 => ?_
    have s5 : Same H H4 := s4.trans x4
    refine seq_cat (by rfl) h4 (two_A (ev 10 (by decide) _ _ s5 rfl) (ev 11 (by decide) _ _ s5 rfl)) (by simp) fun p5 H5 x5 n5 h5 => ?_
    have s6 : Same H H5 := s5.trans x5
    refine seq_cat (by rfl) h5 (two_A (ev 12 (by decide) _ _ s6 rfl) (ev 13 (by decide) _ _ s6 rfl)) (by simp) fun p6 H6 x6 n6 h6 => ?_
    have s7 : Same H H6 := s6.trans x6
    refine seq_cat (by rfl) h6 (two_A (ev 14 (by decide) _ _ s7 rfl) (ev 15 (by decide) _ _ s7 rfl)) (by simp) fun p7 H7 x7 n7 h7 => ?_
    have s8 : Same H H7 := s7.trans x7
    refine seq_cat (by rfl) h7 (two_A (ev 16 (by decide) _ _ s8 rfl) (ev 17 (by decide) _ _ s8 rfl)) (by simp) fun p8 H8 x8 n8 h8 => ?_
    have s9 : Same H H8 := s8.trans x8
    refine seq_cat (by rfl) h8 (two_A (ev 18 (by decide) _ _ s9 rfl) (ev 19 (by decide) _ _ s9 rfl)) (by simp) fun p9 H9 x9 n9 h9 => ?_
    have s10 : Same H H9 := s9.trans x9
    refine seq_cat (by rfl) h9 (two_A (ev 20 (by decide) _ _ s10 rfl) (ev 21 (by decide) _ _ s10 rfl)) (by simp) fun p10 H10 x10 n10 h10 => ?_
    have s11 : Same H H10 := s10.trans x10
    refine seq_cat (by rfl) h10 (two_A (ev 22 (by decide) _ _ s11 rfl) (ev 23 (by decide) _ _ s11 rfl)) (by simp) fun p11 H11 x11 n11 h11 => ?_
    have s12 : Same H H11 := s11.trans x11
    refine ev 24 (by decide) _ _ s12 (by rfl) H11 (Evl.Ex.refl _) _ fun H12 x12 => ?_
    refine ⟨true, by rw [show ((24 : Nat) == 24) = true from rfl, Bool.or_true], ?_⟩
    refine iteF ?_
    refine ev_isA (by rfl) (isX_ex (s12.trans x12) hx) (.ty _) (T.x i hi) (T.kitV i hi) H12 (Evl.Ex.refl _) _ fun H13 x13 => ?_
    refine ⟨true, rfl, ?_⟩
    refine iteF ?_
    have s14 : Same H H13 := (s12.trans x12).trans x13
    have h14 : H13 p11 = some (.lst ((List.range 24).map fun j => V.bl (i == j || j == 24))) := x13 _ _ (x12 _ _ h11)
    refine ⟨24, rfl, by decide, by decide, fun D hD => ?_⟩
    have s15 : Same H (upd H13 D (.lst [])) := s14.trans (sm_new hD)
    have hDp : p11 ≠ D := ne_of_none h14 hD
    refine lc_range (lo := 0) (n := 24) (fun k H' => Same H13 H' ∧ H' D = some (.lst (((List.range k).filter fun j => i == j || j == 24).map fun (j : Nat) => V.int (j : Int))))
      ⟨sm_new hD, upd_same⟩ ?_ ?_
    · rintro k H' hk ⟨e, hd⟩
      refine ⟨rfl, ?_⟩
      refine ⟨_, rfl, _, rfl, p11, _, _, .bl (i == k || k == 24), rfl, rfl, SqL.of (e _ _ h14), ?_, ?_⟩
      · show atI _ ((0 : Int) + (k : Int)) = _
        rw [Int.zero_add]
        refine atI_nat ?_
        rw [List.getElem?_map, List.getElem?_range hk]
        rfl
      · refine ⟨_, rfl, ?_⟩
        cases hb : (i == k || k == 24) with
        | true =>
          refine iteT ?_
          refine ⟨_, rfl, _, hd, ?_, ?_⟩
          · rw [List.length_map]
            have := List.length_filter_le (fun j => i == j || j == 24) (List.range k)
            rw [List.length_range] at this
            exact Evl.sz_lt (by omega)
          · refine ⟨fun b o q => ?_, ?_⟩
            · rw [upd_ne (ne_of_none q hD)]
              exact e b o q
            · rw [upd_same, List.range_succ, List.filter_append, List.map_append]
              have : List.filter (fun j => i == j || j == 24) [k] = [k] := by simp [hb]
              rw [this]
              simp
        | false =>
          refine iteF ?_
          refine ⟨e, ?_⟩
          rw [hd, List.range_succ, List.filter_append]
          have : List.filter (fun j => i == j || j == 24) [k] = [] := by simp [hb]
          rw [this, List.append_nil]
    · rintro H' ⟨e, hd⟩
      have kf : ∀ i, i < 25 → (((List.range 24).filter fun j => i == j || j == 24).map fun (j : Nat) => V.int (j : Int)) = (kindsOf i).map V.int := by decide +kernel
      rw [kf i hi] at hd
      exact q D H' (s14.trans e) (s14.free hD) hd
end
end K0

set_option Elab.async false
set_option linter.all false
set_option maxRecDepth 100000
set_option maxHeartbeats 4000000
namespace K0
open PySem PySem.Spec PyProof.Rows L2
/-- x is an error of the class with the number i, its field is v -/
def Err (Cf : Nat → Addr) (H : Hp) (v : V) (i : Nat) (x : V) : Prop := i < 23 ∧ ∃ a d, x = .ref a ∧ H a = some (ExI (Cf i) d a) ∧ H d = some (.xd [(fl i, v)])
theorem Err.ex {Cf : Nat → Addr} {H H' : Hp} {v x : V} {i : Nat} (e : Same H H') (h : Err Cf H v i x) : Err Cf H' v i x := by
  obtain ⟨hi, a, d, rfl, h1, h2⟩ := h
  exact ⟨hi, a, d, rfl, e _ _ h1, e _ _ h2⟩
abbrev Errs (Cf : Nat → Addr) (H : Hp) (v : V) : List Nat → List V → Prop := Paired (Err Cf H v)
theorem Errs.ex {Cf : Nat → Addr} {H H' : Hp} {v : V} (e : Same H H') : ∀ {is : List Nat} {xs : List V}, Errs Cf H v is xs → Errs Cf H' v is xs
  | _, _, .nil => .nil
  | _, _, .cons a b => .cons (a.ex e) (Errs.ex e b)
theorem Errs.len {Cf : Nat → Addr} {H : Hp} {v : V} {is : List Nat} {xs : List V} (h : Errs Cf H v is xs) : xs.length = is.length := (Paired.length h).symm
theorem Errs.app {Cf : Nat → Addr} {H : Hp} {v : V} : ∀ {is js : List Nat} {xs ys : List V}, Errs Cf H v is xs → Errs Cf H v js ys → Errs Cf H v (is ++ js) (xs ++ ys)
  | _, _, _, _, .nil, k => k
  | _, _, _, _, .cons a b, k => .cons a (Errs.app b k)
def EvE (Cf : Nat → Addr) (te : TE) (σ : L2.St) (H : Hp) (v : V) (i : Nat) : Prop := ∀ H1, Same H H1 → ∀ Q : VK, (∀ x H2, Same H1 H2 → Err Cf H2 v i x → Q x H2) → te σ H1 Q
def EvEA (Cf : Nat → Addr) (ta : TA) (σ : L2.St) (H : Hp) (v : V) (is : List Nat) : Prop := ∀ H1, Same H H1 → ∀ Q : List V → Hp → Prop, (∀ xs H2, Same H1 H2 → Errs Cf H2 v is xs → Q xs H2) → ta σ H1 Q
section
variable {Cf : Nat → Addr} {σ : L2.St} {H : Hp} {v : V} {i : Nat} {te : TE} {ta : TA} {is : List Nat}
theorem err_new {H1 : Hp} (hi : i < 23) {e d : Addr} (he : H1 e = none) (hd : H1 d = none) (hne : d ≠ e) : Same H1 (upd (upd H1 d (.xd [(fl i, v)])) e (ExI (Cf i) d e)) ∧ Err Cf (upd (upd H1 d (.xd [(fl i, v)])) e (ExI (Cf i) d e)) v i (.ref e) := by
  refine ⟨fun b o q => ?_, hi, e, d, rfl, upd_same, ?_⟩
  · rw [upd_ne (ne_of_none q he), upd_ne (ne_of_none q hd)]
    exact q
  · rw [upd_ne hne, upd_same]
theorem ee_one (h0 : σ[0]? = some (some v)) (hi : i < 23) : EvE Cf (tXn (Cf i) (fl i) (t1A (tCons (tVar 0) tNil))) σ H v i := fun H1 _ Q q =>
  ⟨v, h0, v, rfl, fun e d he hd hne => q _ _ (err_new hi he hd hne).1 (err_new hi he hd hne).2⟩
theorem ee_bare (hi : i < 23) : EvE Cf (tXn (Cf i) (fl i) fun _ H Q => Q .non H) σ H .non i := fun H1 _ Q q =>
  fun e d he hd hne => q _ _ (err_new hi he hd hne).1 (err_new hi he hd hne).2
theorem eea_nil : EvEA Cf tNil σ H v [] := fun H1 _ Q q => q _ _ (Same.refl _) .nil
theorem eea_cons {tr : TA} (h : EvE Cf te σ H v i) (hr : EvEA Cf tr σ H v is) : EvEA Cf (tCons te tr) σ H v (i :: is) := fun H1 e Q q =>
  h H1 e _ fun x H2 e2 hx => hr H2 (e.trans e2) _ fun xs H3 e3 hxs => q _ _ (e2.trans e3) (.cons (hx.ex e3) hxs)
theorem seq_errs {p : Addr} {xs : List V} {j k : Nat} {js : List Nat} {u : TS} {D : Ends} (h1 : σ[j]? = some (some (.ref p))) (h2 : H p = some (.lst xs)) (he : Errs Cf H v is xs) (ha : EvEA Cf ta σ H v js) (hl : xs.length + js.length ≤ 1000)
    (q : ∀ p' H' ys, Same H H' → H p' = none → H' p' = some (.lst ys) → Errs Cf H' v (is ++ js) ys → u D (σ.set k (some (.ref p'))) H') : tSeq (tAsg (tOp rCat (tVar j) (tLst ta)) (gName k)) u D σ H := by
  refine ⟨_, h1, ha H (Same.refl H) _ fun ys H2 e2 hys => ?_⟩
  have ly : ys.length = js.length := hys.len
  refine ⟨Evl.sz_of (by omega), fun r hr => ?_⟩
  have e3 : Same H2 (upd H2 r (.lst ys)) := sm_new hr
  refine ⟨p, r, xs, ys, rfl, rfl, e3 p _ (e2 p _ h2), upd_same, Evl.sz_of (by omega), fun p' hp' => ?_⟩
  have e4 := sm_new (o := .lst (xs ++ ys)) hp'
  exact q p' _ _ (Same.trans (Same.trans e2 e3) e4) (Same.free e2 (Same.free e3 hp')) upd_same ((he.ex (Same.trans (Same.trans e2 e3) e4)).app (hys.ex (Same.trans e3 e4)))
end
/-- the errors that are asked, all classes but the last two, the field v -/
def spErrs (Cf : Nat → Addr) (n : Nat) : Sp := fun vs H Q _ => ∃ v : V, (vs = if n = 0 then [] else [v]) ∧ (n = 0 → v = .non) ∧
  ∀ (p : Addr) (H' : Hp) (xs : List V), Same H H' → H p = none → H' p = some (.lst xs) → Errs Cf H' v (List.range 23) xs → Q (.ref p) H'
section
variable {P : Program} {w : World} {K : PySem.W.Frag} {mg : Str → Option Value} {base : Heap} {Cf If : Nat → Addr}
theorem sc_plain : FnScope ["given", "found"] ["given"] (defScope sPlain) := ⟨rfl, rfl, rfl, by decide +kernel, rfl, by decide +kernel, by decide +kernel⟩
theorem ok_plain {f : Addr} {fd : FuncData} (F : Fun K "_law_plain" "_law_plain" sPlain f fd) (T : TX P K mg Cf If) (ht : (P.main.scope.names.lookup ("super" : Str)).isSome = false) : FnOkG P w K mg base CX0 1 f fd ["given"] (spErrs Cf 1) := by
  refine F.okG sc_plain (fun vs H Q E h => ?_) (fun cdv A outer s H vs Q E hr h => ?_)
  · obtain ⟨v, rfl, _⟩ := h
    rfl
  · obtain ⟨v, rfl, hv, q⟩ := h
    refine ⟨_, pss_cons (ps_set (i := 1) sc_plain.nd rfl (.inl rfl) (pe_lst pa_nil))
      (pss_cons (ps_set (i := 1) sc_plain.nd rfl (.inl rfl) (pe_op op_cat (pv 1) (pe_lst (pa_cons (pe_xn1 (T.e 0 (by decide)) hr.1 ht (pa_cons (pv 0) pa_nil)) (pa_cons (pe_xn1 (T.e 1 (by decide)) hr.1 ht (pa_cons (pv 0) pa_nil)) (pa_cons (pe_xn1 (T.e 2 (by decide)) hr.1 ht (pa_cons (pv 0) pa_nil)) (pa_cons (pe_xn1 (T.e 3 (by decide)) hr.1 ht (pa_cons (pv 0) pa_nil)) pa_nil)))))))
      (pss_cons (ps_set (i := 1) sc_plain.nd rfl (.inl rfl) (pe_op op_cat (pv 1) (pe_lst (pa_cons (pe_xn1 (T.e 4 (by decide)) hr.1 ht (pa_cons (pv 0) pa_nil)) (pa_cons (pe_xn1 (T.e 5 (by decide)) hr.1 ht (pa_cons (pv 0) pa_nil)) (pa_cons (pe_xn1 (T.e 6 (by decide)) hr.1 ht (pa_cons (pv 0) pa_nil)) (pa_cons (pe_xn1 (T.e 7 (by decide)) hr.1 ht (pa_cons (pv 0) pa_nil)) pa_nil)))))))
      (pss_cons (ps_set (i := 1) sc_plain.nd rfl (.inl rfl) (pe_op op_cat (pv 1) (pe_lst (pa_cons (pe_xn1 (T.e 8 (by decide)) hr.1 ht (pa_cons (pv 0) pa_nil)) (pa_cons (pe_xn1 (T.e 9 (by decide)) hr.1 ht (pa_cons (pv 0) pa_nil)) (pa_cons (pe_xn1 (T.e 10 (by decide)) hr.1 ht (pa_cons (pv 0) pa_nil)) (pa_cons (pe_xn1 (T.e 11 (by decide)) hr.1 ht (pa_cons (pv 0) pa_nil)) pa_nil)))))))
      (pss_cons (ps_set (i := 1) sc_plain.nd rfl (.inl rfl) (pe_op op_cat (pv 1) (pe_lst (pa_cons (pe_xn1 (T.e 12 (by decide)) hr.1 ht (pa_cons (pv 0) pa_nil)) (pa_cons (pe_xn1 (T.e 13 (by decide)) hr.1 ht (pa_cons (pv 0) pa_nil)) (pa_cons (pe_xn1 (T.e 14 (by decide)) hr.1 ht (pa_cons (pv 0) pa_nil)) (pa_cons (pe_xn1 (T.e 15 (by decide)) hr.1 ht (pa_cons (pv 0) pa_nil)) pa_nil)))))))
      (pss_cons (ps_set (i := 1) sc_plain.nd rfl (.inl rfl) (pe_op op_cat (pv 1) (pe_lst (pa_cons (pe_xn1 (T.e 16 (by decide)) hr.1 ht (pa_cons (pv 0) pa_nil)) (pa_cons (pe_xn1 (T.e 17 (by decide)) hr.1 ht (pa_cons (pv 0) pa_nil)) (pa_cons (pe_xn1 (T.e 18 (by decide)) hr.1 ht (pa_cons (pv 0) pa_nil)) (pa_cons (pe_xn1 (T.e 19 (by decide)) hr.1 ht (pa_cons (pv 0) pa_nil)) pa_nil)))))))
      (pss_cons (ps_set (i := 1) sc_plain.nd rfl (.inl rfl) (pe_op op_cat (pv 1) (pe_lst (pa_cons (pe_xn1 (T.e 20 (by decide)) hr.1 ht (pa_cons (pv 0) pa_nil)) (pa_cons (pe_xn1 (T.e 21 (by decide)) hr.1 ht (pa_cons (pv 0) pa_nil)) (pa_cons (pe_xn1 (T.e 22 (by decide)) hr.1 ht (pa_cons (pv 0) pa_nil)) pa_nil))))))
      (pss_one (ps_ret (pv 1))))))))), ?_⟩
    refine seq_lst Evl.ea_nil (by simp) fun p0 H0 x0 n0 h0 => ?_
    have e0 : Errs Cf H0 v [] [] := .nil
    have s0 : Same H H0 := x0
    refine seq_errs (by rfl) h0 e0 (eea_cons (ee_one (by rfl) (by decide)) (eea_cons (ee_one (by rfl) (by decide)) (eea_cons (ee_one (by rfl) (by decide)) (eea_cons (ee_one (by rfl) (by decide)) eea_nil)))) (by simp [e0.len]) fun p1 H1 xs1 x1 n1 h1 e1 => ?_
    have s1 : Same H H1 := s0.trans x1
    refine seq_errs (by rfl) h1 e1 (eea_cons (ee_one (by rfl) (by decide)) (eea_cons (ee_one (by rfl) (by decide)) (eea_cons (ee_one (by rfl) (by decide)) (eea_cons (ee_one (by rfl) (by decide)) eea_nil)))) (by simp [e1.len]) fun p2 H2 xs2 x2 n2 h2 e2 => ?_
    have s2 : Same H H2 := s1.trans x2
    refine seq_errs (by rfl) h2 e2 (eea_cons (ee_one (by rfl) (by decide)) (eea_cons (ee_one (by rfl) (by decide)) (eea_cons (ee_one (by rfl) (by decide)) (eea_cons (ee_one (by rfl) (by decide)) eea_nil)))) (by simp [e2.len]) fun p3 H3 xs3 x3 n3 h3 e3 => ?_
    have s3 : Same H H3 := s2.trans x3
    refine seq_errs (by rfl) h3 e3 (eea_cons (ee_one (by rfl) (by decide)) (eea_cons (ee_one (by rfl) (by decide)) (eea_cons (ee_one (by rfl) (by decide)) (eea_cons (ee_one (by rfl) (by decide)) eea_nil)))) (by simp [e3.len]) fun p4 H4 xs4 x4 n4 h4 e4 => ?_
    have s4 : Same H H4 := s3.trans x4
    refine seq_errs (by rfl) h4 e4 (eea_cons (ee_one (by rfl) (by decide)) (eea_cons (ee_one (by rfl) (by decide)) (eea_cons (ee_one (by rfl) (by decide)) (eea_cons (ee_one (by rfl) (by decide)) eea_nil)))) (by simp [e4.len]) fun p5 H5 xs5 x5 n5 h5 e5 => ?_
    have s5 : Same H H5 := s4.trans x5
    refine seq_errs (by rfl) h5 e5 (eea_cons (ee_one (by rfl) (by decide)) (eea_cons (ee_one (by rfl) (by decide)) (eea_cons (ee_one (by rfl) (by decide)) eea_nil))) (by simp [e5.len]) fun p6 H6 xs6 x6 n6 h6 e6 => ?_
    have s6 : Same H H6 := s5.trans x6
    exact ⟨_, rfl, q p6 H6 _ s6 (s5.free n6) h6 e6⟩

theorem sc_named : FnScope ["given", "found"] ["given"] (defScope sNamed) := ⟨rfl, rfl, rfl, by decide +kernel, rfl, by decide +kernel, by decide +kernel⟩
theorem ok_named {f : Addr} {fd : FuncData} (F : Fun K "_law_named" "_law_named" sNamed f fd) (T : TX P K mg Cf If) (ht : (P.main.scope.names.lookup ("super" : Str)).isSome = false) : FnOkG P w K mg base CX0 1 f fd ["given"] (spErrs Cf 1) := by
  refine F.okG sc_named (fun vs H Q E h => ?_) (fun cdv A outer s H vs Q E hr h => ?_)
  · obtain ⟨v, rfl, _⟩ := h
    rfl
  · obtain ⟨v, rfl, hv, q⟩ := h
    refine ⟨_, pss_cons (ps_set (i := 1) sc_named.nd rfl (.inl rfl) (pe_lst pa_nil))
      (pss_cons (ps_set (i := 1) sc_named.nd rfl (.inl rfl) (pe_op op_cat (pv 1) (pe_lst (pa_cons (pe_xnK (T.e 0 (by decide)) hr.1 ht (pk_cons (pv 0) pk_nil)) (pa_cons (pe_xnK (T.e 1 (by decide)) hr.1 ht (pk_cons (pv 0) pk_nil)) (pa_cons (pe_xnK (T.e 2 (by decide)) hr.1 ht (pk_cons (pv 0) pk_nil)) pa_nil))))))
      (pss_cons (ps_set (i := 1) sc_named.nd rfl (.inl rfl) (pe_op op_cat (pv 1) (pe_lst (pa_cons (pe_xnK (T.e 3 (by decide)) hr.1 ht (pk_cons (pv 0) pk_nil)) (pa_cons (pe_xnK (T.e 4 (by decide)) hr.1 ht (pk_cons (pv 0) pk_nil)) (pa_cons (pe_xnK (T.e 5 (by decide)) hr.1 ht (pk_cons (pv 0) pk_nil)) pa_nil))))))
      (pss_cons (ps_set (i := 1) sc_named.nd rfl (.inl rfl) (pe_op op_cat (pv 1) (pe_lst (pa_cons (pe_xnK (T.e 6 (by decide)) hr.1 ht (pk_cons (pv 0) pk_nil)) (pa_cons (pe_xnK (T.e 7 (by decide)) hr.1 ht (pk_cons (pv 0) pk_nil)) (pa_cons (pe_xnK (T.e 8 (by decide)) hr.1 ht (pk_cons (pv 0) pk_nil)) pa_nil))))))
      (pss_cons (ps_set (i := 1) sc_named.nd rfl (.inl rfl) (pe_op op_cat (pv 1) (pe_lst (pa_cons (pe_xnK (T.e 9 (by decide)) hr.1 ht (pk_cons (pv 0) pk_nil)) (pa_cons (pe_xnK (T.e 10 (by decide)) hr.1 ht (pk_cons (pv 0) pk_nil)) (pa_cons (pe_xnK (T.e 11 (by decide)) hr.1 ht (pk_cons (pv 0) pk_nil)) pa_nil))))))
      (pss_cons (ps_set (i := 1) sc_named.nd rfl (.inl rfl) (pe_op op_cat (pv 1) (pe_lst (pa_cons (pe_xnK (T.e 12 (by decide)) hr.1 ht (pk_cons (pv 0) pk_nil)) (pa_cons (pe_xnK (T.e 13 (by decide)) hr.1 ht (pk_cons (pv 0) pk_nil)) (pa_cons (pe_xnK (T.e 14 (by decide)) hr.1 ht (pk_cons (pv 0) pk_nil)) pa_nil))))))
      (pss_cons (ps_set (i := 1) sc_named.nd rfl (.inl rfl) (pe_op op_cat (pv 1) (pe_lst (pa_cons (pe_xnK (T.e 15 (by decide)) hr.1 ht (pk_cons (pv 0) pk_nil)) (pa_cons (pe_xnK (T.e 16 (by decide)) hr.1 ht (pk_cons (pv 0) pk_nil)) (pa_cons (pe_xnK (T.e 17 (by decide)) hr.1 ht (pk_cons (pv 0) pk_nil)) pa_nil))))))
      (pss_cons (ps_set (i := 1) sc_named.nd rfl (.inl rfl) (pe_op op_cat (pv 1) (pe_lst (pa_cons (pe_xnK (T.e 18 (by decide)) hr.1 ht (pk_cons (pv 0) pk_nil)) (pa_cons (pe_xnK (T.e 19 (by decide)) hr.1 ht (pk_cons (pv 0) pk_nil)) (pa_cons (pe_xnK (T.e 20 (by decide)) hr.1 ht (pk_cons (pv 0) pk_nil)) pa_nil))))))
      (pss_cons (ps_set (i := 1) sc_named.nd rfl (.inl rfl) (pe_op op_cat (pv 1) (pe_lst (pa_cons (pe_xnK (T.e 21 (by decide)) hr.1 ht (pk_cons (pv 0) pk_nil)) (pa_cons (pe_xnK (T.e 22 (by decide)) hr.1 ht (pk_cons (pv 0) pk_nil)) pa_nil)))))
      (pss_one (ps_ret (pv 1))))))))))), ?_⟩
    refine seq_lst Evl.ea_nil (by simp) fun p0 H0 x0 n0 h0 => ?_
    have e0 : Errs Cf H0 v [] [] := .nil
    have s0 : Same H H0 := x0
    refine seq_errs (by rfl) h0 e0 (eea_cons (ee_one (by rfl) (by decide)) (eea_cons (ee_one (by rfl) (by decide)) (eea_cons (ee_one (by rfl) (by decide)) eea_nil))) (by simp [e0.len]) fun p1 H1 xs1 x1 n1 h1 e1 => ?_
    have s1 : Same H H1 := s0.trans x1
    refine seq_errs (by rfl) h1 e1 (eea_cons (ee_one (by rfl) (by decide)) (eea_cons (ee_one (by rfl) (by decide)) (eea_cons (ee_one (by rfl) (by decide)) eea_nil))) (by simp [e1.len]) fun p2 H2 xs2 x2 n2 h2 e2 => ?_
    have s2 : Same H H2 := s1.trans x2
    refine seq_errs (by rfl) h2 e2 (eea_cons (ee_one (by rfl) (by decide)) (eea_cons (ee_one (by rfl) (by decide)) (eea_cons (ee_one (by rfl) (by decide)) eea_nil))) (by simp [e2.len]) fun p3 H3 xs3 x3 n3 h3 e3 => ?_
    have s3 : Same H H3 := s2.trans x3
    refine seq_errs (by rfl) h3 e3 (eea_cons (ee_one (by rfl) (by decide)) (eea_cons (ee_one (by rfl) (by decide)) (eea_cons (ee_one (by rfl) (by decide)) eea_nil))) (by simp [e3.len]) fun p4 H4 xs4 x4 n4 h4 e4 => ?_
    have s4 : Same H H4 := s3.trans x4
    refine seq_errs (by rfl) h4 e4 (eea_cons (ee_one (by rfl) (by decide)) (eea_cons (ee_one (by rfl) (by decide)) (eea_cons (ee_one (by rfl) (by decide)) eea_nil))) (by simp [e4.len]) fun p5 H5 xs5 x5 n5 h5 e5 => ?_
    have s5 : Same H H5 := s4.trans x5
    refine seq_errs (by rfl) h5 e5 (eea_cons (ee_one (by rfl) (by decide)) (eea_cons (ee_one (by rfl) (by decide)) (eea_cons (ee_one (by rfl) (by decide)) eea_nil))) (by simp [e5.len]) fun p6 H6 xs6 x6 n6 h6 e6 => ?_
    have s6 : Same H H6 := s5.trans x6
    refine seq_errs (by rfl) h6 e6 (eea_cons (ee_one (by rfl) (by decide)) (eea_cons (ee_one (by rfl) (by decide)) (eea_cons (ee_one (by rfl) (by decide)) eea_nil))) (by simp [e6.len]) fun p7 H7 xs7 x7 n7 h7 e7 => ?_
    have s7 : Same H H7 := s6.trans x7
    refine seq_errs (by rfl) h7 e7 (eea_cons (ee_one (by rfl) (by decide)) (eea_cons (ee_one (by rfl) (by decide)) eea_nil)) (by simp [e7.len]) fun p8 H8 xs8 x8 n8 h8 e8 => ?_
    have s8 : Same H H8 := s7.trans x8
    exact ⟨_, rfl, q p8 H8 _ s8 (s7.free n8) h8 e8⟩

theorem sc_bare : FnScope ["found"] ([] : List Str) (defScope sBare) := ⟨rfl, rfl, rfl, by decide +kernel, rfl, by decide +kernel, by decide +kernel⟩
theorem ok_bare {f : Addr} {fd : FuncData} (F : Fun K "_law_bare" "_law_bare" sBare f fd) (T : TX P K mg Cf If) (ht : (P.main.scope.names.lookup ("super" : Str)).isSome = false) : FnOkG P w K mg base CX0 1 f fd ([] : List Str) (spErrs Cf 0) := by
  refine F.okG sc_bare (fun vs H Q E h => ?_) (fun cdv A outer s H vs Q E hr h => ?_)
  · obtain ⟨v, rfl, _⟩ := h
    rfl
  · obtain ⟨v, rfl, hv, q⟩ := h
    obtain rfl := hv rfl
    have v : V := .non
    refine ⟨_, pss_cons (ps_set (i := 0) sc_bare.nd rfl (.inl rfl) (pe_lst pa_nil))
      (pss_cons (ps_set (i := 0) sc_bare.nd rfl (.inl rfl) (pe_op op_cat (pv 0) (pe_lst (pa_cons (pe_xn0 (T.e 0 (by decide)) hr.1 ht) (pa_cons (pe_xn0 (T.e 1 (by decide)) hr.1 ht) (pa_cons (pe_xn0 (T.e 2 (by decide)) hr.1 ht) (pa_cons (pe_xn0 (T.e 3 (by decide)) hr.1 ht) (pa_cons (pe_xn0 (T.e 4 (by decide)) hr.1 ht) pa_nil))))))))
      (pss_cons (ps_set (i := 0) sc_bare.nd rfl (.inl rfl) (pe_op op_cat (pv 0) (pe_lst (pa_cons (pe_xn0 (T.e 5 (by decide)) hr.1 ht) (pa_cons (pe_xn0 (T.e 6 (by decide)) hr.1 ht) (pa_cons (pe_xn0 (T.e 7 (by decide)) hr.1 ht) (pa_cons (pe_xn0 (T.e 8 (by decide)) hr.1 ht) (pa_cons (pe_xn0 (T.e 9 (by decide)) hr.1 ht) pa_nil))))))))
      (pss_cons (ps_set (i := 0) sc_bare.nd rfl (.inl rfl) (pe_op op_cat (pv 0) (pe_lst (pa_cons (pe_xn0 (T.e 10 (by decide)) hr.1 ht) (pa_cons (pe_xn0 (T.e 11 (by decide)) hr.1 ht) (pa_cons (pe_xn0 (T.e 12 (by decide)) hr.1 ht) (pa_cons (pe_xn0 (T.e 13 (by decide)) hr.1 ht) (pa_cons (pe_xn0 (T.e 14 (by decide)) hr.1 ht) pa_nil))))))))
      (pss_cons (ps_set (i := 0) sc_bare.nd rfl (.inl rfl) (pe_op op_cat (pv 0) (pe_lst (pa_cons (pe_xn0 (T.e 15 (by decide)) hr.1 ht) (pa_cons (pe_xn0 (T.e 16 (by decide)) hr.1 ht) (pa_cons (pe_xn0 (T.e 17 (by decide)) hr.1 ht) (pa_cons (pe_xn0 (T.e 18 (by decide)) hr.1 ht) (pa_cons (pe_xn0 (T.e 19 (by decide)) hr.1 ht) (pa_cons (pe_xn0 (T.e 20 (by decide)) hr.1 ht) pa_nil)))))))))
      (pss_cons (ps_set (i := 0) sc_bare.nd rfl (.inl rfl) (pe_op op_cat (pv 0) (pe_lst (pa_cons (pe_xn0 (T.e 21 (by decide)) hr.1 ht) (pa_cons (pe_xn0 (T.e 22 (by decide)) hr.1 ht) pa_nil)))))
      (pss_one (ps_ret (pv 0)))))))), ?_⟩
    refine seq_lst Evl.ea_nil (by simp) fun p0 H0 x0 n0 h0 => ?_
    have e0 : Errs Cf H0 .non [] [] := .nil
    have s0 : Same H H0 := x0
    refine seq_errs (by rfl) h0 e0 (eea_cons (ee_bare (by decide)) (eea_cons (ee_bare (by decide)) (eea_cons (ee_bare (by decide)) (eea_cons (ee_bare (by decide)) (eea_cons (ee_bare (by decide)) eea_nil))))) (by simp [e0.len]) fun p1 H1 xs1 x1 n1 h1 e1 => ?_
    have s1 : Same H H1 := s0.trans x1
    refine seq_errs (by rfl) h1 e1 (eea_cons (ee_bare (by decide)) (eea_cons (ee_bare (by decide)) (eea_cons (ee_bare (by decide)) (eea_cons (ee_bare (by decide)) (eea_cons (ee_bare (by decide)) eea_nil))))) (by simp [e1.len]) fun p2 H2 xs2 x2 n2 h2 e2 => ?_
    have s2 : Same H H2 := s1.trans x2
    refine seq_errs (by rfl) h2 e2 (eea_cons (ee_bare (by decide)) (eea_cons (ee_bare (by decide)) (eea_cons (ee_bare (by decide)) (eea_cons (ee_bare (by decide)) (eea_cons (ee_bare (by decide)) eea_nil))))) (by simp [e2.len]) fun p3 H3 xs3 x3 n3 h3 e3 => ?_
    have s3 : Same H H3 := s2.trans x3
    refine seq_errs (by rfl) h3 e3 (eea_cons (ee_bare (by decide)) (eea_cons (ee_bare (by decide)) (eea_cons (ee_bare (by decide)) (eea_cons (ee_bare (by decide)) (eea_cons (ee_bare (by decide)) (eea_cons (ee_bare (by decide)) eea_nil)))))) (by simp [e3.len]) fun p4 H4 xs4 x4 n4 h4 e4 => ?_
    have s4 : Same H H4 := s3.trans x4
    refine seq_errs (by rfl) h4 e4 (eea_cons (ee_bare (by decide)) (eea_cons (ee_bare (by decide)) eea_nil)) (by simp [e4.len]) fun p5 H5 xs5 x5 n5 h5 e5 => ?_
    have s5 : Same H H5 := s4.trans x5
    exact ⟨_, rfl, q p5 H5 _ s5 (s4.free n5) h5 e5⟩

end
end K0

set_option Elab.async false
set_option linter.all false
set_option maxRecDepth 100000
set_option maxHeartbeats 4000000
namespace K0
open PySem PySem.Spec PyProof.Rows L2
section
variable {P : Program} {w : World} {K : PySem.W.Frag} {mg : Str → Option Value} {base : Heap} {Cf If : Nat → Addr}
theorem xfc (T : TX P K mg Cf If) {i : Nat} (hi : i < 23) : XfC K (Cf i) := ⟨(T.e i hi).ga, (T.e i hi).gg, (T.e i hi).exC, (T.e i hi).hdC⟩
/-- item i of a list of errors -/
theorem Errs.at {H : Hp} {v : V} : ∀ {is : List Nat} {xs : List V} {k : Nat} {x : V}, Errs Cf H v is xs → xs[k]? = some x → ∃ i, is[k]? = some i ∧ Err Cf H v i x
  | _, _, _, _, .nil, h => by simp at h
  | _, _, 0, _, .cons a b, h => by
    simp at h
    subst h
    exact ⟨_, rfl, a⟩
  | _, _, k + 1, x, .cons a b, h => by
    obtain ⟨i, h1, h2⟩ := Errs.at (k := k) b (by simpa using h)
    exact ⟨i, by simpa using h1, h2⟩
theorem Errs.cut {H : Hp} {v : V} : ∀ {is : List Nat} {xs : List V} (n m : Nat), Errs Cf H v is xs → Errs Cf H v ((is.drop n).take m) ((xs.drop n).take m)
  | _, _, _, _, .nil => by simp; exact .nil
  | _, _, 0, 0, .cons a b => by simp; exact .nil
  | _, _, 0, m + 1, .cons a b => by
    have := Errs.cut 0 m b
    simp only [List.drop_zero, List.take_succ_cons] at this ⊢
    exact .cons a this
  | _, _, n + 1, m, .cons a b => by
    simp only [List.drop_succ_cons]
    exact Errs.cut n m b
/-- [error.f for error in ys]: as many times v -/
theorem fld_comp (T : TX P K mg Cf If) {H : Hp} {ts : TE} {ys : List V} {is : List Nat} {v : V} {f : Str} {σ : L2.St} {Q : VK} (hts : ∀ Q' : VK, (∀ a H1, Same H H1 → SqL K H1 a ys → Q' (.ref a) H1) → ts σ H Q') (hE : Errs Cf H v is ys) (hf : ∀ i, i ∈ is → fl i = f) (hl : ys.length ≤ 1000) (hσ : σ.length = 3)
    (q : ∀ D H', Same H H' → H D = none → H' D = some (.lst (List.replicate ys.length v)) → Q (.ref D) H') :
    tLc (iList K ts) (gName 2) tYes (tXnF K f (tVar 2)) (List.map (fun x => x.snd) [(("error" : Str), 2)]) σ H Q := by
  refine hts _ fun a H1 e1 hS => ⟨a, rfl, ⟨_, hS⟩, ?_⟩
  have hE := hE.ex e1
  have q : ∀ D H', Same H1 H' → H1 D = none → H' D = some (.lst (List.replicate ys.length v)) → Q (.ref D) H' := fun D H' e n h => q D H' (e1.trans e) (e1.free n) h
  intro D hD
  show ∃ W : Nat → Nat → Hp → Prop, _
  refine lc_list (K := K) (a := a) (xs := ys) (Qd := fun H' => Q (.ref D) H') (fun k H' => Same H1 H' ∧ H' D = some (.lst (List.replicate k v)))
    ⟨sm_new hD, upd_same⟩ (fun i H _ ⟨e, _⟩ => e.seq hS) ?_ ?_
  · rintro k x H' hk ⟨e, hd⟩
    obtain ⟨s0, s1, s2, rfl⟩ : ∃ s0 s1 s2, σ = [s0, s1, s2] := by
      match σ, hσ with
      | [s0, s1, s2], _ => exact ⟨s0, s1, s2, rfl⟩
    refine ⟨rfl, ?_⟩
    dsimp only [tYes]
    rw [if_pos rfl]
    obtain ⟨i, hi, hx⟩ := hE.at hk
    obtain ⟨hi3, ea, d, rfl, h1, h2⟩ := hx
    have hfi := hf i (List.mem_of_getElem? hi)
    have hkl : k < ys.length := (List.getElem?_eq_some_iff.mp hk).1
    refine ⟨_, rfl, ea, Cf i, d, _, v, rfl, e _ _ h1, e _ _ h2, ?_, xfc T hi3, ?_, ?_⟩
    · rw [hfi]
      simp [List.lookup]
    · rw [← hfi]
      exact (T.e i hi3).noN
    · refine ⟨_, hd, Evl.sz_lt (by rw [List.length_replicate]; omega), fun b o z => ?_, ?_⟩
      · rw [upd_ne (ne_of_none z hD)]
        exact e b o z
      · rw [upd_same, ← List.replicate_succ']
  · rintro H' ⟨e, hd⟩
    exact q D H' e hD hd
def spFields (Cf : Nat → Addr) : Sp := fun vs H Q _ => ∃ (p : Addr) (xs : List V) (v : V), vs = [.ref p] ∧ H p = some (.lst xs) ∧ Errs Cf H v (List.range 23) xs ∧
  ∀ (p' : Addr) (H' : Hp), Same H H' → H p' = none → H' p' = some (.lst (List.replicate 23 v)) → Q (.ref p') H'
theorem scF : FnScope ["errors", "found", "error"] ["errors"] (defScope sFields) := ⟨rfl, rfl, rfl, by decide +kernel, rfl, by decide +kernel, by decide +kernel⟩
theorem ok_fields {f : Addr} {fd : FuncData} (F : Fun K "_law_fields" "_law_fields" sFields f fd) (T : TX P K mg Cf If) : FnOkG P w K mg base CX0 1 f fd ["errors"] (spFields Cf) := by
  refine F.okG scF (fun vs H Q E h => ?_) (fun cdv A outer s H vs Q E hr h => ?_)
  · obtain ⟨p, xs, v, rfl, _⟩ := h
    rfl
  · obtain ⟨p, xs, v, rfl, hp, hE, q⟩ := h
    refine ⟨_, pss_cons (ps_set (i := 1) scF.nd rfl (.inl rfl) (pe_op op_cat
        (pe_lc (own := [("error", 2)]) (g := gName 2) rfl scF.nd (pi_list (pe_slice sl_list (pv 0) po_none (po_some pe_int))) (blkOk_by (own := [("error", 2)]) (N := ["errors", "found", "error"]) (sc := defScope sFields) (by decide +kernel)) (fun _ _ _ _ _ => pg_name (i := 2) scF.nd rfl (.inl rfl)) (fun _ _ _ _ _ => pts_nil) (te := tXnF K "value" (tVar 2)) (fun _ _ _ _ _ => pe_xnF (pv 2)))
        (pe_lc (own := [("error", 2)]) (g := gName 2) rfl scF.nd (pi_list (pe_slice sl_list (pv 0) (po_some pe_int) (po_some pe_int))) (blkOk_by (own := [("error", 2)]) (N := ["errors", "found", "error"]) (sc := defScope sFields) (by decide +kernel)) (fun _ _ _ _ _ => pg_name (i := 2) scF.nd rfl (.inl rfl)) (fun _ _ _ _ _ => pts_nil) (te := tXnF K "name" (tVar 2)) (fun _ _ _ _ _ => pe_xnF (pv 2)))))
      (pss_one (ps_ret (pe_op op_cat (pv 1)
        (pe_lc (own := [("error", 2)]) (g := gName 2) rfl scF.nd (pi_list (pe_slice sl_list (pv 0) (po_some pe_int) po_none)) (blkOk_by (own := [("error", 2)]) (N := ["errors", "found", "error"]) (sc := defScope sFields) (by decide +kernel)) (fun _ _ _ _ _ => pg_name (i := 2) scF.nd rfl (.inl rfl)) (fun _ _ _ _ _ => pts_nil) (te := tXnF K "number" (tVar 2)) (fun _ _ _ _ _ => pe_xnF (pv 2)))))), ?_⟩
    have hl : xs.length = 23 := by rw [hE.len, List.length_range]
    -- errors[:17]
    have c1 : cutV xs none (some 17) = (xs.drop 0).take 17 := by
      unfold cutV
      rw [hl]
      rfl
    have c2 : cutV xs (some 17) (some 21) = (xs.drop 17).take 4 := by
      unfold cutV
      rw [hl]
      rfl
    have c3 : cutV xs (some 21) none = (xs.drop 21).take 2 := by
      unfold cutV
      rw [hl]
      rfl
    have sl : ∀ (H' : Hp) (σ : L2.St) (lo hi : Option Int) (tl th : TO), Same H H' → σ[0]? = some (some (.ref p)) → (∀ H Q, Q lo H → tl σ H Q) → (∀ H Q, Q hi H → th σ H Q) → ∀ Q' : VK, (∀ a H1, Same H' H1 → SqL K H1 a (cutV xs lo hi) → Q' (.ref a) H1) → tSl (rSlL K) (tVar 0) tl th σ H' Q' :=
      fun H' σ lo hi tl th e h0 h1 h2 Q' q' => ⟨_, h0, h1 _ _ (h2 _ _ ⟨p, xs, rfl, SqL.of (e _ _ hp), fun a ha => q' a _ (sm_new ha) (SqL.of upd_same)⟩)⟩
    dsimp only [tSeq, tAsg, tOp, tRet]
    refine fld_comp T (f := "value") (v := v) (ys := cutV xs none (some 17)) (is := ((List.range 23).drop 0).take 17) (sl H _ none (some 17) _ _ (Same.refl H) (by rfl) (fun _ _ z => z) (fun _ _ z => ⟨_, rfl, z⟩)) ?_ (by decide +kernel) ?_ (by rfl) fun D1 H1 s1 n1 h1 => ?_
    · rw [c1]
      exact hE.cut 0 17
    · rw [c1]
      simp
      omega
    refine fld_comp T (f := "name") (v := v) (ys := cutV xs (some 17) (some 21)) (is := ((List.range 23).drop 17).take 4) (sl H1 _ (some 17) (some 21) _ _ s1 (by rfl) (fun _ _ z => ⟨_, rfl, z⟩) (fun _ _ z => ⟨_, rfl, z⟩)) ?_ (by decide +kernel) ?_ (by rfl) fun D2 H2 s12 n2 h2 => ?_
    · rw [c2]
      exact (hE.ex s1).cut 17 4
    · rw [c2]
      simp
      omega
    rw [c1] at h1
    rw [c2] at h2
    refine ⟨D1, D2, _, _, rfl, rfl, s12 _ _ h1, h2, ?_, fun p3 hp3 => ?_⟩
    · simp [hl]
      decide
    have e3 := sm_new (o := .lst (List.replicate ((xs.drop 0).take 17).length v ++ List.replicate ((xs.drop 17).take 4).length v)) hp3
    have s3 : Same H (upd H2 p3 (.lst (List.replicate ((xs.drop 0).take 17).length v ++ List.replicate ((xs.drop 17).take 4).length v))) := (s1.trans s12).trans e3
    refine ⟨_, rfl, ?_⟩
    refine fld_comp T (f := "number") (v := v) (ys := cutV xs (some 21) none) (is := ((List.range 23).drop 21).take 2) (sl _ _ (some 21) none _ _ s3 (by rfl) (fun _ _ z => ⟨_, rfl, z⟩) (fun _ _ z => z)) ?_ (by decide +kernel) ?_ (by rfl) fun D4 H4 x4 n4 h4 => ?_
    · rw [c3]
      exact (hE.ex s3).cut 21 2
    · rw [c3]
      simp
      omega
    rw [c3] at h4
    refine ⟨p3, D4, _, _, rfl, rfl, x4 _ _ upd_same, h4, ?_, fun p5 hp5 => ?_⟩
    · simp [hl]
      decide
    have e5 := sm_new (o := .lst (List.replicate ((xs.drop 0).take 17).length v ++ List.replicate ((xs.drop 17).take 4).length v ++ List.replicate ((xs.drop 21).take 2).length v)) hp5
    refine q p5 _ ((s3.trans x4).trans e5) ((s3.trans x4).free hp5) ?_
    rw [upd_same]
    simp [hl, List.replicate_append_replicate]
end
end K0

set_option Elab.async false
set_option linter.all false
set_option maxRecDepth 100000
set_option maxHeartbeats 4000000
namespace L2
open PySem PySem.Spec PyProof.Rows
theorem Same.seqT {K : PySem.W.Frag} {H H' : Hp} {a : Addr} {xs : List V} (e : Same H H') (h : SqT K H a xs) : SqT K H' a xs := by
  rcases h with (h | ⟨o, h⟩) | h
  · exact .inl (.inl (e _ _ h))
  · exact .inl (.inr ⟨o, e _ _ h⟩)
  · exact .inr h
mutual
theorem Dp.ex {K : PySem.W.Frag} {H H' : Hp} (e : Same H H') : ∀ (d : PyData) (v : V), Dp K H v d → Dp K H' v d
  | .none, _, h => by cases h; exact .non
  | .bool b, _, h => by cases h; exact .bl b
  | .int i, _, h => by cases h; exact .int i
  | .str x, _, h => by cases h; exact .str x
  | .list ds, _, h => by
    cases h with
    | lst hs ha => exact .lst (e.seq hs) (Dp.exAll e ds _ ha)
  | .tuple ds, _, h => by
    cases h with
    | tup hs ha => exact .tup (e.seqT hs) (Dp.exAll e ds _ ha)
  | .dict _, _, h => by cases h
theorem Dp.exAll {K : PySem.W.Frag} {H H' : Hp} (e : Same H H') : ∀ (ds : List PyData) (vs : List V), DpAll K H vs ds → DpAll K H' vs ds
  | [], _, h => by cases h; exact .nil
  | d :: ds, _, h => by
    cases h with
    | cons h1 h2 => exact .cons (Dp.ex e d _ h1) (Dp.exAll e ds _ h2)
end
/-- what repr can tell of v: the text t -/
def RpOk (K : PySem.W.Frag) (H : Hp) (v : V) (t : Str) : Prop := ∃ d : PyData,
  ((Dp K H v d ∧ d.hasDict = false) ∨ ∃ (a : Addr) (kvs : List (Key × V)) (ds : List PyData), v = .ref a ∧ H a = some (.dK kvs) ∧ Paired Sc (kvs.map (·.2)) ds ∧ d = .dict ((kvs.map fun p => keyD p.1).zip ds)) ∧
  d.showable = true ∧ d.shown.length ≤ sizeLine ∧ d.depth ≤ 50 ∧ t = d.shown
theorem RpOk.ex {K : PySem.W.Frag} {H H' : Hp} {v : V} {t : Str} (e : Same H H') (h : RpOk K H v t) : RpOk K H' v t := by
  obtain ⟨d, h1 | ⟨a, kvs, ds, rfl, h2, h3, h4⟩, r⟩ := h
  · exact ⟨d, .inl ⟨Dp.ex e d v h1.1, h1.2⟩, r⟩
  · exact ⟨d, .inr ⟨a, kvs, ds, rfl, e _ _ h2, h3, h4⟩, r⟩
theorem RpOk.read {K : PySem.W.Frag} {H : Hp} {v : V} {t : Str} {Q : VK} (h : RpOk K H v t) (q : Q (.str t) H) : rReprD K [v] H Q := by
  obtain ⟨d, h1, h2, h3, h4, rfl⟩ := h
  exact ⟨v, d, rfl, h1, h2, h3, h4, q⟩
theorem tst_op {r : R2} {ta tb : TE} {σ : St} {H : Hp} {Q : Bool → Hp → Prop} (h : ta σ H fun x H1 => tb σ H1 fun y H2 => r x y H2 fun z H' => ∃ k, z = .bl k ∧ Q k H') : tTest (tOp r ta tb) σ H Q := h
theorem ret_op {r : R2} {ta tb : TE} {σ : St} {H : Hp} {D : Ends} (h : ta σ H fun x H1 => tb σ H1 fun y H2 => r x y H2 D.rt) : tRet (tOp r ta tb) D σ H := h
theorem nxt {D : Ends} {σ : St} {H : Hp} (h : D.nx σ H) : tNext D σ H := h
theorem seq_if {c : TT} {t u v : TS} {D : Ends} {σ : St} {H : Hp} (h : c σ H fun b H1 => if b = true then t { D with nx := v D } σ H1 else u { D with nx := v D } σ H1) : tSeq (tIfS c t u) v D σ H := h
theorem ev_repr {K : PySem.W.Frag} {σ : St} {H : Hp} {i : Nat} {v : V} {t : Str} {Q : VK} (h0 : σ[i]? = some (some v)) (h : RpOk K H v t) (q : Q (.str t) H) : tCB (rReprD K) (tCons (tVar i) tNil) σ H Q := ⟨v, h0, h.read q⟩
end L2
namespace K0
open PySem PySem.Spec PyProof.Rows L2
section
variable {P : Program} {w : World} {K : PySem.W.Frag} {mg : Str → Option Value} {base : Heap} {Cf If : Nat → Addr}
def spRight (K : PySem.W.Frag) (Cf : Nat → Addr) : Sp := fun vs H Q _ => ∃ (p : Addr) (xs : List V) (v : V) (t : Str), vs = [.ref p, v] ∧ H p = some (.lst xs) ∧ Errs Cf H v (List.range 23) xs ∧ RpOk K H v t ∧
  ∀ (H' : Hp), Same H H' → Q (.bl true) H'
/-- ys: lists of one number each, 0, 1, .., none of them at D -/
def NL (H : Hp) (D : Addr) (ys : List V) (k : Nat) : Prop := ys.length = k ∧ ∀ i, i < k → ∃ r, ys[i]? = some (.ref r) ∧ H r = some (.lst [.int (i : Int)]) ∧ r ≠ D
theorem NL.more {H H2 : Hp} {D r : Addr} {ys : List V} {k : Nat} (h : NL H D ys k) (e : Same H H2) (hr : H2 r = some (.lst [.int (k : Int)])) (n : r ≠ D) (u : HO) : NL (upd H2 D u) D (ys ++ [.ref r]) (k + 1) := by
  refine ⟨by rw [List.length_append, h.1]; rfl, fun i hi => ?_⟩
  by_cases hk : i < k
  · obtain ⟨q, h1, h2, h3⟩ := h.2 i hk
    refine ⟨q, ?_, ?_, h3⟩
    · rw [List.getElem?_append_left (by rw [h.1]; exact hk)]
      exact h1
    · rw [upd_ne h3]
      exact e _ _ h2
  · obtain rfl : i = k := by omega
    refine ⟨r, ?_, ?_, n⟩
    · rw [List.getElem?_append_right (by rw [h.1]; exact Nat.le_refl _), h.1, Nat.sub_self]
      rfl
    · rw [upd_ne n]
      exact hr
theorem dpAll_of {K : PySem.W.Frag} {H : Hp} : ∀ {ys : List V} {ds : List PyData}, ys.length = ds.length → (∀ (i : Nat) (y : V) (d : PyData), ys[i]? = some y → ds[i]? = some d → Dp K H y d) → DpAll K H ys ds
  | [], [], _, _ => .nil
  | y :: ys, d :: ds, hl, h => .cons (h 0 y d rfl rfl) (dpAll_of (by simpa using hl) fun i y' d' h1 h2 => h (i + 1) y' d' (by simpa using h1) (by simpa using h2))
def oneNum (n : Nat) : PyData := .list [.int (n : Int)]
theorem NL.dp {K : PySem.W.Frag} {H : Hp} {D : Addr} {ys : List V} {k : Nat} (h : NL H D ys k) (hD : H D = some (.lst ys)) : Dp K H (.ref D) (.list ((List.range k).map oneNum)) := by
  refine .lst (SqL.of hD) (dpAll_of (by rw [h.1]; simp) fun i y d h1 h2 => ?_)
  have hi : i < k := by
    have := (List.getElem?_eq_some_iff.mp h1).1
    rw [h.1] at this
    exact this
  obtain ⟨r, e1, e2, _⟩ := h.2 i hi
  rw [h1] at e1
  cases e1
  rw [List.getElem?_map, List.getElem?_range hi] at h2
  cases h2
  exact .lst (SqL.of e2) (.cons (.int _) .nil)
/-- [_law_kinds(error) for error in errors]: lists of one number each -/
theorem kinds_comp {H : Hp} {p : Addr} {xs : List V} {v : V} {σ : L2.St} {Q : VK} (h0 : σ[0]? = some (some (.ref p))) (hσ : ∃ s0 s1 s2 s3 s4, σ = [s0, s1, s2, s3, s4]) (hp : H p = some (.lst xs)) (hE : Errs Cf H v (List.range 23) xs)
    (q : ∀ D H', Same H H' → H D = none → Dp K H' (.ref D) (.list ((List.range 23).map oneNum)) → Q (.ref D) H') :
    tLc (iList K (tVar 0)) (gName 2) tYes (tCall (spKinds Cf) [] E0 (tCons (tVar 2) tNil)) (List.map (fun x => x.snd) [(("error" : Str), 2)]) σ H Q := by
  refine ⟨_, h0, p, rfl, ⟨_, SqL.of hp⟩, fun D hD => ?_⟩
  have hl : xs.length = 23 := by rw [hE.len, List.length_range]
  refine lc_list (K := K) (a := p) (xs := xs) (Qd := fun H' => Q (.ref D) H') (fun k H' => Same H H' ∧ ∃ ys, H' D = some (.lst ys) ∧ NL H' D ys k)
    ⟨sm_new hD, [], upd_same, rfl, fun i hi => absurd hi (Nat.not_lt_zero _)⟩ (fun i H _ ⟨e, _⟩ => e.seq (SqL.of hp)) ?_ ?_
  · rintro k x H' hk ⟨e, ys, hd, hys⟩
    obtain ⟨s0, s1, s2, s3, s4, rfl⟩ := hσ
    refine ⟨rfl, ?_⟩
    dsimp only [tYes]
    rw [if_pos rfl]
    obtain ⟨i, hi, hx⟩ := hE.at hk
    have hkl : k < xs.length := (List.getElem?_eq_some_iff.mp hk).1
    obtain rfl : i = k := by
      rw [List.getElem?_range (by omega)] at hi
      exact (Option.some.inj hi).symm
    obtain ⟨hi3, ea, d, rfl, h1, h2⟩ := hx
    refine ⟨_, rfl, ea, i, rfl, by omega, .inl ⟨d, _, e _ _ h1, e _ _ h2⟩, fun r H2 e2 n2 h2 => ?_⟩
    have nr : r ≠ D := fun z => by rw [z, hd] at n2; cases n2
    have hk2 : kindsOf i = [(i : Int)] := by
      unfold kindsOf
      rw [if_neg (by omega)]
    rw [hk2] at h2
    refine ⟨ys, e2 _ _ hd, Evl.sz_lt (by rw [hys.1]; omega), fun b o z => ?_, ys ++ [.ref r], upd_same, hys.more e2 h2 nr _⟩
    rw [upd_ne (ne_of_none z hD)]
    exact e2 _ _ (e b o z)
  · rintro H' ⟨e, ys, hd, hys⟩
    rw [hl] at hys
    exact q D H' e hD (hys.dp hd)
/-- [[at] for at in range(23)] -/
theorem nums_comp {H : Hp} {σ : L2.St} {Q : VK} (hσ : ∃ s0 s1 s2 s3 s4, σ = [s0, s1, s2, s3, s4])
    (q : ∀ D H', Same H H' → H D = none → Dp K H' (.ref D) (.list ((List.range 23).map oneNum)) → Q (.ref D) H') :
    tLc (iRng1 (tCons (tC (.int 23)) tNil)) (gName 3) tYes (tLst (tCons (tVar 3) tNil)) (List.map (fun x => x.snd) [(("at" : Str), 3)]) σ H Q := by
  refine ⟨23, rfl, by decide, by decide, fun D hD => ?_⟩
  refine lc_range (lo := 0) (n := 23) (Qd := fun H' => Q (.ref D) H') (fun k H' => Same H H' ∧ ∃ ys, H' D = some (.lst ys) ∧ NL H' D ys k)
    ⟨sm_new hD, [], upd_same, rfl, fun i hi => absurd hi (Nat.not_lt_zero _)⟩ ?_ ?_
  · rintro k H' hk ⟨e, ys, hd, hys⟩
    obtain ⟨s0, s1, s2, s3, s4, rfl⟩ := hσ
    refine ⟨rfl, ?_⟩
    dsimp only [tYes]
    rw [if_pos rfl]
    refine ⟨_, rfl, (by show 1 ≤ sizeLine; decide), fun r hr => ?_⟩
    have nr : r ≠ D := fun z => by rw [z, hd] at hr; cases hr
    have e2 : Same H' (upd H' r (.lst [.int ((0 : Int) + (k : Int))])) := sm_new hr
    refine ⟨ys, e2 _ _ hd, Evl.sz_lt (by rw [hys.1]; omega), fun b o z => ?_, ys ++ [.ref r], upd_same, hys.more e2 ?_ nr _⟩
    · rw [upd_ne (ne_of_none z hD)]
      exact e2 _ _ (e b o z)
    · rw [upd_same, Int.zero_add]
  · rintro H' ⟨e, ys, hd, hys⟩
    exact q D H' e hD (hys.dp hd)
/-- [one for one in _law_fields(errors) if repr(one) != repr(given)]: none -/
theorem rest_comp {H : Hp} {p : Addr} {xs : List V} {v : V} {t : Str} {σ : L2.St} {Q : VK} (hσ : ∃ s2 s3 s4, σ = [some (.ref p), some v, s2, s3, s4]) (hp : H p = some (.lst xs)) (hE : Errs Cf H v (List.range 23) xs) (hR : RpOk K H v t)
    (q : ∀ D H', Same H H' → H D = none → H' D = some (.lst []) → Q (.ref D) H') :
    tLc (iList K (tCall (spFields Cf) [] E0 (tCons (tVar 0) tNil))) (gName 4) (tTest (tOp rNe (tCB (rReprD K) (tCons (tVar 4) tNil)) (tCB (rReprD K) (tCons (tVar 1) tNil)))) (tVar 4) (List.map (fun x => x.snd) [(("one" : Str), 4)]) σ H Q := by
  obtain ⟨s2, s3, s4, rfl⟩ := hσ
  refine ⟨_, rfl, p, xs, v, rfl, hp, hE, fun p' H1 e1 n1 h1 => ⟨p', rfl, ⟨_, SqL.of h1⟩, fun D hD => ?_⟩⟩
  refine lc_list (K := K) (a := p') (xs := List.replicate 23 v) (Qd := fun H' => Q (.ref D) H') (fun k H' => Same H1 H' ∧ H' D = some (.lst []))
    ⟨sm_new hD, upd_same⟩ (fun i H _ ⟨e, _⟩ => e.seq (SqL.of h1)) ?_ ?_
  · rintro k x H' hk ⟨e, hd⟩
    obtain rfl : x = v := by
      have := (List.getElem?_eq_some_iff.mp hk).2
      rw [List.getElem_replicate] at this
      exact this.symm
    refine ⟨rfl, ?_⟩
    have hR' := hR.ex (e1.trans e)
    refine tst_op (ev_repr (by rfl) hR' (ev_repr (by rfl) hR' ?_))
    refine ⟨rfl, _, rfl, ?_⟩
    rw [decide_eq_true rfl]
    refine iteF ?_
    exact ⟨e, hd⟩
  · rintro H' ⟨e, hd⟩
    exact q D H' (e1.trans e) (e1.free hD) hd
theorem scRi : FnScope ["errors", "given", "error", "at", "one"] ["errors", "given"] (defScope sRight) := ⟨rfl, rfl, rfl, by decide +kernel, rfl, by decide +kernel, by decide +kernel⟩
theorem ok_right {f fK fF : Addr} {fd fdK fdF : FuncData} (F : Fun K "_law_right" "_law_right" sRight f fd) (B : Bl mg) (T : TX P K mg Cf If)
    (FK : Fun K "_law_kinds" "_law_kinds" sKinds fK fdK) (bK : Binds K fdK ["error"] []) (gK : mg "_law_kinds" = some (.ref fK))
    (FF : Fun K "_law_fields" "_law_fields" sFields fF fdF) (bF : Binds K fdF ["errors"] []) (gF : mg "_law_fields" = some (.ref fF)) : FnOkG P w K mg base CX0 2 f fd ["errors", "given"] (spRight K Cf) := by
  have GK : FnOkG P w K mg base CX0 1 fK fdK ["error"] (spKinds Cf) := ok_kinds FK B T
  have GF : FnOkG P w K mg base CX0 1 fF fdF ["errors"] (spFields Cf) := ok_fields FF T
  refine F.okG scRi (fun vs H Q E h => ?_) (fun cdv A outer s H vs Q E hr h => ?_)
  · obtain ⟨p, xs, v, t, rfl, _⟩ := h
    rfl
  · obtain ⟨p, xs, v, t, rfl, hp, hE, hR, q⟩ := h
    have hr1 : RoomG 1 _ := hr.mono (by decide)
    refine ⟨_, pss_cons (ps_if (pt_cmpR (op_neD hr.1.units)
        (pe_lc (own := [("error", 2)]) (g := gName 2) rfl scRi.nd (pi_list (pv 0)) (blkOk_by (own := [("error", 2)]) (N := ["errors", "given", "error", "at", "one"]) (sc := defScope sRight) (by decide +kernel)) (fun _ _ _ _ _ => pg_name (i := 2) scRi.nd rfl (.inl rfl)) (fun _ _ _ _ _ => pts_nil) (te := tCall (spKinds Cf) [] E0 (tCons (tVar 2) tNil))
          (fun _ _ _ _ _ => pe_callG GK hr1 rfl gK FK.kp bK .nil pass0 (pa_cons (pv 2) pa_nil)))
        (pe_lc (own := [("at", 3)]) (g := gName 3) rfl scRi.nd (pi_range1 rfl B.range (pa_cons pe_int pa_nil)) (blkOk_by (own := [("at", 3)]) (N := ["errors", "given", "error", "at", "one"]) (sc := defScope sRight) (by decide +kernel)) (fun _ _ _ _ _ => pg_name (i := 3) scRi.nd rfl (.inl rfl)) (fun _ _ _ _ _ => pts_nil)
          (fun _ _ _ _ _ => pe_lst (pa_cons (pv 3) pa_nil))) (nomark _)) (pss_one (ps_ret pe_bl)) pss_nil)
      (pss_one (ps_ret (pe_cmpR (op_eqD hr.1.units)
        (pe_lc (own := [("one", 4)]) (g := gName 4) rfl scRi.nd (pi_list (pe_callG GF hr1 rfl gF FF.kp bF .nil pass0 (pa_cons (pv 0) pa_nil))) (blkOk_by (own := [("one", 4)]) (N := ["errors", "given", "error", "at", "one"]) (sc := defScope sRight) (by decide +kernel)) (fun _ _ _ _ _ => pg_name (i := 4) scRi.nd rfl (.inl rfl))
          (tt := tTest (tOp rNe (tCB (rReprD K) (tCons (tVar 4) tNil)) (tCB (rReprD K) (tCons (tVar 1) tNil))))
          (fun _ _ _ _ _ => pts_one (pt_cmpR op_ne (pe_callB (call_reprD hr.2 hr.1.units) (by rfl) B.repr (by decide +kernel) (pa_cons (pv 4) pa_nil)) (pe_callB (call_reprD hr.2 hr.1.units) (by rfl) B.repr (by decide +kernel) (pa_cons (pv 1) pa_nil)) (nomark _)))
          (fun _ _ _ _ _ => pv 4))
        (pe_lst pa_nil) (nomark _)))), ?_⟩
    refine seq_if (tst_op ?_)
    refine kinds_comp (K := K) (by rfl) ⟨_, _, _, _, _, rfl⟩ hp hE fun D1 H1 e1 n1 h1 => ?_
    refine nums_comp (K := K) ⟨_, _, _, _, _, rfl⟩ fun D2 H2 e2 n2 h2 => ?_
    refine ⟨_, _, Dp.ex e2 _ _ h1, h2, by decide +kernel, by decide +kernel, _, rfl, ?_⟩
    rw [show PyData.eqv (PyData.list ((List.range 23).map oneNum)) (PyData.list ((List.range 23).map oneNum)) = true by decide +kernel]
    refine iteF ?_
    have e12 : Same H H2 := e1.trans e2
    refine nxt ?_
    dsimp only
    refine ret_op ?_
    refine rest_comp ⟨_, _, _, rfl⟩ (e12 _ _ hp) (hE.ex e12) (hR.ex e12) fun D3 H3 e3 n3 h3 => ?_
    refine ⟨(by show 0 ≤ sizeLine; decide), fun D4 hD4 => ?_⟩
    refine ⟨.list [], .list [], .lst (SqL.of ((sm_new hD4) _ _ h3)) .nil, .lst (SqL.of upd_same) .nil, by decide +kernel, by decide +kernel, ?_⟩
    rw [show PyData.eqv (PyData.list []) (PyData.list []) = true by decide +kernel]
    exact q _ ((e12.trans e3).trans (sm_new hD4))
end
end K0

set_option Elab.async false
set_option linter.all false
set_option maxRecDepth 100000
set_option maxHeartbeats 4000000
namespace L2
open PySem PySem.Spec PyProof.Rows
/-- X(), an own exception class without own __init__, as a value -/
theorem pe_exc0 {X : Cx} {C : Addr} {bmB : List Value} {B newId initId : String} {x : Str} {p pos : Pos} (F : ExcBaseFacts B newId initId bmB) (q : PySem.W.excIn X.K C bmB newId = true) (gC : X.mg x = some (.ref C)) (kC : PySem.W.keepIn X.K (.ref C) = true) (hg : Gl X x)
    (hdb : (x == ("__debug__" : Str)) = false := by decide) :
    PE X (.Call (.Name x p) [] [] pos) (fun _ H Q => ∀ a, H a = none → Q (.ref a) (upd H a (ExO (.ref C) a))) := by
  refine ⟨fun pins s σ H Q I h => ?_⟩
  refine wpAny_Call_Name_kw (ld_glob I hg gC ?_ hdb)
  refine PySem.W.callWith_K0 I.kIn kC ?_
  show wpAny _ _ (call (.ref C) []) _ _ _
  obtain ⟨bm, N, nm, qn, bs, hdct, sn, sub, ab, col, dd, k0, k1, k2, k3, k5, mN, hC, hN, hni, T⟩ := exc_obj I.kIn q
  refine wpAny_call_exc_subT F T hC hN hni (fun h' a hm => ?_) (Nat.zero_le _)
  have hn : H a = none := I.hok.gone hm.new
  obtain ⟨t, ht, _, _⟩ := hm.there
  exact ⟨.ref a, upd H a (ExO (.ref C) a), I.laidN hm.keeps hm.new hn (exO_ok ht ⟨rfl, rfl⟩ rfl rfl rfl (show 4 < 6 by decide)), rfl, h a hn⟩
end L2

set_option Elab.async false
set_option linter.all false
set_option maxRecDepth 100000
set_option maxHeartbeats 4000000
namespace K0
open PySem PySem.Spec PyProof.Rows L2
section
variable {P : Program} {w : World} {K : PySem.W.Frag} {mg : Str → Option Value} {base : Heap} {Cf If : Nat → Addr}
structure Ad where
  (ea va t6 l7 d8 la lb l9 u t10 : Addr)
def vals (A : Ad) (n : Int) : List V := [.int n, .int (0 - n), .non, .bl true, .str "mill", .str "", .ref A.t6, .ref A.l7, .ref A.d8, .ref A.l9, .ref A.t10, .int (10 ^ 60)]
def dAt (n : Int) (b : Bool) : List (Key × V) := if b then [(.inr "a", .int n), (.inr "b", .str "more")] else [(.inr "a", .int n)]
/-- the addresses that the loop changes -/
def Ad.chg (A : Ad) (b : Addr) : Prop := b = A.ea ∨ b = A.l7 ∨ b = A.d8 ∨ b = A.l9
structure VS (A : Ad) (n : Int) (H : Hp) (k : Nat) : Prop where
  va : H A.va = some (.lst (vals A n))
  t6 : H A.t6 = some (.tup [.int n, .int 1])
  l7 : H A.l7 = some (.lst (if 7 < k then [.int n, .str "more"] else [.int n]))
  d8 : H A.d8 = some (.dK (dAt n (decide (8 < k))))
  la : H A.la = some (.lst [.int n])
  lb : H A.lb = some (.lst [])
  l9 : H A.l9 = some (.lst (if 9 < k then [.ref A.la, .ref A.lb, .str "more"] else [.ref A.la, .ref A.lb]))
  u : H A.u = some (.tup [])
  t10 : H A.t10 = some (.tup [.ref A.u, .str "a"])
  nva : ¬ A.chg A.va
  nla : ¬ A.chg A.la
  nlb : ¬ A.chg A.lb
  n79 : A.l7 ≠ A.l9
  n7e : A.l7 ≠ A.ea
  n9e : A.l9 ≠ A.ea
  n8e : A.d8 ≠ A.ea
  n78 : A.l7 ≠ A.d8
  n89 : A.d8 ≠ A.l9
theorem VS.ex {A : Ad} {n : Int} {H H' : Hp} {k : Nat} (e : Same H H') (h : VS A n H k) : VS A n H' k :=
  ⟨e _ _ h.va, e _ _ h.t6, e _ _ h.l7, e _ _ h.d8, e _ _ h.la, e _ _ h.lb, e _ _ h.l9, e _ _ h.u, e _ _ h.t10, h.nva, h.nla, h.nlb, h.n79, h.n7e, h.n9e, h.n8e, h.n78, h.n89⟩
theorem upd_id {H : Hp} {a : Addr} {o : HO} (h : H a = some o) : upd H a o = H := by
  funext b
  by_cases hb : b = a
  · rw [hb, upd_same]; exact h.symm
  · rw [upd_ne hb]
/-- early grows -/
theorem VS.early {A : Ad} {n : Int} {H : Hp} {k : Nat} {o : HO} {es : List V} (h : VS A n H k) (he : H A.ea = some (.lst es)) : VS A n (upd H A.ea o) k := by
  have ne : ∀ {b : Addr} {u : HO}, H b = some u → u ≠ .lst es → b ≠ A.ea := fun hb hu => ne_of hb he hu
  refine ⟨?_, ?_, ?_, ?_, ?_, ?_, ?_, ?_, ?_, h.nva, h.nla, h.nlb, h.n79, h.n7e, h.n9e, h.n8e, h.n78, h.n89⟩
  · rw [upd_ne fun z => h.nva (.inl z)]; exact h.va
  · rw [upd_ne (ne h.t6 (by intro z; cases z))]; exact h.t6
  · rw [upd_ne h.n7e]; exact h.l7
  · rw [upd_ne h.n8e]; exact h.d8
  · rw [upd_ne fun z => h.nla (.inl z)]; exact h.la
  · rw [upd_ne fun z => h.nlb (.inl z)]; exact h.lb
  · rw [upd_ne h.n9e]; exact h.l9
  · rw [upd_ne (ne h.u (by intro z; cases z))]; exact h.u
  · rw [upd_ne (ne h.t10 (by intro z; cases z))]; exact h.t10

end
end K0
namespace L2
open PySem PySem.Spec PyProof.Rows
mutual
/-- at least as many signs as the text of repr has -/
def shB : PyData → Nat
  | .none => 4
  | .bool _ => 5
  | .int i => i.natAbs.log2 + 2
  | .str x => (reprText x).length
  | .list xs => shBs xs + 3
  | .tuple xs => shBs xs + 3
  | .dict kvs => shBk kvs + 3
def shBs : List PyData → Nat
  | [] => 0
  | x :: xs => shB x + 2 + shBs xs
def shBk : List (PyData × PyData) → Nat
  | [] => 0
  | (a, b) :: r => shB a + shB b + 4 + shBk r
end
theorem shB_all : ∀ (xs : List PyData), (∀ x ∈ xs, x.shown.length ≤ shB x) → ((PyData.shownAll xs).map (·.length)).sum + 2 * (PyData.shownAll xs).length ≤ shBs xs
  | [], _ => by simp [PyData.shownAll, shBs]
  | x :: xs, h => by
    have h1 := h x (List.mem_cons_self ..)
    have h2 := shB_all xs fun y hy => h y (List.mem_cons_of_mem _ hy)
    simp only [PyData.shownAll, shBs, List.map_cons, List.sum_cons, List.length_cons]
    omega
mutual
theorem shB_le : ∀ (d : PyData), d.shown.length ≤ shB d
  | .none => by simp only [PyData.shown, shB]; decide
  | .bool b => by
    cases b
    · simp only [PyData.shown, shB]; decide
    · simp only [PyData.shown, shB]; decide
  | .int i => by
    simp only [PyData.shown, shB]
    have h := int_text_length_le (a := i) (k := i.natAbs.log2 + 1) (by omega) (by omega)
    have e : (Str.ofString (toString i)).length = (toString i).length := PySem.ofString_length _
    rw [e]
    omega
  | .str x => by simp only [PyData.shown, shB]; exact Nat.le_refl _
  | .list xs => by
    simp only [PyData.shown, shB]
    have h := listText_len_le (PyData.shownAll xs)
    have h2 := shB_les xs
    omega
  | .tuple xs => by
    simp only [PyData.shown, shB]
    have h := tupleText_len_le (PyData.shownAll xs)
    have h2 := shB_les xs
    omega
  | .dict kvs => by
    simp only [PyData.shown, shB]
    have h := dictText_len_le (PyData.shownKv kvs)
    have h2 := shB_lek kvs
    omega
theorem shB_les : ∀ (xs : List PyData), ((PyData.shownAll xs).map (·.length)).sum + 2 * (PyData.shownAll xs).length ≤ shBs xs
  | [] => by simp [PyData.shownAll, shBs]
  | x :: xs => by
    have h1 := shB_le x
    have h2 := shB_les xs
    simp only [PyData.shownAll, shBs, List.map_cons, List.sum_cons, List.length_cons]
    omega
theorem shB_lek : ∀ (kvs : List (PyData × PyData)), ((PyData.shownKv kvs).map (·.length)).sum + 2 * (PyData.shownKv kvs).length ≤ shBk kvs
  | [] => by simp [PyData.shownKv, shBk]
  | (a, b) :: r => by
    have h1 := shB_le a
    have h3 := shB_le b
    have h2 := shB_lek r
    simp only [PyData.shownKv, shBk, List.map_cons, List.sum_cons, List.length_cons]
    have e : (PyData.shown a ++ ": " ++ PyData.shown b).length = (PyData.shown a).length + 2 + (PyData.shown b).length := by
      rw [strLen_append, strLen_append]
      rfl
    omega
end
/-- repr's fitness from the bounds alone -/
theorem RpOk.of {K : PySem.W.Frag} {H : Hp} {v : V} {d : PyData} (h : Dp K H v d) (h1 : d.hasDict = false) (h2 : d.showable = true) (h3 : shB d ≤ 100000) (h4 : d.depth ≤ 50) : ∃ t, RpOk K H v t :=
  ⟨_, d, .inl ⟨h, h1⟩, h2, Nat.le_trans (shB_le d) (Nat.le_trans h3 (by decide)), h4, rfl⟩
theorem log_lt {i : Int} (h0 : 0 ≤ i) (h1 : i < 1000000000) : i.natAbs.log2 < 30 := by
  by_cases h : i.natAbs = 0
  · rw [h]; decide
  · exact (Nat.log2_lt h).mpr (by omega)
end L2
namespace K0
open PySem PySem.Spec PyProof.Rows L2
section
variable {P : Program} {w : World} {K : PySem.W.Frag} {mg : Str → Option Value} {base : Heap} {Cf If : Nat → Addr}
/-- the text that repr tells of the k-th value -/
theorem rp_at {A : Ad} {n : Int} {H : Hp} {j k : Nat} {v : V} (h : VS A n H j) (n0 : 0 ≤ n) (n1 : n < 1000000000) (hv : (vals A n)[k]? = some v) : ∃ t, RpOk K H v t := by
  have hn : n.natAbs.log2 < 30 := log_lt n0 n1
  have hn2 : (0 - n).natAbs.log2 < 30 := by
    have e : (0 - n).natAbs = n.natAbs := by omega
    rw [e]
    exact hn
  have dn : ∀ i : Int, i.natAbs.log2 < 30 → decide (i.natAbs.log2 < 1920) = true := fun i hi => decide_eq_true (by omega)
  have hk : k < 12 := (List.getElem?_eq_some_iff.mp hv).1
  have b0 : shB (.list [.int n]) ≤ 100 := by simp only [shB, shBs]; omega
  match k, hk, hv with
  | 0, _, hv => cases hv; exact RpOk.of (.int n) rfl (by simp [PyData.showable]; omega) (by simp only [shB]; omega) (by simp [PyData.depth])
  | 1, _, hv => cases hv; exact RpOk.of (.int (0 - n)) rfl (by simp only [PyData.showable]; exact dn _ hn2) (by simp only [shB]; omega) (by simp [PyData.depth])
  | 2, _, hv => cases hv; exact RpOk.of .non rfl rfl (by decide +kernel) (by decide)
  | 3, _, hv => cases hv; exact RpOk.of (.bl true) rfl rfl (by decide +kernel) (by decide)
  | 4, _, hv => cases hv; exact RpOk.of (.str "mill") rfl rfl (by decide +kernel) (by decide)
  | 5, _, hv => cases hv; exact RpOk.of (.str "") rfl rfl (by decide +kernel) (by decide)
  | 6, _, hv => cases hv; exact RpOk.of (d := .tuple [.int n, .int 1]) (.tup (SqT.of h.t6) (.cons (.int n) (.cons (.int 1) .nil))) rfl (by simp only [PyData.showable, PyData.showableAll, dn n hn]; decide +kernel) (by simp only [shB, shBs]; have : (1 : Int).natAbs.log2 = 0 := (by decide +kernel); omega) (by simp [PyData.depth, PyData.depthAll])
  | 7, _, hv =>
    cases hv
    have h7 := h.l7
    by_cases hj : 7 < j
    · rw [if_pos hj] at h7
      exact RpOk.of (d := .list [.int n, .str "more"]) (.lst (SqL.of h7) (.cons (.int n) (.cons (.str _) .nil))) rfl (by simp only [PyData.showable, PyData.showableAll, dn n hn]; decide +kernel) (by simp only [shB, shBs]; have : (reprText (Str.ofString "more")).length = 6 := (by decide +kernel); omega) (by simp [PyData.depth, PyData.depthAll])
    · rw [if_neg hj] at h7
      exact RpOk.of (d := .list [.int n]) (.lst (SqL.of h7) (.cons (.int n) .nil)) rfl (by simp only [PyData.showable, PyData.showableAll, dn n hn]; decide +kernel) (by omega) (by simp [PyData.depth, PyData.depthAll])
  | 8, _, hv =>
    cases hv
    have h8 := h.d8
    by_cases hj : 8 < j
    · rw [decide_eq_true hj] at h8
      refine ⟨_, .dict [(.str "a", .int n), (.str "b", .str "more")], .inr ⟨A.d8, _, [.int n, .str "more"], rfl, h8, .cons (.int n) (.cons (.str _) .nil), rfl⟩, ?_, Nat.le_trans (shB_le _) (Nat.le_trans (m := 100000) ?_ (by decide)), ?_, rfl⟩
      · simp only [PyData.showable, PyData.showableKv, dn n hn]; decide +kernel
      · simp only [shB, shBk]
        have : (reprText (Str.ofString "more")).length = 6 := by decide +kernel
        have : (reprText (Str.ofString "a")).length = 3 := by decide +kernel
        have : (reprText (Str.ofString "b")).length = 3 := by decide +kernel
        omega
      · simp [PyData.depth, PyData.depthKv]
    · rw [decide_eq_false hj] at h8
      refine ⟨_, .dict [(.str "a", .int n)], .inr ⟨A.d8, _, [.int n], rfl, h8, .cons (.int n) .nil, rfl⟩, ?_, Nat.le_trans (shB_le _) (Nat.le_trans (m := 100000) ?_ (by decide)), ?_, rfl⟩
      · simp only [PyData.showable, PyData.showableKv, dn n hn]; decide +kernel
      · simp only [shB, shBk]
        have : (reprText (Str.ofString "a")).length = 3 := by decide +kernel
        omega
      · simp [PyData.depth, PyData.depthKv]
  | 9, _, hv =>
    cases hv
    have h9 := h.l9
    have da : Dp K H (.ref A.la) (.list [.int n]) := .lst (SqL.of h.la) (.cons (.int n) .nil)
    have db : Dp K H (.ref A.lb) (.list []) := .lst (SqL.of h.lb) .nil
    by_cases hj : 9 < j
    · rw [if_pos hj] at h9
      exact RpOk.of (d := .list [.list [.int n], .list [], .str "more"]) (.lst (SqL.of h9) (.cons da (.cons db (.cons (.str _) .nil)))) rfl (by simp only [PyData.showable, PyData.showableAll, dn n hn]; decide +kernel) (by simp only [shB, shBs]; have : (reprText (Str.ofString "more")).length = 6 := (by decide +kernel); omega) (by simp [PyData.depth, PyData.depthAll])
    · rw [if_neg hj] at h9
      exact RpOk.of (d := .list [.list [.int n], .list []]) (.lst (SqL.of h9) (.cons da (.cons db .nil))) rfl (by simp only [PyData.showable, PyData.showableAll, dn n hn]; decide +kernel) (by simp only [shB, shBs]; omega) (by simp [PyData.depth, PyData.depthAll])
  | 10, _, hv => cases hv; exact RpOk.of (d := .tuple [.tuple [], .str "a"]) (.tup (SqT.of h.t10) (.cons (.tup (SqT.of h.u) .nil) (.cons (.str _) .nil))) rfl (by decide +kernel) (by decide +kernel) (by decide +kernel)
  | 11, _, hv => cases hv; exact RpOk.of (d := .int (10 ^ 60)) (.int _) rfl (by decide +kernel) (by decide +kernel) (by decide +kernel)
end
end K0

set_option Elab.async false
set_option linter.all false
set_option maxRecDepth 100000
set_option maxHeartbeats 4000000
namespace K0
open PySem PySem.Spec PyProof.Rows L2
section
variable {P : Program} {w : World} {K : PySem.W.Frag} {mg : Str → Option Value} {base : Heap} {Cf If : Nat → Addr}
def tTail (K : PySem.W.Frag) : TS := tSeq (tIfS (tB (tCB (rIsi K) (tCons (tVar 5) (tCons (tC (V.ty "list")) tNil)))) (tDrop (tBM K "list" rAppend (tVar 5) (tCons (tC (V.str (Str.ofString "more"))) tNil))) tNext)
  (tIfS (tB (tCB (rIsi K) (tCons (tVar 5) (tCons (tC (V.ty "dict")) tNil)))) (sDPut (tVar 5) (tC (V.str (Str.ofString "b"))) (tC (V.str (Str.ofString "more")))) tNext)
theorem tail_plain {D : Ends} {σ : L2.St} {H : Hp} {v : V} {T : String} (h5 : σ[5]? = some (some v)) (ty : TyOf K H v (.type T)) (hl : kitB T "list" = some false) (hd : kitB T "dict" = some false) (q : D.nx σ H) : tTail K D σ H := by
  refine ⟨_, h5, v, .ty "list", .type T, .type "list", false, rfl, .ty _, .base ty, kit_ty hl, false, rfl, ?_⟩
  refine iteF ?_
  refine ⟨_, h5, v, .ty "dict", .type T, .type "dict", false, rfl, .ty _, .base ty, kit_ty hd, false, rfl, ?_⟩
  refine iteF ?_
  exact q
theorem tail_list {D : Ends} {σ : L2.St} {H : Hp} {l : Addr} {ys : List V} (h5 : σ[5]? = some (some (.ref l))) (h : H l = some (.lst ys)) (hz : ys.length ≤ 1000) (q : D.nx σ (upd H l (.lst (ys ++ [.str (Str.ofString "more")])))) : tTail K D σ H := by
  refine ⟨_, h5, .ref l, .ty "list", .type "list", .type "list", true, rfl, .ty _, .base (.lst h), kit_ty (by decide +kernel), true, rfl, ?_⟩
  refine iteT ?_
  refine ⟨_, h5, .inl ⟨rfl, _, SqL.of h⟩, l, ys, _, rfl, rfl, h, Evl.sz_lt (by omega), ?_⟩
  refine ⟨_, h5, .ref l, .ty "dict", .type "list", .type "dict", false, rfl, .ty _, .base (.lst upd_same), kit_ty (by decide +kernel), false, rfl, ?_⟩
  refine iteF ?_
  exact q
theorem tail_dict {D : Ends} {σ : L2.St} {H : Hp} {d : Addr} {kvs : List (Key × V)} (h5 : σ[5]? = some (some (.ref d))) (h : H d = some (.dK kvs)) (hz : kvs.length ≤ 1000) (q : D.nx σ (upd H d (.dK (putK kvs (Sum.inr (Str.ofString "b")) (.str (Str.ofString "more")))))) : tTail K D σ H := by
  refine ⟨_, h5, .ref d, .ty "list", .type "dict", .type "list", false, rfl, .ty _, .base (.dK h), kit_ty (by decide +kernel), false, rfl, ?_⟩
  refine iteF ?_
  refine ⟨_, h5, .ref d, .ty "dict", .type "dict", .type "dict", true, rfl, .ty _, .base (.dK h), kit_ty (by decide +kernel), true, rfl, ?_⟩
  refine iteT ?_
  exact ⟨_, h5, d, _, rfl, DPut.k (k := Sum.inr (Str.ofString "b")) h (Evl.sz_lt (by omega)), q⟩
/-- an entry of early: the k-th value's errors -/
def EOk (Cf : Nat → Addr) (A : Ad) (n : Int) (H : Hp) (k : Nat) (e : V) : Prop := ∃ t p xs v, (vals A n)[k]? = some v ∧ e = .ref t ∧ H t = some (.tup [.ref p, v]) ∧ H p = some (.lst xs) ∧ ¬ A.chg p ∧ Errs Cf H v (List.range 23) xs
/-- all but what the loop changes is kept -/
def KeepA (A : Ad) (H H' : Hp) : Prop := ∀ b o, ¬ A.chg b → H b = some o → H' b = some o
/-- what the loop changes are lists and a dict -/
def Chg (A : Ad) (H : Hp) : Prop := ∀ b, A.chg b → (∃ xs, H b = some (.lst xs)) ∨ ∃ kvs, H b = some (.dK kvs)
theorem VS.chg {A : Ad} {n : Int} {H : Hp} {k : Nat} {es : List V} (h : VS A n H k) (he : H A.ea = some (.lst es)) : Chg A H := by
  rintro b (rfl | rfl | rfl | rfl)
  · exact .inl ⟨_, he⟩
  · exact .inl ⟨_, h.l7⟩
  · exact .inr ⟨_, h.d8⟩
  · exact .inl ⟨_, h.l9⟩
theorem Chg.ne {A : Ad} {H : Hp} {b : Addr} {o : HO} (c : Chg A H) (h : H b = some o) (hl : ∀ xs, o ≠ .lst xs) (hd : ∀ kvs, o ≠ .dK kvs) : ¬ A.chg b := fun z => by
  rcases c b z with ⟨xs, e⟩ | ⟨kvs, e⟩
  · rw [h] at e
    exact hl xs (Option.some.inj e)
  · rw [h] at e
    exact hd kvs (Option.some.inj e)
theorem errs_keep {A : Ad} {H H' : Hp} {v : V} (c : Chg A H) (k : KeepA A H H') : ∀ {is : List Nat} {xs : List V}, Errs Cf H v is xs → Errs Cf H' v is xs
  | _, _, .nil => .nil
  | _, _, .cons a b => by
    obtain ⟨hi, e, d, rfl, h1, h2⟩ := a
    exact .cons ⟨hi, e, d, rfl, k _ _ (c.ne h1 (by intro _ z; cases z) (by intro _ z; cases z)) h1, k _ _ (c.ne h2 (by intro _ z; cases z) (by intro _ z; cases z)) h2⟩ (errs_keep c k b)
theorem EOk.keep {A : Ad} {n : Int} {H H' : Hp} {k : Nat} {e : V} (c : Chg A H) (kp : KeepA A H H') (h : EOk Cf A n H k e) : EOk Cf A n H' k e := by
  obtain ⟨t, p, xs, v, hv, rfl, ht, hp, hc, hE⟩ := h
  exact ⟨t, p, xs, v, hv, rfl, kp _ _ (c.ne ht (by intro _ z; cases z) (by intro _ z; cases z)) ht, kp _ _ hc hp, hc, errs_keep c kp hE⟩
theorem EOk.ex {A : Ad} {n : Int} {H H' : Hp} {k : Nat} {e : V} (s : Same H H') (h : EOk Cf A n H k e) : EOk Cf A n H' k e := by
  obtain ⟨t, p, xs, v, hv, rfl, ht, hp, hc, hE⟩ := h
  exact ⟨t, p, xs, v, hv, rfl, s _ _ ht, s _ _ hp, hc, hE.ex s⟩
theorem keep_upd {A : Ad} {H : Hp} {b : Addr} {o : HO} (h : A.chg b) : KeepA A H (upd H b o) := fun c u hc hu => by
  rw [upd_ne fun z => hc (by rw [z]; exact h)]
  exact hu
/-- the turn's end: the value changes, if it is a list or the dict -/
theorem tail_ok {A : Ad} {n : Int} {H : Hp} {k : Nat} {v : V} {es : List V} {D : Ends} {σ : L2.St} (h : VS A n H k) (he : H A.ea = some (.lst es)) (hv : (vals A n)[k]? = some v) (h5 : σ[5]? = some (some v))
    (q : ∀ H', VS A n H' (k + 1) → KeepA A H H' → H' A.ea = some (.lst es) → D.nx σ H') : tTail K D σ H := by
  have hk : k < 12 := (List.getElem?_eq_some_iff.mp hv).1
  have same : ∀ k', (∀ j : Nat, j = 7 ∨ j = 8 ∨ j = 9 → (j < k' ↔ j < k)) → VS A n H k' := fun k' hj => by
    refine { h with l7 := ?_, d8 := ?_, l9 := ?_ }
    · have := h.l7
      simp only [hj 7 (.inl rfl)]
      exact this
    · have := h.d8
      simp only [hj 8 (.inr (.inl rfl))]
      exact this
    · have := h.l9
      simp only [hj 9 (.inr (.inr rfl))]
      exact this
  have kr : KeepA A H H := fun _ _ _ z => z
  match k, hk, hv with
  | 0, _, hv => cases hv; exact tail_plain h5 (.int _) (by decide +kernel) (by decide +kernel) (q H (same _ (by intro j hj; omega)) kr he)
  | 1, _, hv => cases hv; exact tail_plain h5 (.int _) (by decide +kernel) (by decide +kernel) (q H (same _ (by intro j hj; omega)) kr he)
  | 2, _, hv => cases hv; exact tail_plain h5 .non (by decide +kernel) (by decide +kernel) (q H (same _ (by intro j hj; omega)) kr he)
  | 3, _, hv => cases hv; exact tail_plain h5 (.bl _) (by decide +kernel) (by decide +kernel) (q H (same _ (by intro j hj; omega)) kr he)
  | 4, _, hv => cases hv; exact tail_plain h5 (.str _) (by decide +kernel) (by decide +kernel) (q H (same _ (by intro j hj; omega)) kr he)
  | 5, _, hv => cases hv; exact tail_plain h5 (.str _) (by decide +kernel) (by decide +kernel) (q H (same _ (by intro j hj; omega)) kr he)
  | 6, _, hv => cases hv; exact tail_plain h5 (.tup h.t6) (by decide +kernel) (by decide +kernel) (q H (same _ (by intro j hj; omega)) kr he)
  | 10, _, hv => cases hv; exact tail_plain h5 (.tup h.t10) (by decide +kernel) (by decide +kernel) (q H (same _ (by intro j hj; omega)) kr he)
  | 11, _, hv => cases hv; exact tail_plain h5 (.int _) (by decide +kernel) (by decide +kernel) (q H (same _ (by intro j hj; omega)) kr he)
  | 7, _, hv =>
    cases hv
    have h7 := h.l7
    simp only [Nat.lt_irrefl, if_false] at h7
    have c := h.chg he
    refine tail_list h5 h7 (by simp) (q _ ?_ (keep_upd (.inr (.inl rfl))) ?_)
    · have kp : KeepA A H (upd H A.l7 (.lst ([.int n] ++ [.str (Str.ofString "more")]))) := keep_upd (.inr (.inl rfl))
      refine ⟨kp _ _ h.nva h.va, kp _ _ (c.ne h.t6 (by intro _ z; cases z) (by intro _ z; cases z)) h.t6, ?_, ?_, kp _ _ h.nla h.la, kp _ _ h.nlb h.lb, ?_, kp _ _ (c.ne h.u (by intro _ z; cases z) (by intro _ z; cases z)) h.u, kp _ _ (c.ne h.t10 (by intro _ z; cases z) (by intro _ z; cases z)) h.t10, h.nva, h.nla, h.nlb, h.n79, h.n7e, h.n9e, h.n8e, h.n78, h.n89⟩
      · rw [upd_same]; rfl
      · rw [upd_ne h.n78.symm]; exact h.d8
      · rw [upd_ne h.n79.symm]; exact h.l9
    · rw [upd_ne h.n7e.symm]; exact he
  | 8, _, hv =>
    cases hv
    have h8 := h.d8
    have c := h.chg he
    refine tail_dict h5 h8 (by simp [dAt]) (q _ ?_ (keep_upd (.inr (.inr (.inl rfl)))) ?_)
    · have kp : ∀ o, KeepA A H (upd H A.d8 o) := fun o => keep_upd (.inr (.inr (.inl rfl)))
      refine ⟨kp _ _ _ h.nva h.va, kp _ _ _ (c.ne h.t6 (by intro _ z; cases z) (by intro _ z; cases z)) h.t6, ?_, ?_, kp _ _ _ h.nla h.la, kp _ _ _ h.nlb h.lb, ?_, kp _ _ _ (c.ne h.u (by intro _ z; cases z) (by intro _ z; cases z)) h.u, kp _ _ _ (c.ne h.t10 (by intro _ z; cases z) (by intro _ z; cases z)) h.t10, h.nva, h.nla, h.nlb, h.n79, h.n7e, h.n9e, h.n8e, h.n78, h.n89⟩
      · rw [upd_ne h.n78]; exact h.l7
      · rw [upd_same]
        have : putK (dAt n (decide (8 < 8))) (Sum.inr (Str.ofString "b")) (V.str (Str.ofString "more")) = dAt n (decide (8 < 8 + 1)) := by
          simp only [dAt, Nat.lt_irrefl, decide_false, Bool.false_eq_true, if_false]
          rw [if_pos (by decide)]
          have : ¬ (Str.ofString "a" = Str.ofString "b") := by decide +kernel
          simp [putK, this]
        rw [this]
      · rw [upd_ne h.n89.symm]; exact h.l9
    · rw [upd_ne h.n8e.symm]; exact he
  | 9, _, hv =>
    cases hv
    have h9 := h.l9
    simp only [Nat.lt_irrefl, if_false] at h9
    have c := h.chg he
    refine tail_list h5 h9 (by simp) (q _ ?_ (keep_upd (.inr (.inr (.inr rfl)))) ?_)
    · have kp : ∀ o, KeepA A H (upd H A.l9 o) := fun o => keep_upd (.inr (.inr (.inr rfl)))
      refine ⟨kp _ _ _ h.nva h.va, kp _ _ _ (c.ne h.t6 (by intro _ z; cases z) (by intro _ z; cases z)) h.t6, ?_, ?_, kp _ _ _ h.nla h.la, kp _ _ _ h.nlb h.lb, ?_, kp _ _ _ (c.ne h.u (by intro _ z; cases z) (by intro _ z; cases z)) h.u, kp _ _ _ (c.ne h.t10 (by intro _ z; cases z) (by intro _ z; cases z)) h.t10, h.nva, h.nla, h.nlb, h.n79, h.n7e, h.n9e, h.n8e, h.n78, h.n89⟩
      · rw [upd_ne h.n79]; exact h.l7
      · rw [upd_ne h.n89]; exact h.d8
      · rw [upd_same]; rfl
    · rw [upd_ne h.n9e.symm]; exact he
end
end K0

set_option Elab.async false
set_option linter.all false
set_option maxRecDepth 100000
set_option maxHeartbeats 4000000
namespace K0
open PySem PySem.Spec PyProof.Rows L2
section
variable {P : Program} {w : World} {K : PySem.W.Frag} {mg : Str → Option Value} {base : Heap} {Cf If : Nat → Addr}
def spLaw (K : PySem.W.Frag) : Sp := fun vs H Q _ => ∃ (a : Addr) (ns : List Int), vs = [.ref a] ∧ SqL K H a (ns.map V.int) ∧ ns.length ≤ 63 ∧ ∀ H', Q (.bl true) H'
abbrev NL9 : List Str := ["script", "generator", "number_here", "early", "values", "given", "plain", "named", "errors"]
theorem scL : FnScope NL9 ["script"] (defScope sLaw) := ⟨rfl, rfl, rfl, by decide +kernel, rfl, by decide +kernel, by decide +kernel⟩
/-- what the module says of its defs -/
structure Fns (P : Program) (w : World) (K : PySem.W.Frag) (mg : Str → Option Value) (base : Heap) (Cf : Nat → Addr) : Prop where
  gen : ∃ f fd, mg "_law_generator" = some (.ref f) ∧ PySem.W.keepIn K (.ref f) = true ∧ Binds K fd ["script", "index"] [] ∧ FnOkG P w K mg base CX0 2 f fd ["script", "index"] (spGen K)
  rnd : ∃ f fd, mg "_law_random" = some (.ref f) ∧ PySem.W.keepIn K (.ref f) = true ∧ Binds K fd ["generator", "bound"] [] ∧ FnOkG P w K mg base CX0 2 f fd ["generator", "bound"] spRandom
  kin : ∃ f fd, mg "_law_kinds" = some (.ref f) ∧ PySem.W.keepIn K (.ref f) = true ∧ Binds K fd ["error"] [] ∧ FnOkG P w K mg base CX0 1 f fd ["error"] (spKinds Cf)
  pln : ∃ f fd, mg "_law_plain" = some (.ref f) ∧ PySem.W.keepIn K (.ref f) = true ∧ Binds K fd ["given"] [] ∧ FnOkG P w K mg base CX0 1 f fd ["given"] (spErrs Cf 1)
  nam : ∃ f fd, mg "_law_named" = some (.ref f) ∧ PySem.W.keepIn K (.ref f) = true ∧ Binds K fd ["given"] [] ∧ FnOkG P w K mg base CX0 1 f fd ["given"] (spErrs Cf 1)
  bar : ∃ f fd, mg "_law_bare" = some (.ref f) ∧ PySem.W.keepIn K (.ref f) = true ∧ Binds K fd [] [] ∧ FnOkG P w K mg base CX0 1 f fd [] (spErrs Cf 0)
  rgt : ∃ f fd, mg "_law_right" = some (.ref f) ∧ PySem.W.keepIn K (.ref f) = true ∧ Binds K fd ["errors", "given"] [] ∧ FnOkG P w K mg base CX0 2 f fd ["errors", "given"] (spRight K Cf)
structure TX2 (K : PySem.W.Frag) (mg : Str → Option Value) (Cf : Nat → Addr) : Prop where
  bN : ∃ bm, ExcBaseFacts "ValueError" "ValueError.__new__" "ValueError.__init__" bm ∧ PySem.W.excIn K (Cf 23) bm "ValueError.__new__" = true
  bM : ∃ bm, ExcBaseFacts "ValueError" "ValueError.__new__" "ValueError.__init__" bm ∧ PySem.W.excIn K (Cf 24) bm "ValueError.__new__" = true
  kN : PySem.W.keepIn K (.ref (Cf 23)) = true
  kM : PySem.W.keepIn K (.ref (Cf 24)) = true
theorem ok_law {f : Addr} {fd : FuncData} (F : Fun K "law" "law" sLaw f fd) (B : Bl mg) (T : TX P K mg Cf If) (T2 : TX2 K mg Cf) (S : Fns P w K mg base Cf) : FnOkG P w K mg base CX0 3 f fd ["script"] (spLaw K) := by
  obtain ⟨fG, dG, gG, kG, bG, GG⟩ := S.gen
  obtain ⟨fR, dR, gR, kR, bR, GR⟩ := S.rnd
  obtain ⟨fK, dK, gK, kK, bK, GK⟩ := S.kin
  obtain ⟨fP, dP, gP, kP, bP, GP⟩ := S.pln
  obtain ⟨fN, dN, gN, kN, bN, GN⟩ := S.nam
  obtain ⟨fB, dB, gB, kB, bB, GB⟩ := S.bar
  obtain ⟨fT, dT, gT, kT, bT, GT⟩ := S.rgt
  obtain ⟨bmN, FN, qN⟩ := T2.bN
  obtain ⟨bmM, FM, qM⟩ := T2.bM
  refine F.okG scL (fun vs H Q E h => ?_) (fun cdv A outer s H vs Q E hr h => ?_)
  · obtain ⟨a, ns, rfl, _⟩ := h
    rfl
  · obtain ⟨a, ns, rfl, hS, hl, q⟩ := h
    have hr1 : RoomG 1 _ := hr.mono (by decide)
    have hu := hu_of hr.1
    refine ⟨_, (pss_cons (ps_set (i := 1) scL.nd rfl (.inl rfl) (pe_callG GG hr rfl gG kG bG .nil pass0 (pa_cons (pv 0) (pa_cons pe_int pa_nil))))
      (pss_cons (ps_par (i := 2) (j := 3) (by rfl) scL.nd rfl rfl (by decide) rfl rfl (pa_cons (pe_callG GR hr rfl gR kR bR .nil pass0 (pa_cons (pv 1) (pa_cons (pe_op op_pow pe_int pe_int) pa_nil))) (pa_cons (pe_lst pa_nil) pa_nil)) (by rfl))
      (pss_cons (ps_set (i := 4) scL.nd rfl (.inl rfl) (pe_lst (pa_cons (pv 2) (pa_cons (pe_op op_sub pe_int (pv 2)) (pa_cons pe_non (pa_cons pe_bl (pa_cons pe_str (pa_cons pe_str (pa_cons (pe_tup (pa_cons (pv 2) (pa_cons pe_int pa_nil))) (pa_cons (pe_lst (pa_cons (pv 2) pa_nil)) pa_nil))))))))))
      (pss_cons (ps_set (i := 4) scL.nd rfl (.inl rfl) (pe_op op_cat (pv 4) (pe_lst (pa_cons (pe_disp (pps_cons pe_str (pv 2) pps_nil) rfl rfl (by simp) (by decide)) (pa_cons (pe_lst (pa_cons (pe_lst (pa_cons (pv 2) pa_nil)) (pa_cons (pe_lst pa_nil) pa_nil))) pa_nil)))))
      (pss_cons (ps_set (i := 4) scL.nd rfl (.inl rfl) (pe_op op_cat (pv 4) (pe_lst (pa_cons (pe_tup (pa_cons (pe_tup pa_nil) (pa_cons pe_str pa_nil))) (pa_cons (pe_op op_pow pe_int pe_int) pa_nil)))))
      (pss_cons (ps_for PassesOwn.never rfl (pi_list (pv 4)) (pg_name (i := 5) scL.nd rfl (.inl rfl)) (pss_cons (ps_par (i := 6) (j := 7) (by rfl) scL.nd rfl rfl (by decide) rfl rfl (pa_cons (pe_callG GP hr1 rfl gP kP bP .nil pass0 (pa_cons (pv 5) pa_nil)) (pa_cons (pe_callG GN hr1 rfl gN kN bN .nil pass0 (pa_cons (pv 5) pa_nil)) pa_nil)) (by rfl))
      (pss_cons (ps_if (PW.pt (pw_or (pt_not (pt_val (pe_callG GT hr rfl gT kT bT .nil pass0 (pa_cons (pv 6) (pa_cons (pv 5) pa_nil))))) (pw_or1 (pt_not (pt_val (pe_callG GT hr rfl gT kT bT .nil pass0 (pa_cons (pv 7) (pa_cons (pv 5) pa_nil)))))))) (pss_one (ps_ret pe_bl)) pss_nil)
      (pss_cons (ps_expr (pe_bm PySem.F.plainAttrs_list PySem.F.slot_list_append PySem.F.type_list_append mt_append (pv 3) (pa_cons (pe_tup (pa_cons (pv 6) (pa_cons (pv 5) pa_nil))) pa_nil)))
      (pss_cons (ps_if (pt_val (pe_callB call_isi (by rfl) B.isi (by decide +kernel) (pa_cons (pv 5) (pa_cons (pe_bltn (v := .ty "list") (by rfl) B.list (by decide +kernel) rfl) pa_nil)))) (pss_one (ps_expr (pe_bm PySem.F.plainAttrs_list PySem.F.slot_list_append PySem.F.type_list_append mt_append (pv 5) (pa_cons pe_str pa_nil)))) pss_nil)
      (pss_one (ps_if (pt_val (pe_callB call_isi (by rfl) B.isi (by decide +kernel) (pa_cons (pv 5) (pa_cons (pe_bltn (v := .ty "dict") (by rfl) B.dict (by decide +kernel) rfl) pa_nil)))) (pss_one (ps_dput hu (pv 5) pe_str pe_str rfl)) pss_nil)))))))
      (pss_cons (ps_if (pt_not (pt_val (pe_callG GT hr rfl gT kT bT .nil pass0 (pa_cons (pe_call0G GB hr1 rfl gB kB bB .nil pass0) (pa_cons pe_non pa_nil))))) (pss_one (ps_ret pe_bl)) pss_nil)
      (pss_cons (ps_for PassesOwn.never rfl (pi_list (pv 3)) (pg_tup (by rfl) (pgs_cons (pg_name (i := 8) scL.nd rfl (.inl rfl)) (pgs_cons (pg_name (i := 5) scL.nd rfl (.inl rfl)) pgs_nil))) (pss_one (ps_if (pt_not (pt_val (pe_callG GT hr rfl gT kT bT .nil pass0 (pa_cons (pv 8) (pa_cons (pv 5) pa_nil))))) (pss_one (ps_ret pe_bl)) pss_nil)))
      (pss_one (ps_ret (pe_and (pe_cmpR (op_eqD hr.1.units) (pe_callG GK hr1 rfl gK kK bK .nil pass0 (pa_cons (pe_exc0 FN qN (T.g 23 (by decide)) T2.kN rfl) pa_nil)) (pe_lst (pa_cons pe_int pa_nil)) (nomark _)) (pe_one (pe_cmpR (op_eqD hr.1.units) (pe_callG GK hr1 rfl gK kK bK .nil pass0 (pa_cons (pe_exc0 FM qM (T.g 24 (by decide)) T2.kM rfl) pa_nil)) (pe_lst pa_nil) (nomark _)))))))))))))), ?_⟩
    refine ⟨_, rfl, a, ns, rfl, hS, hl, fun g x s H1 e1 n1 h1 x0 s0 s1 => ?_⟩
    refine ⟨_, rfl, _, _, rfl, rfl, ⟨by decide, by decide, by decide⟩, g, x, s, 0, rfl, h1, x0, s0, s1, by decide, by decide, fun n a' c' r0 r1 => ?_⟩
    generalize upd H1 g (HO.lst [V.int a', V.int s, V.int c']) = H1
    refine ⟨(by show 0 ≤ sizeLine; decide), fun ea n_ea => ?_⟩
    refine ⟨_, _, rfl, ?_⟩
    generalize hX2 : upd H1 ea _ = H2
    have e2 : Same H1 H2 := hX2 ▸ sm_new n_ea
    have h_ea : H2 ea = some (.lst []) := hX2 ▸ upd_same
    clear hX2
    refine ⟨_, rfl, ?_⟩
    refine ⟨_, rfl, _, _, rfl, rfl, ?_⟩
    refine ⟨_, rfl, (by show 2 ≤ sizeLine; decide), fun t6 n_t6 => ?_⟩
    generalize hX3 : upd H2 t6 _ = H3
    have e3 : Same H2 H3 := hX3 ▸ sm_new n_t6
    have h_t6 : H3 t6 = some (.tup [.int n, .int 1]) := hX3 ▸ upd_same
    clear hX3
    refine ⟨_, rfl, (by show 1 ≤ sizeLine; decide), fun l7 n_l7 => ?_⟩
    generalize hX4 : upd H3 l7 _ = H4
    have e4 : Same H3 H4 := hX4 ▸ sm_new n_l7
    have h_l7 : H4 l7 = some (.lst [.int n]) := hX4 ▸ upd_same
    clear hX4
    refine ⟨(by show 8 ≤ sizeLine; decide), fun v1 n_v1 => ?_⟩
    generalize hX5 : upd H4 v1 _ = H5
    have e5 : Same H4 H5 := hX5 ▸ sm_new n_v1
    have h_v1 : H5 v1 = some (.lst [.int n, .int (0 - n), .non, .bl true, .str "mill", .str "", .ref t6, .ref l7]) := hX5 ▸ upd_same
    clear hX5
    refine ⟨_, rfl, fun d8 n_d8 => ?_⟩
    refine ⟨_, rfl, upd_same, [(Sum.inr "a", .int n)], rfl, by simp, ?_⟩
    rw [upd_upd]
    generalize hX6 : upd H5 d8 _ = H6
    have e6 : Same H5 H6 := hX6 ▸ sm_new n_d8
    have h_d8 : H6 d8 = some (.dK (mergeK [] [(Sum.inr "a", .int n)])) := hX6 ▸ upd_same
    clear hX6
    refine ⟨_, rfl, (by show 1 ≤ sizeLine; decide), fun la n_la => ?_⟩
    generalize hX7 : upd H6 la _ = H7
    have e7 : Same H6 H7 := hX7 ▸ sm_new n_la
    have h_la : H7 la = some (.lst [.int n]) := hX7 ▸ upd_same
    clear hX7
    refine ⟨(by show 0 ≤ sizeLine; decide), fun lb n_lb => ?_⟩
    generalize hX8 : upd H7 lb _ = H8
    have e8 : Same H7 H8 := hX8 ▸ sm_new n_lb
    have h_lb : H8 lb = some (.lst []) := hX8 ▸ upd_same
    clear hX8
    refine ⟨(by show 2 ≤ sizeLine; decide), fun l9 n_l9 => ?_⟩
    generalize hX9 : upd H8 l9 _ = H9
    have e9 : Same H8 H9 := hX9 ▸ sm_new n_l9
    have h_l9 : H9 l9 = some (.lst [.ref la, .ref lb]) := hX9 ▸ upd_same
    clear hX9
    refine ⟨(by show 2 ≤ sizeLine; decide), fun v2 n_v2 => ?_⟩
    generalize hX10 : upd H9 v2 _ = H10
    have e10 : Same H9 H10 := hX10 ▸ sm_new n_v2
    have h_v2 : H10 v2 = some (.lst [.ref d8, .ref l9]) := hX10 ▸ upd_same
    clear hX10
    refine ⟨v1, v2, _, _, rfl, rfl, e10 _ _ (e9 _ _ (e8 _ _ (e7 _ _ (e6 _ _ (h_v1))))), h_v2, (by show 10 ≤ sizeLine; decide), fun v3 n_v3 => ?_⟩
    generalize hX11 : upd H10 v3 _ = H11
    have e11 : Same H10 H11 := hX11 ▸ sm_new n_v3
    have h_v3 : H11 v3 = some (.lst ([.int n, .int (0 - n), .non, .bl true, .str "mill", .str "", .ref t6, .ref l7] ++ [.ref d8, .ref l9])) := hX11 ▸ upd_same
    clear hX11
    refine ⟨_, rfl, (by show 0 ≤ sizeLine; decide), fun u n_u => ?_⟩
    generalize hX12 : upd H11 u _ = H12
    have e12 : Same H11 H12 := hX12 ▸ sm_new n_u
    have h_u : H12 u = some (.tup []) := hX12 ▸ upd_same
    clear hX12
    refine ⟨(by show 2 ≤ sizeLine; decide), fun t10 n_t10 => ?_⟩
    generalize hX13 : upd H12 t10 _ = H13
    have e13 : Same H12 H13 := hX13 ▸ sm_new n_t10
    have h_t10 : H13 t10 = some (.tup [.ref u, .str "a"]) := hX13 ▸ upd_same
    clear hX13
    refine ⟨_, _, rfl, rfl, ⟨by decide, by decide, by decide⟩, (by show 2 ≤ sizeLine; decide), fun v4 n_v4 => ?_⟩
    generalize hX14 : upd H13 v4 _ = H14
    have e14 : Same H13 H14 := hX14 ▸ sm_new n_v4
    have h_v4 : H14 v4 = some (.lst [.ref t10, .int (10 ^ 60)]) := hX14 ▸ upd_same
    clear hX14
    refine ⟨v3, v4, _, _, rfl, rfl, e14 _ _ (e13 _ _ (e12 _ _ (h_v3))), h_v4, (by show 12 ≤ sizeLine; decide), fun va n_va => ?_⟩
    generalize hX15 : upd H14 va _ = H15
    have e15 : Same H14 H15 := hX15 ▸ sm_new n_va
    have h_va : H15 va = some (.lst (vals ⟨ea, va, t6, l7, d8, la, lb, l9, u, t10⟩ n)) := hX15 ▸ upd_same
    clear hX15
    let A : Ad := ⟨ea, va, t6, l7, d8, la, lb, l9, u, t10⟩
    have V0 : VS A n H15 0 := ⟨h_va, e15 _ _ (e14 _ _ (e13 _ _ (e12 _ _ (e11 _ _ (e10 _ _ (e9 _ _ (e8 _ _ (e7 _ _ (e6 _ _ (e5 _ _ (e4 _ _ (h_t6)))))))))))), e15 _ _ (e14 _ _ (e13 _ _ (e12 _ _ (e11 _ _ (e10 _ _ (e9 _ _ (e8 _ _ (e7 _ _ (e6 _ _ (e5 _ _ (h_l7))))))))))), e15 _ _ (e14 _ _ (e13 _ _ (e12 _ _ (e11 _ _ (e10 _ _ (e9 _ _ (e8 _ _ (e7 _ _ (h_d8))))))))), e15 _ _ (e14 _ _ (e13 _ _ (e12 _ _ (e11 _ _ (e10 _ _ (e9 _ _ (e8 _ _ (h_la)))))))), e15 _ _ (e14 _ _ (e13 _ _ (e12 _ _ (e11 _ _ (e10 _ _ (e9 _ _ (h_lb))))))), e15 _ _ (e14 _ _ (e13 _ _ (e12 _ _ (e11 _ _ (e10 _ _ (h_l9)))))), e15 _ _ (e14 _ _ (e13 _ _ (h_u))), e15 _ _ (e14 _ _ (h_t10)), (fun z => z.elim (fun z => (ne_of_none (e14 _ _ (e13 _ _ (e12 _ _ (e11 _ _ (e10 _ _ (e9 _ _ (e8 _ _ (e7 _ _ (e6 _ _ (e5 _ _ (e4 _ _ (e3 _ _ (h_ea))))))))))))) n_va).symm z) fun z => z.elim (fun z => (ne_of_none (e14 _ _ (e13 _ _ (e12 _ _ (e11 _ _ (e10 _ _ (e9 _ _ (e8 _ _ (e7 _ _ (e6 _ _ (e5 _ _ (h_l7))))))))))) n_va).symm z) fun z => z.elim (fun z => (ne_of_none (e14 _ _ (e13 _ _ (e12 _ _ (e11 _ _ (e10 _ _ (e9 _ _ (e8 _ _ (e7 _ _ (h_d8))))))))) n_va).symm z) fun z => (ne_of_none (e14 _ _ (e13 _ _ (e12 _ _ (e11 _ _ (e10 _ _ (h_l9)))))) n_va).symm z), (fun z => z.elim (fun z => (ne_of_none (e6 _ _ (e5 _ _ (e4 _ _ (e3 _ _ (h_ea))))) n_la).symm z) fun z => z.elim (fun z => (ne_of_none (e6 _ _ (e5 _ _ (h_l7))) n_la).symm z) fun z => z.elim (fun z => (ne_of_none (h_d8) n_la).symm z) fun z => (ne_of_none (e8 _ _ (h_la)) n_l9) z), (fun z => z.elim (fun z => (ne_of_none (e7 _ _ (e6 _ _ (e5 _ _ (e4 _ _ (e3 _ _ (h_ea)))))) n_lb).symm z) fun z => z.elim (fun z => (ne_of_none (e7 _ _ (e6 _ _ (e5 _ _ (h_l7)))) n_lb).symm z) fun z => z.elim (fun z => (ne_of_none (e7 _ _ (h_d8)) n_lb).symm z) fun z => (ne_of_none (h_lb) n_l9) z), (ne_of_none (e8 _ _ (e7 _ _ (e6 _ _ (e5 _ _ (h_l7))))) n_l9), (ne_of_none (e3 _ _ (h_ea)) n_l7).symm, (ne_of_none (e8 _ _ (e7 _ _ (e6 _ _ (e5 _ _ (e4 _ _ (e3 _ _ (h_ea))))))) n_l9).symm, (ne_of_none (e5 _ _ (e4 _ _ (e3 _ _ (h_ea)))) n_d8).symm, (ne_of_none (e5 _ _ (h_l7)) n_d8), (ne_of_none (e8 _ _ (e7 _ _ (h_d8))) n_l9)⟩
    have hea : H15 ea = some (.lst []) := e15 _ _ (e14 _ _ (e13 _ _ (e12 _ _ (e11 _ _ (e10 _ _ (e9 _ _ (e8 _ _ (e7 _ _ (e6 _ _ (e5 _ _ (e4 _ _ (e3 _ _ (h_ea)))))))))))))
    have hea : H15 A.ea = some (.lst []) := hea
    refine ⟨_, rfl, va, rfl, ⟨_, SqL.of V0.va⟩, for_list (K := K) (a := va) (xs := vals A n) (fun k σ H' => ∃ (es : List V) (s5 s6 s7 : Option V), σ = [some (.ref a), some (.ref g), some (.int n), some (.ref ea), some (.ref va), s5, s6, s7, none] ∧
      VS A n H' k ∧ H' A.ea = some (.lst es) ∧ es.length = k ∧ ∀ j e, es[j]? = some e → EOk Cf A n H' j e)
      ⟨[], _, _, _, rfl, V0, hea, rfl, fun j e z => by simp at z⟩ (fun k σ H' _ ⟨_, _, _, _, _, v, _⟩ => SqL.of v.va) ?_ ?_⟩
    · rintro k v σ H' hk ⟨es, s5, s6, s7, rfl, V, he, hlen, hE⟩
      obtain ⟨t, hR⟩ := rp_at (K := K) V r0 r1 hk
      have hk12 : k < 12 := (List.getElem?_eq_some_iff.mp hk).1
      refine ⟨_, rfl, v, rfl, (fun z => by cases z), fun p1 G1 xs1 f1 m1 q1 E1 => ?_⟩
      refine ⟨_, rfl, v, rfl, (fun z => by cases z), fun p2 G2 xs2 f2 m2 q2 E2 => ?_⟩
      refine ⟨_, _, rfl, ?_⟩
      have f12 : Same H' G2 := f1.trans f2
      refine ⟨_, rfl, _, rfl, p1, xs1, v, t, rfl, f2 _ _ q1, E1.ex f2, hR.ex f12, fun G3 f3 => ⟨true, rfl, ?_⟩⟩
      refine iteF ?_
      refine ⟨_, rfl, _, rfl, p2, xs2, v, t, rfl, f3 _ _ q2, E2.ex f3, hR.ex (f12.trans f3), fun G4 f4 => ⟨true, rfl, ?_⟩⟩
      refine iteF ?_
      have f14 : Same H' G4 := (f12.trans f3).trans f4
      refine ⟨_, rfl, .inl ⟨rfl, _, SqL.of (f14 _ _ he)⟩, ?_⟩
      refine ⟨_, rfl, _, rfl, (by show 2 ≤ sizeLine; decide), fun tt ntt => ?_⟩
      have f5 := sm_new (o := .tup [.ref p1, v]) ntt
      have he5 := f5 _ _ (f14 _ _ he)
      refine ⟨ea, es, _, rfl, rfl, he5, Evl.sz_lt (by omega), ?_⟩
      have V5 : VS A n (upd (upd G4 tt (.tup [.ref p1, v])) ea (.lst (es ++ [.ref tt]))) k := (V.ex (f14.trans f5)).early he5
      have c5 : Chg A (upd G4 tt (.tup [.ref p1, v])) := (V.ex (f14.trans f5)).chg he5
      have kp5 : KeepA A (upd G4 tt (.tup [.ref p1, v])) (upd (upd G4 tt (.tup [.ref p1, v])) ea (.lst (es ++ [.ref tt]))) := keep_upd (.inl rfl)
      have he6 : (upd (upd G4 tt (.tup [.ref p1, v])) ea (.lst (es ++ [.ref tt]))) A.ea = some (.lst (es ++ [.ref tt])) := upd_same
      show tTail K _ _ _
      refine tail_ok V5 he6 hk (by rfl) fun G7 V7 k7 he7 => ?_
      refine ⟨es ++ [.ref tt], _, _, _, rfl, V7, he7, by simp [hlen], fun j e hj => ?_⟩
      refine EOk.keep (V5.chg he6) k7 (EOk.keep c5 kp5 ?_)
      by_cases hjk : j < k
      · rw [List.getElem?_append_left (by omega)] at hj
        exact (hE j e hj).ex (f14.trans f5)
      · have hj2 := (List.getElem?_eq_some_iff.mp hj).1
        rw [List.length_append, hlen] at hj2
        obtain rfl : j = k := by simp at hj2; omega
        rw [List.getElem?_append_right (by omega), hlen, Nat.sub_self] at hj
        cases hj
        have np1 : ¬ A.chg p1 := by
          intro z
          rcases V.chg he p1 z with ⟨xs, e⟩ | ⟨kvs, e⟩
          · rw [e] at m1; cases m1
          · rw [e] at m1; cases m1
        exact ⟨tt, p1, xs1, v, hk, rfl, upd_same, f5 _ _ (f4 _ _ (f3 _ _ (f2 _ _ q1))), np1, (((E1.ex f2).ex f3).ex f4).ex f5⟩
    · rintro σ H' ⟨es, s5, s6, s7, rfl, VZ, he, hlen, hE⟩
      refine ⟨.non, rfl, fun _ => rfl, fun p1 G1 xs1 f1 m1 q1 E1 => ?_⟩
      refine ⟨p1, xs1, .non, _, rfl, q1, E1, (RpOk.of (K := K) .non rfl rfl (by decide +kernel) (by decide)).choose_spec, fun G2 f2 => ⟨true, rfl, ?_⟩⟩
      refine iteF ?_
      have f12 : Same H' G2 := f1.trans f2
      refine ⟨_, rfl, ea, rfl, ⟨_, SqL.of (f12 _ _ he)⟩, for_list (K := K) (a := ea) (xs := es) (fun k σ G => ∃ (s5 s8 : Option V), σ = [some (.ref a), some (.ref g), some (.int n), some (.ref ea), some (.ref va), s5, s6, s7, s8] ∧ Same H' G)
        ⟨_, _, rfl, f12⟩ (fun k σ G _ ⟨_, _, _, e⟩ => SqL.of (e _ _ he)) ?_ ?_⟩
      · rintro k y σ G hk ⟨s5, s8, rfl, f3⟩
        obtain ⟨t, p, xs, v, hv, rfl, ht, hp, _, hEr⟩ := (hE k y hk).ex f3
        obtain ⟨tx, hR⟩ := rp_at (K := K) (VZ.ex f3) r0 r1 hv
        refine ⟨t, _, rfl, SqT.of ht, rfl, _, _, rfl, _, _, rfl, rfl, ?_⟩
        refine ⟨_, rfl, _, rfl, p, xs, v, tx, rfl, hp, hEr, hR, fun G4 f4 => ⟨true, rfl, ?_⟩⟩
        refine iteF ?_
        exact ⟨_, _, rfl, f3.trans f4⟩
      · rintro σ G ⟨s5, s8, rfl, f3⟩
        intro x1 nx1
        refine ⟨x1, 23, rfl, by decide, .inr upd_same, fun r1 G4 f4 m4 h4 => ?_⟩
        have k23 : kindsOf 23 = [23] := by decide +kernel
        have k24 : kindsOf 24 = [] := by decide +kernel
        rw [k23] at h4
        refine ⟨(by show 1 ≤ sizeLine; decide), fun r2 m5 => ?_⟩
        refine ⟨.list [.int 23], .list [.int 23], .lst (SqL.of (sm_new m5 _ _ h4)) (.cons (.int 23) .nil), .lst (SqL.of upd_same) (.cons (.int 23) .nil), by decide +kernel, by decide +kernel, ?_⟩
        rw [show PyData.eqv (PyData.list [.int 23]) (PyData.list [.int 23]) = true by decide +kernel]
        refine ⟨true, rfl, ?_⟩
        refine iteT ?_
        intro x2 nx2
        refine ⟨x2, 24, rfl, by decide, .inr upd_same, fun r3 G6 f6 m6 h6 => ?_⟩
        rw [k24] at h6
        refine ⟨(by show 0 ≤ sizeLine; decide), fun r4 m7 => ?_⟩
        refine ⟨.list [], .list [], .lst (SqL.of (sm_new m7 _ _ h6)) .nil, .lst (SqL.of upd_same) .nil, by decide +kernel, by decide +kernel, ?_⟩
        rw [show PyData.eqv (PyData.list []) (PyData.list []) = true by decide +kernel]
        exact q _
end
end K0

set_option Elab.async false
set_option linter.all false
set_option maxRecDepth 100000
set_option maxHeartbeats 4000000
namespace K0
open PySem PySem.Spec PyProof.Rows PySem.Xn PySem.W
def p0 : Pos := ⟨0, 0, 0, 0⟩
def qL : List (List Pos) := [[⟨12, 8, 12, 13⟩, ⟨12, 8, 12, 15⟩, ⟨12, 8, 12, 24⟩, ⟨12, 25, 12, 30⟩, ⟨12, 8, 12, 31⟩, ⟨13, 8, 13, 12⟩, ⟨13, 8, 13, 18⟩, ⟨13, 21, 13, 26⟩, ⟨13, 8, 13, 26⟩],
  [⟨17, 8, 17, 13⟩, ⟨17, 8, 17, 15⟩, ⟨17, 8, 17, 24⟩, ⟨17, 25, 17, 30⟩, ⟨17, 8, 17, 31⟩, ⟨18, 8, 18, 12⟩, ⟨18, 8, 18, 18⟩, ⟨18, 21, 18, 26⟩, ⟨18, 8, 18, 26⟩],
  [⟨7, 8, 7, 13⟩, ⟨7, 8, 7, 15⟩, ⟨7, 8, 7, 24⟩, ⟨7, 25, 7, 30⟩, ⟨7, 8, 7, 31⟩, ⟨8, 8, 8, 12⟩, ⟨8, 8, 8, 18⟩, ⟨8, 21, 8, 26⟩, ⟨8, 8, 8, 26⟩],
  [⟨22, 8, 22, 13⟩, ⟨22, 8, 22, 15⟩, ⟨22, 8, 22, 24⟩, ⟨22, 25, 22, 30⟩, ⟨22, 8, 22, 31⟩, ⟨23, 8, 23, 12⟩, ⟨23, 8, 23, 18⟩, ⟨23, 21, 23, 26⟩, ⟨23, 8, 23, 26⟩],
  [⟨27, 8, 27, 13⟩, ⟨27, 8, 27, 15⟩, ⟨27, 8, 27, 24⟩, ⟨27, 25, 27, 30⟩, ⟨27, 8, 27, 31⟩, ⟨28, 8, 28, 12⟩, ⟨28, 8, 28, 18⟩, ⟨28, 21, 28, 26⟩, ⟨28, 8, 28, 26⟩],
  [⟨32, 8, 32, 13⟩, ⟨32, 8, 32, 15⟩, ⟨32, 8, 32, 24⟩, ⟨32, 25, 32, 30⟩, ⟨32, 8, 32, 31⟩, ⟨33, 8, 33, 12⟩, ⟨33, 8, 33, 18⟩, ⟨33, 21, 33, 26⟩, ⟨33, 8, 33, 26⟩],
  [⟨37, 8, 37, 13⟩, ⟨37, 8, 37, 15⟩, ⟨37, 8, 37, 24⟩, ⟨37, 25, 37, 30⟩, ⟨37, 8, 37, 31⟩, ⟨38, 8, 38, 12⟩, ⟨38, 8, 38, 18⟩, ⟨38, 21, 38, 26⟩, ⟨38, 8, 38, 26⟩],
  [⟨42, 8, 42, 13⟩, ⟨42, 8, 42, 15⟩, ⟨42, 8, 42, 24⟩, ⟨42, 25, 42, 30⟩, ⟨42, 8, 42, 31⟩, ⟨43, 8, 43, 12⟩, ⟨43, 8, 43, 18⟩, ⟨43, 21, 43, 26⟩, ⟨43, 8, 43, 26⟩],
  [⟨47, 8, 47, 13⟩, ⟨47, 8, 47, 15⟩, ⟨47, 8, 47, 24⟩, ⟨47, 25, 47, 30⟩, ⟨47, 8, 47, 31⟩, ⟨48, 8, 48, 12⟩, ⟨48, 8, 48, 18⟩, ⟨48, 21, 48, 26⟩, ⟨48, 8, 48, 26⟩],
  [⟨52, 8, 52, 13⟩, ⟨52, 8, 52, 15⟩, ⟨52, 8, 52, 24⟩, ⟨52, 25, 52, 30⟩, ⟨52, 8, 52, 31⟩, ⟨53, 8, 53, 12⟩, ⟨53, 8, 53, 18⟩, ⟨53, 21, 53, 26⟩, ⟨53, 8, 53, 26⟩],
  [⟨57, 8, 57, 13⟩, ⟨57, 8, 57, 15⟩, ⟨57, 8, 57, 24⟩, ⟨57, 25, 57, 30⟩, ⟨57, 8, 57, 31⟩, ⟨58, 8, 58, 12⟩, ⟨58, 8, 58, 18⟩, ⟨58, 21, 58, 26⟩, ⟨58, 8, 58, 26⟩],
  [⟨72, 8, 72, 13⟩, ⟨72, 8, 72, 15⟩, ⟨72, 8, 72, 24⟩, ⟨72, 25, 72, 30⟩, ⟨72, 8, 72, 31⟩, ⟨73, 8, 73, 12⟩, ⟨73, 8, 73, 18⟩, ⟨73, 21, 73, 26⟩, ⟨73, 8, 73, 26⟩],
  [⟨87, 8, 87, 13⟩, ⟨87, 8, 87, 15⟩, ⟨87, 8, 87, 24⟩, ⟨87, 25, 87, 30⟩, ⟨87, 8, 87, 31⟩, ⟨88, 8, 88, 12⟩, ⟨88, 8, 88, 18⟩, ⟨88, 21, 88, 26⟩, ⟨88, 8, 88, 26⟩],
  [⟨67, 8, 67, 13⟩, ⟨67, 8, 67, 15⟩, ⟨67, 8, 67, 24⟩, ⟨67, 25, 67, 30⟩, ⟨67, 8, 67, 31⟩, ⟨68, 8, 68, 12⟩, ⟨68, 8, 68, 18⟩, ⟨68, 21, 68, 26⟩, ⟨68, 8, 68, 26⟩],
  [⟨77, 8, 77, 13⟩, ⟨77, 8, 77, 15⟩, ⟨77, 8, 77, 24⟩, ⟨77, 25, 77, 30⟩, ⟨77, 8, 77, 31⟩, ⟨78, 8, 78, 12⟩, ⟨78, 8, 78, 18⟩, ⟨78, 21, 78, 26⟩, ⟨78, 8, 78, 26⟩],
  [⟨82, 8, 82, 13⟩, ⟨82, 8, 82, 15⟩, ⟨82, 8, 82, 24⟩, ⟨82, 25, 82, 30⟩, ⟨82, 8, 82, 31⟩, ⟨83, 8, 83, 12⟩, ⟨83, 8, 83, 18⟩, ⟨83, 21, 83, 26⟩, ⟨83, 8, 83, 26⟩],
  [⟨62, 8, 62, 13⟩, ⟨62, 8, 62, 15⟩, ⟨62, 8, 62, 24⟩, ⟨62, 25, 62, 30⟩, ⟨62, 8, 62, 31⟩, ⟨63, 8, 63, 12⟩, ⟨63, 8, 63, 18⟩, ⟨63, 21, 63, 26⟩, ⟨63, 8, 63, 26⟩],
  [⟨92, 8, 92, 13⟩, ⟨92, 8, 92, 15⟩, ⟨92, 8, 92, 24⟩, ⟨92, 25, 92, 29⟩, ⟨92, 8, 92, 30⟩, ⟨93, 8, 93, 12⟩, ⟨93, 8, 93, 17⟩, ⟨93, 20, 93, 24⟩, ⟨93, 8, 93, 24⟩],
  [⟨97, 8, 97, 13⟩, ⟨97, 8, 97, 15⟩, ⟨97, 8, 97, 24⟩, ⟨97, 25, 97, 29⟩, ⟨97, 8, 97, 30⟩, ⟨98, 8, 98, 12⟩, ⟨98, 8, 98, 17⟩, ⟨98, 20, 98, 24⟩, ⟨98, 8, 98, 24⟩],
  [⟨102, 8, 102, 13⟩, ⟨102, 8, 102, 15⟩, ⟨102, 8, 102, 24⟩, ⟨102, 25, 102, 29⟩, ⟨102, 8, 102, 30⟩, ⟨103, 8, 103, 12⟩, ⟨103, 8, 103, 17⟩, ⟨103, 20, 103, 24⟩, ⟨103, 8, 103, 24⟩],
  [⟨107, 8, 107, 13⟩, ⟨107, 8, 107, 15⟩, ⟨107, 8, 107, 24⟩, ⟨107, 25, 107, 29⟩, ⟨107, 8, 107, 30⟩, ⟨108, 8, 108, 12⟩, ⟨108, 8, 108, 17⟩, ⟨108, 20, 108, 24⟩, ⟨108, 8, 108, 24⟩],
  [⟨112, 8, 112, 13⟩, ⟨112, 8, 112, 15⟩, ⟨112, 8, 112, 24⟩, ⟨112, 25, 112, 31⟩, ⟨112, 8, 112, 32⟩, ⟨113, 8, 113, 12⟩, ⟨113, 8, 113, 19⟩, ⟨113, 22, 113, 28⟩, ⟨113, 8, 113, 28⟩],
  [⟨117, 8, 117, 13⟩, ⟨117, 8, 117, 15⟩, ⟨117, 8, 117, 24⟩, ⟨117, 25, 117, 31⟩, ⟨117, 8, 117, 32⟩, ⟨118, 8, 118, 12⟩, ⟨118, 8, 118, 19⟩, ⟨118, 22, 118, 28⟩, ⟨118, 8, 118, 28⟩]]
def pL : List (List Pos) := [[⟨11, 17, 11, 21⟩, ⟨11, 23, 11, 28⟩, ⟨11, 29, 11, 33⟩],
  [⟨16, 17, 16, 21⟩, ⟨16, 23, 16, 28⟩, ⟨16, 29, 16, 33⟩],
  [⟨6, 17, 6, 21⟩, ⟨6, 23, 6, 28⟩, ⟨6, 29, 6, 33⟩],
  [⟨21, 17, 21, 21⟩, ⟨21, 23, 21, 28⟩, ⟨21, 29, 21, 33⟩],
  [⟨26, 17, 26, 21⟩, ⟨26, 23, 26, 28⟩, ⟨26, 29, 26, 33⟩],
  [⟨31, 17, 31, 21⟩, ⟨31, 23, 31, 28⟩, ⟨31, 29, 31, 33⟩],
  [⟨36, 17, 36, 21⟩, ⟨36, 23, 36, 28⟩, ⟨36, 29, 36, 33⟩],
  [⟨41, 17, 41, 21⟩, ⟨41, 23, 41, 28⟩, ⟨41, 29, 41, 33⟩],
  [⟨46, 17, 46, 21⟩, ⟨46, 23, 46, 28⟩, ⟨46, 29, 46, 33⟩],
  [⟨51, 17, 51, 21⟩, ⟨51, 23, 51, 28⟩, ⟨51, 29, 51, 33⟩],
  [⟨56, 17, 56, 21⟩, ⟨56, 23, 56, 28⟩, ⟨56, 29, 56, 33⟩],
  [⟨71, 17, 71, 21⟩, ⟨71, 23, 71, 28⟩, ⟨71, 29, 71, 33⟩],
  [⟨86, 17, 86, 21⟩, ⟨86, 23, 86, 28⟩, ⟨86, 29, 86, 33⟩],
  [⟨66, 17, 66, 21⟩, ⟨66, 23, 66, 28⟩, ⟨66, 29, 66, 33⟩],
  [⟨76, 17, 76, 21⟩, ⟨76, 23, 76, 28⟩, ⟨76, 29, 76, 33⟩],
  [⟨81, 17, 81, 21⟩, ⟨81, 23, 81, 28⟩, ⟨81, 29, 81, 33⟩],
  [⟨61, 17, 61, 21⟩, ⟨61, 23, 61, 28⟩, ⟨61, 29, 61, 33⟩],
  [⟨91, 17, 91, 21⟩, ⟨91, 23, 91, 27⟩, ⟨91, 28, 91, 32⟩],
  [⟨96, 17, 96, 21⟩, ⟨96, 23, 96, 27⟩, ⟨96, 28, 96, 32⟩],
  [⟨101, 17, 101, 21⟩, ⟨101, 23, 101, 27⟩, ⟨101, 28, 101, 32⟩],
  [⟨106, 17, 106, 21⟩, ⟨106, 23, 106, 27⟩, ⟨106, 28, 106, 32⟩],
  [⟨111, 17, 111, 21⟩, ⟨111, 23, 111, 29⟩, ⟨111, 30, 111, 34⟩],
  [⟨116, 17, 116, 21⟩, ⟨116, 23, 116, 29⟩, ⟨116, 30, 116, 34⟩]]
abbrev qq (i : Nat) : Nat → Pos := fun j => (qL.getD i []).getD j p0
abbrev pp (i j : Nat) : Pos := (pL.getD i []).getD j p0

theorem tx0 : TextOk "value" (qq 0) := ⟨⟨_, fun _ => rfl⟩, fun _ => rfl, fun _ => rfl, fun _ => rfl, fun _ => rfl⟩
theorem tx1 : TextOk "value" (qq 1) := ⟨⟨_, fun _ => rfl⟩, fun _ => rfl, fun _ => rfl, fun _ => rfl, fun _ => rfl⟩
theorem tx2 : TextOk "value" (qq 2) := ⟨⟨_, fun _ => rfl⟩, fun _ => rfl, fun _ => rfl, fun _ => rfl, fun _ => rfl⟩
theorem tx3 : TextOk "value" (qq 3) := ⟨⟨_, fun _ => rfl⟩, fun _ => rfl, fun _ => rfl, fun _ => rfl, fun _ => rfl⟩
theorem tx4 : TextOk "value" (qq 4) := ⟨⟨_, fun _ => rfl⟩, fun _ => rfl, fun _ => rfl, fun _ => rfl, fun _ => rfl⟩
theorem tx5 : TextOk "value" (qq 5) := ⟨⟨_, fun _ => rfl⟩, fun _ => rfl, fun _ => rfl, fun _ => rfl, fun _ => rfl⟩
theorem tx6 : TextOk "value" (qq 6) := ⟨⟨_, fun _ => rfl⟩, fun _ => rfl, fun _ => rfl, fun _ => rfl, fun _ => rfl⟩
theorem tx7 : TextOk "value" (qq 7) := ⟨⟨_, fun _ => rfl⟩, fun _ => rfl, fun _ => rfl, fun _ => rfl, fun _ => rfl⟩
theorem tx8 : TextOk "value" (qq 8) := ⟨⟨_, fun _ => rfl⟩, fun _ => rfl, fun _ => rfl, fun _ => rfl, fun _ => rfl⟩
theorem tx9 : TextOk "value" (qq 9) := ⟨⟨_, fun _ => rfl⟩, fun _ => rfl, fun _ => rfl, fun _ => rfl, fun _ => rfl⟩
theorem tx10 : TextOk "value" (qq 10) := ⟨⟨_, fun _ => rfl⟩, fun _ => rfl, fun _ => rfl, fun _ => rfl, fun _ => rfl⟩
theorem tx11 : TextOk "value" (qq 11) := ⟨⟨_, fun _ => rfl⟩, fun _ => rfl, fun _ => rfl, fun _ => rfl, fun _ => rfl⟩
theorem tx12 : TextOk "value" (qq 12) := ⟨⟨_, fun _ => rfl⟩, fun _ => rfl, fun _ => rfl, fun _ => rfl, fun _ => rfl⟩
theorem tx13 : TextOk "value" (qq 13) := ⟨⟨_, fun _ => rfl⟩, fun _ => rfl, fun _ => rfl, fun _ => rfl, fun _ => rfl⟩
theorem tx14 : TextOk "value" (qq 14) := ⟨⟨_, fun _ => rfl⟩, fun _ => rfl, fun _ => rfl, fun _ => rfl, fun _ => rfl⟩
theorem tx15 : TextOk "value" (qq 15) := ⟨⟨_, fun _ => rfl⟩, fun _ => rfl, fun _ => rfl, fun _ => rfl, fun _ => rfl⟩
theorem tx16 : TextOk "value" (qq 16) := ⟨⟨_, fun _ => rfl⟩, fun _ => rfl, fun _ => rfl, fun _ => rfl, fun _ => rfl⟩
theorem tx17 : TextOk "name" (qq 17) := ⟨⟨_, fun _ => rfl⟩, fun _ => rfl, fun _ => rfl, fun _ => rfl, fun _ => rfl⟩
theorem tx18 : TextOk "name" (qq 18) := ⟨⟨_, fun _ => rfl⟩, fun _ => rfl, fun _ => rfl, fun _ => rfl, fun _ => rfl⟩
theorem tx19 : TextOk "name" (qq 19) := ⟨⟨_, fun _ => rfl⟩, fun _ => rfl, fun _ => rfl, fun _ => rfl, fun _ => rfl⟩
theorem tx20 : TextOk "name" (qq 20) := ⟨⟨_, fun _ => rfl⟩, fun _ => rfl, fun _ => rfl, fun _ => rfl, fun _ => rfl⟩
theorem tx21 : TextOk "number" (qq 21) := ⟨⟨_, fun _ => rfl⟩, fun _ => rfl, fun _ => rfl, fun _ => rfl, fun _ => rfl⟩
theorem tx22 : TextOk "number" (qq 22) := ⟨⟨_, fun _ => rfl⟩, fun _ => rfl, fun _ => rfl, fun _ => rfl, fun _ => rfl⟩
theorem bd_value {qual : Str} {p1 p2 p3 : Pos} {q : Nat → Pos} {doc pm ct : Value} {an : Option Addr} {cda cc da : Addr} : BindOk "value" (ksFn "__init__" qual (iA "value" p1 p2 p3) (iB "value" q) (iS "value") (.ref da) .none doc pm an (.ref cda) ct cc) da := ⟨fun _ _ => ⟨_, rfl, rfl⟩, fun _ _ => ⟨_, rfl, rfl⟩, fun _ => ⟨_, rfl, rfl⟩⟩
theorem bd_name {qual : Str} {p1 p2 p3 : Pos} {q : Nat → Pos} {doc pm ct : Value} {an : Option Addr} {cda cc da : Addr} : BindOk "name" (ksFn "__init__" qual (iA "name" p1 p2 p3) (iB "name" q) (iS "name") (.ref da) .none doc pm an (.ref cda) ct cc) da := ⟨fun _ _ => ⟨_, rfl, rfl⟩, fun _ _ => ⟨_, rfl, rfl⟩, fun _ => ⟨_, rfl, rfl⟩⟩
theorem bd_number {qual : Str} {p1 p2 p3 : Pos} {q : Nat → Pos} {doc pm ct : Value} {an : Option Addr} {cda cc da : Addr} : BindOk "number" (ksFn "__init__" qual (iA "number" p1 p2 p3) (iB "number" q) (iS "number") (.ref da) .none doc pm an (.ref cda) ct cc) da := ⟨fun _ _ => ⟨_, rfl, rfl⟩, fun _ _ => ⟨_, rfl, rfl⟩, fun _ => ⟨_, rfl, rfl⟩⟩
end K0

set_option Elab.async false
set_option linter.all false
set_option maxRecDepth 100000
set_option maxHeartbeats 4000000
namespace K0
open PySem PySem.Spec PyProof.Rows PySem.Xn PySem.W
abbrev veT (ME : Addr) : List Value := [.ref ME, .type "ValueError", .type "Exception", .type "BaseException", .type "object"]
section
variable {P : Program} {K : Frag} {h : Heap} {mg : Str → Option Value} {cn fld qual file : Str} {C ME fI cda cc da N : Addr} {nm q0 : Str} {bs : List Value} {sn : List Str} {sub : List Value} {ab : Bool} {col : Option Bool}
  {dd od an cdd cld ddi : Option Addr} {k0 k1 k2 k3 k5 : Option Value} {oc doc pm ct ccl cl dcl : Value} {osl ccs csl dsl : Array (Option Value)} {p1 p2 p3 : Pos} {q : Nat → Pos} {vs : Array Value} {tf : Tok} {dn : Nat} {code : Value}
/-- what is alike for all the classes -/
structure Com (P : Program) (K : Frag) (mg : Str → Option Value) (ME : Addr) : Prop where
  al : alongIn K "__init__" (veT ME) = some (some (.builtin "ValueError.__init__"))
  opq : nsIn K cStatics "thirdparty.any" = some none
  noS : mg "super" = none
  hn : specialIn K (.builtin "object.__class__") "__get__" = some (some (.builtin "getset_descriptor.__get__"))
  ht : takesIn K (.builtin "object.__class__") = some true
/-- what is asked of each class -/
structure One (K : Frag) (mg : Str → Option Value) (cn : Str) (C : Addr) (bm : List Value) : Prop where
  g : mg cn = some (.ref C)
  l : ∃ nm q N bs sn sub ab col dd k0 k1 k2 k3 k5, K.lookup C = some (excClassObj nm q C N bs bm true sn sub ab col dd k0 k1 k2 k3 k5 "ValueError.__new__")
  ga : findIn K (.ref C) "__getattribute__" = some (some (.builtin "BaseException.__getattribute__"))
  gg : findIn K (.ref C) "__getattr__" = some none
  ha : findIn K (.ref C) "__class__" = some (some (.builtin "object.__class__"))
variable {bm : List Value}
theorem One.cd (O : One K mg cn C bm) : ∃ cd : ClassData, clsIn K C = some cd ∧ cd.mro = .ref C :: bm ∧ cd.hasDict = true := by
  obtain ⟨nm, q, N, bs, sn, sub, ab, col, dd, k0, k1, k2, k3, k5, e⟩ := O.l
  exact ⟨_, by unfold clsIn; rw [e] <;> rfl, rfl, rfl⟩
theorem One.mro (O : One K mg cn C bm) (b : Value) : mroIn K C b = some ((.ref C :: bm : List Value).contains b) := by
  obtain ⟨cd, e, m, _⟩ := O.cd
  unfold mroIn
  rw [e]
  show (if cd.mro.isEmpty = true then none else some (cd.mro.contains b)) = _
  rw [m] <;> rfl
theorem One.ty (O : One K mg cn C bm) : typeIn K (.ref C) = some (.type "type") := by
  obtain ⟨nm, q, N, bs, sn, sub, ab, col, dd, k0, k1, k2, k3, k5, e⟩ := O.l
  show (K.lookup C).map (·.cls) = _
  rw [e] <;> rfl
theorem One.exC (O : One K mg cn C bm) (c : Com P K mg ME) (h1 : bm.contains (.type "BaseException") = true) (h2 : bm.contains (.type "object") = true) : L2.ExC K C := by
  obtain ⟨cd, e, m, _⟩ := O.cd
  refine ⟨by rw [e] <;> rfl, O.ga, O.gg, ?_, O.ha, c.hn, c.ht, ?_⟩
  · show mroIn K C (.type "BaseException") = _
    rw [O.mro, List.contains_cons, h1]
    simp
  · rw [O.mro, List.contains_cons, h2]
    simp
theorem contains_ne {x c : Addr} {l : List Value} (h : x ≠ c) : ((.ref c :: l : List Value).contains (.ref x)) = l.contains (.ref x) := by
  rw [List.contains_cons]
  have e : ((Value.ref x) == (.ref c)) = false := by
    apply Bool.eq_false_iff.mpr
    intro z
    have := eq_of_beq z
    cases this
    exact h rfl
  rw [e, Bool.false_or]
theorem kit_own (O : One K mg cn C bm) {cn' : Str} {D : Addr} {bm' : List Value} (O' : One K mg cn' D bm') :
    kitOne K (.ref C) (.ref D) = some (decide (C = D) || bm.contains (.ref D)) := by
  unfold kitOne
  by_cases e : C = D
  · subst e
    rw [if_pos (by simp)]
    simp
  · rw [if_neg (fun z => e (by have := eq_of_beq z; cases this; rfl))]
    unfold kitCls
    have hd : ((clsIn K D).isSome && typeIn K (.ref D) == some (.type "type")) = true := by
      obtain ⟨cd, q, _⟩ := O'.cd
      rw [q, O'.ty]
      rfl
    try dsimp only
    rw [if_pos hd]
    show mroIn K C (.ref D) = _
    rw [O.mro, contains_ne (Ne.symm e)]
    simp [e]
theorem kit_VE (O : One K mg cn C bm) (h : bm.contains (.type "ValueError") = true) : kitOne K (.ref C) (.type "ValueError") = some true := by
  unfold kitOne
  rw [if_neg (fun z => by have := eq_of_beq z; cases this)]
  unfold kitCls
  dsimp only
  rw [if_pos (by decide +kernel)]
  show mroIn K C (.type "ValueError") = _
  rw [O.mro, List.contains_cons, h]
  simp
theorem ext_mk (c : Com P K mg ME) (O : One K mg cn C (veT ME))
    (sa : findIn K (.ref C) "__setattr__" = some (some (.builtin "object.__setattr__"))) (nb : findIn K (.ref C) fld = some none) (iC : findIn K (.ref C) "__init__" = some (some (.ref fI))) (kC : keepIn K (.ref C) = true)
    (l1 : K.lookup fI = some ⟨.type "function", od, .func (ksFn "__init__" qual (iA fld p1 p2 p3) (iB fld q) (iS fld) (.ref da) .none doc pm an (.ref cda) ct cc), osl⟩) (c1 : codeIn K (.ref cda) qual = true)
    (l2 : K.lookup cda = some ⟨ccl, cdd, .fields vs, ccs⟩) (v2 : vs[2]? = some (.str file tf)) (hf : ((P.main.file : Str) == file) = true)
    (l3 : K.lookup cc = some ⟨cl, cld, .cell (some (.ref C)), csl⟩) (l4 : K.lookup da = some ⟨dcl, ddi, .seq #[.none] dn, dsl⟩)
    (tx : TextOk fld q) (bd : BindOk fld (ksFn "__init__" qual (iA fld p1 p2 p3) (iB fld q) (iS fld) (.ref da) .none doc pm an (.ref cda) ct cc) da)
    (nc : (fld == ("__debug__" : Str)) = false ∧ ¬ (fld = ("self" : Str)) ∧ ¬ (fld = ("__class__" : Str)) ∧ ¬ (fld = ("super" : Str))) : ExT P K mg cn fld C fI where
  gC := O.g
  cls := by
    obtain ⟨nm, q, N, bs, sn, sub, ab, col, dd, k0, k1, k2, k3, k5, e⟩ := O.l
    exact ⟨nm, q, N, bs, _, sn, sub, ab, col, dd, k0, k1, k2, k3, k5, e, rfl, c.al⟩
  sa := sa
  ga := O.ga
  gg := O.gg
  noN := nb
  iC := iC
  tC := by
    show (K.lookup fI).map (·.cls) = _
    rw [l1] <;> rfl
  kC := kC
  exC := by
    show mroIn K C (.type "BaseException") = _
    rw [O.mro]
    rfl
  exV := by
    show mroIn K C (.type "ValueError") = _
    rw [O.mro]
    rfl
  exO := by
    rw [O.mro]
    rw [List.contains_cons]
    simp
  tyC := O.ty
  hdC := by
    obtain ⟨cd, e, m, d⟩ := O.cd
    unfold hasDictIn
    rw [e]
    exact d
  opq := c.opq
  noS := c.noS
  fn := ⟨_, od, qual, .ref da, doc, pm, an, cda, cc, ct, osl, p1, p2, p3, q, ccl, cdd, vs, ccs, file, tf, cl, cld, csl, dcl, ddi, dn, dsl, da, l1, c1, l2, v2, hf, l3, tx, bd, rfl, l4⟩
  nclash := nc
/-- the 23 classes with a field, one by one -/
inductive AllE (P : Program) (K : Frag) (mg : Str → Option Value) (ME : Addr) : Nat → List Addr → List Addr → Prop
  | nil {i : Nat} : AllE P K mg ME i [] []
  | cons {i : Nat} {C fI : Addr} {cs is : List Addr} : ExT P K mg (K0.cn i) (fl i) C fI ∧ One K mg (K0.cn i) C (veT ME) → AllE P K mg ME (i + 1) cs is → AllE P K mg ME i (C :: cs) (fI :: is)
theorem AllE.at : ∀ {i : Nat} {cs is : List Addr}, AllE P K mg ME i cs is → ∀ j, j < cs.length → ∃ C fI, cs[j]? = some C ∧ is[j]? = some fI ∧ ExT P K mg (K0.cn (i + j)) (fl (i + j)) C fI ∧ One K mg (K0.cn (i + j)) C (veT ME)
  | _, _, _, .nil => fun j h => absurd h (Nat.not_lt_zero _)
  | _, _, _, .cons e r => fun j h => by
    cases j with
    | zero => exact ⟨_, _, rfl, rfl, e⟩
    | succ j =>
      obtain ⟨C, fI, a, b, c, d⟩ := r.at j (Nat.lt_of_succ_lt_succ h)
      rw [Nat.add_assoc, Nat.add_comm 1 j] at c d
      exact ⟨C, fI, a, b, c, d⟩
abbrev veT0 : List Value := [.type "ValueError", .type "Exception", .type "BaseException", .type "object"]
theorem tx_mk {cs is : List Addr} {NU : Addr} (c : Com P K mg ME) (A : AllE P K mg ME 0 cs is) (hl : cs.length = 23) (oN : One K mg "NothingToUndo" NU (veT ME)) (oM : One K mg "MillError" ME veT0) (nd : (cs ++ [NU, ME]).Nodup) (nVE : mg "ValueError" = none) :
    TX P K mg (fun i => (cs ++ [NU, ME]).getD i 0) (fun i => is.getD i 0) := by
  have hll : (cs ++ [NU, ME]).length = 25 := by simp [hl]
  have cE : ∀ i, i < 23 → ∃ C fI, (cs ++ [NU, ME])[i]? = some C ∧ is[i]? = some fI ∧ ExT P K mg (K0.cn i) (fl i) C fI ∧ One K mg (K0.cn i) C (veT ME) := by
    intro i hi
    obtain ⟨C, fI, a, b, c, d⟩ := A.at i (by omega)
    rw [Nat.zero_add] at c d
    refine ⟨C, fI, ?_, b, c, d⟩
    rw [List.getElem?_append_left (by omega)]
    exact a
  have c23 : (cs ++ [NU, ME])[23]? = some NU := by
    rw [List.getElem?_append_right (by omega), hl] <;> rfl
  have c24 : (cs ++ [NU, ME])[24]? = some ME := by
    rw [List.getElem?_append_right (by omega), hl] <;> rfl
  have cO : ∀ i, i < 25 → ∃ C, (cs ++ [NU, ME])[i]? = some C ∧ ∃ bm, One K mg (K0.cn i) C bm ∧ ((i < 24 ∧ bm = veT ME) ∨ (i = 24 ∧ bm = veT0)) := by
    intro i hi
    by_cases h : i < 23
    · obtain ⟨C, fI, a, b, c, d⟩ := cE i h
      exact ⟨C, a, _, d, .inl ⟨by omega, rfl⟩⟩
    · by_cases h2 : i = 23
      · subst h2
        exact ⟨_, c23, _, oN, .inl ⟨by omega, rfl⟩⟩
      · obtain rfl : i = 24 := by omega
        exact ⟨_, c24, _, oM, .inr ⟨rfl, rfl⟩⟩
  have gD : ∀ {i : Nat} {C : Addr}, (cs ++ [NU, ME])[i]? = some C → (cs ++ [NU, ME]).getD i 0 = C := by
    intro i C e
    rw [List.getD_eq_getElem?_getD, e]
    rfl
  refine ⟨fun i hi => ?_, fun i hi => ?_, fun i hi => ?_, fun i hi j hj => ?_, fun i hi => ?_, nVE⟩
  · obtain ⟨C, fI, a, b, e, d⟩ := cE i hi
    try dsimp only
    rw [gD a, show is.getD i 0 = fI by rw [List.getD_eq_getElem?_getD, b]; rfl]
    exact e
  · obtain ⟨C, a, bm, o, _⟩ := cO i hi
    try dsimp only
    rw [gD a]
    exact o.g
  · obtain ⟨C, a, bm, o, hb⟩ := cO i hi
    try dsimp only
    rw [gD a]
    rcases hb with ⟨_, rfl⟩ | ⟨_, rfl⟩
    · exact o.exC c rfl rfl
    · exact o.exC c rfl rfl
  · obtain ⟨C, a, bm, o, hb⟩ := cO i hi
    obtain ⟨D, a', bm', o', _⟩ := cO j hj
    try dsimp only
    rw [gD a, gD a', kit_own o o']
    have inj : ∀ {i j : Nat} {x y : Addr}, i < 25 → j < 25 → (cs ++ [NU, ME])[i]? = some x → (cs ++ [NU, ME])[j]? = some y → (x = y ↔ i = j) := by
      intro i j x y hi hj ei ej
      constructor
      · intro e
        subst e
        exact (List.getElem?_inj (by omega) nd).mp (ei.trans ej.symm)
      · intro e
        subst e
        rw [ei] at ej
        exact Option.some.inj ej
    have e1 : decide (C = D) = (i == j) := by
      rw [decide_eq_decide.mpr (inj hi hj a a')] <;> rfl
    rw [e1]
    rcases hb with ⟨hi2, rfl⟩ | ⟨hi2, rfl⟩
    · have e2 : (veT ME).contains (.ref D) = (j == 24) := by
        have := inj hj (by decide : 24 < 25) a' c24
        by_cases h : j = 24
        · rw [this.mpr h, h] <;> simp
        · rw [show veT ME = .ref ME :: veT0 from rfl, contains_ne (fun z => h (this.mp z))]
          have : (j == 24) = false := by simpa using h
          rw [this]
          simp
      rw [e2]
    · subst hi2
      have e2 : veT0.contains (.ref D) = false := by simp
      rw [e2]
      by_cases h : j = 24
      · subst h
        rfl
      · have h1 : (24 == j) = false := by simpa using fun z => h z.symm
        have h2 : (j == 24) = false := by simpa using h
        rw [h1, h2]
  · obtain ⟨C, a, bm, o, hb⟩ := cO i hi
    try dsimp only
    rw [gD a]
    rcases hb with ⟨_, rfl⟩ | ⟨_, rfl⟩
    · exact kit_VE o rfl
    · exact kit_VE o rfl
end
end K0

set_option Elab.async false
set_option linter.all false
set_option maxRecDepth 100000
set_option maxHeartbeats 4000000
namespace K0
open PySem PySem.Spec PyProof.Rows L2
structure DefIn (K : PySem.W.Frag) (nm : Str) (st : Stmt) : Prop where
  ex : ∃ f fd, PySem.W.nsIn K mainGlobals nm = some (some (.ref f)) ∧ Fun K nm nm st f fd
theorem def_in {K : PySem.W.Frag} {nm : Str} {st : Stmt} {f : Addr} {oc : Value} {od an : Option Addr} {osl : Array (Option Value)} {kV doc pm cdv ct : Value} (a : PySem.W.nsIn K mainGlobals nm = some (some (.ref f)))
    (l : K.lookup f = some ⟨oc, od, .func (PySem.W.fnOf nm nm (defArgs st) (defBody st) (defScope st) .none kV doc pm an cdv ct), osl⟩)
    (c : PySem.W.codeIn K cdv nm = true) (k : PySem.W.keepIn K (.ref f) = true) : DefIn K nm st := ⟨_, _, a, fun_mk (st := st) l c k⟩
section
variable {P : Program} {w : World} {K : PySem.W.Frag} {h : Heap} {mg : Str → Option Value} {fa : Addr} {cs is : List Addr} {ME NU : Addr}
theorem all_mk (X : K.In h) (G : h.Ns mainGlobals mg) (hfa : mg "law" = some (.ref fa)) (ht : (P.main.scope.names.lookup ("super" : Str)).isSome = false)
    (z1 : PySem.W.nsIn K mainGlobals "int" = some none) (z2 : PySem.W.nsIn K mainGlobals "range" = some none) (z3 : PySem.W.nsIn K mainGlobals "len" = some none) (z4 : PySem.W.nsIn K mainGlobals "sum" = some none)
    (z5 : PySem.W.nsIn K mainGlobals "max" = some none) (z6 : PySem.W.nsIn K mainGlobals "isinstance" = some none) (z7 : PySem.W.nsIn K mainGlobals "repr" = some none) (z8 : PySem.W.nsIn K mainGlobals "list" = some none) (z9 : PySem.W.nsIn K mainGlobals "dict" = some none)
    (zV : PySem.W.nsIn K mainGlobals "ValueError" = some none)
    (c : Com P K mg ME) (A : AllE P K mg ME 0 cs is) (hl : cs.length = 23) (oN : One K mg "NothingToUndo" NU (veT ME)) (oM : One K mg "MillError" ME veT0) (nd : (cs ++ [NU, ME]).Nodup)
    (qN : PySem.W.excIn K NU veT0 "ValueError.__new__" = true) (qM : PySem.W.excIn K ME veT0 "ValueError.__new__" = true) (kN : PySem.W.keepIn K (.ref NU) = true) (kM : PySem.W.keepIn K (.ref ME) = true)
    (d1 : DefIn K "_law_hash" sHash) (d2 : DefIn K "_law_random" sRandom) (d3 : DefIn K "_law_cell" sCell) (d4 : DefIn K "_law_generator" sGen) (d5 : DefIn K "_law_kinds" sKinds) (d6 : DefIn K "_law_plain" sPlain)
    (d7 : DefIn K "_law_named" sNamed) (d8 : DefIn K "_law_bare" sBare) (d9 : DefIn K "_law_fields" sFields) (d10 : DefIn K "_law_right" sRight) (d11 : DefIn K "law" sLaw) :
    ∃ fd : FuncData, (∀ (s : Shared) (v : Value), BindsTo s fd ⟨[v], []⟩ [("script", v)]) ∧ ∀ base : Heap, K.In base → base.Ns mainGlobals mg → FnOkG P w K mg base CX0 3 fa fd ["script"] (spLaw K) := by
  obtain ⟨f1, fd1, a1, F1⟩ := d1
  obtain ⟨f2, fd2, a2, F2⟩ := d2
  obtain ⟨f3, fd3, a3, F3⟩ := d3
  obtain ⟨f4, fd4, a4, F4⟩ := d4
  obtain ⟨f5, fd5, a5, F5⟩ := d5
  obtain ⟨f6, fd6, a6, F6⟩ := d6
  obtain ⟨f7, fd7, a7, F7⟩ := d7
  obtain ⟨f8, fd8, a8, F8⟩ := d8
  obtain ⟨f9, fd9, a9, F9⟩ := d9
  obtain ⟨f10, fd10, a10, F10⟩ := d10
  obtain ⟨f11, fd11, a11, F11⟩ := d11
  have e := hfa.symm.trans (PySem.W.mg_of X G a11)
  cases e
  have nn : ∀ {n : Str}, PySem.W.nsIn K mainGlobals n = some none → mg n = none := fun e => PySem.W.mg_none_of X G e
  have B : Bl mg := ⟨nn z1, nn z2, nn z3, nn z4, nn z5, nn z6, nn z7, nn z8, nn z9⟩
  have T := tx_mk c A hl oN oM nd (nn zV)
  have b1 := F1.binds (ps := ["seed", "index"]) fun _ _ _ _ _ _ us hl => match us, hl with | [_, _], _ => rfl
  have b2 := F2.binds (ps := ["generator", "bound"]) fun _ _ _ _ _ _ us hl => match us, hl with | [_, _], _ => rfl
  have b3 := F3.binds (ps := ["script", "index"]) fun _ _ _ _ _ _ us hl => match us, hl with | [_, _], _ => rfl
  have b4 := F4.binds (ps := ["script", "index"]) fun _ _ _ _ _ _ us hl => match us, hl with | [_, _], _ => rfl
  have b5 := F5.binds (ps := ["error"]) fun _ _ _ _ _ _ us hl => match us, hl with | [_], _ => rfl
  have b6 := F6.binds (ps := ["given"]) fun _ _ _ _ _ _ us hl => match us, hl with | [_], _ => rfl
  have b7 := F7.binds (ps := ["given"]) fun _ _ _ _ _ _ us hl => match us, hl with | [_], _ => rfl
  have b8 := F8.binds (ps := []) fun _ _ _ _ _ _ us hl => match us, hl with | [], _ => rfl
  have b9 := F9.binds (ps := ["errors"]) fun _ _ _ _ _ _ us hl => match us, hl with | [_], _ => rfl
  have b10 := F10.binds (ps := ["errors", "given"]) fun _ _ _ _ _ _ us hl => match us, hl with | [_, _], _ => rfl
  have hll : ∀ (i : Nat) (x : Addr), (cs ++ [NU, ME])[i]? = some x → (cs ++ [NU, ME]).getD i 0 = x := by
    intro i C e
    rw [List.getD_eq_getElem?_getD, e]
    rfl
  have c23 : (cs ++ [NU, ME]).getD 23 0 = NU := hll _ _ (by rw [List.getElem?_append_right (by omega), hl] <;> rfl)
  have c24 : (cs ++ [NU, ME]).getD 24 0 = ME := hll _ _ (by rw [List.getElem?_append_right (by omega), hl] <;> rfl)
  have T2 : TX2 K mg (fun i => (cs ++ [NU, ME]).getD i 0) := by
    refine ⟨⟨veT0, PySem.F.excBase_ValueError, ?_⟩, ⟨veT0, PySem.F.excBase_ValueError, ?_⟩, ?_, ?_⟩
    · try dsimp only
      rw [c23]
      exact qN
    · try dsimp only
      rw [c24]
      exact qM
    · try dsimp only
      rw [c23]
      exact kN
    · try dsimp only
      rw [c24]
      exact kM
  refine ⟨fd11, fun s v => ?_, fun base _ _ => ?_⟩
  · obtain ⟨⟨oc, od, kV, doc, pm, an, cdv, ct, osl, rfl, lk, hcd⟩, _⟩ := F11
    exact .of_eq rfl
  · exact ok_law F11 B T T2
      { gen := ⟨f4, fd4, PySem.W.mg_of X G a4, F4.kp, b4, ok_gen F4 B F3 b3 (PySem.W.mg_of X G a3)⟩
        rnd := ⟨f2, fd2, PySem.W.mg_of X G a2, F2.kp, b2, ok_random F2 B F1 b1 (PySem.W.mg_of X G a1)⟩
        kin := ⟨f5, fd5, PySem.W.mg_of X G a5, F5.kp, b5, ok_kinds F5 B T⟩
        pln := ⟨f6, fd6, PySem.W.mg_of X G a6, F6.kp, b6, ok_plain F6 T ht⟩
        nam := ⟨f7, fd7, PySem.W.mg_of X G a7, F7.kp, b7, ok_named F7 T ht⟩
        bar := ⟨f8, fd8, PySem.W.mg_of X G a8, F8.kp, b8, ok_bare F8 T ht⟩
        rgt := ⟨f10, fd10, PySem.W.mg_of X G a10, F10.kp, b10, ok_right F10 B T F5 b5 (PySem.W.mg_of X G a5) F9 b9 (PySem.W.mg_of X G a9)⟩ }
end
theorem walk {l : PySem.W.OpenLaw} {q : Program} {loose : List Str} {XP : (Str → Option Value) → Heap → Prop} {YP : World → Heap → Prop} {d : DefRec} {K : Params → PySem.W.Frag} (hn : l.most = some 63) (hdf : d.params.defaults = [])
    (hY : ∀ (w : World) (h : Heap), YP w h → (K w.params).In h)
    (F : ∀ (w : World) (mg : Str → Option Value) (fa : Addr) (h : Heap), (K w.params).In h → h.Ns mainGlobals mg → mg d.name = some (.ref fa) →
      ∃ fd : FuncData, (∀ (s : Shared) (u : Value), BindsTo s fd ⟨[u], []⟩ [("script", u)]) ∧ ∀ base : Heap, (K w.params).In base → base.Ns mainGlobals mg → FnOkG l.prog w (K w.params) mg base CX0 3 fa fd ["script"] (spLaw (K w.params))) :
    PySem.W.WalkO q loose XP YP l.row.toRowW d [] (fun f vs => PySem.call f vs) :=
  L2.walk_ofG (n := 63) (k := 3) (x := "script") (CX := fun _ => CX0) (sp := fun w => spLaw (K w.params)) hn (by decide) hdf ⟨rfl, by decide, by decide⟩ hY F (fun _ _ a ns hl _ hS => ⟨a, ns, rfl, hS, hl, fun _ => rfl⟩) fun _ _ _ _ _ z => z
end K0
namespace K0
open PySem PySem.Spec PyProof.Rows PySem.Xn PySem.W
section
variable {P : Program} {K : Frag} {h : Heap} {mg : Str → Option Value} {cn fld qual file : Str} {C ME fI cda cc da N : Addr} {nm q0 : Str} {bs bm : List Value} {sn : List Str} {sub : List Value} {ab : Bool} {col : Option Bool}
  {dd od an cdd cld ddi : Option Addr} {k0 k1 k2 k3 k5 : Option Value} {oc doc pm ct ccl cl dcl : Value} {osl ccs csl dsl : Array (Option Value)} {p1 p2 p3 : Pos} {q : Nat → Pos} {vs : Array Value} {tf : Tok} {dn : Nat} {code : Value}
theorem one_mk (X : K.In h) (G : h.Ns mainGlobals mg) (a : nsIn K mainGlobals cn = some (some (.ref C)))
    (l : K.lookup C = some (excClassObj nm q0 C N bs bm true sn sub ab col dd k0 k1 k2 k3 k5 "ValueError.__new__"))
    (ga : findIn K (.ref C) "__getattribute__" = some (some (.builtin "BaseException.__getattribute__"))) (gg : findIn K (.ref C) "__getattr__" = some none) (ha : findIn K (.ref C) "__class__" = some (some (.builtin "object.__class__"))) : One K mg cn C bm :=
  ⟨mg_of X G a, ⟨_, _, _, _, _, _, _, _, _, _, _, _, _, _, l⟩, ga, gg, ha⟩
theorem ext_one (X : K.In h) (G : h.Ns mainGlobals mg) (c : Com P K mg ME) (a : nsIn K mainGlobals cn = some (some (.ref C)))
    (l : K.lookup C = some (excClassObj nm q0 C N bs (veT ME) true sn sub ab col dd k0 k1 k2 k3 k5 "ValueError.__new__"))
    (ga : findIn K (.ref C) "__getattribute__" = some (some (.builtin "BaseException.__getattribute__"))) (gg : findIn K (.ref C) "__getattr__" = some none) (ha : findIn K (.ref C) "__class__" = some (some (.builtin "object.__class__")))
    (sa : findIn K (.ref C) "__setattr__" = some (some (.builtin "object.__setattr__"))) (nb : findIn K (.ref C) fld = some none) (iC : findIn K (.ref C) "__init__" = some (some (.ref fI))) (kC : keepIn K (.ref C) = true)
    (l1 : K.lookup fI = some ⟨.type "function", od, .func (ksFn "__init__" qual (iA fld p1 p2 p3) (iB fld q) (iS fld) (.ref da) .none doc pm an (.ref cda) ct cc), osl⟩) (c1 : codeIn K (.ref cda) qual = true)
    (l2 : K.lookup cda = some ⟨ccl, cdd, .fields vs, ccs⟩) (v2 : vs[2]? = some (.str file tf)) (hf : ((P.main.file : Str) == file) = true)
    (l3 : K.lookup cc = some ⟨cl, cld, .cell (some (.ref C)), csl⟩) (l4 : K.lookup da = some ⟨dcl, ddi, .seq #[.none] dn, dsl⟩)
    (tx : TextOk fld q) (bd : BindOk fld (ksFn "__init__" qual (iA fld p1 p2 p3) (iB fld q) (iS fld) (.ref da) .none doc pm an (.ref cda) ct cc) da)
    (nc : (fld == ("__debug__" : Str)) = false ∧ ¬ (fld = ("self" : Str)) ∧ ¬ (fld = ("__class__" : Str)) ∧ ¬ (fld = ("super" : Str))) : ExT P K mg cn fld C fI ∧ One K mg cn C (veT ME) :=
  have O := one_mk X G a l ga gg ha
  ⟨ext_mk c O sa nb iC kC l1 c1 l2 v2 hf l3 l4 tx bd nc, O⟩
end
end K0

set_option Elab.async false
set_option linter.all false
open PySem PySem.W PyProof.Rows
set_option maxRecDepth 100000 in
set_option maxHeartbeats 0 in
theorem PySem.Challenge.cw_wholemills_k00_errors_holds : PySem.Challenge.rw_wholemills_k00_errors.Holds := by
  w_on; o_law; k_head; (case hw => w_witness2)
  k_fill
  refine K0.walk (l := PySem.Challenge.rw_wholemills_k00_errors) rfl rfl (fun w h Y => PySem.W.kIn_of Y) ?F
  case F =>
    intro w mg fa h KX G hmg
    refine' K0.all_mk KX G hmg ?ht ?z1 ?z2 ?z3 ?z4 ?z5 ?z6 ?z7 ?z8 ?z9 ?zV ?com (.cons ?e0 (.cons ?e1 (.cons ?e2 (.cons ?e3 (.cons ?e4 (.cons ?e5 (.cons ?e6 (.cons ?e7 (.cons ?e8 (.cons ?e9 (.cons ?e10 (.cons ?e11 (.cons ?e12 (.cons ?e13 (.cons ?e14 (.cons ?e15 (.cons ?e16 (.cons ?e17 (.cons ?e18 (.cons ?e19 (.cons ?e20 (.cons ?e21 (.cons ?e22 .nil))))))))))))))))))))))) rfl ?oN ?oM ?nd ?qN ?qM ?kN ?kM ?d1 ?d2 ?d3 ?d4 ?d5 ?d6 ?d7 ?d8 ?d9 ?d10 ?d11
    (case ht => kernel_rfl)
    (case z1 => k_is)
    (case z2 => k_is)
    (case z3 => k_is)
    (case z4 => k_is)
    (case z5 => k_is)
    (case z6 => k_is)
    (case z7 => k_is)
    (case z8 => k_is)
    (case z9 => k_is)
    (case zV => k_is)
    (case oM => refine' K0.one_mk (cn := "MillError") KX G ?a ?l ?ga ?gg ?ha; (case a => k_is); (case l => k_is); (case ga => k_is); (case gg => k_is); (case ha => k_is))
    (case com => refine' K0.Com.mk ?al ?opq (PySem.W.mg_none_of KX G ?noS) ?hn ?ht2; (case al => kernel_rfl); (case opq => k_is); (case noS => k_is); (case hn => k_is); (case ht2 => k_is))
    (case oN => refine' K0.one_mk (cn := "NothingToUndo") KX G ?a ?l ?ga ?gg ?ha; (case a => k_is); (case l => k_is); (case ga => k_is); (case gg => k_is); (case ha => k_is))
    (case e0 =>
      refine' K0.ext_one (cn := "InvalidList") (fld := "value") (p1 := K0.pp 0 0) (p2 := K0.pp 0 1) (p3 := K0.pp 0 2) (q := K0.qq 0) KX G ?com ?a ?l ?ga ?gg ?ha ?sa ?nb ?iC ?kC ?l1 ?c1 ?l2 ?v2 ?hf ?l3 ?l4 K0.tx0 K0.bd_value ⟨by decide, by decide, by decide, by decide⟩
      (case com => refine' K0.Com.mk ?al ?opq (PySem.W.mg_none_of KX G ?noS) ?hn ?ht2; (case al => kernel_rfl); (case opq => k_is); (case noS => k_is); (case hn => k_is); (case ht2 => k_is))
      (case a => k_is); (case l => k_is); (case ga => k_is); (case gg => k_is); (case ha => k_is); (case sa => k_is); (case nb => k_is); (case iC => k_is); (case kC => k_is)
      (case l1 => k_is); (case c1 => k_is); (case l2 => k_is); (case v2 => rfl); (case hf => kernel_rfl); (case l3 => k_is); (case l4 => k_is))
    (case e1 =>
      refine' K0.ext_one (cn := "InvalidItem") (fld := "value") (p1 := K0.pp 1 0) (p2 := K0.pp 1 1) (p3 := K0.pp 1 2) (q := K0.qq 1) KX G ?com ?a ?l ?ga ?gg ?ha ?sa ?nb ?iC ?kC ?l1 ?c1 ?l2 ?v2 ?hf ?l3 ?l4 K0.tx1 K0.bd_value ⟨by decide, by decide, by decide, by decide⟩
      (case com => refine' K0.Com.mk ?al ?opq (PySem.W.mg_none_of KX G ?noS) ?hn ?ht2; (case al => kernel_rfl); (case opq => k_is); (case noS => k_is); (case hn => k_is); (case ht2 => k_is))
      (case a => k_is); (case l => k_is); (case ga => k_is); (case gg => k_is); (case ha => k_is); (case sa => k_is); (case nb => k_is); (case iC => k_is); (case kC => k_is)
      (case l1 => k_is); (case c1 => k_is); (case l2 => k_is); (case v2 => rfl); (case hf => kernel_rfl); (case l3 => k_is); (case l4 => k_is))
    (case e2 =>
      refine' K0.ext_one (cn := "InvalidNumber") (fld := "value") (p1 := K0.pp 2 0) (p2 := K0.pp 2 1) (p3 := K0.pp 2 2) (q := K0.qq 2) KX G ?com ?a ?l ?ga ?gg ?ha ?sa ?nb ?iC ?kC ?l1 ?c1 ?l2 ?v2 ?hf ?l3 ?l4 K0.tx2 K0.bd_value ⟨by decide, by decide, by decide, by decide⟩
      (case com => refine' K0.Com.mk ?al ?opq (PySem.W.mg_none_of KX G ?noS) ?hn ?ht2; (case al => kernel_rfl); (case opq => k_is); (case noS => k_is); (case hn => k_is); (case ht2 => k_is))
      (case a => k_is); (case l => k_is); (case ga => k_is); (case gg => k_is); (case ha => k_is); (case sa => k_is); (case nb => k_is); (case iC => k_is); (case kC => k_is)
      (case l1 => k_is); (case c1 => k_is); (case l2 => k_is); (case v2 => rfl); (case hf => kernel_rfl); (case l3 => k_is); (case l4 => k_is))
    (case e3 =>
      refine' K0.ext_one (cn := "InvalidMill") (fld := "value") (p1 := K0.pp 3 0) (p2 := K0.pp 3 1) (p3 := K0.pp 3 2) (q := K0.qq 3) KX G ?com ?a ?l ?ga ?gg ?ha ?sa ?nb ?iC ?kC ?l1 ?c1 ?l2 ?v2 ?hf ?l3 ?l4 K0.tx3 K0.bd_value ⟨by decide, by decide, by decide, by decide⟩
      (case com => refine' K0.Com.mk ?al ?opq (PySem.W.mg_none_of KX G ?noS) ?hn ?ht2; (case al => kernel_rfl); (case opq => k_is); (case noS => k_is); (case hn => k_is); (case ht2 => k_is))
      (case a => k_is); (case l => k_is); (case ga => k_is); (case gg => k_is); (case ha => k_is); (case sa => k_is); (case nb => k_is); (case iC => k_is); (case kC => k_is)
      (case l1 => k_is); (case c1 => k_is); (case l2 => k_is); (case v2 => rfl); (case hf => kernel_rfl); (case l3 => k_is); (case l4 => k_is))
    (case e4 =>
      refine' K0.ext_one (cn := "InvalidHoldings") (fld := "value") (p1 := K0.pp 4 0) (p2 := K0.pp 4 1) (p3 := K0.pp 4 2) (q := K0.qq 4) KX G ?com ?a ?l ?ga ?gg ?ha ?sa ?nb ?iC ?kC ?l1 ?c1 ?l2 ?v2 ?hf ?l3 ?l4 K0.tx4 K0.bd_value ⟨by decide, by decide, by decide, by decide⟩
      (case com => refine' K0.Com.mk ?al ?opq (PySem.W.mg_none_of KX G ?noS) ?hn ?ht2; (case al => kernel_rfl); (case opq => k_is); (case noS => k_is); (case hn => k_is); (case ht2 => k_is))
      (case a => k_is); (case l => k_is); (case ga => k_is); (case gg => k_is); (case ha => k_is); (case sa => k_is); (case nb => k_is); (case iC => k_is); (case kC => k_is)
      (case l1 => k_is); (case c1 => k_is); (case l2 => k_is); (case v2 => rfl); (case hf => kernel_rfl); (case l3 => k_is); (case l4 => k_is))
    (case e5 =>
      refine' K0.ext_one (cn := "InvalidRow") (fld := "value") (p1 := K0.pp 5 0) (p2 := K0.pp 5 1) (p3 := K0.pp 5 2) (q := K0.qq 5) KX G ?com ?a ?l ?ga ?gg ?ha ?sa ?nb ?iC ?kC ?l1 ?c1 ?l2 ?v2 ?hf ?l3 ?l4 K0.tx5 K0.bd_value ⟨by decide, by decide, by decide, by decide⟩
      (case com => refine' K0.Com.mk ?al ?opq (PySem.W.mg_none_of KX G ?noS) ?hn ?ht2; (case al => kernel_rfl); (case opq => k_is); (case noS => k_is); (case hn => k_is); (case ht2 => k_is))
      (case a => k_is); (case l => k_is); (case ga => k_is); (case gg => k_is); (case ha => k_is); (case sa => k_is); (case nb => k_is); (case iC => k_is); (case kC => k_is)
      (case l1 => k_is); (case c1 => k_is); (case l2 => k_is); (case v2 => rfl); (case hf => kernel_rfl); (case l3 => k_is); (case l4 => k_is))
    (case e6 =>
      refine' K0.ext_one (cn := "InvalidBox") (fld := "value") (p1 := K0.pp 6 0) (p2 := K0.pp 6 1) (p3 := K0.pp 6 2) (q := K0.qq 6) KX G ?com ?a ?l ?ga ?gg ?ha ?sa ?nb ?iC ?kC ?l1 ?c1 ?l2 ?v2 ?hf ?l3 ?l4 K0.tx6 K0.bd_value ⟨by decide, by decide, by decide, by decide⟩
      (case com => refine' K0.Com.mk ?al ?opq (PySem.W.mg_none_of KX G ?noS) ?hn ?ht2; (case al => kernel_rfl); (case opq => k_is); (case noS => k_is); (case hn => k_is); (case ht2 => k_is))
      (case a => k_is); (case l => k_is); (case ga => k_is); (case gg => k_is); (case ha => k_is); (case sa => k_is); (case nb => k_is); (case iC => k_is); (case kC => k_is)
      (case l1 => k_is); (case c1 => k_is); (case l2 => k_is); (case v2 => rfl); (case hf => kernel_rfl); (case l3 => k_is); (case l4 => k_is))
    (case e7 =>
      refine' K0.ext_one (cn := "InvalidChain") (fld := "value") (p1 := K0.pp 7 0) (p2 := K0.pp 7 1) (p3 := K0.pp 7 2) (q := K0.qq 7) KX G ?com ?a ?l ?ga ?gg ?ha ?sa ?nb ?iC ?kC ?l1 ?c1 ?l2 ?v2 ?hf ?l3 ?l4 K0.tx7 K0.bd_value ⟨by decide, by decide, by decide, by decide⟩
      (case com => refine' K0.Com.mk ?al ?opq (PySem.W.mg_none_of KX G ?noS) ?hn ?ht2; (case al => kernel_rfl); (case opq => k_is); (case noS => k_is); (case hn => k_is); (case ht2 => k_is))
      (case a => k_is); (case l => k_is); (case ga => k_is); (case gg => k_is); (case ha => k_is); (case sa => k_is); (case nb => k_is); (case iC => k_is); (case kC => k_is)
      (case l1 => k_is); (case c1 => k_is); (case l2 => k_is); (case v2 => rfl); (case hf => kernel_rfl); (case l3 => k_is); (case l4 => k_is))
    (case e8 =>
      refine' K0.ext_one (cn := "InvalidBrew") (fld := "value") (p1 := K0.pp 8 0) (p2 := K0.pp 8 1) (p3 := K0.pp 8 2) (q := K0.qq 8) KX G ?com ?a ?l ?ga ?gg ?ha ?sa ?nb ?iC ?kC ?l1 ?c1 ?l2 ?v2 ?hf ?l3 ?l4 K0.tx8 K0.bd_value ⟨by decide, by decide, by decide, by decide⟩
      (case com => refine' K0.Com.mk ?al ?opq (PySem.W.mg_none_of KX G ?noS) ?hn ?ht2; (case al => kernel_rfl); (case opq => k_is); (case noS => k_is); (case hn => k_is); (case ht2 => k_is))
      (case a => k_is); (case l => k_is); (case ga => k_is); (case gg => k_is); (case ha => k_is); (case sa => k_is); (case nb => k_is); (case iC => k_is); (case kC => k_is)
      (case l1 => k_is); (case c1 => k_is); (case l2 => k_is); (case v2 => rfl); (case hf => kernel_rfl); (case l3 => k_is); (case l4 => k_is))
    (case e9 =>
      refine' K0.ext_one (cn := "InvalidBands") (fld := "value") (p1 := K0.pp 9 0) (p2 := K0.pp 9 1) (p3 := K0.pp 9 2) (q := K0.qq 9) KX G ?com ?a ?l ?ga ?gg ?ha ?sa ?nb ?iC ?kC ?l1 ?c1 ?l2 ?v2 ?hf ?l3 ?l4 K0.tx9 K0.bd_value ⟨by decide, by decide, by decide, by decide⟩
      (case com => refine' K0.Com.mk ?al ?opq (PySem.W.mg_none_of KX G ?noS) ?hn ?ht2; (case al => kernel_rfl); (case opq => k_is); (case noS => k_is); (case hn => k_is); (case ht2 => k_is))
      (case a => k_is); (case l => k_is); (case ga => k_is); (case gg => k_is); (case ha => k_is); (case sa => k_is); (case nb => k_is); (case iC => k_is); (case kC => k_is)
      (case l1 => k_is); (case c1 => k_is); (case l2 => k_is); (case v2 => rfl); (case hf => kernel_rfl); (case l3 => k_is); (case l4 => k_is))
    (case e10 =>
      refine' K0.ext_one (cn := "InvalidEntries") (fld := "value") (p1 := K0.pp 10 0) (p2 := K0.pp 10 1) (p3 := K0.pp 10 2) (q := K0.qq 10) KX G ?com ?a ?l ?ga ?gg ?ha ?sa ?nb ?iC ?kC ?l1 ?c1 ?l2 ?v2 ?hf ?l3 ?l4 K0.tx10 K0.bd_value ⟨by decide, by decide, by decide, by decide⟩
      (case com => refine' K0.Com.mk ?al ?opq (PySem.W.mg_none_of KX G ?noS) ?hn ?ht2; (case al => kernel_rfl); (case opq => k_is); (case noS => k_is); (case hn => k_is); (case ht2 => k_is))
      (case a => k_is); (case l => k_is); (case ga => k_is); (case gg => k_is); (case ha => k_is); (case sa => k_is); (case nb => k_is); (case iC => k_is); (case kC => k_is)
      (case l1 => k_is); (case c1 => k_is); (case l2 => k_is); (case v2 => rfl); (case hf => kernel_rfl); (case l3 => k_is); (case l4 => k_is))
    (case e11 =>
      refine' K0.ext_one (cn := "InvalidBook") (fld := "value") (p1 := K0.pp 11 0) (p2 := K0.pp 11 1) (p3 := K0.pp 11 2) (q := K0.qq 11) KX G ?com ?a ?l ?ga ?gg ?ha ?sa ?nb ?iC ?kC ?l1 ?c1 ?l2 ?v2 ?hf ?l3 ?l4 K0.tx11 K0.bd_value ⟨by decide, by decide, by decide, by decide⟩
      (case com => refine' K0.Com.mk ?al ?opq (PySem.W.mg_none_of KX G ?noS) ?hn ?ht2; (case al => kernel_rfl); (case opq => k_is); (case noS => k_is); (case hn => k_is); (case ht2 => k_is))
      (case a => k_is); (case l => k_is); (case ga => k_is); (case gg => k_is); (case ha => k_is); (case sa => k_is); (case nb => k_is); (case iC => k_is); (case kC => k_is)
      (case l1 => k_is); (case c1 => k_is); (case l2 => k_is); (case v2 => rfl); (case hf => kernel_rfl); (case l3 => k_is); (case l4 => k_is))
    (case e12 =>
      refine' K0.ext_one (cn := "UnlikeBooks") (fld := "value") (p1 := K0.pp 12 0) (p2 := K0.pp 12 1) (p3 := K0.pp 12 2) (q := K0.qq 12) KX G ?com ?a ?l ?ga ?gg ?ha ?sa ?nb ?iC ?kC ?l1 ?c1 ?l2 ?v2 ?hf ?l3 ?l4 K0.tx12 K0.bd_value ⟨by decide, by decide, by decide, by decide⟩
      (case com => refine' K0.Com.mk ?al ?opq (PySem.W.mg_none_of KX G ?noS) ?hn ?ht2; (case al => kernel_rfl); (case opq => k_is); (case noS => k_is); (case hn => k_is); (case ht2 => k_is))
      (case a => k_is); (case l => k_is); (case ga => k_is); (case gg => k_is); (case ha => k_is); (case sa => k_is); (case nb => k_is); (case iC => k_is); (case kC => k_is)
      (case l1 => k_is); (case c1 => k_is); (case l2 => k_is); (case v2 => rfl); (case hf => kernel_rfl); (case l3 => k_is); (case l4 => k_is))
    (case e13 =>
      refine' K0.ext_one (cn := "InvalidText") (fld := "value") (p1 := K0.pp 13 0) (p2 := K0.pp 13 1) (p3 := K0.pp 13 2) (q := K0.qq 13) KX G ?com ?a ?l ?ga ?gg ?ha ?sa ?nb ?iC ?kC ?l1 ?c1 ?l2 ?v2 ?hf ?l3 ?l4 K0.tx13 K0.bd_value ⟨by decide, by decide, by decide, by decide⟩
      (case com => refine' K0.Com.mk ?al ?opq (PySem.W.mg_none_of KX G ?noS) ?hn ?ht2; (case al => kernel_rfl); (case opq => k_is); (case noS => k_is); (case hn => k_is); (case ht2 => k_is))
      (case a => k_is); (case l => k_is); (case ga => k_is); (case gg => k_is); (case ha => k_is); (case sa => k_is); (case nb => k_is); (case iC => k_is); (case kC => k_is)
      (case l1 => k_is); (case c1 => k_is); (case l2 => k_is); (case v2 => rfl); (case hf => kernel_rfl); (case l3 => k_is); (case l4 => k_is))
    (case e14 =>
      refine' K0.ext_one (cn := "InvalidLot") (fld := "value") (p1 := K0.pp 14 0) (p2 := K0.pp 14 1) (p3 := K0.pp 14 2) (q := K0.qq 14) KX G ?com ?a ?l ?ga ?gg ?ha ?sa ?nb ?iC ?kC ?l1 ?c1 ?l2 ?v2 ?hf ?l3 ?l4 K0.tx14 K0.bd_value ⟨by decide, by decide, by decide, by decide⟩
      (case com => refine' K0.Com.mk ?al ?opq (PySem.W.mg_none_of KX G ?noS) ?hn ?ht2; (case al => kernel_rfl); (case opq => k_is); (case noS => k_is); (case hn => k_is); (case ht2 => k_is))
      (case a => k_is); (case l => k_is); (case ga => k_is); (case gg => k_is); (case ha => k_is); (case sa => k_is); (case nb => k_is); (case iC => k_is); (case kC => k_is)
      (case l1 => k_is); (case c1 => k_is); (case l2 => k_is); (case v2 => rfl); (case hf => kernel_rfl); (case l3 => k_is); (case l4 => k_is))
    (case e15 =>
      refine' K0.ext_one (cn := "InvalidPrices") (fld := "value") (p1 := K0.pp 15 0) (p2 := K0.pp 15 1) (p3 := K0.pp 15 2) (q := K0.qq 15) KX G ?com ?a ?l ?ga ?gg ?ha ?sa ?nb ?iC ?kC ?l1 ?c1 ?l2 ?v2 ?hf ?l3 ?l4 K0.tx15 K0.bd_value ⟨by decide, by decide, by decide, by decide⟩
      (case com => refine' K0.Com.mk ?al ?opq (PySem.W.mg_none_of KX G ?noS) ?hn ?ht2; (case al => kernel_rfl); (case opq => k_is); (case noS => k_is); (case hn => k_is); (case ht2 => k_is))
      (case a => k_is); (case l => k_is); (case ga => k_is); (case gg => k_is); (case ha => k_is); (case sa => k_is); (case nb => k_is); (case iC => k_is); (case kC => k_is)
      (case l1 => k_is); (case c1 => k_is); (case l2 => k_is); (case v2 => rfl); (case hf => kernel_rfl); (case l3 => k_is); (case l4 => k_is))
    (case e16 =>
      refine' K0.ext_one (cn := "InvalidClaim") (fld := "value") (p1 := K0.pp 16 0) (p2 := K0.pp 16 1) (p3 := K0.pp 16 2) (q := K0.qq 16) KX G ?com ?a ?l ?ga ?gg ?ha ?sa ?nb ?iC ?kC ?l1 ?c1 ?l2 ?v2 ?hf ?l3 ?l4 K0.tx16 K0.bd_value ⟨by decide, by decide, by decide, by decide⟩
      (case com => refine' K0.Com.mk ?al ?opq (PySem.W.mg_none_of KX G ?noS) ?hn ?ht2; (case al => kernel_rfl); (case opq => k_is); (case noS => k_is); (case hn => k_is); (case ht2 => k_is))
      (case a => k_is); (case l => k_is); (case ga => k_is); (case gg => k_is); (case ha => k_is); (case sa => k_is); (case nb => k_is); (case iC => k_is); (case kC => k_is)
      (case l1 => k_is); (case c1 => k_is); (case l2 => k_is); (case v2 => rfl); (case hf => kernel_rfl); (case l3 => k_is); (case l4 => k_is))
    (case e17 =>
      refine' K0.ext_one (cn := "InvalidName") (fld := "name") (p1 := K0.pp 17 0) (p2 := K0.pp 17 1) (p3 := K0.pp 17 2) (q := K0.qq 17) KX G ?com ?a ?l ?ga ?gg ?ha ?sa ?nb ?iC ?kC ?l1 ?c1 ?l2 ?v2 ?hf ?l3 ?l4 K0.tx17 K0.bd_name ⟨by decide, by decide, by decide, by decide⟩
      (case com => refine' K0.Com.mk ?al ?opq (PySem.W.mg_none_of KX G ?noS) ?hn ?ht2; (case al => kernel_rfl); (case opq => k_is); (case noS => k_is); (case hn => k_is); (case ht2 => k_is))
      (case a => k_is); (case l => k_is); (case ga => k_is); (case gg => k_is); (case ha => k_is); (case sa => k_is); (case nb => k_is); (case iC => k_is); (case kC => k_is)
      (case l1 => k_is); (case c1 => k_is); (case l2 => k_is); (case v2 => rfl); (case hf => kernel_rfl); (case l3 => k_is); (case l4 => k_is))
    (case e18 =>
      refine' K0.ext_one (cn := "TakenName") (fld := "name") (p1 := K0.pp 18 0) (p2 := K0.pp 18 1) (p3 := K0.pp 18 2) (q := K0.qq 18) KX G ?com ?a ?l ?ga ?gg ?ha ?sa ?nb ?iC ?kC ?l1 ?c1 ?l2 ?v2 ?hf ?l3 ?l4 K0.tx18 K0.bd_name ⟨by decide, by decide, by decide, by decide⟩
      (case com => refine' K0.Com.mk ?al ?opq (PySem.W.mg_none_of KX G ?noS) ?hn ?ht2; (case al => kernel_rfl); (case opq => k_is); (case noS => k_is); (case hn => k_is); (case ht2 => k_is))
      (case a => k_is); (case l => k_is); (case ga => k_is); (case gg => k_is); (case ha => k_is); (case sa => k_is); (case nb => k_is); (case iC => k_is); (case kC => k_is)
      (case l1 => k_is); (case c1 => k_is); (case l2 => k_is); (case v2 => rfl); (case hf => kernel_rfl); (case l3 => k_is); (case l4 => k_is))
    (case e19 =>
      refine' K0.ext_one (cn := "UnknownName") (fld := "name") (p1 := K0.pp 19 0) (p2 := K0.pp 19 1) (p3 := K0.pp 19 2) (q := K0.qq 19) KX G ?com ?a ?l ?ga ?gg ?ha ?sa ?nb ?iC ?kC ?l1 ?c1 ?l2 ?v2 ?hf ?l3 ?l4 K0.tx19 K0.bd_name ⟨by decide, by decide, by decide, by decide⟩
      (case com => refine' K0.Com.mk ?al ?opq (PySem.W.mg_none_of KX G ?noS) ?hn ?ht2; (case al => kernel_rfl); (case opq => k_is); (case noS => k_is); (case hn => k_is); (case ht2 => k_is))
      (case a => k_is); (case l => k_is); (case ga => k_is); (case gg => k_is); (case ha => k_is); (case sa => k_is); (case nb => k_is); (case iC => k_is); (case kC => k_is)
      (case l1 => k_is); (case c1 => k_is); (case l2 => k_is); (case v2 => rfl); (case hf => kernel_rfl); (case l3 => k_is); (case l4 => k_is))
    (case e20 =>
      refine' K0.ext_one (cn := "Lacking") (fld := "name") (p1 := K0.pp 20 0) (p2 := K0.pp 20 1) (p3 := K0.pp 20 2) (q := K0.qq 20) KX G ?com ?a ?l ?ga ?gg ?ha ?sa ?nb ?iC ?kC ?l1 ?c1 ?l2 ?v2 ?hf ?l3 ?l4 K0.tx20 K0.bd_name ⟨by decide, by decide, by decide, by decide⟩
      (case com => refine' K0.Com.mk ?al ?opq (PySem.W.mg_none_of KX G ?noS) ?hn ?ht2; (case al => kernel_rfl); (case opq => k_is); (case noS => k_is); (case hn => k_is); (case ht2 => k_is))
      (case a => k_is); (case l => k_is); (case ga => k_is); (case gg => k_is); (case ha => k_is); (case sa => k_is); (case nb => k_is); (case iC => k_is); (case kC => k_is)
      (case l1 => k_is); (case c1 => k_is); (case l2 => k_is); (case v2 => rfl); (case hf => kernel_rfl); (case l3 => k_is); (case l4 => k_is))
    (case e21 =>
      refine' K0.ext_one (cn := "UnknownBooking") (fld := "number") (p1 := K0.pp 21 0) (p2 := K0.pp 21 1) (p3 := K0.pp 21 2) (q := K0.qq 21) KX G ?com ?a ?l ?ga ?gg ?ha ?sa ?nb ?iC ?kC ?l1 ?c1 ?l2 ?v2 ?hf ?l3 ?l4 K0.tx21 K0.bd_number ⟨by decide, by decide, by decide, by decide⟩
      (case com => refine' K0.Com.mk ?al ?opq (PySem.W.mg_none_of KX G ?noS) ?hn ?ht2; (case al => kernel_rfl); (case opq => k_is); (case noS => k_is); (case hn => k_is); (case ht2 => k_is))
      (case a => k_is); (case l => k_is); (case ga => k_is); (case gg => k_is); (case ha => k_is); (case sa => k_is); (case nb => k_is); (case iC => k_is); (case kC => k_is)
      (case l1 => k_is); (case c1 => k_is); (case l2 => k_is); (case v2 => rfl); (case hf => kernel_rfl); (case l3 => k_is); (case l4 => k_is))
    (case e22 =>
      refine' K0.ext_one (cn := "UnknownClaim") (fld := "number") (p1 := K0.pp 22 0) (p2 := K0.pp 22 1) (p3 := K0.pp 22 2) (q := K0.qq 22) KX G ?com ?a ?l ?ga ?gg ?ha ?sa ?nb ?iC ?kC ?l1 ?c1 ?l2 ?v2 ?hf ?l3 ?l4 K0.tx22 K0.bd_number ⟨by decide, by decide, by decide, by decide⟩
      (case com => refine' K0.Com.mk ?al ?opq (PySem.W.mg_none_of KX G ?noS) ?hn ?ht2; (case al => kernel_rfl); (case opq => k_is); (case noS => k_is); (case hn => k_is); (case ht2 => k_is))
      (case a => k_is); (case l => k_is); (case ga => k_is); (case gg => k_is); (case ha => k_is); (case sa => k_is); (case nb => k_is); (case iC => k_is); (case kC => k_is)
      (case l1 => k_is); (case c1 => k_is); (case l2 => k_is); (case v2 => rfl); (case hf => kernel_rfl); (case l3 => k_is); (case l4 => k_is))
    (case nd => decide); (case qN => kernel_rfl); (case qM => kernel_rfl); (case kN => k_is); (case kM => k_is)
    (case d1 => refine' K0.def_in ?a ?l ?c ?k; (case a => k_is); (case l => k_is); (case c => k_is); (case k => k_is))
    (case d2 => refine' K0.def_in ?a ?l ?c ?k; (case a => k_is); (case l => k_is); (case c => k_is); (case k => k_is))
    (case d3 => refine' K0.def_in ?a ?l ?c ?k; (case a => k_is); (case l => k_is); (case c => k_is); (case k => k_is))
    (case d4 => refine' K0.def_in ?a ?l ?c ?k; (case a => k_is); (case l => k_is); (case c => k_is); (case k => k_is))
    (case d5 => refine' K0.def_in ?a ?l ?c ?k; (case a => k_is); (case l => k_is); (case c => k_is); (case k => k_is))
    (case d6 => refine' K0.def_in ?a ?l ?c ?k; (case a => k_is); (case l => k_is); (case c => k_is); (case k => k_is))
    (case d7 => refine' K0.def_in ?a ?l ?c ?k; (case a => k_is); (case l => k_is); (case c => k_is); (case k => k_is))
    (case d8 => refine' K0.def_in ?a ?l ?c ?k; (case a => k_is); (case l => k_is); (case c => k_is); (case k => k_is))
    (case d9 => refine' K0.def_in ?a ?l ?c ?k; (case a => k_is); (case l => k_is); (case c => k_is); (case k => k_is))
    (case d10 => refine' K0.def_in ?a ?l ?c ?k; (case a => k_is); (case l => k_is); (case c => k_is); (case k => k_is))
    (case d11 => refine' K0.def_in ?a ?l ?c ?k; (case a => k_is); (case l => k_is); (case c => k_is); (case k => k_is))
#print axioms PySem.Challenge.cw_wholemills_k00_errors_holds

