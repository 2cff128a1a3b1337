import PyProof.Rows.All
import Wide.All
import OpenK.AllK
import Wide.FinOn
import HandS.ForMost
import HandS.ForExc
import HandS.ExcField
import KE.KExcSuper
import KE.KOpsOwn
import PyProof.ListMulRight
import HandS.IsInst
import HandS.Wide
import HandS.Codes
import KE.KSuper
import HandS.ExcInit
import HandS.Nested
import KE.KExcIs
import HandS.ExcValue
import HandS.Lambda
import HandS.EndTab
import HandS.Zip
import HandS.Comp
import PySem.Challenge.RW_stoppoints_k30_errors_told
import HandS.Walk
import HandS.Iter
import HandS.Ends
set_option Elab.async false
set_option linter.all false
set_option maxRecDepth 100000
set_option maxHeartbeats 0
/-! Own errors over StopError(ValueError): one field, set by an __init__ that says super().__init__('..') first. -/
namespace PySem
namespace ErrX
open PySem.W PySem.Calls PyProof.Rows PySem.HandSPX
abbrev iB (f msg : Str) (q0 q1 q2 q3 q4 q5 q6 q7 q8 q9 : Pos) (j : Nat) : List Stmt :=
  [.Expr (.Call (.Attribute (.Call (.Name "super" q0) [] [] q1) "__init__" q2) [.Constant (.str msg) j q3] [] q4) q5,
   .Assign [.Attribute (.Name "self" q6) f q7] (.Name f q8) q9]
abbrev iS (f : Str) : Scope := { kind := .function, names := [(PySem.Str.ofString "self", .local), (f, .local), (PySem.Str.ofString "__class__", .free), (PySem.Str.ofString "super", .globalImplicit)], isGenerator := false, isCoroutine := false, more := [] }
/-- what the written part says of the error's class at C, its __init__ at fI; f the field and the parameter -/
structure ErrTxt (prog : Program) (K : Frag) (mg : Str → Option Value) (x f : Str) (C fI : Addr) : Prop where
  gC : mg x = some (.ref C)
  cls : ∃ nm q N bs bm sn sub ab col dd k0 k1 k2 k3 k5, K.lookup C = some (excClassObj nm q C N bs bm true sn sub ab col dd k0 k1 k2 k3 k5 "ValueError.__new__") ∧ refsVE bm = true
  sa : findIn K (.ref C) "__setattr__" = some (some (.builtin "object.__setattr__"))
  noN : findIn K (.ref C) f = some none
  iC : findIn K (.ref C) "__init__" = some (some (.ref fI))
  tC : typeIn K (.ref fI) = some (.type "function")
  kC : keepIn K (.ref C) = true
  exC : subIn K (.ref C) (.type "BaseException") = some true
  veC : subIn K (.ref C) (.type "ValueError") = some true
  selfC : mroIn K C (.ref C) = some true
  tyC : typeIn K (.ref C) = some (.type "type")
  hdC : hasDictIn K C = true
  te : exmOne K (.ref C) (.ref C) = some true
  ga : findIn K (.ref C) "__getattribute__" = some (some (.builtin "BaseException.__getattribute__"))
  gg : findIn K (.ref C) "__getattr__" = some none
  sup : ks_superIn K C C "__init__" = some (some (.builtin "ValueError.__init__"))
  opq : nsIn K cStatics "thirdparty.any" = some none
  mS : mg "super" = none
  top : (prog.main.scope.names.lookup ("super" : Str)).isSome = false
  fn : ∃ (q : Str) (oc : Value) (od : Option Addr) (params : Arguments) (doc pm : Value) (an : Option Addr) (cda cc : Addr) (ct : Value) (osl : Array (Option Value)) (msg : Str) (q0 q1 q2 q3 q4 q5 q6 q7 q8 q9 : Pos) (j : Nat) (ar : Arg)
      (ccl cl : Value) (cdd cld : Option Addr) (ccs csl : Array (Option Value)) (vs : Array Value) (file : Str) (tf : Tok),
    K.lookup fI = some ⟨oc, od, .func (ksFn "__init__" q params (iB f msg q0 q1 q2 q3 q4 q5 q6 q7 q8 q9 j) (iS f) .none .none doc pm an (.ref cda) ct cc), osl⟩ ∧ codeIn K (.ref cda) q = true ∧
    (∀ (s : Shared) (u v : Value), BindsTo s (ksFn "__init__" q params (iB f msg q0 q1 q2 q3 q4 q5 q6 q7 q8 q9 j) (iS f) .none .none doc pm an (.ref cda) ct cc) ⟨[u, v], []⟩ [("self", u), (f, v)]) ∧
    (params.posonlyargs ++ params.args).head? = some ar ∧ ar.arg = "self" ∧
    K.lookup cda = some ⟨ccl, cdd, .fields vs, ccs⟩ ∧ vs[2]? = some (.str file tf) ∧ ((prog.main.file : Str) == file) = true ∧
    K.lookup cc = some ⟨cl, cld, .cell (some (.ref C)), csl⟩ ∧
    (iS f).names.lookup ("super" : Str) = some .globalImplicit ∧ (iS f).names.lookup ("__class__" : Str) = some .free ∧ (iS f).names.lookup ("self" : Str) = some .local ∧ (iS f).names.lookup f = some .local ∧ (f == ("__debug__" : Str)) = false ∧ (f == ("self" : Str)) = false ∧ (q2.endLine == q4.line) = true
theorem meth_eq {o : Expr} {name : Str} {apos pos : Pos} {args : List Expr} {env : Env} (h : (apos.endLine == pos.line) = true) (hm : methodCallForm args.length (backTo pos (starEach args env)) [] = true) :
    eval (.Call (.Attribute o name apos) args [] pos) env = (do
      let ov ← attributeBase o name env (eval o env)
      standAt apos.atName
      let (f, first) ← holding [ov] (getMethod ov name (do return (← importBound o env).getD true))
      callWith pos f first (backTo pos (starEach args env)) []) := by
  show (do
    let ov ← attributeBase o name env (eval o env)
    standAt apos.atName
    methodCall o name apos pos env ov (args.length + 0) (backTo pos (starEach args env)) []) = _
  unfold methodCall calleeOf methodCallPos
  rw [Nat.add_zero, hm]
  simp only [h, Bool.or_true, if_true, pure_bind]
theorem one_size (v : Value) : [v].length ≤ sizeLine := by
  rw [sizeLine_eq]
  exact (by decide : 1 ≤ 16777216)
theorem boot_super : bootBuiltins "super" = some (.type "super") := by first | boot_by_name | rfl | kernel_rfl
/-- what __init__ leaves of a fresh exception at x -/
structure InitEnd (h h' : Heap) (x C dx : Addr) (f : Str) (v : Value) : Prop where
  keep : ∀ b o, b ≠ x → h.get? b = some o → h'.get? b = some o
  obj : ∃ t1, h'.get? x = some { cls := .ref C, dict := some dx, data := .fields #[.ref t1, .none, .none, .none, .bool false, .none] }
  dbig : h.objs.size ≤ dx
  dne : dx ≠ x
  ns : h'.Ns1 dx (fun y => if y = f then some v else none)
/-- a made error -/
structure OwnMade (h h' : Heap) (e C d : Addr) (f : Str) (v : Value) : Prop where
  keep : ∀ b o, h.get? b = some o → h'.get? b = some o
  new : h.objs.size ≤ e
  obj : ∃ t1, h'.get? e = some { cls := .ref C, dict := some d, data := .fields #[.ref t1, .none, .none, .none, .bool false, .none] }
  dbig : h.objs.size ≤ d
  dne : d ≠ e
  ns : h'.Ns1 d (fun y => if y = f then some v else none)
section
variable {prog : Program} {w : World} {A : Around} {E : Value → Shared → Prop}
/-- super().__init__(..), bound, called -/
theorem call_mw {h : Heap} {g : Array GenState} {d : Drawn} {t : Nat} {os : OsState} {nm q : Str} {C N : Addr} {bs bm : List Value} {hdct : Bool} {sn : List Str} {sub : List Value} {ab : Bool} {col : Option Bool} {dd : Option Addr} {k0 k1 k2 k3 k5 : Option Value} {u e t0 : Addr} {rest : List Value} {Q : Value → Shared → Prop}
    (hC : h.get? C = some (excClassObj nm q C N bs bm hdct sn sub ab col dd k0 k1 k2 k3 k5 "ValueError.__new__")) (he : h.get? e = some (excO C t0)) (hu : h.get? u = some (kxs_mw "ValueError.__init__" e)) (hrest : rest.length ≤ sizeLine)
    (hq : ∀ h' t1, (∀ b o, b ≠ e → h.get? b = some o → h'.get? b = some o) → h'.get? e = some (excO C t1) → Q .none ⟨h', g, d, t, os⟩) :
    wpAny (model prog w) A (call (.ref u) rest) Q E ⟨h, g, d, t, os⟩ := by
  refine wpAny_call (codeAny_of_tree ?_)
  show wpAny _ A.in1 (callAny (.ref u) ⟨rest, []⟩) _ _ _
  simp only [callAny]
  refine wpAny_bind (wpAny_load hu ?_)
  simp only [kxs_mw, show (Value.type "method-wrapper" == Value.type "method" || Value.type "method-wrapper" == Value.type "builtin_function_or_method" || Value.type "method-wrapper" == Value.type "method-wrapper") = true by decide, if_true]
  refine W.KFB.if_so (by decide) ?_
  refine wpAny_bind (check_bound_init F.excBase_ValueError.toExcCallFacts hC he rfl ?_)
  refine wpAny_bind (wpAny_pure (wpAny_pure ?_))
  refine ⟨Code.quiet_builtin _ (by decide +kernel), codeAny_builtin F.excBase_ValueError.initEntry ?_⟩
  rw [Around.under_plainId F.excBase_ValueError.init.plain _]
  wp_walk
  refine hq _ h.objs.size (fun b o hb ho => ?_) ?_
  · rw [Heap.get?_update_other _ _ (Ne.symm hb)]
    exact Heap.get?_push_of_some _ ho
  · rw [Heap.get?_update_self _ (Heap.get?_push_of_some _ he) rfl]
    rfl

theorem err_init {s : Shared} {K : Frag} {mg : Str → Option Value} {x' f : Str} {C fI : Addr} {R : Result → Shared → Prop} (T : ErrTxt prog K mg x' f C fI) {x t0 : Addr} {v : Value} (X : K.In s.heap) (hlim : s.heap.NoLimit)
    (hG : s.heap.Ns mainGlobals mg) (hB : ∃ mb, s.heap.Ns builtinsNs mb ∧ ∀ y : Str, y ≠ "__name__" → mb y = bootBuiltins y)
    (hx : s.heap.get? x = some (excO C t0)) (hnx : K.lookup x = none) (hroom : A.depth < recursionLimit)
    (hq : ∀ h' tk dx, InitEnd s.heap h' x C dx f v → R (.ok (.ret .none)) { s with heap := h', toks := tk }) :
    codeAny (model prog w) A (.call (.ref fI) ⟨[.ref x, v], []⟩) R s := by
  obtain ⟨q, oc, od, params, doc, pm, an, cda, cc, ct, osl, msg, q0, q1, q2, q3, q4, q5, q6, q7, q8, q9, j, ar, ccl, cl, cdd, cld, ccs, csl, vs, file, tf, ho, hcd, hbind, hp, har, hcode, hvs, hfile, hcell, hks, hkc, hkself, hkf, hfd, hfs, hln⟩ := T.fn
  obtain ⟨nm, qn, N, bs, bm, sn, sub, ab, col, dd, k0, k1, k2, k3, k5, hC, hbm⟩ := T.cls
  have hcl : clsIn K C = some { name := nm, bases := bs, mro := .ref C :: bm, ns := N, qualname := qn, hasDict := true, slotNames := sn, subclasses := sub, abstract := ab, collection := col, hasDel := false } := by unfold clsIn; rw [hC] <;> rfl
  have hk : (iS f).kind = .function := rfl
  have hnc : ∀ x ∈ (iS f).names, x.2 ≠ .cell := by
    intro y hy
    simp only [iS, List.mem_cons, List.not_mem_nil, or_false] at hy
    rcases hy with rfl | rfl | rfl | rfl <;> (intro z; cases z)
  have hloc : ∀ y ∈ [(("self" : Str), Value.ref x), (f, v)], (iS f).names.lookup y.1 = some .local := by
    intro y hy
    simp only [List.mem_cons, List.not_mem_nil, or_false] at hy
    rcases hy with rfl | rfl
    · exact hkself
    · exact hkf
  refine ks_codeAny_call_defAt (fd := ksFn "__init__" q params (iB f msg q0 q1 q2 q3 q4 q5 q6 q7 q8 q9 j) (iS f) .none .none doc pm an (.ref cda) ct cc) (body := iB f msg q0 q1 q2 q3 q4 q5 q6 q7 q8 q9 j)
    hroom (X _ _ ho) rfl hlim (codeRec_of X hcd) rfl (hbind _ _ _) hnc hloc (fun h₁ hns hk₁ => ?_) rfl rfl rfl
  have hxL : s.heap.objs.size ≠ x := Nat.ne_of_gt (Heap.lt_size hx)
  have X₁ : K.In h₁ := X.keeps hk₁
  have hx₁ := hk₁ _ _ hx
  have hself : (List.reverse [(("self" : Str), Value.ref x), (f, v)]).lookup ("self" : Str) = some (.ref x) := by
    have e : (("self" : Str) == f) = false := by
      rw [beq_eq_false_iff_ne] at hfs ⊢
      exact fun z => hfs z.symm
    simp [List.lookup, e]
  have hval : (List.reverse [(("self" : Str), Value.ref x), (f, v)]).lookup f = some v := by simp [List.lookup]
  obtain ⟨mb, hb1, hb2⟩ := hB
  have I : InstAt h₁ x (excO C t0) C none := ⟨hx₁, rfl, rfl, trivial⟩
  obtain ⟨hp0, g0, d0, tk0, os0⟩ := s
  refine ks_wpAt_execs_cons (ks_wpAt_Expr_any (ks_wpAt_MethodCall ?_ (meth_eq hln (by rfl))))
  show _root_.PySem.wpAt (model prog w) _ _ (attributeBase (.Call (.Name "super" q0) [] [] q1) "__init__" (ksEnv q (iS f) hp0.objs.size fI (.ref cda) cc) _) _ _ _
  have hD1 := X₁ _ _ hC
  refine ks_wpAt_super_base (env := ksEnv q (iS f) hp0.objs.size fI (.ref cda) cc) hks hkc (by decide) rfl (X₁ _ _ ho) rfl hp rfl (X₁ _ _ hcode) rfl hvs hfile T.top ?_
  refine ks_loadName_global hk hks (loadGlobal_builtin (env := ksEnv q (iS f) hp0.objs.size fI (.ref cda) cc) (hG.keeps hk₁) T.mS (hb1.keeps hk₁) ((hb2 _ (by decide +kernel)).trans boot_super) ⟨rfl, ?_⟩)
  refine wpAny_loadName_free hk hkc rfl ⟨_, X₁ _ _ hcell, rfl⟩ ?_
  rw [har]
  refine wpAny_loadName_local hk hkself hns hself ?_
  refine ks_wpAny_isType_cls hD1 rfl ⟨rfl, ?_⟩
  refine ks_wpAny_call_super hD1 rfl hx₁ rfl (fun c e => by cases e) (looks_mroIn X₁ T.selfC) (fun h₂ e₂ k₂ => ?_)
  -- the bound __init__
  have X₂ : K.In h₂ := X₁.keeps k₂
  have hx₂ := k₂ _ _ hx₁
  have hI : Looks (model prog w) h₂ (isInstance (.ref x) (.type "ValueError")) true := (show InstAt h₂ x (excO C t0) C none from ⟨hx₂, rfl, rfl, trivial⟩).type.andThen (looks_subIn X₂ T.veC)
  have hsup : alongIn K "__init__" (((Value.ref C :: bm).dropWhile (· != .ref C)).drop 1) = some (some (.builtin "ValueError.__init__")) := by
    have z := T.sup
    unfold ks_superIn at z
    rw [hcl] at z
    exact z
  refine kxs_getMethod kxs_ValueError e₂ (looks_opaque X₂ T.opq) (l₀ := .ref C :: bm) (fun A Q E s k q => wpAny_bind ((looks_clsIn X₂ hcl) A _ E s k (wpAny_pure q))) rfl X₂ hsup hI (ks_ne X₁ I hcl) (by decide) ?_
  have hu : (h₂.push (kxs_mw "ValueError.__init__" x)).get? h₂.objs.size = some (kxs_mw "ValueError.__init__" x) := Heap.get?_push_at rfl rfl
  have hxu : x ≠ h₂.objs.size := Nat.ne_of_lt (Heap.lt_size hx₂)
  have hx₃ : (h₂.push (kxs_mw "ValueError.__init__" x)).get? x = some (excO C t0) := Heap.get?_push_of_some _ hx₂
  have hC₃ := Heap.get?_push_of_some (kxs_mw "ValueError.__init__" x) (X₂ _ _ hC)
  refine kxs_callWith (i := "ValueError.__init__") (x := x) (by rfl) ?_
  show wpAny _ _ (evalArgs _ true ((false, eval (.Constant (.str msg) j q3) _) :: backTo q4 (starEach [] _)) []) _ _ _
  refine evalArgs_plain (Calls.spliced_cons (Calls.Constant_str (Calls.spliced_nil ⟨hu, ?_⟩)))
  refine call_mw hC₃ hx₃ hu (one_size _) (fun h₄ t1 k₄ hx₄ => ?_)
  have k4 : ∀ b o, b ≠ x → h₁.get? b = some o → h₄.get? b = some o := fun b o nb e => k₄ b o nb (Heap.get?_push_of_some _ (k₂ b o e))
  have X₄ : K.In h₄ := fun a o e => k4 a o (fun z => by rw [z, hnx] at e; cases e) (X₁ a o e)
  have hns4 : h₄.Ns hp0.objs.size (fun y => (List.reverse [(("self" : Str), Value.ref x), (f, v)]).lookup y) := by
    obtain ⟨o, es, ep, e1, r⟩ := hns
    exact ⟨o, es, ep, k4 _ _ hxL e1, r⟩
  refine ks_wpAt_execs_cons (ks_wpAt_Assign_Attr ?_)
  refine wpAt_of_wpAny (wpAny_Name (wpAny_loadName_local hk hkf hns4 hval ?_) hfd)
  refine wpAny_Name (wpAny_loadName_local hk hkself hns4 hself ?_) (by decide)
  refine set_plain X₄ (ox := excO C t1) (od := none) ⟨hx₄, rfl, rfl, trivial⟩ T.sa ?_
  refine exc_osa X₄ hx₄ hcl (show refsVE (.ref C :: bm) = true from hbm) rfl T.noN (fun h₅ tk₅ dx k₅ dn dne hx₅ hn₅ => ?_)
  refine wpAt_of_wpAny (wpAny_execs_nil ?_)
  exact hq h₅ tk₅ dx ⟨fun b o hb e => k₅ b o hb (k4 b o hb (hk₁ b o e)), ⟨_, hx₅⟩, Nat.le_of_lt (Nat.lt_of_lt_of_le hns4.lt dn), dne, hn₅⟩
theorem err_made {s : Shared} {K : Frag} {mg : Str → Option Value} {x' f : Str} {C fI : Addr} {R : Result → Shared → Prop} (T : ErrTxt prog K mg x' f C fI) {v : Value} (X : K.In s.heap) (hlim : s.heap.NoLimit)
    (hG : s.heap.Ns mainGlobals mg) (hB : ∃ mb, s.heap.Ns builtinsNs mb ∧ ∀ y : Str, y ≠ "__name__" → mb y = bootBuiltins y) (hroom : A.depth + 1 < recursionLimit)
    (hq : ∀ h' tk e d, OwnMade s.heap h' e C d f v → R (.ok (.ret (.ref e))) { s with heap := h', toks := tk }) :
    codeAny (model prog w) A (.call (.ref C) ⟨[v], []⟩) R s := by
  obtain ⟨nm, q, N, bs, bm, sn, sub, ab, col, dd, k0, k1, k2, k3, k5, hC, hbm⟩ := T.cls
  obtain ⟨hp, g, dr, tk, os⟩ := s
  have k : ∀ b o, hp.get? b = some o → ((hp.push (kdv_tup [v])).push (excO C hp.objs.size)).get? b = some o := fun b o e => Heap.get?_push_of_some _ (Heap.get?_push_of_some _ e)
  have hget : ((hp.push (kdv_tup [v])).push (excO C hp.objs.size)).get? (hp.objs.size + 1) = some (excO C hp.objs.size) := by heap_get
  have hnx : K.lookup (hp.objs.size + 1) = none := by
    cases e : K.lookup (hp.objs.size + 1) with
    | none => rfl
    | some o =>
      have z : hp.get? (hp.objs.size + 1) = some o := X _ _ e
      exact absurd (Nat.lt_of_succ_lt (Heap.lt_size z)) (Nat.lt_irrefl _)
  refine call_own F.excBase_ValueError (fun X => refsVE_contains X bm hbm) (X _ _ hC) (looks_findIn X T.iC) (fun self => bind_fn X self T.tC) (one_size v) ?_
  obtain ⟨mb, hb1, hb2⟩ := hB
  refine err_init (s := ⟨(hp.push (kdv_tup [v])).push (excO C hp.objs.size), g, dr, tk, os⟩) T (X.keeps k) (hlim.keeps k) (hG.keeps k) ⟨mb, hb1.keeps k, hb2⟩ hget hnx ?_ fun h' tk' dx ⟨k', hx, dn, dne, hns⟩ => ?_
  · show A.depth + 1 < recursionLimit
    exact hroom
  · have old : ∀ b o, hp.get? b = some o → h'.get? b = some o := fun b o e => k' b o (Nat.ne_of_lt (Nat.lt_succ_of_lt (Heap.lt_size e))) (k b o e)
    have z : hp.objs.size + 1 + 1 ≤ dx := by
      first
        | (simpa only [Heap.size_push] using dn)
        | exact dn
        | (have q := dn; rw [Heap.size_push, Heap.size_push] at q; exact q)
    exact ⟨rfl, hq h' tk' (hp.objs.size + 1) dx ⟨old, Nat.le_succ _, hx, Nat.le_trans (Nat.le_trans (Nat.le_succ _) (Nat.le_succ _)) z, dne, hns⟩⟩
end
end ErrX
end PySem
namespace PySem
namespace ErrX
open PySem.W PySem.Calls PyProof.Rows PySem.HandSPX
theorem exm_own {K : Frag} {S : Addr} (h1 : subIn K (.ref S) (.type "BaseException") = some true) (h2 : isClsIn K S = true) (h3 : typeIn K (.ref S) = some (.type "type")) (h4 : subIn K (.ref S) (.ref S) = some true) : exmOne K (.ref S) (.ref S) = some true := by
  have h2' : (clsIn K S).isSome = true := h2
  simp [exmOne, kitCls, h1, h2', h3, h4]
theorem errTxt_mk {prog : Program} {K : Frag} {mg : Str → Option Value} {h : Heap} {x f : Str} {C fI : Addr} {nm qn : Str} {N : Addr} {bs bm : List Value} {sn : List Str} {sub : List Value} {ab : Bool} {col : Option Bool} {dd : Option Addr} {k0 k1 k2 k3 k5 : Option Value}
    {q : Str} {oc : Value} {od : Option Addr} {params : Arguments} {doc pm : Value} {an : Option Addr} {cda cc : Addr} {ct : Value} {osl : Array (Option Value)} {msg : Str} {q0 q1 q2 q3 q4 q5 q6 q7 q8 q9 : Pos} {j : Nat} {ar : Arg}
    {ccl cl : Value} {cdd cld : Option Addr} {ccs csl : Array (Option Value)} {vs : Array Value} {file : Str} {tf : Tok} (X : K.In h) (G : h.Ns mainGlobals mg)
    (gC : nsIn K mainGlobals x = some (some (.ref C))) (cls : K.lookup C = some (excClassObj nm qn C N bs bm true sn sub ab col dd k0 k1 k2 k3 k5 "ValueError.__new__"))
    (sa : findIn K (.ref C) "__setattr__" = some (some (.builtin "object.__setattr__"))) (noN : findIn K (.ref C) f = some none) (iC : findIn K (.ref C) "__init__" = some (some (.ref fI))) (tC : typeIn K (.ref fI) = some (.type "function"))
    (kC : keepIn K (.ref C) = true) (exC : subIn K (.ref C) (.type "BaseException") = some true) (veC : subIn K (.ref C) (.type "ValueError") = some true) (selfC : mroIn K C (.ref C) = some true) (tyC : typeIn K (.ref C) = some (.type "type")) (hdC : hasDictIn K C = true)
    (isC : isClsIn K C = true) (ssC : subIn K (.ref C) (.ref C) = some true)
    (ga : findIn K (.ref C) "__getattribute__" = some (some (.builtin "BaseException.__getattribute__"))) (gg : findIn K (.ref C) "__getattr__" = some none)
    (sup : ks_superIn K C C "__init__" = some (some (.builtin "ValueError.__init__"))) (opq : nsIn K cStatics "thirdparty.any" = some none) (mS : nsIn K mainGlobals "super" = some none)
    (lk : K.lookup fI = some ⟨oc, od, .func (ksFn "__init__" q params (iB f msg q0 q1 q2 q3 q4 q5 q6 q7 q8 q9 j) (iS f) .none .none doc pm an (.ref cda) ct cc), osl⟩) (hcd : codeIn K (.ref cda) q = true)
    (lc : K.lookup cda = some ⟨ccl, cdd, .fields vs, ccs⟩) (lcc : K.lookup cc = some ⟨cl, cld, .cell (some (.ref C)), csl⟩)
    (hbm : refsVE bm = true) (top : (prog.main.scope.names.lookup ("super" : Str)).isSome = false)
    (hb : ∀ (s : Shared) (u v : Value), BindsTo s (ksFn "__init__" q params (iB f msg q0 q1 q2 q3 q4 q5 q6 q7 q8 q9 j) (iS f) .none .none doc pm an (.ref cda) ct cc) ⟨[u, v], []⟩ [("self", u), (f, v)])
    (hp : (params.posonlyargs ++ params.args).head? = some ar) (har : ar.arg = "self") (hvs : vs[2]? = some (.str file tf)) (hfile : ((prog.main.file : Str) == file) = true)
    (n1 : (iS f).names.lookup ("super" : Str) = some .globalImplicit) (n2 : (iS f).names.lookup ("__class__" : Str) = some .free) (n3 : (iS f).names.lookup ("self" : Str) = some .local) (n4 : (iS f).names.lookup f = some .local)
    (n5 : (f == ("__debug__" : Str)) = false) (n6 : (f == ("self" : Str)) = false) (n7 : (q2.endLine == q4.line) = true) : ErrTxt prog K mg x f C fI where
  gC := mg_of X G gC
  cls := ⟨_, _, _, _, _, _, _, _, _, _, _, _, _, _, _, cls, hbm⟩
  sa := sa
  noN := noN
  iC := iC
  tC := tC
  kC := kC
  exC := exC
  veC := veC
  selfC := selfC
  tyC := tyC
  hdC := hdC
  te := exm_own exC isC tyC ssC
  ga := ga
  gg := gg
  sup := sup
  opq := opq
  mS := mg_none_of X G mS
  top := top
  fn := ⟨_, _, _, _, _, _, _, _, _, _, _, _, _, _, _, _, _, _, _, _, _, _, _, _, _, _, _, _, _, _, _, _, _, lk, hcd, hb, hp, har, lc, hvs, hfile, lcc, n1, n2, n3, n4, n5, n6, n7⟩
end ErrX
end PySem
namespace L2
open PySem PySem.Spec PyProof.Rows
theorem relO_one {v : V} {v' : Value} {n : Str} (r : RelV v v') (f : Str) : RelO (List.lookup f [(n, v)]) (if f = n then some v' else none) := by
  by_cases hw : f = n
  · subst hw
    rw [if_pos rfl]
    have q : List.lookup f [(f, v)] = some v := by simp [List.lookup]
    rw [q]
    exact r
  · rw [if_neg hw]
    have qw : (f == n) = false := by simpa using hw
    have q2 : List.lookup f [(n, v)] = none := by simp [List.lookup, qw]
    rw [q2]
    trivial
section
variable {X : Cx} {x f : Str} {C fI : Addr}
/-- x(e), an own error with one field f -/
def tMkErr (C : Addr) (f : Str) (ta : TA) : St → Hp → XK → Prop := fun σ H Q => ta σ H fun vs H1 => ∃ v, vs = [v] ∧ ∀ d, H1 d = none → Q (.ref C) (some d) (upd H1 d (.xd [(f, v)]))
theorem pmk_err {a : Expr} {ta : TA} {p pos : Pos} {k : Nat} (T : PySem.ErrX.ErrTxt X.prog X.K X.mg x f C fI) (hr : Room k X.A) (ha : PA X [a] ta) (hg : Gl X x := by rfl) (hdb : (x == ("__debug__" : Str)) = false := by decide)
    (he : starEach (a :: []) X.env = (false, eval a X.env) :: starEach [] X.env := by rfl) (hpl : (backTo pos (starEach [] X.env)).any (·.1) = false := by rfl) :
    PMk X (.Call (.Name x p) [a] [] pos) (tMkErr C f ta) := by
  intro pins s σ H Q I h
  refine wpAny_Call_Name_kw (ld_glob I hg T.gC ?_ hdb)
  refine PySem.W.callWith_K (h₀ := X.base) I.ok.mod.kin T.kC (thn (ha.run pos pins s σ H _ I h) fun us s1 hh => ?_) he hpl
  obtain ⟨vs, H1, I1, r1, v, ev, q1⟩ := hh
  subst ev
  refine ⟨I1.kIn, ?_⟩
  cases r1 with
  | cons rv rn =>
    rename_i v' us'
    cases rn
    show wpAny _ _ (call (.ref C) [v']) _ _ _
    have hlim := I1.nolimit
    have hG := I1.mod.glob.keeps I1.bk
    obtain ⟨mb, hb1, hb2⟩ := I1.mod.blt
    have hB := hb1.keeps I1.bk
    obtain ⟨hp, g, dr, tk, os⟩ := s1
    refine wpAny_call (PySem.ErrX.err_made T I1.kIn hlim hG ⟨mb, hB, hb2⟩ (by have := hr.dp; omega) fun h' tk' e d M => ?_)
    show MkP X pins σ Q (.ref e) ⟨h', g, dr, tk', os⟩
    obtain ⟨t1, hoe⟩ := M.obj
    have hns := M.ns
    obtain ⟨G', g1, g2⟩ := restrict h' fun b => decide (b ≠ e)
    have gk : ∀ b, b ≠ e → G'.get? b = h'.get? b := fun b hb => g1 b (decide_eq_true hb)
    have ge : G'.get? e = none := g2 e (by simp)
    have old : ∀ b o, hp.get? b = some o → G'.get? b = some o := fun b o q => (gk b (Nat.ne_of_lt (Nat.lt_of_lt_of_le (Heap.lt_size q) M.new))).trans (M.keep b o q)
    have ob : ObjOk X.prog X.w (upd H1 d (.xd [(f, v)])) G' d (.xd [(f, v)]) :=
      ⟨_, hns.at (fun o q => (gk d M.dne).trans q), fun f => relO_one rv f⟩
    have J : Inv X pins σ (upd H1 d (.xd [(f, v)])) ⟨G', g, dr, tk', os⟩ := I1.laid (t' := tk') old M.dbig ob
    refine ⟨e, _, _, ⟨G', g, dr, tk', os⟩, _, .ref C, some d, rfl, J, fun b o q => ?_, ge, hoe, ⟨rfl, rfl⟩, rfl, rfl, ?_, rfl, I1.bare, raises_own T.exC T.tyC, q1 d (I1.hok.fresh M.dbig)⟩
    · by_cases hb : b = e
      · have q' : G'.get? b = some o := q
        rw [hb, ge] at q'; cases q'
      · exact (gk b hb).symm.trans q
    · rw [upd_ne (Ne.symm M.dne)]
      exact I1.hok.fresh M.new
/-- raise x(e) -/
def tRaiseErr (C : Addr) (f : Str) (W : WX) (ta : TA) : TS := fun _ σ H => tMkErr C f ta σ H fun cls d H' => W cls d σ H'
theorem ps_raiseErr {a : Expr} {ta : TA} {W : WX} {p pos pos2 : Pos} {k : Nat} (hc : X.calm = true) (T : PySem.ErrX.ErrTxt X.prog X.K X.mg x f C fI) (hr : Room k X.A) (tk : Takes X W) (ha : PA X [a] ta) (hg : Gl X x := by rfl) (hdb : (x == ("__debug__" : Str)) = false := by decide)
    (he : starEach (a :: []) X.env = (false, eval a X.env) :: starEach [] X.env := by rfl) (hpl : (backTo pos (starEach [] X.env)).any (·.1) = false := by rfl) :
    PS X (.Raise (some (.Call (.Name x p) [a] [] pos)) none pos2) (tRaiseErr C f W ta) := ps_raise hc tk (pmk_err T hr ha hg hdb he hpl)
end
end L2

/-! Operators of own classes over the hand layer: a op b by __op__, b op a by __rop__, comparisons. -/
namespace PySem.W
open PySem PySem.Calls PyProof.Rows Builtin
section
variable {prog : Program} {w : World} {A : Around} {E : Value → Shared → Prop} {s : Shared} {K : Frag} {x C L f g : Addr} {h₀ : Heap} {m : Str → Option Value} {ox : Obj} {od : Option Obj}
theorem sop_refl {op : Operator} {a : Value} {T : String} {left : Bool} {Q : Value → Shared → Prop} (F : Fr h₀ L s.heap m) (X₀ : K.In h₀) (I : InstAt s.heap x ox C od) (ha : typeOf a = pure (.type T)) (hc : selfFirst K C = true)
    (hsub : subIn K (.ref C) (.type T) = some false) (hfT : fillsNumberSlot (.type T) op.info.2 = pure left)
    (hdec : left = true → ∀ Q' : Option Value → Shared → Prop, Q' none s → wpAny (model prog w) A (tryMethod a (PySem.dunder op.info.2) (.ref x)) Q' E s)
    (hs : findIn K (.ref C) (PySem.dunder op.info.2) = some (some (.ref g))) (hr : findIn K (.ref C) (dunderR op.info.2) = some (some (.ref f))) (hf : isFn K (.ref f) = true)
    (h : wpAny (model prog w) A (call (.ref f) [.ref x, a]) (CmpBack Q) E s) : wpAny (model prog w) A (binaryOp op a (.ref x)) Q E s := by
  have X := X₀.keeps F.keep
  obtain ⟨cd, rest, hcd, hm⟩ := ksp_first hc
  rcases hi : op.info with ⟨sym, nm'⟩
  rw [hi] at hs hr hfT hdec
  dsimp only at hs hr hfT hdec
  have one := ksp_try X I hr hf h
  obtain ⟨hh, gg, d, tt, os⟩ := s
  have L1 : Looks (model prog w) hh (typeOf (.ref x)) (.ref C) := I.type
  have L2 : Looks (model prog w) hh (typeOf a) (.type T) := Looks.of_pure ha
  have L3 : Looks (model prog w) hh (fillsNumberSlot (.ref C) nm') true := fills_K X hcd hm hs
  have L4 : Looks (model prog w) hh (fillsNumberSlot (.type T) nm') left := Looks.of_pure hfT
  have L5 : Looks (model prog w) hh (isSubtype (.ref C) (.type T)) false := looks_subIn X hsub
  have L7 : Looks (model prog w) hh (numberSlotInPython (.type T) nm') false := Looks.of_pure rfl
  have hne : (Value.type T == Value.ref C) = false := Bool.eq_false_iff.mpr fun q => by cases beq_iff_eq.mp q
  simp only [binaryOp, hi]
  refine wpAny_holding (wpAny_bind ?_)
  unfold binaryOp1
  refine wpAny_bind (L2.at (wpAny_bind (L1.at (wpAny_bind (L4.at ?_)))))
  simp only [hne, Bool.false_eq_true, if_false]
  refine wpAny_bind (L3.at ?_)
  cases left with
  | false =>
    ksp_lk
    refine wpAny_mono one (fun r s' hr' => ?_) fun _ _ e => e
    obtain ⟨v, rfl, hq⟩ := hr'
    ksp_lk
    exact hq
  | true =>
    ksp_lk
    refine hdec rfl _ ?_
    ksp_lk
    refine wpAny_mono one (fun r s' hr' => ?_) fun _ _ e => e
    obtain ⟨v, rfl, hq⟩ := hr'
    ksp_lk
    exact hq
end
end PySem.W
namespace PySem
open Builtin
section
variable {prog : Program} {w : World} {A : Around} {E : Value → Shared → Prop} {s : Shared} {x C dx : Addr}
theorem sop_int_mul (a : Int) (t : Tok) (hx : s.heap.get? x = some (PySem.W.instObj C dx)) (Q : Option Value → Shared → Prop) (h : Q none s) : wpAny (model prog w) A (tryMethod (.int a t) (PySem.dunder "mul") (.ref x)) Q E s := by
  have hT : s.TypeIs (.int a t) "int" := typeIs_int s a t
  refine wpAny_tryMethod_declines (T := "int") (id := "int.__mul__") ?_ ?_ ?_
  exact hT
  exact F.slot_int_mul
  refine wpAny_call_entry (T := "int") (name := PySem.dunder "mul") (id := "int.__mul__") (b := Builtin.«int.__mul__») ?_ ?_ ?_ ?_ ?_
  exact F.slot_int_mul
  exact hT
  exact F.entry_int_mul
  rotate_left
  exact F.args_int_mul_2 _ _
  obtain ⟨hp, g, d, tk, os⟩ := s
  wp_walk
  exact ⟨_, rfl, rfl, h⟩
theorem sop_int_add (a : Int) (t : Tok) (hx : s.heap.get? x = some (PySem.W.instObj C dx)) (Q : Option Value → Shared → Prop) (h : Q none s) : wpAny (model prog w) A (tryMethod (.int a t) (PySem.dunder "add") (.ref x)) Q E s := by
  have hT : s.TypeIs (.int a t) "int" := typeIs_int s a t
  refine wpAny_tryMethod_declines (T := "int") (id := "int.__add__") ?_ ?_ ?_
  exact hT
  exact F.slot_int_add
  refine wpAny_call_entry (T := "int") (name := PySem.dunder "add") (id := "int.__add__") (b := Builtin.«int.__add__») ?_ ?_ ?_ ?_ ?_
  exact F.slot_int_add
  exact hT
  exact F.entry_int_add
  rotate_left
  exact F.args_int_add_2 _ _
  obtain ⟨hp, g, d, tk, os⟩ := s
  wp_walk
  exact ⟨_, rfl, rfl, h⟩
theorem sop_bool_mul (a : Bool) (hx : s.heap.get? x = some (PySem.W.instObj C dx)) (Q : Option Value → Shared → Prop) (h : Q none s) : wpAny (model prog w) A (tryMethod (.bool a) (PySem.dunder "mul") (.ref x)) Q E s := by
  have hT : s.TypeIs (.bool a) "bool" := rfl
  refine wpAny_tryMethod_declines (T := "bool") (id := "int.__mul__") ?_ ?_ ?_
  exact hT
  exact F.slot_bool_mul
  refine wpAny_call_entry (T := "bool") (name := PySem.dunder "mul") (id := "int.__mul__") (b := Builtin.«int.__mul__») ?_ ?_ ?_ ?_ ?_
  exact F.slot_bool_mul
  exact hT
  exact F.entry_int_mul
  rotate_left
  exact F.args_int_mul_2 _ _
  obtain ⟨hp, g, d, tk, os⟩ := s
  wp_walk
  exact ⟨_, rfl, rfl, h⟩
theorem sop_fills_none_mul : fillsNumberSlot (.type "NoneType") "mul" = pure false := by
  unfold fillsNumberSlot
  dsimp only
  rw [typeLookup_type, typeLookup_type, builtinLookup_eq_fast]
  kernel_rfl
end
end PySem
namespace PySem.W
open PySem PySem.Calls PyProof.Rows Builtin
theorem sop_ne_entry : entryFor table "object.__ne__" = some Builtin.«object.__ne__» := entryFor_of_tree (by kernel_rfl)
theorem sop_ne_kind : builtinKind "object.__ne__" = some .slot := by decide +kernel
theorem sop_ne_split : splitId "object.__ne__" = some ("object", "__ne__") := by decide +kernel
theorem sop_ne_plain : plainId "object.__ne__" = true := by decide +kernel
theorem sop_ne_args (a b : Value) : argsOk "object.__ne__" ⟨[a, b], []⟩ := by unfold argsOk; kernel_rfl
theorem sop_ne_type : typeOf (.builtin "object.__ne__") = pure (.type "wrapper_descriptor") := by show builtinType _ = _; rw [builtinType_eq_fast]; kernel_rfl
section
variable {prog : Program} {w : World} {A : Around} {E : Value → Shared → Prop} {s : Shared} {K : Frag} {x C L f g : Addr} {h₀ : Heap} {m : Str → Option Value} {ox : Obj} {od : Option Obj} {b tb : Value}
theorem sop_bind_ne {M : Model} {h : Heap} (self : Value) : Looks M h (bindSpecial (.builtin "object.__ne__") self) (.builtin "object.__ne__", [self]) := Looks.of_pure (by
  first | rfl | kernel_rfl)
theorem sop_ifBound {M : Model} {name : Str} {i : String} {args : List Value} {Q : Option Value → Shared → Prop} (X : K.In s.heap) (I : InstAt s.heap x ox C od) (hs : findIn K (.ref C) name = some (some (.builtin i)))
    (hbnd : Looks M s.heap (bindSpecial (.builtin i) (.ref x)) (.builtin i, [.ref x]))
    (h : wpAny M A (call (.builtin i) (.ref x :: args)) (fun v => Q (some v)) E s) : wpAny M A (callSpecialIfBound? (.ref x) name args) Q E s := by
  simp only [callSpecialIfBound?, bindSpecialIfBound?]
  refine wpAny_holding (wpAny_bind (wpAny_bind (wpAny_bind (I.type.here ((looks_findIn X hs).here ?_)))))
  refine wpAny_bind (wpAny_askSetting (wpAny_ite ?_))
  have fin : wpAny M A (call (.builtin i) ([.ref x] ++ args) >>= fun v => pure (some v)) Q E s := wpAny_bind (wpAny_mono h (fun v s' h' => wpAny_pure h') fun _ _ h' => h')
  split
  · exact wpAny_bind (hbnd.here (wpAny_pure (by exact fin)))
  · exact wpAny_tryCatch (wpAny_bind (hbnd.here (wpAny_pure (by exact fin))))
theorem sop_ne {Q : Value → Shared → Prop} (hu : A.units + 1 < cLine) (F : Fr h₀ L s.heap m) (X₀ : K.In h₀) (I : InstAt s.heap x ox C od) (hb : Looks (model prog w) s.heap (typeOf b) tb) (hn : notFirst K C tb = true)
    (hne : findIn K (.ref C) "__ne__" = some (some (.builtin "object.__ne__"))) (hob : subIn K (.ref C) (.type "object") = some true)
    (hs : findIn K (.ref C) "__eq__" = some (some (.ref f))) (hf : isFn K (.ref f) = true)
    (h : wpAny (model prog w) A.in1 (call (.ref f) [.ref x, b]) (fun v s' => ∃ r, v = .bool r ∧ Q (.bool (!r)) s') E s) : wpAny (model prog w) A (richCompare .NotEq (.ref x) b) Q E s := by
  have X := X₀.keeps F.keep
  have one : wpAny (model prog w) A (tryCompare (.ref x) "__ne__" b) (fun r s' => ∃ v, r = some v ∧ Q v s') E s := by
    unfold tryCompare
    refine wpAny_bind (sop_ifBound X I hne (sop_bind_ne _) (wpAny_call ?_))
    refine codeAny_call_builtin sop_ne_plain sop_ne_entry (check_slot sop_ne_kind sop_ne_split (I.type.andThen (looks_subIn X hob)) (sop_ne_args _ _) ?_)
    unfold Builtin.«object.__ne__»
    refine wpAny_bind (wpAny_of_eq (a := (.ref x, [b])) (by first | rfl | kernel_rfl) ?_)
    refine wpAny_bind (wpAny_cRoomFor (by show A.units + 1 < cLine; exact hu) ?_)
    refine wpAny_bind (ifBound_K X I hs hf (wpAny_mono h (fun v s' hv => ?_) fun _ _ e => e))
    obtain ⟨r, rfl, hq⟩ := hv
    refine wpAny_bind (wpAny_truthy_bool ?_)
    refine wpAny_pure ?_
    exact wpAny_pure ⟨_, rfl, hq⟩
  unfold richCompare
  simp only [oneThing_ref]
  refine wpAny_holding (wpAny_bind (wpAny_cRoomFor (by omega) ?_))
  refine wpAny_bind (I.type.here (wpAny_bind (hb.here ?_)))
  split
  · rename_i q
    have e : subIn K tb (.ref C) = some false := by
      rcases Bool.or_eq_true_iff.mp hn with e | e
      · rw [beq_iff_eq.mp e] at q; simp at q
      · exact beq_iff_eq.mp e
    refine wpAny_bind ((looks_subIn X e).here ?_)
    simp only [Bool.false_eq_true, if_false]
    refine wpAny_bind (wpAny_mono one (fun r s' z => ?_) fun _ _ e => e)
    obtain ⟨v, rfl, hq⟩ := z
    exact wpAny_pure hq
  · refine wpAny_bind (wpAny_pure ?_)
    simp only [Bool.false_eq_true, if_false]
    refine wpAny_bind (wpAny_mono one (fun r s' z => ?_) fun _ _ e => e)
    obtain ⟨v, rfl, hq⟩ := z
    exact wpAny_pure hq
end
end PySem.W
namespace L2
open PySem PySem.Spec PyProof.Rows
/-- the built-in class of a flat value -/
def tyS : V → Option String
  | .int _ => some "int"
  | .bl _ => some "bool"
  | .non => some "NoneType"
  | .str _ => some "str"
  | _ => none
theorem tyS_of {y : V} {u : Value} {T : String} (r : RelV y u) (h : tyS y = some T) : typeOf u = pure (.type T) := by
  cases y with
  | int i => obtain ⟨t, rfl⟩ := r; cases h; rfl
  | bl b => cases r; cases h; rfl
  | non => cases r; cases h; rfl
  | str z => obtain ⟨t, rfl⟩ := r; cases h; rfl
  | byt b => cases h
  | flt b => cases h
  | ref a => cases h
  | ty n => cases h
theorem cmpBack {X : Cx} {pins : List (Addr × Obj)} {σ : St} {Q : VK} {u : Value} {s' : Shared} (h : EP X pins σ Q u s') : PySem.W.CmpBack (EP X pins σ Q) u s' := by
  obtain ⟨v, H', I, r, q⟩ := id h
  cases u with
  | notImplemented => cases v <;> first | (obtain ⟨t, e⟩ := r; cases e) | cases r
  | _ => exact h
section
variable {X : Cx} {CX : CXT} {k : Nat} {f g C : Addr} {fd : FuncData} {ps : List Str} {sp : Sp} {E : XK}
/-- the callee runs, one built-in further in -/
theorem run_in1 {pins : List (Addr × Obj)} {σ : St} {H : Hp} {s : Shared} {Q : VK} {us : List Value} {vs : List V} (F : FnOk X.prog X.w X.K X.mg X.base CX k f fd ps sp) (hr : Room (k + 1) X.A) (hb : Binds X.K fd ps []) (hx : Passes CX X E)
    (I : Inv X pins σ H s) (r : Vals vs us) (h : sp vs H Q E) : wpAny (model X.prog X.w) X.A.in1 (call (.ref f) us) (EP X pins σ Q) X.xe s := by
  have hl : us.length = ps.length := by rw [← F.len _ _ _ _ h, r.length]
  refine wpAny_call (codeAny_mono (F.run X.A.in1 X.stack s H ⟨us, []⟩ us vs Q E hr.in1 I.env0.in1 (by have := hb s us I.kIn (by simpa using hl); simpa using this) r h) fun r s' hq => ?_)
  cases r with
  | error er => exact hx pins σ H s er s' I hq
  | ok fl =>
    cases fl with
    | ret u => exact I.after hq
    | next => exact False.elim hq
    | brk => exact False.elim hq
    | cont => exact False.elim hq
/-- a op b, both of the class at C -/
def rOwnC (C : Addr) (sp : Sp) (E : XK) : R2 := fun x y H Q => ∃ a b dx dy fs gs, x = .ref a ∧ y = .ref b ∧ H a = some (.ins C dx fs) ∧ H b = some (.ins C dy gs) ∧ sp [.ref a, .ref b] H Q E
/-- a op y, y flat -/
def rOwnT (C : Addr) (sp : Sp) (E : XK) : R2 := fun x y H Q => ∃ a dx fs, x = .ref a ∧ H a = some (.ins C dx fs) ∧ (tyS y).isSome = true ∧ sp [.ref a, y] H Q E
/-- y op a, y flat: the reflected one -/
def rOwnR (C : Addr) (sp : Sp) (E : XK) : R2 := fun y x H Q => ∃ a dx fs, x = .ref a ∧ H a = some (.ins C dx fs) ∧ (tyS y).isSome = true ∧ sp [.ref a, y] H Q E
theorem op_ownC {op : Operator} (F : FnOk X.prog X.w X.K X.mg X.base CX k f fd ps sp) (hr : Room k X.A) (hb : Binds X.K fd ps []) (hx : Passes CX X E) (hc : PySem.W.selfFirst X.K C = true)
    (hs : PySem.W.findIn X.K (.ref C) (PySem.dunder op.info.2) = some (some (.ref f))) (hf : PySem.W.isFn X.K (.ref f) = true) : OpR X (binaryOp op) (rOwnC C sp E) := by
  intro pins s σ H x y v u Q I rx ry hq
  obtain ⟨a, b, dx, dy, fs, gs, rfl, rfl, ea, eb, h⟩ := hq
  cases rx
  cases ry
  obtain ⟨mA, J, _⟩ := ins_get I.hok ea
  obtain ⟨mB, J', _⟩ := ins_get I.hok eb
  obtain ⟨od, J, _⟩ := J.look
  obtain ⟨od', J', _⟩ := J'.look
  obtain ⟨m, hF⟩ := I.fr
  exact PySem.W.binop_K hF I.ok.mod.kin J J'.type hc hs hf (thn (run_fn (vs := [.ref a, .ref b]) F hr hb .nil hx I (.cons rfl (.cons rfl .nil)) (by simpa using h)) fun u s' q => cmpBack q)
theorem op_ownT {op : Operator} (F : FnOk X.prog X.w X.K X.mg X.base CX k f fd ps sp) (hr : Room k X.A) (hb : Binds X.K fd ps []) (hx : Passes CX X E) (hc : PySem.W.selfFirst X.K C = true)
    (hs : PySem.W.findIn X.K (.ref C) (PySem.dunder op.info.2) = some (some (.ref f))) (hf : PySem.W.isFn X.K (.ref f) = true) (hrr : PySem.W.findIn X.K (.ref C) (dunderR op.info.2) = some (some (.ref g)))
    (hsub : ∀ T ∈ ["int", "bool", "NoneType", "str"], PySem.W.subIn X.K (.type T) (.ref C) = some false)
    (h1 : ∀ T ∈ ["int", "bool", "NoneType", "str"], ∃ fo, PySem.W.findIn X.K (.type T) (PySem.dunder op.info.2) = some fo) (h2 : ∀ T ∈ ["int", "bool", "NoneType", "str"], ∃ fo, PySem.W.findIn X.K (.type T) (dunderR op.info.2) = some fo) :
    OpR X (binaryOp op) (rOwnT C sp E) := by
  intro pins s σ H x y v u Q I rx ry hq
  obtain ⟨a, dx, fs, rfl, ea, ht, h⟩ := hq
  cases rx
  obtain ⟨mA, J, _⟩ := ins_get I.hok ea
  obtain ⟨od, J, _⟩ := J.look
  obtain ⟨m, hF⟩ := I.fr
  obtain ⟨T, hT⟩ := Option.isSome_iff_exists.mp ht
  have hm : T ∈ ["int", "bool", "NoneType", "str"] := by
    cases y <;> simp [tyS] at hT <;> subst hT <;> decide
  obtain ⟨fo, e1⟩ := h1 T hm
  obtain ⟨ro, e2⟩ := h2 T hm
  exact PySem.W.ksp_binT hF I.ok.mod.kin J (tyS_of ry hT) hc hs hf hrr (.inr ⟨_, rfl⟩) e1 e2 (hsub T hm) (thn (run_fn (vs := [.ref a, y]) F hr hb .nil hx I (.cons rfl (.cons ry .nil)) (by simpa using h)) fun u s' q => cmpBack q)
theorem op_ownR_mul (F : FnOk X.prog X.w X.K X.mg X.base CX k f fd ps sp) (hr : Room k X.A) (hb : Binds X.K fd ps []) (hx : Passes CX X E) (hc : PySem.W.selfFirst X.K C = true)
    (hs : PySem.W.findIn X.K (.ref C) (PySem.dunder "mul") = some (some (.ref g))) (hrr : PySem.W.findIn X.K (.ref C) (dunderR "mul") = some (some (.ref f))) (hf : PySem.W.isFn X.K (.ref f) = true)
    (hsub : ∀ T ∈ ["int", "bool", "NoneType", "str"], PySem.W.subIn X.K (.ref C) (.type T) = some false) : OpR X (binaryOp .Mult) (rOwnR C sp E) := by
  intro pins s σ H y x u v Q I ry rx hq
  obtain ⟨a, dx, fs, rfl, ea, ht, h⟩ := hq
  cases rx
  obtain ⟨mA, J, _⟩ := ins_get I.hok ea
  obtain ⟨od, J, _⟩ := J.look
  obtain ⟨m, hF⟩ := I.fr
  have run := thn (run_fn (vs := [.ref a, y]) F hr hb .nil hx I (.cons rfl (.cons ry .nil)) (by simpa using h)) fun u s' q => cmpBack q
  have hx0 : s.heap.get? a = some (PySem.W.instObj C dx) := J.at_
  cases y with
  | int i =>
    obtain ⟨t, rfl⟩ := ry
    exact PySem.W.sop_refl (op := .Mult) (T := "int") (left := true) hF I.ok.mod.kin J rfl hc (hsub "int" (by decide)) PySem.F.fills_int_mul (fun _ Q' hq' => sop_int_mul i t hx0 Q' hq') hs hrr hf run
  | bl i =>
    cases ry
    exact PySem.W.sop_refl (op := .Mult) (T := "bool") (left := true) hF I.ok.mod.kin J rfl hc (hsub "bool" (by decide)) PySem.F.fills_bool_mul (fun _ Q' hq' => sop_bool_mul i hx0 Q' hq') hs hrr hf run
  | non =>
    cases ry
    exact PySem.W.sop_refl (op := .Mult) (T := "NoneType") (left := false) hF I.ok.mod.kin J rfl hc (hsub "NoneType" (by decide)) sop_fills_none_mul (fun z => nomatch z) hs hrr hf run
  | str i =>
    obtain ⟨t, rfl⟩ := ry
    exact PySem.W.sop_refl (op := .Mult) (T := "str") (left := false) hF I.ok.mod.kin J rfl hc (hsub "str" (by decide)) noFill_str_mul (fun z => nomatch z) hs hrr hf run
  | byt b => cases ht
  | flt b => cases ht
  | ref a => cases ht
  | ty n => cases ht
theorem op_ownR_add (F : FnOk X.prog X.w X.K X.mg X.base CX k f fd ps sp) (hr : Room k X.A) (hb : Binds X.K fd ps []) (hx : Passes CX X E) (hc : PySem.W.selfFirst X.K C = true)
    (hs : PySem.W.findIn X.K (.ref C) (PySem.dunder "add") = some (some (.ref g))) (hrr : PySem.W.findIn X.K (.ref C) (dunderR "add") = some (some (.ref f))) (hf : PySem.W.isFn X.K (.ref f) = true)
    (hsub : PySem.W.subIn X.K (.ref C) (.type "int") = some false) : OpR X (binaryOp .Add) (fun y x H Q => ∃ i, y = .int i ∧ rOwnR C sp E y x H Q) := by
  intro pins s σ H y x u v Q I ry rx hq
  obtain ⟨i, rfl, a, dx, fs, rfl, ea, ht, h⟩ := hq
  cases rx
  obtain ⟨mA, J, _⟩ := ins_get I.hok ea
  obtain ⟨od, J, _⟩ := J.look
  obtain ⟨m, hF⟩ := I.fr
  have run := thn (run_fn (vs := [.ref a, .int i]) F hr hb .nil hx I (.cons rfl (.cons ry .nil)) (by simpa using h)) fun u s' q => cmpBack q
  have hx0 : s.heap.get? a = some (PySem.W.instObj C dx) := J.at_
  obtain ⟨t, rfl⟩ := ry
  exact PySem.W.sop_refl (op := .Add) (T := "int") (left := true) hF I.ok.mod.kin J rfl hc hsub PySem.F.fills_int_add (fun _ Q' hq' => sop_int_add i t hx0 Q' hq') hs hrr hf run
/-- the right side of a comparison: of the class itself, or flat -/
def CmpY (K : PySem.W.Frag) (C : Addr) (y : V) (H : Hp) : Prop := (∃ b dy gs, y = .ref b ∧ H b = some (.ins C dy gs)) ∨ ∃ T, tyS y = some T ∧ PySem.W.subIn K (.type T) (.ref C) = some false
theorem CmpY.look {pins : List (Addr × Obj)} {σ : St} {H : Hp} {s : Shared} {y : V} {u : Value} (I : Inv X pins σ H s) (ry : RelV y u) (h : CmpY X.K C y H) : ∃ tb, PySem.W.Looks (model X.prog X.w) s.heap (typeOf u) tb ∧ PySem.W.notFirst X.K C tb = true := by
  rcases h with ⟨b, dy, gs, rfl, eb⟩ | ⟨T, hT, hs⟩
  · cases ry
    obtain ⟨mB, J', _⟩ := ins_get I.hok eb
    obtain ⟨od', J', _⟩ := J'.look
    exact ⟨_, J'.type, by simp [PySem.W.notFirst]⟩
  · exact ⟨_, PySem.W.Looks.of_pure (tyS_of ry hT), by simp [PySem.W.notFirst, hs]⟩
/-- a < y and the like, by an own method -/
def rOwnCmp (K : PySem.W.Frag) (C : Addr) (sp : Sp) (E : XK) : R2 := fun x y H Q => ∃ a dx fs, x = .ref a ∧ H a = some (.ins C dx fs) ∧ CmpY K C y H ∧ sp [.ref a, y] H Q E
theorem op_ownCmp {op : CmpOp} (F : FnOk X.prog X.w X.K X.mg X.base CX k f fd ps sp) (hr : Room k X.A) (hb : Binds X.K fd ps []) (hx : Passes CX X E)
    (hs : PySem.W.findIn X.K (.ref C) (cmpInfo op).2.1 = some (some (.ref f))) (hf : PySem.W.isFn X.K (.ref f) = true) (ho : ∀ a b, compareOp op a b = richCompare op a b := by intros; rfl) : OpR X (compareOp op) (rOwnCmp X.K C sp E) := by
  intro pins s σ H x y v u Q I rx ry hq
  obtain ⟨a, dx, fs, rfl, ea, hy, h⟩ := hq
  cases rx
  obtain ⟨mA, J, _⟩ := ins_get I.hok ea
  obtain ⟨od, J, _⟩ := J.look
  obtain ⟨m, hF⟩ := I.fr
  obtain ⟨tb, hl, hn⟩ := hy.look I ry
  rw [ho]
  exact PySem.W.cmp_K (by have := hr.un; omega) hF I.ok.mod.kin J hl hn hs hf (thn (run_fn (vs := [.ref a, y]) F hr hb .nil hx I (.cons rfl (.cons ry .nil)) (by simpa using h)) fun u s' q => cmpBack q)
/-- a != y by the own == -/
def rOwnNe (K : PySem.W.Frag) (C : Addr) (sp : Sp) (E : XK) : R2 := fun x y H Q => ∃ a dx fs, x = .ref a ∧ H a = some (.ins C dx fs) ∧ CmpY K C y H ∧ sp [.ref a, y] H (fun v H' => ∃ r, v = .bl r ∧ Q (.bl (!r)) H') E
theorem op_ownNe (F : FnOk X.prog X.w X.K X.mg X.base CX k f fd ps sp) (hr : Room (k + 1) X.A) (hb : Binds X.K fd ps []) (hx : Passes CX X E)
    (hne : PySem.W.findIn X.K (.ref C) "__ne__" = some (some (.builtin "object.__ne__"))) (hob : PySem.W.subIn X.K (.ref C) (.type "object") = some true)
    (hs : PySem.W.findIn X.K (.ref C) "__eq__" = some (some (.ref f))) (hf : PySem.W.isFn X.K (.ref f) = true) : OpR X (compareOp .NotEq) (rOwnNe X.K C sp E) := by
  intro pins s σ H x y v u Q I rx ry hq
  obtain ⟨a, dx, fs, rfl, ea, hy, h⟩ := hq
  cases rx
  obtain ⟨mA, J, _⟩ := ins_get I.hok ea
  obtain ⟨od, J, _⟩ := J.look
  obtain ⟨m, hF⟩ := I.fr
  obtain ⟨tb, hl, hn⟩ := hy.look I ry
  show wpAny (model X.prog X.w) X.A (richCompare .NotEq (.ref a) u) (EP X pins σ Q) X.xe s
  refine PySem.W.sop_ne (by have := hr.un; omega) hF I.ok.mod.kin J hl hn hne hob hs hf (thn (run_in1 (vs := [.ref a, y]) F hr hb hx I (.cons rfl (.cons ry .nil)) h) fun u s' q => ?_)
  obtain ⟨z, H', I', rz, r, rfl, q⟩ := q
  cases rz
  exact ⟨r, rfl, .bl (!r), H', I', rfl, q⟩
end
end L2

/-! C.m(..), m a staticmethod of an own class. -/
namespace L2
open PySem PySem.Spec PyProof.Rows
/-- C.m is a staticmethod: its record at p, its def at g -/
structure SMet (K : PySem.W.Frag) (C : Addr) (m : Str) (p g : Addr) : Prop where
  ty : PySem.W.typeIn K (.ref C) = some (.type "type")
  rd : PySem.W.readsIn K C (.type "type") = true
  ga : PySem.W.specialIn K (.ref C) "__getattribute__" = some (some (.builtin "type.__getattribute__"))
  at_ : PySem.W.findCls K (.ref C) (.type "type") m = some (.get (.builtin "staticmethod.__get__") (.ref p) .none (.ref C))
  rc : ∃ rest, PySem.W.recIn K p "staticmethod" = some (.ref g :: rest)
  kp : PySem.W.keepIn K (.ref g) = true
section
variable {X : Cx} {CX : CXT} {k : Nat} {C p g : Addr} {fd : FuncData} {ps : List Str} {sp : Sp} {E : XK} {o e : Expr} {es : List Expr} {m x : Str} {pos apos p0 : Pos} {t : TA} {ds : List Value} {dvs : List V}
theorem getstat_ok {pins : List (Addr × Obj)} {σ : St} {H : Hp} {s : Shared} {pl : Sem Bool} {A : Around} {E : Value → Shared → Prop} {Q : Value × List Value → Shared → Prop} (I : Inv X pins σ H s) (c : SMet X.K C m p g)
    (h : ∀ s', Inv X pins σ H s' → Q (.ref g, []) s') : wpAny (model X.prog X.w) A (getMethod (.ref C) m pl) Q E s := by
  obtain ⟨rest, hrec⟩ := c.rc
  obtain ⟨mm, hF⟩ := I.fr
  exact PySem.W.method_of_cls hF I.ok.mod.kin c.ga (PySem.W.cls_sm hF I.ok.mod.kin c.ty c.rd c.at_ hrec rfl (h _ (I.tok _)))
theorem pe_static {pl : Sem Bool} (hg : Gl X x) (hm : X.mg x = some (.ref C)) (c : SMet X.K C m p g) (F : FnOk X.prog X.w X.K X.mg X.base CX k g fd ps sp) (hr : Room k X.A) (hb : Binds X.K fd ps ds) (hd : Vals dvs ds) (hx : Passes CX X E) (ha : PA X (e :: es) t)
    (hdb : (x == ("__debug__" : Str)) = false := by decide) (hst : starEach (e :: es) X.env = (false, eval e X.env) :: starEach es X.env := by rfl) (hpl : (backTo pos (starEach es X.env)).any (·.1) = false := by rfl)
    (ht : eval (.Call (.Attribute (.Name x p0) m apos) (e :: es) [] pos) X.env = (do
      let ov ← eval (.Name x p0) X.env
      standAt apos.atName
      let (f, first) ← holding [ov] (getMethod ov m pl)
      callWith pos f first (backTo pos (starEach (e :: es) X.env)) (backToKw pos (keywordEach [] X.env))) := by rfl) :
    PE X (.Call (.Attribute (.Name x p0) m apos) (e :: es) [] pos) (tCall sp dvs E t) := by
  refine ⟨fun pins s σ H Q I h => ?_⟩
  refine PySem.W.methodCall_KW (pl := pl) (ld_glob I hg hm ?_ hdb) ht
  refine getstat_ok I c fun s1 I1 => ?_
  refine PySem.W.callWith_K (first := []) (h₀ := X.base) I.ok.mod.kin c.kp (thn (ha.run pos pins s1 σ H _ I1 h) fun us s2 ⟨vs, H2, I2, r, q2⟩ => ⟨I2.kIn, ?_⟩) hst hpl
  exact run_fn (us := us) (vs := vs) F hr hb hd hx I2 r q2
theorem pe_static0 {pl : Sem Bool} (hg : Gl X x) (hm : X.mg x = some (.ref C)) (c : SMet X.K C m p g) (F : FnOk X.prog X.w X.K X.mg X.base CX k g fd ps sp) (hr : Room k X.A) (hb : Binds X.K fd ps ds) (hd : Vals dvs ds) (hx : Passes CX X E)
    (hdb : (x == ("__debug__" : Str)) = false := by decide)
    (ht : eval (.Call (.Attribute (.Name x p0) m apos) [] [] pos) X.env = (do
      let ov ← eval (.Name x p0) X.env
      standAt apos.atName
      let (f, first) ← holding [ov] (getMethod ov m pl)
      callWith pos f first (backTo pos (starEach [] X.env)) (backToKw pos (keywordEach [] X.env))) := by rfl) :
    PE X (.Call (.Attribute (.Name x p0) m apos) [] [] pos) (tCall sp dvs E tNil) := by
  refine ⟨fun pins s σ H Q I h => ?_⟩
  refine PySem.W.methodCall_KW (pl := pl) (ld_glob I hg hm ?_ hdb) ht
  refine getstat_ok I c fun s1 I1 => ?_
  exact PySem.W.callWith_K0 (first := []) I1.kIn c.kp (run_fn (us := []) (vs := []) F hr hb hd hx I1 .nil h)
end
end L2

/-! Defs of the text by their places: what stands there, promises without the function's record. -/
namespace L2
open PySem PySem.Spec PyProof.Rows
/-- a def of the top -/
structure DefAt (K : PySem.W.Frag) (mg : Str → Option Value) (x : Str) (st : Stmt) (ps : List Str) (f : Addr) : Prop where
  mg : mg x = some (.ref f)
  kp : PySem.W.keepIn K (.ref f) = true
  fn : ∃ fd, Fun K x x st f fd ∧ Binds K fd ps []
theorem defAt_mk {K : PySem.W.Frag} {mg : Str → Option Value} {h : Heap} {x : Str} {st : Stmt} {ps : List Str} {f : Addr} {oc : Value} {od an : Option Addr} {osl : Array (Option Value)} {kV doc pm cdv ct : Value} (X : K.In h) (G : h.Ns mainGlobals mg)
    (a : PySem.W.nsIn K mainGlobals x = some (some (.ref f))) (l : K.lookup f = some ⟨oc, od, .func (PySem.W.fnOf x x (defArgs st) (defBody st) (defScope st) .none kV doc pm an cdv ct), osl⟩) (c : PySem.W.codeIn K cdv x = true) (k : PySem.W.keepIn K (.ref f) = true)
    (b : ∀ (kV doc pm : Value) (an : Option Addr) (cdv ct : Value) (us : List Value), us.length = ps.length → bindArgs (PySem.W.fnOf x x (defArgs st) (defBody st) (defScope st) .none kV doc pm an cdv ct) ⟨us, []⟩ = pure (ps.zip us)) : DefAt K mg x st ps f :=
  ⟨PySem.W.mg_of X G a, k, _, fun_mk l c k, (fun_mk (st := st) l c k).binds b⟩
/-- a method of the class at C -/
structure MetAt (K : PySem.W.Frag) (C : Addr) (m q : Str) (st : Stmt) (ps : List Str) (f : Addr) : Prop where
  mt : Meth K C m f
  fn : ∃ fd, Fun K m q st f fd ∧ Binds K fd ps []
theorem metAt_mk {K : PySem.W.Frag} {C : Addr} {m q : Str} {st : Stmt} {ps : List Str} {f : Addr} {oc : Value} {od an : Option Addr} {osl : Array (Option Value)} {kV doc pm cdv ct : Value}
    (a : PySem.W.findIn K (.ref C) m = some (some (.ref f))) (i : PySem.W.isFn K (.ref f) = true) (l : K.lookup f = some ⟨oc, od, .func (PySem.W.fnOf m q (defArgs st) (defBody st) (defScope st) .none kV doc pm an cdv ct), osl⟩) (c : PySem.W.codeIn K cdv q = true) (k : PySem.W.keepIn K (.ref f) = true)
    (b : ∀ (kV doc pm : Value) (an : Option Addr) (cdv ct : Value) (us : List Value), us.length = ps.length → bindArgs (PySem.W.fnOf m q (defArgs st) (defBody st) (defScope st) .none kV doc pm an cdv ct) ⟨us, []⟩ = pure (ps.zip us)) : MetAt K C m q st ps f :=
  ⟨⟨a, i, k⟩, _, fun_mk l c k, (fun_mk (st := st) l c k).binds b⟩
/-- a staticmethod of the class at C -/
structure StaAt (K : PySem.W.Frag) (C : Addr) (m q : Str) (st : Stmt) (ps : List Str) (p f : Addr) : Prop where
  mt : SMet K C m p f
  fn : ∃ fd, Fun K m q st f fd ∧ Binds K fd ps []
theorem staAt_mk {K : PySem.W.Frag} {C : Addr} {m q : Str} {st : Stmt} {ps : List Str} {p f : Addr} {rest : List Value} {oc : Value} {od an : Option Addr} {osl : Array (Option Value)} {kV doc pm cdv ct : Value}
    (ty : PySem.W.typeIn K (.ref C) = some (.type "type")) (rd : PySem.W.readsIn K C (.type "type") = true) (ga : PySem.W.specialIn K (.ref C) "__getattribute__" = some (some (.builtin "type.__getattribute__")))
    (a : PySem.W.findCls K (.ref C) (.type "type") m = some (.get (.builtin "staticmethod.__get__") (.ref p) .none (.ref C))) (r : PySem.W.recIn K p "staticmethod" = some (.ref f :: rest))
    (l : K.lookup f = some ⟨oc, od, .func (PySem.W.fnOf m q (defArgs st) (defBody st) (defScope st) .none kV doc pm an cdv ct), osl⟩) (c : PySem.W.codeIn K cdv q = true) (k : PySem.W.keepIn K (.ref f) = true)
    (b : ∀ (kV doc pm : Value) (an : Option Addr) (cdv ct : Value) (us : List Value), us.length = ps.length → bindArgs (PySem.W.fnOf m q (defArgs st) (defBody st) (defScope st) .none kV doc pm an cdv ct) ⟨us, []⟩ = pure (ps.zip us)) : StaAt K C m q st ps p f :=
  ⟨⟨ty, rd, ga, a, ⟨_, r⟩, k⟩, _, fun_mk l c k, (fun_mk (st := st) l c k).binds b⟩
/-- the def at f keeps the promise sp -/
def FOk (P : Program) (w : World) (K : PySem.W.Frag) (mg : Str → Option Value) (base : Heap) (CX : CXT) (k : Nat) (f : Addr) (ps : List Str) (sp : Sp) : Prop := ∃ fd, FnOk P w K mg base CX k f fd ps sp ∧ Binds K fd ps []
section
variable {P : Program} {w : World} {K : PySem.W.Frag} {mg : Str → Option Value} {base : Heap} {CX : CXT} {k j : Nat} {f : Addr} {ps : List Str} {sp sp' : Sp}
theorem FOk.mono (F : FOk P w K mg base CX k f ps sp) (h : k ≤ j) : FOk P w K mg base CX j f ps sp := let ⟨fd, G, b⟩ := F; ⟨fd, G.mono h, b⟩
theorem FOk.imp (F : FOk P w K mg base CX k f ps sp) (h : ∀ vs H Q E, sp' vs H Q E → sp vs H Q E) : FOk P w K mg base CX k f ps sp' := let ⟨fd, G, b⟩ := F; ⟨fd, G.imp h, b⟩
theorem DefAt.ok {x : Str} {st : Stmt} {N : List Str} (D : DefAt K mg x st ps f) (S : FnScope N ps (defScope st)) (len : ∀ vs H Q E, sp vs H Q E → vs.length = ps.length)
    (hbody : ∀ (cdv : Value) (A : Around) (outer : List Env) (s : Shared) (H : Hp) (vs : List V) (Q : VK) (E : XK), Room k (A.deeper (envOfC x (defScope st) s.heap.objs.size f cdv)) → sp vs H Q E →
      ∃ t, PSs (cxOf CX0 P w K mg base N x (defScope st) f cdv A outer s H E).nox (defBody st) t ∧ t { nx := fun _ H' => Q .non H', rt := Q } (start N vs) H) : FOk P w K mg base CX0 (k + 1) f ps sp :=
  let ⟨fd, F, b⟩ := D.fn
  ⟨fd, F.ok S len hbody, b⟩
theorem DefAt.okX {x : Str} {st : Stmt} {N : List Str} (D : DefAt K mg x st ps f) (S : FnScope N ps (defScope st)) (len : ∀ vs H Q E, sp vs H Q E → vs.length = ps.length)
    (hbody : ∀ (cdv : Value) (A : Around) (outer : List Env) (s : Shared) (H : Hp) (vs : List V) (Q : VK) (E : XK), Room k (A.deeper (envOfC x (defScope st) s.heap.objs.size f cdv)) → sp vs H Q E →
      ∃ t, PSs (cxOf (L2.CX P w) P w K mg base N x (defScope st) f cdv A outer s H E) (defBody st) t ∧ t { nx := fun _ H' => Q .non H', rt := Q } (start N vs) H) : FOk P w K mg base (L2.CX P w) (k + 1) f ps sp :=
  let ⟨fd, F, b⟩ := D.fn
  ⟨fd, F.okX S len hbody, b⟩
theorem MetAt.ok {C : Addr} {m q : Str} {st : Stmt} {N : List Str} (D : MetAt K C m q st ps f) (S : FnScope N ps (defScope st)) (len : ∀ vs H Q E, sp vs H Q E → vs.length = ps.length)
    (hbody : ∀ (cdv : Value) (A : Around) (outer : List Env) (s : Shared) (H : Hp) (vs : List V) (Q : VK) (E : XK), Room k (A.deeper (envOfC q (defScope st) s.heap.objs.size f cdv)) → sp vs H Q E →
      ∃ t, PSs (cxOf CX0 P w K mg base N q (defScope st) f cdv A outer s H E).nox (defBody st) t ∧ t { nx := fun _ H' => Q .non H', rt := Q } (start N vs) H) : FOk P w K mg base CX0 (k + 1) f ps sp :=
  let ⟨fd, F, b⟩ := D.fn
  ⟨fd, F.ok S len hbody, b⟩
theorem MetAt.okX {C : Addr} {m q : Str} {st : Stmt} {N : List Str} (D : MetAt K C m q st ps f) (S : FnScope N ps (defScope st)) (len : ∀ vs H Q E, sp vs H Q E → vs.length = ps.length)
    (hbody : ∀ (cdv : Value) (A : Around) (outer : List Env) (s : Shared) (H : Hp) (vs : List V) (Q : VK) (E : XK), Room k (A.deeper (envOfC q (defScope st) s.heap.objs.size f cdv)) → sp vs H Q E →
      ∃ t, PSs (cxOf (L2.CX P w) P w K mg base N q (defScope st) f cdv A outer s H E) (defBody st) t ∧ t { nx := fun _ H' => Q .non H', rt := Q } (start N vs) H) : FOk P w K mg base (L2.CX P w) (k + 1) f ps sp :=
  let ⟨fd, F, b⟩ := D.fn
  ⟨fd, F.okX S len hbody, b⟩
theorem StaAt.ok {C p : Addr} {m q : Str} {st : Stmt} {N : List Str} (D : StaAt K C m q st ps p f) (S : FnScope N ps (defScope st)) (len : ∀ vs H Q E, sp vs H Q E → vs.length = ps.length)
    (hbody : ∀ (cdv : Value) (A : Around) (outer : List Env) (s : Shared) (H : Hp) (vs : List V) (Q : VK) (E : XK), Room k (A.deeper (envOfC q (defScope st) s.heap.objs.size f cdv)) → sp vs H Q E →
      ∃ t, PSs (cxOf CX0 P w K mg base N q (defScope st) f cdv A outer s H E).nox (defBody st) t ∧ t { nx := fun _ H' => Q .non H', rt := Q } (start N vs) H) : FOk P w K mg base CX0 (k + 1) f ps sp :=
  let ⟨fd, F, b⟩ := D.fn
  ⟨fd, F.ok S len hbody, b⟩
theorem StaAt.okX {C p : Addr} {m q : Str} {st : Stmt} {N : List Str} (D : StaAt K C m q st ps p f) (S : FnScope N ps (defScope st)) (len : ∀ vs H Q E, sp vs H Q E → vs.length = ps.length)
    (hbody : ∀ (cdv : Value) (A : Around) (outer : List Env) (s : Shared) (H : Hp) (vs : List V) (Q : VK) (E : XK), Room k (A.deeper (envOfC q (defScope st) s.heap.objs.size f cdv)) → sp vs H Q E →
      ∃ t, PSs (cxOf (L2.CX P w) P w K mg base N q (defScope st) f cdv A outer s H E) (defBody st) t ∧ t { nx := fun _ H' => Q .non H', rt := Q } (start N vs) H) : FOk P w K mg base (L2.CX P w) (k + 1) f ps sp :=
  let ⟨fd, F, b⟩ := D.fn
  ⟨fd, F.okX S len hbody, b⟩
end
section
variable {X : Cx} {CX : CXT} {k : Nat} {f C : Addr} {ps : List Str} {sp : Sp} {E : XK} {x m : Str} {p pos apos : Pos} {e o : Expr} {es : List Expr} {ta : TE} {t : TA}
theorem pcall (F : FOk X.prog X.w X.K X.mg X.base CX k f ps sp) (hr : Room k X.A) (hg : Gl X x) (hm : X.mg x = some (.ref f)) (hk : PySem.W.keepIn X.K (.ref f) = true) (hx : Passes CX X E)
    (ha : PA X (e :: es) t) (hdb : (x == ("__debug__" : Str)) = false := by decide) (he : starEach (e :: es) X.env = (false, eval e X.env) :: starEach es X.env := by rfl) (hpl : (backTo pos (starEach es X.env)).any (·.1) = false := by rfl) :
    PE X (.Call (.Name x p) (e :: es) [] pos) (tCall sp [] E t) := let ⟨_, G, b⟩ := F; pe_call G hr hg hm hk b .nil hx ha hdb he hpl
theorem pcall0 (F : FOk X.prog X.w X.K X.mg X.base CX k f ps sp) (hr : Room k X.A) (hg : Gl X x) (hm : X.mg x = some (.ref f)) (hk : PySem.W.keepIn X.K (.ref f) = true) (hx : Passes CX X E)
    (hdb : (x == ("__debug__" : Str)) = false := by decide) : PE X (.Call (.Name x p) [] [] pos) (tCall sp [] E tNil) := let ⟨_, G, b⟩ := F; pe_call0 G hr hg hm hk b .nil hx hdb
theorem pmeth {pl : Sem Bool} (he : PE X o ta) (c : Cls X.K C) (hm : Meth X.K C m f) (F : FOk X.prog X.w X.K X.mg X.base CX k f ps sp) (hr : Room k X.A) (hx : Passes CX X E) (ha : PA X (e :: es) t)
    (hst : starEach (e :: es) X.env = (false, eval e X.env) :: starEach es X.env := by rfl) (hpl : (backTo pos (starEach es X.env)).any (·.1) = false := by rfl)
    (ht : eval (.Call (.Attribute o m apos) (e :: es) [] pos) X.env = (do
      let ov ← eval o X.env
      standAt apos.atName
      let (f, first) ← holding [ov] (getMethod ov m pl)
      callWith pos f first (backTo pos (starEach (e :: es) X.env)) (backToKw pos (keywordEach [] X.env))) := by rfl) :
    PE X (.Call (.Attribute o m apos) (e :: es) [] pos) (tMeth C m sp [] E ta t) := let ⟨_, G, b⟩ := F; pe_meth he c hm G hr b .nil hx ha hst hpl ht
theorem pmeth0 {pl : Sem Bool} (he : PE X o ta) (c : Cls X.K C) (hm : Meth X.K C m f) (F : FOk X.prog X.w X.K X.mg X.base CX k f ps sp) (hr : Room k X.A) (hx : Passes CX X E)
    (ht : eval (.Call (.Attribute o m apos) [] [] pos) X.env = (do
      let ov ← eval o X.env
      standAt apos.atName
      let (f, first) ← holding [ov] (getMethod ov m pl)
      callWith pos f first (backTo pos (starEach [] X.env)) (backToKw pos (keywordEach [] X.env))) := by rfl) :
    PE X (.Call (.Attribute o m apos) [] [] pos) (tMeth C m sp [] E ta tNil) := let ⟨_, G, b⟩ := F; pe_meth0 he c hm G hr b .nil hx ht
theorem pmake (M : Mk X.K C f) (F : FOk X.prog X.w X.K X.mg X.base CX k f ps sp) (hr : Room (k + 1) X.A) (hg : Gl X x) (hm : X.mg x = some (.ref C)) (hx : Passes CX X E)
    (ha : PA X (e :: es) t) (hdb : (x == ("__debug__" : Str)) = false := by decide) (he : starEach (e :: es) X.env = (false, eval e X.env) :: starEach es X.env := by rfl) (hpl : (backTo pos (starEach es X.env)).any (·.1) = false := by rfl) :
    PE X (.Call (.Name x p) (e :: es) [] pos) (tMake C sp [] E t) := let ⟨_, G, b⟩ := F; pe_make M G hr hg hm b .nil hx ha hdb he hpl
theorem pstat {pl : Sem Bool} {p0 q : Addr} {pp : Pos} (hg : Gl X x) (hm : X.mg x = some (.ref C)) (c : SMet X.K C m q f) (F : FOk X.prog X.w X.K X.mg X.base CX k f ps sp) (hr : Room k X.A) (hx : Passes CX X E) (ha : PA X (e :: es) t)
    (hdb : (x == ("__debug__" : Str)) = false := by decide) (hst : starEach (e :: es) X.env = (false, eval e X.env) :: starEach es X.env := by rfl) (hpl : (backTo pos (starEach es X.env)).any (·.1) = false := by rfl)
    (ht : eval (.Call (.Attribute (.Name x pp) m apos) (e :: es) [] pos) X.env = (do
      let ov ← eval (.Name x pp) X.env
      standAt apos.atName
      let (f, first) ← holding [ov] (getMethod ov m pl)
      callWith pos f first (backTo pos (starEach (e :: es) X.env)) (backToKw pos (keywordEach [] X.env))) := by rfl) :
    PE X (.Call (.Attribute (.Name x pp) m apos) (e :: es) [] pos) (tCall sp [] E t) := let ⟨_, G, b⟩ := F; pe_static hg hm c G hr b .nil hx ha hdb hst hpl ht
theorem pstat0 {pl : Sem Bool} {q : Addr} {pp : Pos} (hg : Gl X x) (hm : X.mg x = some (.ref C)) (c : SMet X.K C m q f) (F : FOk X.prog X.w X.K X.mg X.base CX k f ps sp) (hr : Room k X.A) (hx : Passes CX X E)
    (hdb : (x == ("__debug__" : Str)) = false := by decide)
    (ht : eval (.Call (.Attribute (.Name x pp) m apos) [] [] pos) X.env = (do
      let ov ← eval (.Name x pp) X.env
      standAt apos.atName
      let (f, first) ← holding [ov] (getMethod ov m pl)
      callWith pos f first (backTo pos (starEach [] X.env)) (backToKw pos (keywordEach [] X.env))) := by rfl) :
    PE X (.Call (.Attribute (.Name x pp) m apos) [] [] pos) (tCall sp [] E tNil) := let ⟨_, G, b⟩ := F; pe_static0 hg hm c G hr b .nil hx hdb ht
end
/-- instances of the class at C are asked for their class as object does it -/
structure InsTy (K : PySem.W.Frag) (C : Addr) : Prop where
  ha : PySem.W.findIn K (.ref C) "__class__" = some (some (.builtin "object.__class__"))
  hn : PySem.W.specialIn K (.builtin "object.__class__") "__get__" = some (some (.builtin "getset_descriptor.__get__"))
  htk : PySem.W.takesIn K (.builtin "object.__class__") = some true
  hm : PySem.W.mroIn K C (.type "object") = some true
theorem InsTy.ty {K : PySem.W.Frag} {C p dx : Addr} {H : Hp} {fs : List (Str × V)} (i : InsTy K C) (cl : Cls K C) (e : H p = some (.ins C dx fs)) : TyX K H (.ref p) (.ref C) := .base (.ins e cl i.ha i.hn i.htk i.hm)
theorem kit_self {K : PySem.W.Frag} (t : Value) : PySem.W.kitOne K t t = some true := by unfold PySem.W.kitOne; rw [if_pos (beq_self_eq_true t)]
theorem tyF {K : PySem.W.Frag} {H : Hp} {y : V} {T : String} (h : tyS y = some T) : TyX K H y (.type T) := by
  cases y with
  | int i => cases h; exact .base (.int i)
  | bl i => cases h; exact .base (.bl i)
  | non => cases h; exact .base .non
  | str i => cases h; exact .base (.str i)
  | byt b => cases h
  | flt b => cases h
  | ref b => cases h
  | ty b => cases h
/-- the class at C is over no built-in class of flat values -/
def NoFlat (K : PySem.W.Frag) (C : Addr) : Prop := ∀ T ∈ ["int", "bool", "NoneType", "str"], PySem.W.kitOne K (.type T) (.ref C) = some false
theorem NoFlat.of {K : PySem.W.Frag} {C : Addr} {y : V} {T : String} (n : NoFlat K C) (h : tyS y = some T) : PySem.W.kitOne K (.type T) (.ref C) = some false := n T (by
  cases y <;> simp [tyS] at h <;> subst h <;> decide)
section
variable {X : Cx} {CX : CXT} {k : Nat} {f g C : Addr} {ps : List Str} {sp : Sp} {E : XK} {m : Str}
theorem op_binC {op : Operator} (F : FOk X.prog X.w X.K X.mg X.base CX k f ps sp) (hr : Room k X.A) (hx : Passes CX X E) (hc : PySem.W.selfFirst X.K C = true) (hs : Meth X.K C (PySem.dunder op.info.2) f) : OpR X (binaryOp op) (rOwnC C sp E) :=
  let ⟨_, G, b⟩ := F; op_ownC G hr b hx hc hs.at_ hs.fn
theorem op_binT {op : Operator} (F : FOk X.prog X.w X.K X.mg X.base CX k f ps sp) (hr : Room k X.A) (hx : Passes CX X E) (hc : PySem.W.selfFirst X.K C = true) (hs : Meth X.K C (PySem.dunder op.info.2) f) (hrr : Meth X.K C (dunderR op.info.2) g)
    (hsub : ∀ T ∈ ["int", "bool", "NoneType", "str"], PySem.W.subIn X.K (.type T) (.ref C) = some false)
    (h1 : ∀ T ∈ ["int", "bool", "NoneType", "str"], ∃ fo, PySem.W.findIn X.K (.type T) (PySem.dunder op.info.2) = some fo) (h2 : ∀ T ∈ ["int", "bool", "NoneType", "str"], ∃ fo, PySem.W.findIn X.K (.type T) (dunderR op.info.2) = some fo) :
    OpR X (binaryOp op) (rOwnT C sp E) := let ⟨_, G, b⟩ := F; op_ownT G hr b hx hc hs.at_ hs.fn hrr.at_ hsub h1 h2
theorem op_mulR (F : FOk X.prog X.w X.K X.mg X.base CX k f ps sp) (hr : Room k X.A) (hx : Passes CX X E) (hc : PySem.W.selfFirst X.K C = true) (hs : Meth X.K C (PySem.dunder "mul") g) (hrr : Meth X.K C (dunderR "mul") f)
    (hsub : ∀ T ∈ ["int", "bool", "NoneType", "str"], PySem.W.subIn X.K (.ref C) (.type T) = some false) : OpR X (binaryOp .Mult) (rOwnR C sp E) := let ⟨_, G, b⟩ := F; op_ownR_mul G hr b hx hc hs.at_ hrr.at_ hrr.fn hsub
theorem op_addR (F : FOk X.prog X.w X.K X.mg X.base CX k f ps sp) (hr : Room k X.A) (hx : Passes CX X E) (hc : PySem.W.selfFirst X.K C = true) (hs : Meth X.K C (PySem.dunder "add") g) (hrr : Meth X.K C (dunderR "add") f)
    (hsub : PySem.W.subIn X.K (.ref C) (.type "int") = some false) : OpR X (binaryOp .Add) (fun y x H Q => ∃ i, y = .int i ∧ rOwnR C sp E y x H Q) := let ⟨_, G, b⟩ := F; op_ownR_add G hr b hx hc hs.at_ hrr.at_ hrr.fn hsub
theorem op_cmpF {op : CmpOp} (F : FOk X.prog X.w X.K X.mg X.base CX k f ps sp) (hr : Room k X.A) (hx : Passes CX X E) (hs : Meth X.K C (cmpInfo op).2.1 f) (ho : ∀ a b, compareOp op a b = richCompare op a b := by intros; rfl) :
    OpR X (compareOp op) (rOwnCmp X.K C sp E) := let ⟨_, G, b⟩ := F; op_ownCmp G hr b hx hs.at_ hs.fn ho
theorem op_neF (F : FOk X.prog X.w X.K X.mg X.base CX k f ps sp) (hr : Room (k + 1) X.A) (hx : Passes CX X E) (hne : PySem.W.findIn X.K (.ref C) "__ne__" = some (some (.builtin "object.__ne__"))) (hob : PySem.W.subIn X.K (.ref C) (.type "object") = some true)
    (hs : Meth X.K C "__eq__" f) : OpR X (compareOp .NotEq) (rOwnNe X.K C sp E) := let ⟨_, G, b⟩ := F; op_ownNe G hr b hx hne hob hs.at_ hs.fn
theorem cmpY_ref {K : PySem.W.Frag} {b dy : Addr} {gs : List (Str × V)} {H : Hp} (h : H b = some (.ins C dy gs)) : CmpY K C (.ref b) H := .inl ⟨b, dy, gs, rfl, h⟩
end
theorem all4 {p : String → Prop} (h1 : p "int") (h2 : p "bool") (h3 : p "NoneType") (h4 : p "str") : ∀ T ∈ ["int", "bool", "NoneType", "str"], p T := by
  intro T hT
  simp only [List.mem_cons, List.not_mem_nil, or_false] at hT
  rcases hT with rfl | rfl | rfl | rfl <;> assumption
theorem noFlat_mk {K : PySem.W.Frag} {C : Addr} (h1 : PySem.W.kitOne K (.type "int") (.ref C) = some false) (h2 : PySem.W.kitOne K (.type "bool") (.ref C) = some false) (h3 : PySem.W.kitOne K (.type "NoneType") (.ref C) = some false) (h4 : PySem.W.kitOne K (.type "str") (.ref C) = some false) : NoFlat K C := all4 h1 h2 h3 h4
end L2

/-! Defs with the free name __class__ (they say super()) in the hand layer: their context, suites that hold a super() row, their promises. -/
namespace SupX
open PySem PySem.Spec PyProof.Rows L2
/-- names: the parameters first; no cell of one's own, nothing free but __class__ -/
structure SScope (N P : List Str) (sc : Scope) : Prop where
  kind : sc.kind = .function
  co : sc.isCoroutine = false
  gen : sc.isGenerator = false
  nd : N.Nodup
  pre : N.take P.length = P
  par : ∀ x ∈ P, sc.names.lookup x = some .local
  nocell : ∀ y ∈ sc.names, y.2 ≠ .cell
  free : ∀ y ∈ sc.names, y.2 = .free → y.1 = ("__class__" : Str)
/-- the context of such a def's body -/
def cxC (CX : CXT) (P : Program) (w : World) (K : PySem.W.Frag) (mg : Str → Option Value) (base : Heap) (N : List Str) (qual : Str) (scope : Scope) (f : Addr) (cd : Value) (cc : Addr) (A : Around) (outer : List Env) (s : Shared) (H : Hp) (E : XK) : Cx where
  prog := P
  w := w
  K := K
  mg := mg
  base := base
  A := A.deeper (PySem.W.ksEnv qual scope s.heap.objs.size f cd cc)
  N := N
  s_0 := s
  H_0 := H
  env := PySem.W.ksEnv qual scope s.heap.objs.size f cd cc
  outer := outer
  stack := PySem.W.ksEnv qual scope s.heap.objs.size f cd cc :: outer
  ex := []
  calm := true
  fn := fun _ => false
  pn := []
  xe := fun e s' => wpAny (model P w) (A.deeper (PySem.W.ksEnv qual scope s.heap.objs.size f cd cc)) (leaving (PySem.W.ksEnv qual scope s.heap.objs.size f cd cc) e) (fun _ s'' => CX outer H s E e s'') (fun e' s'' => CX outer H s E e' s'') s'
theorem one_cell {cc c : Addr} {y : Str} (e : ([(("__class__" : Str), cc)] : List (Str × Addr)).lookup y = some c) : y = ("__class__" : Str) ∧ c = cc := by
  by_cases h : y = ("__class__" : Str)
  · subst h
    simp [List.lookup] at e
    exact ⟨rfl, e.symm⟩
  · have z : (y == ("__class__" : Str)) = false := by simpa using h
    simp [List.lookup, z] at e
theorem inv_startC {CX : CXT} {P : Program} {w : World} {K : PySem.W.Frag} {mg : Str → Option Value} {base : Heap} {N ps : List Str} {qual : Str} {scope : Scope} {f cc : Addr} {cd : Value} {A : Around} {outer : List Env} {s : Shared} {H : Hp} {E : XK} {us : List Value} {vs : List V} {h₁ : Heap} {tk : Nat}
    {cl : Value} {cld : Option Addr} {csl : Array (Option Value)} {D : Addr} (S : SScope N ps scope) (hd : A.handled = none) (e0 : Env0 P w K mg base A outer s H) (hl : vs.length = ps.length) (r : Vals vs us)
    (hcell : K.lookup cc = some ⟨cl, cld, .cell (some (.ref D)), csl⟩) (hns : h₁.Ns s.heap.objs.size fun y => (ps.zip us).reverse.lookup y) (kp : ∀ b o, s.heap.get? b = some o → h₁.get? b = some o) :
    Inv (cxC CX P w K mg base N qual scope f cd cc A outer s H E) [] (L2.start N vs) H { s with heap := h₁, toks := tk } := by
  have hpl : ps.length ≤ N.length := by
    have q := congrArg List.length S.pre
    rw [List.length_take] at q
    omega
  have noA : ∀ b : Addr, b ∉ (cxC CX P w K mg base N qual scope f cd cc A outer s H E).ex := fun b z => absurd (show b ∈ ([] : List Addr) from z) (by simp)
  have hcc : base.get? cc = some ⟨cl, cld, .cell (some (.ref D)), csl⟩ := e0.mod.kin _ _ hcell
  refine ⟨⟨e0.mod, S.kind, rfl, rfl, Nat.le_refl _, fun y z c e1 e2 => ?_, fun y hy => ?_, fun y c z _ => ?_, fun _ => hd, Around.frames_deeper e0.frames, .inr ⟨rfl, rfl⟩, fun b z => absurd z (noA b), e0.bs, e0.bsz, fun b _ _ => noA b,
      fun b z => absurd z (noA b), e0.funs, e0.frf⟩,
    rfl, e0.bare, Un.kept kp, ⟨_, hns, fun i y v e1 e2 e3 => ?_⟩, fun y c e => ?_, e0.hok.fresh (Nat.le_refl _), fun y c e => ?_, fun q hq => absurd (show q ∈ ([] : List (Addr × Obj)) ++ [] from hq) (by simp), e0.hok.kept kp, ?_⟩
  · rw [(one_cell e1).1, (one_cell e2).1]
  · have hy : scope.names.lookup y = some .cell ∨ scope.names.lookup y = some .free := hy
    rcases hy with hy | hy
    · exact absurd rfl (S.nocell _ (PySem.mem_of_lookup hy))
    · have z : y = ("__class__" : Str) := S.free _ (PySem.mem_of_lookup hy) rfl
      subst z
      exact ⟨cc, by show List.lookup _ [(_, cc)] = _; simp [List.lookup]⟩
  · have z : false = true := z
    cases z
  · have hi : i < vs.length := by
      unfold L2.start at e2
      by_cases hi : i < vs.length
      · exact hi
      · rw [List.getElem?_append_right (by simpa using hi)] at e2
        rw [List.getElem?_replicate] at e2
        split at e2 <;> cases e2
    have ha : vs[i]? = some v := by
      unfold L2.start at e2
      rw [List.getElem?_append_left (by simpa using hi), List.getElem?_map] at e2
      cases e : vs[i]? with
      | none => rw [e] at e2; cases e2
      | some a => rw [e] at e2; cases e2; rfl
    obtain ⟨u, hu, rv⟩ := r.get ha
    have hp : ps[i]? = some y := by
      rw [← S.pre, List.getElem?_take_of_lt (by omega)]; exact e1
    have ndP : ps.Nodup := by rw [← S.pre]; exact S.nd.sublist (List.take_sublist _ _)
    exact ⟨u, rv, .inl ⟨S.par y (List.mem_of_getElem? hp), NdefX.zip_look ndP hp hu⟩⟩
  · obtain ⟨rfl, rfl⟩ := one_cell e
    exact ⟨_, _, kp _ _ (e0.bs _ _ hcc).1, rfl⟩
  · obtain ⟨rfl, rfl⟩ := one_cell e
    exact (e0.bs _ _ hcc).2
  · unfold L2.start
    show _ = N.length
    rw [List.length_append, List.length_map, List.length_replicate]
    omega
/-- a suite run as the code of its own frame -/
structure PSA (X : Cx) (st : List Stmt) (t : TS) : Prop where
  run : ∀ (bd : List Stmt) (pins : List (Addr × Obj)) (s : Shared) (σ : L2.St) (H : Hp) (D : Ends), Inv X pins σ H s → t D σ H → _root_.PySem.wpAt (model X.prog X.w) X.A (.func bd X.env) (execs st X.env) (SP X pins D) X.xe s
theorem psa_any {X : Cx} {st : List Stmt} {t : TS} (h : PSs X st t) : PSA X st t := ⟨fun _ pins s σ H D I q => wpAt_of_wpAny (h.run pins s σ H D I q)⟩
theorem psa_cons {X : Cx} {st : Stmt} {rest : List Stmt} {t u : TS} (h1 : PS X st t) (h2 : PSA X rest u) : PSA X (st :: rest) (tSeq t u) := by
  refine ⟨fun bd pins s σ H D I q => PySem.ks_wpAt_execs_cons (wpAt_of_wpAny (thn (h1.run pins s σ H _ I q) fun f s' hs => ?_))⟩
  cases f with
  | next =>
    obtain ⟨σ', H', J, q'⟩ := hs
    exact h2.run bd pins s' σ' H' D J q'
  | brk => exact hs
  | cont => exact hs
  | ret u => exact hs
theorem psa_cut {X : Cx} {st : Stmt} {rest : List Stmt} {t u : TS} (h1 : PS X st t) (h2 : PSA X rest u) : PSA X (st :: rest) (C8.tCut t u) := by
  refine ⟨fun bd pins s σ H D I q => ?_⟩
  obtain ⟨Mid, hm, hu⟩ := q
  refine PySem.ks_wpAt_execs_cons (wpAt_of_wpAny (thn (h1.run pins s σ H { D with nx := Mid } I hm) fun f s' hs => ?_))
  cases f with
  | next =>
    obtain ⟨σ', H', J, q'⟩ := hs
    exact h2.run bd pins s' σ' H' D J (hu _ _ q')
  | brk => exact hs
  | cont => exact hs
  | ret u => exact hs
/-- what K holds of a def f that says super(): its code object, its cell, the class D in it -/
structure SupAt (prog : Program) (K : PySem.W.Frag) (mg : Str → Option Value) (f cda cc D : Addr) (fd : FuncData) : Prop where
  lk : ∃ (oc : Value) (od : Option Addr) (osl : Array (Option Value)), K.lookup f = some ⟨oc, od, .func fd, osl⟩
  self : ∃ ar, (fd.params.posonlyargs ++ fd.params.args).head? = some ar ∧ ar.arg = ("self" : Str)
  code : ∃ (ccl : Value) (cdd : Option Addr) (ccs : Array (Option Value)) (vs : Array Value) (file : Str) (tf : Tok), K.lookup cda = some ⟨ccl, cdd, .fields vs, ccs⟩ ∧ vs[2]? = some (.str file tf) ∧ ((prog.main.file : Str) == file) = true
  cell : ∃ (cl : Value) (cld : Option Addr) (csl : Array (Option Value)), K.lookup cc = some ⟨cl, cld, .cell (some (.ref D)), csl⟩
  cls : ∃ cdD, PySem.W.clsIn K D = some cdD
  top : (prog.main.scope.names.lookup ("super" : Str)).isSome = false
  sup : mg "super" = none
  opq : PySem.W.nsIn K cStatics "thirdparty.any" = some none
section
variable {X : Cx} {f cda cc D x C : Addr} {fd : FuncData} {ox : Obj} {od : Option Obj}
theorem sup_base {pins : List (Addr × Obj)} {σ : L2.St} {H : Hp} {s : Shared} {bd : List Stmt} {p0 p1 : Pos} {attr : Str} {whole : Sem Value} {Q : Value → Shared → Prop} (T : SupAt X.prog X.K X.mg f cda cc D fd) (I : Inv X pins σ H s) (hσ : σ[0]? = some (some (.ref x)))
    (hI : PySem.W.InstAt s.heap x ox C od) (hsub : PySem.W.mroIn X.K C (.ref D) = some true) (h0 : X.N[0]? = some ("self" : Str)) (hks : X.env.kindOf "super" = some .globalImplicit) (hkc : X.env.kindOf "__class__" = some .free) (hke : X.env.kindOf "self" = some .local)
    (hfu : X.env.func = some f) (hco : X.env.code = .ref cda) (hce : X.env.cells.lookup ("__class__" : Str) = some cc) (hat : (attr == ("__class__" : Str)) = false)
    (h : ∀ (h' : Heap), h'.get? s.heap.objs.size = some { cls := .type "super", dict := none, data := .fields #[.ref D, .ref x, .ref C], slots := #[] } → (∀ b o, s.heap.get? b = some o → h'.get? b = some o) → Q (.ref s.heap.objs.size) { s with heap := h' }) :
    _root_.PySem.wpAt (model X.prog X.w) X.A (.func bd X.env) (attributeBase (.Call (.Name "super" p0) [] [] p1) attr X.env whole) Q X.xe s := by
  obtain ⟨oc, odf, osl, lk⟩ := T.lk
  obtain ⟨ar, hp, har⟩ := T.self
  obtain ⟨ccl, cdd, ccs, vs, file, tf, hcode, hvs, hfile⟩ := T.code
  obtain ⟨cl, cld, csl, hcell⟩ := T.cell
  obtain ⟨cdD, hD⟩ := T.cls
  have KX := I.kIn
  have hk := I.ok.kind
  obtain ⟨oD, hD1, hD2⟩ : ∃ oD, s.heap.get? D = some oD ∧ oD.data = .cls cdD := by
    unfold PySem.W.clsIn at hD
    split at hD
    · rename_i c d cd' sl ho
      cases hD
      exact ⟨_, KX _ _ ho, rfl⟩
    · cases hD
  obtain ⟨m, hn, hl⟩ := I.loc
  obtain ⟨u, ru, hlook⟩ := hl 0 _ _ h0 hσ (.inl hke)
  obtain rfl : u = Value.ref x := ru
  have hm : m "self" = some (.ref x) := by
    rcases hlook with ⟨_, z⟩ | ⟨z, _⟩
    · exact z
    · rw [hke] at z
      rcases z with z | z <;> cases z
  obtain ⟨mb, hb1, hb2⟩ := I.mod.blt
  obtain ⟨hp0, g0, d0, tk0, os0⟩ := s
  refine PySem.ks_wpAt_super_base (env := X.env) hks hkc hat hfu (KX _ _ lk) rfl hp hco (KX _ _ hcode) rfl hvs hfile T.top ?_
  refine PySem.W.ks_loadName_global hk hks (Calls.loadGlobal_builtin (env := X.env) (by rw [I.ok.glob]; exact I.mod.glob.keeps I.bk) T.sup (by rw [I.ok.blt]; exact hb1.keeps I.bk) ((hb2 _ (by decide +kernel)).trans PySem.ErrX.boot_super) ⟨rfl, ?_⟩)
  refine wpAny_loadName_free hk hkc hce ⟨_, KX _ _ hcell, rfl⟩ ?_
  rw [har]
  refine wpAny_loadName_local hk hke hn hm ?_
  refine PySem.ks_wpAny_isType_cls hD1 hD2 ⟨rfl, ?_⟩
  refine PySem.ks_wpAny_call_super hD1 hD2 hI.at_ hI.cls (fun c e => ?_) (PySem.W.looks_mroIn KX hsub) (fun h' e k => h h' e k)
  have z := hI.no
  unfold PySem.W.notCls at z
  rw [e] at z
  exact Bool.noConfusion z
/-- super().m(e, ..), a row of its own: m a def of a class above -/
structure SupM (K : PySem.W.Frag) (C D : Addr) (m : Str) (g : Addr) : Prop where
  sub : PySem.W.mroIn K C (.ref D) = some true
  at_ : PySem.W.ks_superIn K C D m = some (some (.ref g))
  ty : PySem.W.typeIn K (.ref g) = some (.type "function")
  fn : PySem.W.fnIn K g = true
def tSup (C : Addr) (sp : Sp) (E : XK) (ta : TA) : TS := fun D σ H => ∃ (x dx : Addr) (fs : List (Str × V)), σ[0]? = some (some (.ref x)) ∧ H x = some (.ins C dx fs) ∧ ta σ H fun vs H1 => sp (.ref x :: vs) H1 (fun _ H2 => D.nx σ H2) E
theorem run_bound {CX : CXT} {k : Nat} {g q : Addr} {gd : FuncData} {ps : List Str} {sp : Sp} {E : XK} {pins : List (Addr × Obj)} {σ : L2.St} {H : Hp} {s : Shared} {Q : VK} {us : List Value} {vs : List V} (F : FnOk X.prog X.w X.K X.mg X.base CX k g gd ps sp) (hr : Room k X.A) (hb : Binds X.K gd ps [])
    (hx : Passes CX X E) (I : Inv X pins σ H s) (hq : s.heap.get? q = some { cls := .type "method", dict := none, data := .fields #[.ref g, .ref x], slots := #[] }) (r : Vals vs us) (h : sp (.ref x :: vs) H Q E) : wpAny (model X.prog X.w) X.A (call (.ref q) us) (EP X pins σ Q) X.xe s := by
  have r2 : Vals (.ref x :: vs) (.ref x :: us) := .cons rfl r
  have hl : (Value.ref x :: us).length = ps.length := by rw [← r2.length]; exact F.len _ _ _ _ h
  refine wpAny_call (PySem.ks_codeAny_call_bound hq (codeAny_mono (F.run X.A X.stack s H ⟨.ref x :: us, []⟩ (.ref x :: us) (.ref x :: vs) Q E hr I.env0 ?_ r2 h) fun r s' hq => ?_))
  · have z := hb s (.ref x :: us) I.kIn (by rw [List.append_nil]; exact hl)
    rw [List.append_nil] at z
    exact z
  · cases r with
    | error e => exact hx pins σ H s e s' I hq
    | ok fl =>
      cases fl with
      | ret u => exact I.after hq
      | next => exact False.elim hq
      | brk => exact False.elim hq
      | cont => exact False.elim hq
theorem psa_sup {CX : CXT} {k : Nat} {g : Addr} {gd : FuncData} {ps : List Str} {sp : Sp} {E : XK} {e : Expr} {es : List Expr} {ta : TA} {m : Str} {q0 q1 q2 q4 q5 : Pos} {rest : List Stmt} {u : TS} (T : SupAt X.prog X.K X.mg f cda cc D fd) (M : SupM X.K C D m g)
    (F : FnOk X.prog X.w X.K X.mg X.base CX k g gd ps sp) (hr : Room k X.A) (hb : Binds X.K gd ps []) (hx : Passes CX X E) (ha : PA X (e :: es) ta) (h2 : PSA X rest u)
    (h0 : X.N[0]? = some ("self" : Str) := by rfl) (hks : X.env.kindOf "super" = some .globalImplicit := by rfl) (hkc : X.env.kindOf "__class__" = some .free := by rfl) (hke : X.env.kindOf "self" = some .local := by rfl)
    (hfu : X.env.func = some f := by rfl) (hco : X.env.code = .ref cda := by rfl) (hce : X.env.cells.lookup ("__class__" : Str) = some cc := by rfl) (hat : (m == ("__class__" : Str)) = false := by decide)
    (hln : (q2.endLine == q4.line) = true := by rfl) (hmf : methodCallForm (e :: es).length (backTo q4 (starEach (e :: es) X.env)) [] = true := by rfl)
    (hi : interactive X.env = false := by rfl) (hs : swapsWith (.Call (.Attribute (.Call (.Name "super" q0) [] [] q1) m q2) (e :: es) [] q4) none q5.line X.env = pure false := by rfl)
    (hst : starEach (e :: es) X.env = (false, eval e X.env) :: starEach es X.env := by rfl) (hpl : (backTo q4 (starEach es X.env)).any (·.1) = false := by rfl) :
    PSA X (.Expr (.Call (.Attribute (.Call (.Name "super" q0) [] [] q1) m q2) (e :: es) [] q4) q5 :: rest) (tSeq (tSup C sp E ta) u) := by
  refine ⟨fun bd pins s σ H D0 I ⟨x, dx, fs, hσ, ex, q⟩ => ?_⟩
  obtain ⟨mA, O, _, _, _, _⟩ := ins_get I.hok ex
  obtain ⟨od, hI, _⟩ := O.look
  refine PySem.ks_wpAt_execs_cons (PySem.ks_wpAt_Expr_any (PySem.ks_wpAt_MethodCall ?_ (PySem.ErrX.meth_eq hln hmf)) hi hs)
  refine sup_base T I hσ hI M.sub h0 hks hkc hke hfu hco hce hat fun h' hso k1 => ?_
  have I1 : Inv X pins σ H { s with heap := h' } := I.kept k1
  have KX := I1.kIn
  have hm := M.at_
  obtain ⟨of, hof, hofc⟩ : ∃ of, h'.get? g = some of ∧ of.cls = .type "function" := by
    have ht' : (X.K.lookup g).map (·.cls) = some (.type "function") := M.ty
    cases z : X.K.lookup g with
    | none => rw [z] at ht'; cases ht'
    | some of => rw [z] at ht'; exact ⟨of, KX _ _ z, Option.some.inj ht'⟩
  obtain ⟨_, O1, _, _, _, _⟩ := ins_get I1.hok ex
  obtain ⟨od1, hI1, _⟩ := O1.look
  obtain ⟨hp0, g0, d0, tk0, os0⟩ := s
  cases hc : PySem.W.clsIn X.K C with
  | none => unfold PySem.W.ks_superIn at hm; rw [hc] at hm; cases hm
  | some cd =>
    unfold PySem.W.ks_superIn at hm
    rw [hc] at hm
    refine PySem.ks_wpAny_getMethod_super hso (PySem.W.looks_opaque KX T.opq) (l₀ := cd.mro) (fun A Q E s k q => wpAny_bind ((PySem.W.looks_clsIn KX hc) A _ E s k (wpAny_pure q))) rfl KX hm hof hofc (PySem.W.ks_ne KX hI1 hc) hat ?_
    have k2 : ∀ b o, hp0.get? b = some o → (h'.push { cls := .type "method", data := .fields #[.ref g, .ref x] }).get? b = some o := fun b o z => Heap.get?_push_of_some _ (k1 b o z)
    have I2 := I.kept (t' := tk0 + 1) k2
    have hq : (h'.push { cls := .type "method", data := .fields #[.ref g, .ref x] }).get? h'.objs.size = some { cls := .type "method", dict := none, data := .fields #[.ref g, .ref x], slots := #[] } := Heap.get?_push_at rfl rfl
    have hz : hp0.objs.size ≤ h'.objs.size := Nat.le_of_lt (Heap.lt_size hso)
    have I3 : Inv X (pins ++ [(h'.objs.size, ({ cls := .type "method", dict := none, data := .fields #[.ref g, .ref x], slots := #[] } : Obj))]) σ H _ := I2.pins_of fun p hp => by
      rcases List.mem_append.mp hp with hp | hp
      · exact I2.pin p (List.mem_append_right _ hp)
      · rw [List.mem_singleton] at hp
        subst hp
        exact ⟨hq, I.hok.fresh hz, Nat.ne_of_gt (Nat.lt_of_lt_of_le I.lt hz), I.nofs hz, fun v z => by cases z⟩
    rw [hst]
    refine PySem.W.callWith_of (P := PySem.W.MethP X.K h'.objs.size g (.ref x)) (by show ((false || (backTo q4 (starEach es X.env)).any (·.1)) || false) = false; rw [hpl]; rfl) (PySem.W.keeps_M M.fn) (PySem.Calls.evalArgs_plain ?_)
    have hrun := ha.run q4 _ _ σ H _ I3 q
    rw [hst] at hrun
    refine thn hrun fun us s2 ⟨vs, H2, I4, r, q2⟩ => ?_
    have hq4 := (I4.pin _ (List.mem_append_right _ (List.mem_append_right _ (List.mem_singleton.mpr rfl)))).1
    refine ⟨⟨hq4, I4.kIn⟩, thn (run_bound F hr hb hx I4.unpinned hq4 r q2) fun v s3 ⟨v', H3, I5, _, q3⟩ => ?_⟩
    exact h2.run bd pins s3 σ H3 D0 I5 q3
/-- super().__init__(e, ..) of an error that is being made: ValueError.__init__, nothing of it is told -/
structure SupE (K : PySem.W.Frag) (C D : Addr) : Prop where
  ox : OexC K C
  sub : PySem.W.mroIn K C (.ref D) = some true
  at_ : PySem.W.ks_superIn K C D "__init__" = some (some (.builtin "ValueError.__init__"))
  ve : PySem.W.subIn K (.ref C) (.type "ValueError") = some true
def tSupE (C : Addr) (ta : TA) : TS := fun D σ H => ∃ x : Addr, σ[0]? = some (some (.ref x)) ∧ H x = some (exo x C none) ∧ ta σ H fun vs H1 => H1 x = some (exo x C none) ∧ vs.length ≤ 1000 ∧ D.nx σ H1
theorem psa_supE {e : Expr} {es : List Expr} {ta : TA} {q0 q1 q2 q4 q5 : Pos} {rest : List Stmt} {u : TS} (T : SupAt X.prog X.K X.mg f cda cc D fd) (M : SupE X.K C D) (ha : PA X (e :: es) ta) (h2 : PSA X rest u)
    (h0 : X.N[0]? = some ("self" : Str) := by rfl) (hks : X.env.kindOf "super" = some .globalImplicit := by rfl) (hkc : X.env.kindOf "__class__" = some .free := by rfl) (hke : X.env.kindOf "self" = some .local := by rfl)
    (hfu : X.env.func = some f := by rfl) (hco : X.env.code = .ref cda := by rfl) (hce : X.env.cells.lookup ("__class__" : Str) = some cc := by rfl)
    (hln : (q2.endLine == q4.line) = true := by rfl) (hmf : methodCallForm (e :: es).length (backTo q4 (starEach (e :: es) X.env)) [] = true := by rfl)
    (hi : interactive X.env = false := by rfl) (hs : swapsWith (.Call (.Attribute (.Call (.Name "super" q0) [] [] q1) "__init__" q2) (e :: es) [] q4) none q5.line X.env = pure false := by rfl)
    (hst : starEach (e :: es) X.env = (false, eval e X.env) :: starEach es X.env := by rfl) (hpl : (backTo q4 (starEach es X.env)).any (·.1) = false := by rfl) :
    PSA X (.Expr (.Call (.Attribute (.Call (.Name "super" q0) [] [] q1) "__init__" q2) (e :: es) [] q4) q5 :: rest) (tSeq (tSupE C ta) u) := by
  refine ⟨fun bd pins s σ H D0 I ⟨x, hσ, ex, q⟩ => ?_⟩
  obtain ⟨nm, qn, N, bs, bm, sn, sub, ab, col, dd, k0, k1, k2, k3, k5, hC, hbm⟩ := M.ox.cls
  have hcl : PySem.W.clsIn X.K C = some { name := nm, bases := bs, mro := .ref C :: bm, ns := N, qualname := qn, hasDict := true, slotNames := sn, subclasses := sub, abstract := ab, collection := col, hasDel := false } := by unfold PySem.W.clsIn; rw [hC] <;> rfl
  obtain ⟨t1, ho⟩ := exo_at I.hok ex
  have hI : PySem.W.InstAt s.heap x ({ cls := .ref C, dict := none, data := .fields #[.ref t1, .none, .none, .none, .bool false, .none] } : Obj) C none := ⟨ho, rfl, rfl, trivial⟩
  refine PySem.ks_wpAt_execs_cons (PySem.ks_wpAt_Expr_any (PySem.ks_wpAt_MethodCall ?_ (PySem.ErrX.meth_eq hln hmf)) hi hs)
  refine sup_base T I hσ hI M.sub h0 hks hkc hke hfu hco hce (by decide) fun h' hso k1' => ?_
  have I1 : Inv X pins σ H { s with heap := h' } := I.kept k1'
  have KX := I1.kIn
  have hm := M.at_
  have hI1 : PySem.W.InstAt h' x ({ cls := .ref C, dict := none, data := .fields #[.ref t1, .none, .none, .none, .bool false, .none] } : Obj) C none := ⟨k1' _ _ ho, rfl, rfl, trivial⟩
  have hII : PySem.W.Looks (model X.prog X.w) h' (isInstance (.ref x) (.type "ValueError")) true := hI1.type.andThen (PySem.W.looks_subIn KX M.ve)
  obtain ⟨hp0, g0, d0, tk0, os0⟩ := s
  unfold PySem.W.ks_superIn at hm
  rw [hcl] at hm
  refine PySem.W.kxs_getMethod PySem.W.kxs_ValueError hso (PySem.W.looks_opaque KX T.opq) (l₀ := .ref C :: bm) (fun A Q E s k q => wpAny_bind ((PySem.W.looks_clsIn KX hcl) A _ E s k (wpAny_pure q))) rfl KX hm hII (PySem.W.ks_ne KX hI1 hcl) (by decide) ?_
  have k2 : ∀ b o, hp0.get? b = some o → (h'.push (PySem.W.kxs_mw "ValueError.__init__" x)).get? b = some o := fun b o z => Heap.get?_push_of_some _ (k1' b o z)
  have I2 := I.kept (t' := tk0 + 1) k2
  have hq : (h'.push (PySem.W.kxs_mw "ValueError.__init__" x)).get? h'.objs.size = some (PySem.W.kxs_mw "ValueError.__init__" x) := Heap.get?_push_at rfl rfl
  have hz : hp0.objs.size ≤ h'.objs.size := Nat.le_of_lt (Heap.lt_size hso)
  have I3 : Inv X (pins ++ [(h'.objs.size, PySem.W.kxs_mw "ValueError.__init__" x)]) σ H _ := I2.pins_of fun p hp => by
    rcases List.mem_append.mp hp with hp | hp
    · exact I2.pin p (List.mem_append_right _ hp)
    · rw [List.mem_singleton] at hp
      subst hp
      exact ⟨hq, I.hok.fresh hz, Nat.ne_of_gt (Nat.lt_of_lt_of_le I.lt hz), I.nofs hz, fun v z => by cases z⟩
  rw [hst]
  refine PySem.W.kxs_callWith (i := "ValueError.__init__") (x := x) (by show (false || (backTo q4 (starEach es X.env)).any (·.1)) = false; rw [hpl]; rfl) (PySem.Calls.evalArgs_plain ?_)
  have hrun := ha.run q4 _ _ σ H _ I3 q
  rw [hst] at hrun
  refine thn hrun fun us s2 ⟨vs, H2, I4, r, ex2, hlen, q2⟩ => ?_
  have hq4 := (I4.pin _ (List.mem_append_right _ (List.mem_append_right _ (List.mem_singleton.mpr rfl)))).1
  have I5 := I4.unpinned
  obtain ⟨t2, ho2⟩ := exo_at I5.hok ex2
  obtain ⟨hp2, g2, d2, tk2, os2⟩ := s2
  refine ⟨hq4, PySem.ErrX.call_mw (I5.kIn _ _ hC) ho2 hq4 (by show us.length ≤ sizeLine; rw [← r.length, sizeLine_eq]; omega) fun h3 t3 k3' hx3 => ?_⟩
  have J := I5.write (t' := tk2) (x := x) (e := x) (o := exo x C none) (by rw [ex2]; exact True.intro) (.inl rfl) k3' ⟨_, hx3⟩ (exo_ok hx3)
  have eu : upd H2 x (exo x C none) = H2 := by
    funext b
    by_cases hb : b = x
    · rw [hb, upd_same, ex2]
    · rw [upd_ne hb]
  rw [eu] at J
  exact h2.run bd pins _ σ H2 D0 J q2
end
/-- THE RULE for a def that says super() -/
theorem fnC_of {CX : CXT} {P : Program} {w : World} {K : PySem.W.Frag} {mg : Str → Option Value} {base : Heap} {k : Nat} {f cc D : Addr} {name qual : Str} {params : Arguments} {body : List Stmt} {scope : Scope} {dV kV doc pm cdv ct oc cl : Value} {an od cld : Option Addr}
    {osl csl : Array (Option Value)} {N ps : List Str} {sp : Sp} (lk : K.lookup f = some ⟨oc, od, .func (PySem.W.ksFn name qual params body scope dV kV doc pm an cdv ct cc), osl⟩) (hcd : PySem.W.codeIn K cdv qual = true) (hcell : K.lookup cc = some ⟨cl, cld, .cell (some (.ref D)), csl⟩) (S : SScope N ps scope)
    (len : ∀ vs H Q E, sp vs H Q E → vs.length = ps.length)
    (hbody : ∀ (A : Around) (outer : List Env) (s : Shared) (H : Hp) (vs : List V) (Q : VK) (E : XK), Room k (A.deeper (PySem.W.ksEnv qual scope s.heap.objs.size f cdv cc)) → sp vs H Q E →
      ∃ t, PSA (cxC CX P w K mg base N qual scope f cdv cc A outer s H E) body t ∧ t { nx := fun _ H' => Q .non H', rt := Q } (L2.start N vs) H) :
    FnOk P w K mg base CX (k + 1) f (PySem.W.ksFn name qual params body scope dV kV doc pm an cdv ct cc) ps sp := by
  refine ⟨len, fun A outer s H args us vs Q E hr e0 hb r hsp => ?_⟩
  have hl := len _ _ _ _ hsp
  have KX : K.In s.heap := e0.mod.kin.keeps fun b o e => (e0.bs b o e).1
  have lim : s.heap.NoLimit := e0.mod.nolimit.keeps fun b o e => (e0.bs b o e).1
  obtain ⟨t, ht, hq⟩ := hbody A outer s H vs Q E (hr.deeper _) hsp
  refine PySem.ks_codeAny_call_defAt (fd := PySem.W.ksFn name qual params body scope dV kV doc pm an cdv ct cc) (body := body) (binds := ps.zip us) hr.depth (KX _ _ lk) rfl lim (PySem.W.codeRec_of KX hcd) rfl hb S.nocell
    (fun ⟨n, _⟩ hy => S.par n (List.of_mem_zip hy).1) (fun h₁ hns kp => ?_) S.co S.gen S.kind
  have I : Inv (cxC CX P w K mg base N qual scope f cdv cc A outer s H E) [] (L2.start N vs) H { s with heap := h₁, toks := s.toks + (ps.zip us).length } := inv_startC S hr.hd e0 hl r hcell hns kp
  refine PySem.wpAt_mono (ht.run body [] _ (L2.start N vs) H _ I hq) (fun fl s' hs => ?_) fun e s' hs => hs
  have fin : ∀ {σ' : L2.St} {H' : Hp} {v : V} {u : Value}, Inv (cxC CX P w K mg base N qual scope f cdv cc A outer s H E) [] σ' H' s' → L2.RelV v u → Q v H' → CE outer P w H s Q u s' :=
    fun {σ' H' v u} J rv q => ⟨v, H', J.os, J.bare, J.base, J.hok, rv, q⟩
  cases fl with
  | ret u =>
    obtain ⟨v, σ', H', J, rv, q⟩ := hs
    exact fin J rv q
  | next =>
    obtain ⟨σ', H', J, q⟩ := hs
    exact fin (v := V.non) (u := Value.none) J rfl q
  | brk =>
    obtain ⟨_, _, _, q⟩ := hs
    exact False.elim q
  | cont =>
    obtain ⟨_, _, _, q⟩ := hs
    exact False.elim q
end SupX

/-! Own errors held as values: made, asked by isinstance, their fields read. -/
namespace L2
open PySem PySem.Spec PyProof.Rows
/-- an error of the class at C with the fields fs, not raised -/
def ErrAt (H : Hp) (a C : Addr) (fs : List (Str × V)) : Prop := (fs = [] ∧ H a = some (exo a C none)) ∨ ∃ dx, H a = some (exo a C (some dx)) ∧ H dx = some (exd dx fs)
/-- what the class must say so that its instances are asked rightly -/
structure ErrC (K : PySem.W.Frag) (C : Addr) : Prop where
  cl : PySem.W.isClsIn K C = true
  ga : PySem.W.findIn K (.ref C) "__getattribute__" = some (some (.builtin "BaseException.__getattribute__"))
  gg : PySem.W.findIn K (.ref C) "__getattr__" = some none
  ex : PySem.W.subIn K (.ref C) (.type "BaseException") = some true
  ca : PySem.W.findIn K (.ref C) "__class__" = some (some (.builtin "object.__class__"))
  cg : PySem.W.specialIn K (.builtin "object.__class__") "__get__" = some (some (.builtin "getset_descriptor.__get__"))
  ct : PySem.W.takesIn K (.builtin "object.__class__") = some true
  co : PySem.W.mroIn K C (.type "object") = some true
  hd : PySem.W.hasDictIn K C = true
section
variable {X : Cx} {x f : Str} {C fI : Addr}
theorem ErrAt.inst {pins : List (Addr × Obj)} {σ : St} {H : Hp} {s : Shared} {a : Addr} {fs : List (Str × V)} (I : Inv X pins σ H s) (h : ErrAt H a C fs) : ∃ ox od, PySem.W.InstAt s.heap a ox C od := by
  rcases h with ⟨_, h⟩ | ⟨dx, h, hd⟩
  · obtain ⟨t1, ho⟩ := exo_at I.hok h
    exact ⟨_, none, ho, rfl, rfl, trivial⟩
  · obtain ⟨t1, ho⟩ := exo_at I.hok h
    obtain ⟨mA, ⟨o, es, ep, e1, _⟩, _⟩ := exd_at I.hok hd
    exact ⟨_, some o, ho, rfl, rfl, e1⟩
/-- isinstance(e, c), e such an error -/
def rIsX (K : PySem.W.Frag) : List V → Hp → VK → Prop := fun xs H Q => ∃ (a C : Addr) (fs : List (Str × V)) (c : V) (cv : Value) (b : Bool), xs = [.ref a, c] ∧ ErrAt H a C fs ∧ ErrC K C ∧ ClsV c cv ∧ PySem.W.kitOne K (.ref C) cv = some b ∧ Q (.bl b) H
theorem call_isX : CallR X (.builtin "isinstance") (rIsX X.K) := by
  intro pins s σ H xs us Q I r h
  obtain ⟨a, C, fs, c, cv, b, rfl, ha, T, hc, e, q⟩ := h
  obtain ⟨u1, u2, rfl, r1, r2⟩ := vals2 r
  have e2 := hc.eq r2
  subst e2
  cases (show u1 = Value.ref a from r1)
  obtain ⟨ox, od, J⟩ := ha.inst I
  exact PySem.W.kia_one (PySem.W.kitx_exc T.cl T.ga T.gg T.ex T.ca T.cg T.ct T.co) I.kIn J e (fun z => nomatch z) fun tk => ⟨.bl b, H, I.tok tk, rfl, q⟩
/-- e.f -/
def tEf (K : PySem.W.Frag) (f : Str) (te : TE) : TE := fun σ H Q => te σ H fun y H1 => ∃ (a C : Addr) (fs : List (Str × V)) (v : V), y = .ref a ∧ ErrC K C ∧ PySem.W.findIn K (.ref C) f = some none ∧ ErrAt H1 a C fs ∧ fs.lookup f = some v ∧ Q v H1
theorem pe_ef {e : Expr} {te : TE} {pos : Pos} (he : PE X e te) (hb : attributeBase e f X.env (eval e X.env) = eval e X.env := by rfl) : PE X (.Attribute e f pos) (tEf X.K f te) := by
  refine ⟨fun pins s σ H Q I h => ?_⟩
  refine attr_of hb (thn (he.run pins s σ H _ I h) fun u s1 hh => ?_)
  obtain ⟨y, H1, I1, rx, a, C, fs, v, rfl, T, hno, hE, l, q⟩ := hh
  obtain rfl : u = Value.ref a := rx
  rcases hE with ⟨z, _⟩ | ⟨dx, ea, ed⟩
  · subst z
    cases l
  · obtain ⟨t1, ho⟩ := exo_at I1.hok ea
    obtain ⟨mA, hns, hr⟩ := exd_at I1.hok ed
    obtain ⟨od, ho2, hl⟩ := lookIn_ns hns
    obtain ⟨u, hu, ru⟩ := RelO.some_of (v := v) (o := mA f) (by rw [← l]; exact hr f)
    have J : PySem.W.InstAt s1.heap a _ C (some od) := ⟨ho, rfl, rfl, ho2⟩
    exact HandSPX.exc_get I1.kIn J T.ga T.gg T.ex (PySem.W.findObj_own T.hd hno rfl (by rw [hl, hu])) (handed_of ru) ⟨v, H1, I1.tok _, ru, q⟩
/-- x(e) as a value, an error with one field f -/
def tErrV (C : Addr) (f : Str) (ta : TA) : TE := fun σ H Q => ta σ H fun vs H1 => ∃ v, vs = [v] ∧ ∀ e d, H1 e = none → H1 d = none → d ≠ e → Q (.ref e) (upd (upd H1 d (exd d [(f, v)])) e (exo e C (some d)))
theorem pe_errV {a : Expr} {ta : TA} {p pos : Pos} {k : Nat} (T : PySem.ErrX.ErrTxt X.prog X.K X.mg x f C fI) (hr : Room k X.A) (ha : PA X [a] ta) (hg : Gl X x := by rfl) (hdb : (x == ("__debug__" : Str)) = false := by decide)
    (he : starEach (a :: []) X.env = (false, eval a X.env) :: starEach [] X.env := by rfl) (hpl : (backTo pos (starEach [] X.env)).any (·.1) = false := by rfl) :
    PE X (.Call (.Name x p) [a] [] pos) (tErrV C f ta) := by
  refine ⟨fun pins s σ H Q I h => ?_⟩
  refine wpAny_Call_Name_kw (ld_glob I hg T.gC ?_ hdb)
  refine PySem.W.callWith_K (h₀ := X.base) I.ok.mod.kin T.kC (thn (ha.run pos pins s σ H _ I h) fun us s1 hh => ?_) he hpl
  obtain ⟨vs, H1, I1, r1, v, ev, q1⟩ := hh
  subst ev
  refine ⟨I1.kIn, ?_⟩
  cases r1 with
  | cons rv rn =>
    rename_i v' us'
    cases rn
    show wpAny _ _ (call (.ref C) [v']) _ _ _
    have hlim := I1.nolimit
    have hG := I1.mod.glob.keeps I1.bk
    obtain ⟨mb, hb1, hb2⟩ := I1.mod.blt
    have hB := hb1.keeps I1.bk
    obtain ⟨hp, g, dr, tk, os⟩ := s1
    refine wpAny_call (PySem.ErrX.err_made T I1.kIn hlim hG ⟨mb, hB, hb2⟩ (by have := hr.dp; omega) fun h' tk' e d M => ?_)
    obtain ⟨t1, hoe⟩ := M.obj
    have hns := M.ns
    obtain ⟨G', g1, g2⟩ := restrict h' fun b => decide (b ≠ e)
    have gk : ∀ b, b ≠ e → G'.get? b = h'.get? b := fun b hb => g1 b (decide_eq_true hb)
    have ge : G'.get? e = none := g2 e (by simp)
    have old : ∀ b o, hp.get? b = some o → G'.get? b = some o := fun b o q => (gk b (Nat.ne_of_lt (Nat.lt_of_lt_of_le (Heap.lt_size q) M.new))).trans (M.keep b o q)
    have ob : ObjOk X.prog X.w (upd H1 d (exd d [(f, v)])) G' d (exd d [(f, v)]) := exd_ok (hns.at (fun o q => (gk d M.dne).trans q)) fun f => relO_one rv f
    have J : Inv X pins σ (upd H1 d (exd d [(f, v)])) ⟨G', g, dr, tk', os⟩ := I1.laid (t' := tk') old M.dbig ob
    have n1 : upd H1 d (exd d [(f, v)]) e = none := by
      rw [upd_ne (Ne.symm M.dne)]
      exact I1.hok.fresh M.new
    have J2 : Inv X pins σ (upd (upd H1 d (exd d [(f, v)])) e (exo e C (some d))) ⟨h', g, dr, tk', os⟩ := J.laidN (t' := tk') (h' := h') (fun b o q => by
      by_cases hb : b = e
      · have q' : G'.get? b = some o := q
        rw [hb, ge] at q'
        cases q'
      · exact (gk b hb).symm.trans q) ge n1 (exo_ok hoe)
    exact ⟨.ref e, _, J2, rfl, q1 e d (I1.hok.fresh M.new) (I1.hok.fresh M.dbig) M.dne⟩
/-- x(e, ..) as a value, by the error's __init__ that keeps sp -/
def tMkE (C : Addr) (sp : Sp) (ta : TA) : TE := fun σ H Q => ta σ H fun vs H1 => vs.length ≤ 1000 ∧ ∀ a, H1 a = none → sp (.ref a :: vs) (upd H1 a (exo a C none)) (fun v H2 => v = .non ∧ Q (.ref a) H2) (fun _ _ _ => False)
theorem mkE_run {CX : CXT} {k : Nat} {fd : FuncData} {ps : List Str} {sp : Sp} {pins : List (Addr × Obj)} {σ : St} {H : Hp} {s : Shared} {Q : VK} {us : List Value} {vs : List V} (T : OexC X.K C) (iC : PySem.W.findIn X.K (.ref C) "__init__" = some (some (.ref fI))) (tI : PySem.W.typeIn X.K (.ref fI) = some (.type "function"))
    (F1 : FnOk X.prog X.w X.K X.mg X.base CX k fI fd ps sp) (hr : Room (k + 1) X.A) (hb : Binds X.K fd ps []) (hx : Passes CX X (fun _ _ _ => False)) (I1 : Inv X pins σ H s) (r1 : Vals vs us) (hz : vs.length ≤ 1000)
    (q1 : ∀ a, H a = none → sp (.ref a :: vs) (upd H a (exo a C none)) (fun v H2 => v = .non ∧ Q (.ref a) H2) (fun _ _ _ => False)) : wpAny (model X.prog X.w) X.A (call (.ref C) us) (EP X pins σ Q) X.xe s := by
  obtain ⟨nm, q, N, bs, bm, sn, sub, ab, col, dd, k0, k1, k2, k3, k5, hC, hbm⟩ := T.cls
  obtain ⟨hp, g, dr, tk, os⟩ := s
  have hsz : hp.objs.size ≤ hp.objs.size + 1 := Nat.le_succ _
  have hn : H (hp.objs.size + 1) = none := I1.hok.fresh hsz
  have hq := q1 (hp.objs.size + 1) hn
  have kk : ∀ b o, hp.get? b = some o → ((hp.push (PySem.W.kdv_tup us)).push (PySem.HandSPX.excO C hp.objs.size)).get? b = some o := fun b o e => Heap.get?_push_of_some _ (Heap.get?_push_of_some _ e)
  have hget : ((hp.push (PySem.W.kdv_tup us)).push (PySem.HandSPX.excO C hp.objs.size)).get? (hp.objs.size + 1) = some (PySem.HandSPX.excO C hp.objs.size) := by heap_get
  have I2 : Inv X pins σ (upd H (hp.objs.size + 1) (exo (hp.objs.size + 1) C none)) ⟨(hp.push (PySem.W.kdv_tup us)).push (PySem.HandSPX.excO C hp.objs.size), g, dr, tk, os⟩ := I1.laid (t' := tk) kk hsz (exo_ok hget)
  have r2 : Vals (V.ref (hp.objs.size + 1) :: vs) (Value.ref (hp.objs.size + 1) :: us) := .cons rfl r1
  have hl : (Value.ref (hp.objs.size + 1) :: us).length = ps.length := by rw [← r2.length]; exact F1.len _ _ _ _ hq
  have hus : us.length ≤ sizeLine := by rw [← Paired.length r1, sizeLine_eq]; omega
  have hbb : BindsTo ⟨(hp.push (PySem.W.kdv_tup us)).push (PySem.HandSPX.excO C hp.objs.size), g, dr, tk, os⟩ fd ⟨Value.ref (hp.objs.size + 1) :: us, []⟩ (ps.zip (Value.ref (hp.objs.size + 1) :: us)) := by
    have z := hb ⟨(hp.push (PySem.W.kdv_tup us)).push (PySem.HandSPX.excO C hp.objs.size), g, dr, tk, os⟩ (Value.ref (hp.objs.size + 1) :: us) I2.kIn (by rw [List.append_nil]; exact hl)
    rw [List.append_nil] at z
    exact z
  refine wpAny_call (PySem.HandSPX.call_own F.excBase_ValueError (fun Y => PySem.HandSPX.refsVE_contains Y bm hbm) (I1.kIn _ _ hC) (PySem.W.looks_findIn I1.kIn iC) (fun self => PySem.W.bind_fn I1.kIn self tI) hus
    (codeAny_mono (F1.run _ X.stack _ _ ⟨Value.ref (hp.objs.size + 1) :: us, []⟩ (Value.ref (hp.objs.size + 1) :: us) _ _ (fun _ _ _ => False) (hr.make C us []) (I2.env0.make C us []) hbb r2 hq) fun r s' hq' => ?_))
  cases r with
  | error er => exact hx pins σ _ _ er s' I2 hq'
  | ok fl =>
    cases fl with
    | ret u =>
      obtain ⟨v, H2, os2, bare2, un2, hok2, rv, ev, q2⟩ := hq'
      subst ev
      obtain ⟨h2, g2, d2, t2, os'⟩ := s'
      refine ⟨rv, .ref _, H2, ?_, rfl, q2⟩
      exact I2.call' (ch := []) os2 un2 hok2 bare2 (fun b z => absurd z (by simp))
    | next => exact False.elim hq'
    | brk => exact False.elim hq'
    | cont => exact False.elim hq'
theorem pe_mkE {CX : CXT} {k : Nat} {fd : FuncData} {ps : List Str} {sp : Sp} {e : Expr} {es : List Expr} {ta : TA} {p pos : Pos} (T : OexC X.K C) (iC : PySem.W.findIn X.K (.ref C) "__init__" = some (some (.ref fI))) (tI : PySem.W.typeIn X.K (.ref fI) = some (.type "function"))
    (F1 : FnOk X.prog X.w X.K X.mg X.base CX k fI fd ps sp) (hr : Room (k + 1) X.A) (hb : Binds X.K fd ps []) (hx : Passes CX X (fun _ _ _ => False)) (hg : Gl X x) (hm : X.mg x = some (.ref C)) (ha : PA X (e :: es) ta)
    (hdb : (x == ("__debug__" : Str)) = false := by decide) (he : starEach (e :: es) X.env = (false, eval e X.env) :: starEach es X.env := by rfl) (hpl : (backTo pos (starEach es X.env)).any (·.1) = false := by rfl) :
    PE X (.Call (.Name x p) (e :: es) [] pos) (tMkE C sp ta) := by
  refine ⟨fun pins s σ H Q I h => ?_⟩
  refine wpAny_Call_Name_kw (ld_glob I hg hm ?_ hdb)
  exact PySem.W.callWith_K (h₀ := X.base) I.ok.mod.kin T.kC (thn (ha.run pos pins s σ H _ I h) fun us s1 ⟨vs, H1, I1, r1, hz, q1⟩ => ⟨I1.kIn, mkE_run T iC tI F1 hr hb hx I1 r1 hz q1⟩) he hpl
theorem pe_mkE0 {CX : CXT} {k : Nat} {fd : FuncData} {ps : List Str} {sp : Sp} {p pos : Pos} (T : OexC X.K C) (iC : PySem.W.findIn X.K (.ref C) "__init__" = some (some (.ref fI))) (tI : PySem.W.typeIn X.K (.ref fI) = some (.type "function"))
    (F1 : FnOk X.prog X.w X.K X.mg X.base CX k fI fd ps sp) (hr : Room (k + 1) X.A) (hb : Binds X.K fd ps []) (hx : Passes CX X (fun _ _ _ => False)) (hg : Gl X x) (hm : X.mg x = some (.ref C)) (hdb : (x == ("__debug__" : Str)) = false := by decide) :
    PE X (.Call (.Name x p) [] [] pos) (tMkE C sp tNil) := by
  refine ⟨fun pins s σ H Q I h => ?_⟩
  refine wpAny_Call_Name_kw (ld_glob I hg hm ?_ hdb)
  exact PySem.W.callWith_K0 I.kIn T.kC (mkE_run (vs := []) (us := []) T iC tI F1 hr hb hx I .nil (by decide) h.2)
end
/-- a def of a class body that says super(): f its function, D the class in its cell -/
structure CDef (prog : Program) (K : PySem.W.Frag) (mg : Str → Option Value) (name qual : Str) (st : Stmt) (ps : List Str) (f D : Addr) : Prop where
  ex : ∃ (cda cc : Addr) (oc kV doc pm ct cl : Value) (od an cld : Option Addr) (osl csl : Array (Option Value)),
    K.lookup f = some ⟨oc, od, .func (PySem.W.ksFn name qual (defArgs st) (defBody st) (defScope st) .none kV doc pm an (.ref cda) ct cc), osl⟩ ∧ PySem.W.codeIn K (.ref cda) qual = true ∧ K.lookup cc = some ⟨cl, cld, .cell (some (.ref D)), csl⟩ ∧
    SupX.SupAt prog K mg f cda cc D (PySem.W.ksFn name qual (defArgs st) (defBody st) (defScope st) .none kV doc pm an (.ref cda) ct cc) ∧ Binds K (PySem.W.ksFn name qual (defArgs st) (defBody st) (defScope st) .none kV doc pm an (.ref cda) ct cc) ps []
theorem cDef_mk {prog : Program} {K : PySem.W.Frag} {mg : Str → Option Value} {h : Heap} {name qual : Str} {st : Stmt} {ps : List Str} {f D cda cc : Addr} {oc kV doc pm ct cl ccl : Value} {od an cld cdd : Option Addr} {osl csl ccs : Array (Option Value)} {vs : Array Value} {file : Str} {tf : Tok} {ar : Arg}
    (KX : K.In h) (G : h.Ns mainGlobals mg) (lk : K.lookup f = some ⟨oc, od, .func (PySem.W.ksFn name qual (defArgs st) (defBody st) (defScope st) .none kV doc pm an (.ref cda) ct cc), osl⟩) (hcd : PySem.W.codeIn K (.ref cda) qual = true) (lc : K.lookup cda = some ⟨ccl, cdd, .fields vs, ccs⟩)
    (lcc : K.lookup cc = some ⟨cl, cld, .cell (some (.ref D)), csl⟩) (hD : PySem.W.isClsIn K D = true) (opq : PySem.W.nsIn K cStatics "thirdparty.any" = some none) (mS : PySem.W.nsIn K mainGlobals "super" = some none) (top : (prog.main.scope.names.lookup ("super" : Str)).isSome = false)
    (hp : ((defArgs st).posonlyargs ++ (defArgs st).args).head? = some ar) (har : ar.arg = ("self" : Str)) (hvs : vs[2]? = some (.str file tf)) (hfile : ((prog.main.file : Str) == file) = true)
    (b : ∀ (kV doc pm : Value) (an : Option Addr) (cdv ct : Value) (cc : Addr) (us : List Value), us.length = ps.length → bindArgs (PySem.W.ksFn name qual (defArgs st) (defBody st) (defScope st) .none kV doc pm an cdv ct cc) ⟨us, []⟩ = pure (ps.zip us)) : CDef prog K mg name qual st ps f D :=
  ⟨cda, cc, oc, kV, doc, pm, ct, cl, od, an, cld, osl, csl, lk, hcd, lcc, ⟨⟨_, _, _, lk⟩, ⟨ar, hp, har⟩, ⟨_, _, _, _, _, _, lc, hvs, hfile⟩, ⟨_, _, _, lcc⟩, Option.isSome_iff_exists.mp hD, top, PySem.W.mg_none_of KX G mS, opq⟩, Binds.all fun us hl => b kV doc pm an (.ref cda) ct cc us hl⟩
theorem CDef.ok {CX : CXT} {P : Program} {w : World} {K : PySem.W.Frag} {mg : Str → Option Value} {base : Heap} {k : Nat} {f D : Addr} {name qual : Str} {st : Stmt} {N ps : List Str} {sp : Sp} (C : CDef P K mg name qual st ps f D) (S : SupX.SScope N ps (defScope st)) (len : ∀ vs H Q E, sp vs H Q E → vs.length = ps.length)
    (hbody : ∀ (cda cc : Addr) (fd : FuncData) (A : Around) (outer : List Env) (s : Shared) (H : Hp) (vs : List V) (Q : VK) (E : XK), SupX.SupAt P K mg f cda cc D fd → Room k (A.deeper (PySem.W.ksEnv qual (defScope st) s.heap.objs.size f (.ref cda) cc)) → sp vs H Q E →
      ∃ t, SupX.PSA (SupX.cxC CX P w K mg base N qual (defScope st) f (.ref cda) cc A outer s H E) (defBody st) t ∧ t { nx := fun _ H' => Q .non H', rt := Q } (start N vs) H) : FOk P w K mg base CX (k + 1) f ps sp := by
  obtain ⟨cda, cc, oc, kV, doc, pm, ct, cl, od, an, cld, osl, csl, lk, hcd, lcc, T, b⟩ := C.ex
  exact ⟨_, SupX.fnC_of lk hcd lcc S len fun A outer s H vs Q E hr h => hbody cda cc _ A outer s H vs Q E T hr h, b⟩
section
variable {X : Cx} {x : Str} {C fI : Addr} {CX : CXT} {k : Nat} {ps : List Str} {sp : Sp} {e : Expr} {es : List Expr} {ta : TA} {p pos : Pos}
theorem pmkE (T : OexC X.K C) (iC : PySem.W.findIn X.K (.ref C) "__init__" = some (some (.ref fI))) (tI : PySem.W.typeIn X.K (.ref fI) = some (.type "function")) (F1 : FOk X.prog X.w X.K X.mg X.base CX k fI ps sp) (hr : Room (k + 1) X.A) (hx : Passes CX X (fun _ _ _ => False)) (hg : Gl X x) (hm : X.mg x = some (.ref C)) (ha : PA X (e :: es) ta)
    (hdb : (x == ("__debug__" : Str)) = false := by decide) (he : starEach (e :: es) X.env = (false, eval e X.env) :: starEach es X.env := by rfl) (hpl : (backTo pos (starEach es X.env)).any (·.1) = false := by rfl) :
    PE X (.Call (.Name x p) (e :: es) [] pos) (tMkE C sp ta) := let ⟨_, G, b⟩ := F1; pe_mkE T iC tI G hr b hx hg hm ha hdb he hpl
theorem pmkE0 (T : OexC X.K C) (iC : PySem.W.findIn X.K (.ref C) "__init__" = some (some (.ref fI))) (tI : PySem.W.typeIn X.K (.ref fI) = some (.type "function")) (F1 : FOk X.prog X.w X.K X.mg X.base CX k fI ps sp) (hr : Room (k + 1) X.A) (hx : Passes CX X (fun _ _ _ => False)) (hg : Gl X x) (hm : X.mg x = some (.ref C))
    (hdb : (x == ("__debug__" : Str)) = false := by decide) : PE X (.Call (.Name x p) [] [] pos) (tMkE C sp tNil) := let ⟨_, G, b⟩ := F1; pe_mkE0 T iC tI G hr b hx hg hm hdb
end
/-! ### short forms -/
theorem ErrAt.same {H H' : Hp} {a C : Addr} {fs : List (Str × V)} (h : ErrAt H a C fs) (e : Same H H') : ErrAt H' a C fs := by
  rcases h with ⟨z, h⟩ | ⟨dx, h, hd⟩
  · exact .inl ⟨z, e _ _ h⟩
  · exact .inr ⟨dx, e _ _ h, e _ _ hd⟩
theorem same_upd {H : Hp} {p : Addr} {o : HO} (h : H p = none) : Same H (upd H p o) := fun b u e => by rw [upd_ne (ne_of_none e h)]; exact e
theorem errV_ok {C : Addr} {f : Str} {v : V} {H1 : Hp} {Q : VK} (h : ∀ e H', Same H1 H' → ErrAt H' e C [(f, v)] → Q (.ref e) H') : ∃ v', [v] = [v'] ∧ ∀ e d, H1 e = none → H1 d = none → d ≠ e → Q (.ref e) (upd (upd H1 d (exd d [(f, v')])) e (exo e C (some d))) :=
  ⟨v, rfl, fun e d he hd ne => h e _ (fun b o hb => by rw [upd_ne (ne_of_none hb he), upd_ne (ne_of_none hb hd)]; exact hb) (.inr ⟨d, upd_same, by rw [upd_ne ne, upd_same]⟩)⟩
end L2

/-! repr of flat values; lambdas. -/
namespace L2
open PySem PySem.Spec PyProof.Rows
def reprV : V → Option Str
  | .int i => if i.natAbs.log2 < 1920 then some (toString i : String) else none
  | .bl b => some (if b then "True" else "False" : String)
  | .non => some "None"
  | .str z => if (reprText z).length ≤ sizeLine then some (reprText z) else none
  | _ => none
theorem call_repr {X : Cx} : CallR X (.builtin "repr") (fun xs H Q => ∃ y z, xs = [y] ∧ reprV y = some z ∧ Q (.str z) H) := by
  intro pins s σ H xs us Q I r h
  obtain ⟨y, z, rfl, hy, q⟩ := h
  obtain ⟨u, rfl, ry⟩ := vals1 r
  cases y with
  | int i =>
    obtain ⟨t, rfl⟩ := ry
    have hy : (if i.natAbs.log2 < 1920 then some (Str.ofString (toString i)) else none) = some z := hy
    by_cases hz : i.natAbs.log2 < 1920
    · rw [if_pos hz] at hy
      cases hy
      exact PySem.P.repr_of_int hz ⟨.str _, H, I.tok _, ⟨_, rfl⟩, q⟩
    · rw [if_neg hz] at hy
      cases hy
  | bl b =>
    cases ry
    cases hy
    cases b
    · exact PySem.P.repr_of_bool ⟨.str _, H, I.tok _, ⟨_, rfl⟩, q⟩
    · exact PySem.P.repr_of_bool ⟨.str _, H, I.tok _, ⟨_, rfl⟩, q⟩
  | non =>
    cases ry
    cases hy
    exact PySem.P.repr_of_none ⟨.str _, H, I.tok _, ⟨_, rfl⟩, q⟩
  | str x =>
    obtain ⟨t, rfl⟩ := ry
    have hy : (if (reprText x).length ≤ sizeLine then some (reprText x) else none) = some z := hy
    by_cases hz : (reprText x).length ≤ sizeLine
    · rw [if_pos hz] at hy
      cases hy
      exact PySem.P.repr_of_str ⟨.str _, H, I.tok _, ⟨_, rfl⟩, q⟩ hz
    · rw [if_neg hz] at hy
      cases hy
  | byt b => cases hy
  | flt b => cases hy
  | ref b => cases hy
  | ty b => cases hy
/-- the number of slots is known -/
theorem pss_len {X : Cx} {b : List Stmt} {t : TS} (h : PSs X b t) : PSs X b (fun D σ H => σ.length = X.N.length → t D σ H) := ⟨fun pins s σ H D I q => h.run pins s σ H D I (q I.len)⟩
end L2

/-! Rules whose reading names the written part by a letter (within comprehensions, where the context is a block's). -/
namespace L2
open PySem PySem.Spec PyProof.Rows
section
variable {X : Cx} {K : PySem.W.Frag}
theorem ix_listK (hK : X.K = K := by rfl) : IxR X (rIxL K) := hK ▸ ix_list
theorem ix_tupK (hK : X.K = K := by rfl) : IxR X (rIxT K) := hK ▸ ix_tup
theorem call_isiK' (hK : X.K = K := by rfl) : CallR X (.builtin "isinstance") (rIsi K) := hK ▸ call_isi
theorem call_isXK (hK : X.K = K := by rfl) : CallR X (.builtin "isinstance") (rIsX K) := hK ▸ call_isX
def rLenK (K : PySem.W.Frag) : List V → Hp → VK → Prop := fun xs H Q => ∃ p ys, xs = [.ref p] ∧ (SqL K H p ys ∨ SqT K H p ys) ∧ Q (.int ys.length) H
theorem call_lenK (hK : X.K = K := by rfl) : CallR X (.builtin "len") (rLenK K) := by
  subst hK
  exact call_len_seq
theorem pe_efK {e : Expr} {f : Str} {te : TE} {pos : Pos} (he : PE X e te) (hK : X.K = K := by rfl) (hb : attributeBase e f X.env (eval e X.env) = eval e X.env := by rfl) : PE X (.Attribute e f pos) (tEf K f te) := by
  subst hK
  exact pe_ef he hb
theorem op_eqDK (hu : X.A.units + 64 < cLine) (hK : X.K = K := by rfl) : OpR X (compareOp .Eq) (rEqD K) := by
  subst hK
  exact op_eqD hu
theorem op_neDK (hu : X.A.units + 64 < cLine) (hK : X.K = K := by rfl) : OpR X (compareOp .NotEq) (rNeD K) := by
  subst hK
  exact op_neD hu
end
end L2

namespace S30
open PySem L2
def top (i : Nat) : Stmt := PySem.Challenge.pw_stoppoints_k30_errors_told.main.body.getD i (.Pass ⟨0, 0, 0, 0⟩)
abbrev s_InvalidTime_init : Stmt := inClass (top 2) 0
abbrev s_InvalidName_init : Stmt := inClass (top 3) 0
abbrev s_InvalidTurns_init : Stmt := inClass (top 4) 0
abbrev s_InvalidCode_init : Stmt := inClass (top 5) 0
abbrev s_InvalidText_init : Stmt := inClass (top 6) 0
abbrev s_InvalidFunctions_init : Stmt := inClass (top 7) 0
abbrev s_UnknownName_init : Stmt := inClass (top 8) 0
abbrev s_InvalidChoice_init : Stmt := inClass (top 9) 0
abbrev s_LimitExceeded_init : Stmt := inClass (top 10) 0
abbrev s_InvalidNumber_init : Stmt := inClass (top 11) 0
abbrev s_InvalidTrail_init : Stmt := inClass (top 12) 0
abbrev s_InvalidPlace_init : Stmt := inClass (top 13) 0
abbrev s_InvalidRule_init : Stmt := inClass (top 14) 0
abbrev s_InvalidLimit_init : Stmt := inClass (top 15) 0
abbrev s_InvalidCosts_init : Stmt := inClass (top 16) 0
abbrev s_InvalidLoop_init : Stmt := inClass (top 17) 0
abbrev s_CannotInline_init : Stmt := inClass (top 18) 0
abbrev s_InvalidProgram_init : Stmt := inClass (top 19) 0
abbrev s_InvalidLine_init : Stmt := inClass (top 20) 0
abbrev s_InvalidCommand_init : Stmt := inClass (top 21) 0
abbrev s_OverLimit_init : Stmt := inClass (top 22) 0
abbrev s_NothingToUndo_init : Stmt := inClass (top 23) 0
abbrev s_NothingToRedo_init : Stmt := inClass (top 24) 0
abbrev s_law_pool : Stmt := top 26
abbrev s_law_draw : Stmt := top 27
abbrev s_law_choose : Stmt := top 28
abbrev s_law_kinds : Stmt := top 29
abbrev s_law : Stmt := top 30
/-- isinstance among the classes cs: each of itself alone -/
def kitTab (K : PySem.W.Frag) (cs : List Addr) : Bool := (List.range cs.length).all fun i => (List.range cs.length).all fun j => PySem.W.kitOne K (.ref (cs.getD i 0)) (.ref (cs.getD j 0)) == some (i == j)
def kitAll (K : PySem.W.Frag) (cs : List Addr) (v : Value) : Bool := cs.all fun c => PySem.W.kitOne K (.ref c) v == some true
theorem supE_mk {K : PySem.W.Frag} {C : Addr} {nm q : Str} {N : Addr} {bs bm : List Value} {sn : List Str} {sub : List Value} {ab : Bool} {col : Option Bool} {dd : Option Addr} {k0 k1 k2 k3 k5 : Option Value} (cls : K.lookup C = some (excClassObj nm q C N bs bm true sn sub ab col dd k0 k1 k2 k3 k5 "ValueError.__new__")) (hbm : PySem.HandSPX.refsVE bm = true)
    (sa : PySem.W.findIn K (.ref C) "__setattr__" = some (some (.builtin "object.__setattr__"))) (ex : PySem.W.subIn K (.ref C) (.type "BaseException") = some true) (ty : PySem.W.typeIn K (.ref C) = some (.type "type")) (kp : PySem.W.keepIn K (.ref C) = true) (sub' : PySem.W.mroIn K C (.ref C) = some true)
    (at_ : PySem.W.ks_superIn K C C "__init__" = some (some (.builtin "ValueError.__init__"))) (ve : PySem.W.subIn K (.ref C) (.type "ValueError") = some true) : SupX.SupE K C C :=
  ⟨⟨⟨_, _, _, _, _, _, _, _, _, _, _, _, _, _, _, cls, hbm⟩, sa, ex, ty, kp⟩, sub', at_, ve⟩
structure Ad where
  law_pool : Addr
  law_draw : Addr
  law_choose : Addr
  law_kinds : Addr
  law : Addr
  InvalidTime : Addr
  InvalidTime_init : Addr
  InvalidName : Addr
  InvalidName_init : Addr
  InvalidTurns : Addr
  InvalidTurns_init : Addr
  InvalidCode : Addr
  InvalidCode_init : Addr
  InvalidText : Addr
  InvalidText_init : Addr
  InvalidFunctions : Addr
  InvalidFunctions_init : Addr
  UnknownName : Addr
  UnknownName_init : Addr
  InvalidChoice : Addr
  InvalidChoice_init : Addr
  LimitExceeded : Addr
  LimitExceeded_init : Addr
  InvalidNumber : Addr
  InvalidNumber_init : Addr
  InvalidTrail : Addr
  InvalidTrail_init : Addr
  InvalidPlace : Addr
  InvalidPlace_init : Addr
  InvalidRule : Addr
  InvalidRule_init : Addr
  InvalidLimit : Addr
  InvalidLimit_init : Addr
  InvalidCosts : Addr
  InvalidCosts_init : Addr
  InvalidLoop : Addr
  InvalidLoop_init : Addr
  CannotInline : Addr
  CannotInline_init : Addr
  InvalidLine : Addr
  InvalidLine_init : Addr
  InvalidCommand : Addr
  InvalidCommand_init : Addr
  InvalidProgram : Addr
  InvalidProgram_init : Addr
  StopError : Addr
  OverLimit : Addr
  NothingToUndo : Addr
  NothingToRedo : Addr
  OverLimit_init : Addr
  NothingToUndo_init : Addr
  NothingToRedo_init : Addr
structure Txt (P : Program) (K : PySem.W.Frag) (mg : Str → Option Value) (a : Ad) : Prop where
  d_law_pool : DefAt K mg "_law_pool" s_law_pool ["_law_script", "_law_k"] a.law_pool
  d_law_draw : DefAt K mg "_law_draw" s_law_draw ["_law_pool_here", "_law_many"] a.law_draw
  d_law_choose : DefAt K mg "_law_choose" s_law_choose ["_law_pool_here", "_law_items"] a.law_choose
  d_law_kinds : DefAt K mg "_law_kinds" s_law_kinds ["_law_e"] a.law_kinds
  d_law : DefAt K mg "law" s_law ["_law_script"] a.law
  err_InvalidTime : PySem.ErrX.ErrTxt P K mg "InvalidTime" "value" a.InvalidTime a.InvalidTime_init
  err_InvalidName : PySem.ErrX.ErrTxt P K mg "InvalidName" "value" a.InvalidName a.InvalidName_init
  err_InvalidTurns : PySem.ErrX.ErrTxt P K mg "InvalidTurns" "value" a.InvalidTurns a.InvalidTurns_init
  err_InvalidCode : PySem.ErrX.ErrTxt P K mg "InvalidCode" "value" a.InvalidCode a.InvalidCode_init
  err_InvalidText : PySem.ErrX.ErrTxt P K mg "InvalidText" "text" a.InvalidText a.InvalidText_init
  err_InvalidFunctions : PySem.ErrX.ErrTxt P K mg "InvalidFunctions" "name" a.InvalidFunctions a.InvalidFunctions_init
  err_UnknownName : PySem.ErrX.ErrTxt P K mg "UnknownName" "name" a.UnknownName a.UnknownName_init
  err_InvalidChoice : PySem.ErrX.ErrTxt P K mg "InvalidChoice" "index" a.InvalidChoice a.InvalidChoice_init
  err_LimitExceeded : PySem.ErrX.ErrTxt P K mg "LimitExceeded" "limit" a.LimitExceeded a.LimitExceeded_init
  err_InvalidNumber : PySem.ErrX.ErrTxt P K mg "InvalidNumber" "value" a.InvalidNumber a.InvalidNumber_init
  err_InvalidTrail : PySem.ErrX.ErrTxt P K mg "InvalidTrail" "index" a.InvalidTrail a.InvalidTrail_init
  err_InvalidPlace : PySem.ErrX.ErrTxt P K mg "InvalidPlace" "value" a.InvalidPlace a.InvalidPlace_init
  err_InvalidRule : PySem.ErrX.ErrTxt P K mg "InvalidRule" "value" a.InvalidRule a.InvalidRule_init
  err_InvalidLimit : PySem.ErrX.ErrTxt P K mg "InvalidLimit" "value" a.InvalidLimit a.InvalidLimit_init
  err_InvalidCosts : PySem.ErrX.ErrTxt P K mg "InvalidCosts" "value" a.InvalidCosts a.InvalidCosts_init
  err_InvalidLoop : PySem.ErrX.ErrTxt P K mg "InvalidLoop" "value" a.InvalidLoop a.InvalidLoop_init
  err_CannotInline : PySem.ErrX.ErrTxt P K mg "CannotInline" "name" a.CannotInline a.CannotInline_init
  err_InvalidLine : PySem.ErrX.ErrTxt P K mg "InvalidLine" "index" a.InvalidLine a.InvalidLine_init
  err_InvalidCommand : PySem.ErrX.ErrTxt P K mg "InvalidCommand" "command" a.InvalidCommand a.InvalidCommand_init
  err_InvalidProgram : PySem.ErrX.ErrTxt P K mg "InvalidProgram" "value" a.InvalidProgram a.InvalidProgram_init
  isinstance : mg "isinstance" = none
  int : mg "int" = none
  range : mg "range" = none
  len : mg "len" = none
  enumerate : mg "enumerate" = none
  ValueError : mg "ValueError" = none
  mg_StopError : mg "StopError" = some (.ref a.StopError)
  mg_OverLimit : mg "OverLimit" = some (.ref a.OverLimit)
  mg_NothingToUndo : mg "NothingToUndo" = some (.ref a.NothingToUndo)
  mg_NothingToRedo : mg "NothingToRedo" = some (.ref a.NothingToRedo)
  iC_OverLimit : PySem.W.findIn K (.ref a.OverLimit) "__init__" = some (some (.ref a.OverLimit_init))
  tI_OverLimit : PySem.W.typeIn K (.ref a.OverLimit_init) = some (.type "function")
  ox_OverLimit : SupX.SupE K a.OverLimit a.OverLimit
  cd_OverLimit : CDef P K mg "__init__" "OverLimit.__init__" s_OverLimit_init ["self", "name", "needed"] a.OverLimit_init a.OverLimit
  iC_NothingToUndo : PySem.W.findIn K (.ref a.NothingToUndo) "__init__" = some (some (.ref a.NothingToUndo_init))
  tI_NothingToUndo : PySem.W.typeIn K (.ref a.NothingToUndo_init) = some (.type "function")
  ox_NothingToUndo : SupX.SupE K a.NothingToUndo a.NothingToUndo
  cd_NothingToUndo : CDef P K mg "__init__" "NothingToUndo.__init__" s_NothingToUndo_init ["self"] a.NothingToUndo_init a.NothingToUndo
  iC_NothingToRedo : PySem.W.findIn K (.ref a.NothingToRedo) "__init__" = some (some (.ref a.NothingToRedo_init))
  tI_NothingToRedo : PySem.W.typeIn K (.ref a.NothingToRedo_init) = some (.type "function")
  ox_NothingToRedo : SupX.SupE K a.NothingToRedo a.NothingToRedo
  cd_NothingToRedo : CDef P K mg "__init__" "NothingToRedo.__init__" s_NothingToRedo_init ["self"] a.NothingToRedo_init a.NothingToRedo
  nA_OverLimit_name : NoAttr K a.OverLimit "name"
  nA_OverLimit_needed : NoAttr K a.OverLimit "needed"
  ec_InvalidTime : ErrC K a.InvalidTime
  ec_InvalidName : ErrC K a.InvalidName
  ec_InvalidTurns : ErrC K a.InvalidTurns
  ec_InvalidCode : ErrC K a.InvalidCode
  ec_InvalidText : ErrC K a.InvalidText
  ec_InvalidFunctions : ErrC K a.InvalidFunctions
  ec_UnknownName : ErrC K a.UnknownName
  ec_InvalidChoice : ErrC K a.InvalidChoice
  ec_LimitExceeded : ErrC K a.LimitExceeded
  ec_InvalidNumber : ErrC K a.InvalidNumber
  ec_InvalidTrail : ErrC K a.InvalidTrail
  ec_InvalidPlace : ErrC K a.InvalidPlace
  ec_InvalidRule : ErrC K a.InvalidRule
  ec_InvalidLimit : ErrC K a.InvalidLimit
  ec_InvalidCosts : ErrC K a.InvalidCosts
  ec_InvalidLoop : ErrC K a.InvalidLoop
  ec_CannotInline : ErrC K a.CannotInline
  ec_OverLimit : ErrC K a.OverLimit
  ec_NothingToUndo : ErrC K a.NothingToUndo
  ec_NothingToRedo : ErrC K a.NothingToRedo
  ec_InvalidLine : ErrC K a.InvalidLine
  ec_InvalidCommand : ErrC K a.InvalidCommand
  ec_InvalidProgram : ErrC K a.InvalidProgram
  kits : kitTab K [a.InvalidTime, a.InvalidName, a.InvalidTurns, a.InvalidCode, a.InvalidText, a.InvalidFunctions, a.UnknownName, a.InvalidChoice, a.LimitExceeded, a.InvalidNumber, a.InvalidTrail, a.InvalidPlace, a.InvalidRule, a.InvalidLimit, a.InvalidCosts, a.InvalidLoop, a.CannotInline, a.OverLimit, a.NothingToUndo, a.NothingToRedo, a.InvalidLine, a.InvalidCommand, a.InvalidProgram] = true
  kitS : kitAll K [a.InvalidTime, a.InvalidName, a.InvalidTurns, a.InvalidCode, a.InvalidText, a.InvalidFunctions, a.UnknownName, a.InvalidChoice, a.LimitExceeded, a.InvalidNumber, a.InvalidTrail, a.InvalidPlace, a.InvalidRule, a.InvalidLimit, a.InvalidCosts, a.InvalidLoop, a.CannotInline, a.OverLimit, a.NothingToUndo, a.NothingToRedo, a.InvalidLine, a.InvalidCommand, a.InvalidProgram] (.ref a.StopError) = true
  kitV : kitAll K [a.InvalidTime, a.InvalidName, a.InvalidTurns, a.InvalidCode, a.InvalidText, a.InvalidFunctions, a.UnknownName, a.InvalidChoice, a.LimitExceeded, a.InvalidNumber, a.InvalidTrail, a.InvalidPlace, a.InvalidRule, a.InvalidLimit, a.InvalidCosts, a.InvalidLoop, a.CannotInline, a.OverLimit, a.NothingToUndo, a.NothingToRedo, a.InvalidLine, a.InvalidCommand, a.InvalidProgram] (.type "ValueError") = true
theorem txt_mk {P : Program} {K : PySem.W.Frag} {mg : Str → Option Value} {A_law_pool A_law_draw A_law_choose A_law_kinds A_law A_InvalidTime A_InvalidTime_init A_InvalidName A_InvalidName_init A_InvalidTurns A_InvalidTurns_init A_InvalidCode A_InvalidCode_init A_InvalidText A_InvalidText_init A_InvalidFunctions A_InvalidFunctions_init A_UnknownName A_UnknownName_init A_InvalidChoice A_InvalidChoice_init A_LimitExceeded A_LimitExceeded_init A_InvalidNumber A_InvalidNumber_init A_InvalidTrail A_InvalidTrail_init A_InvalidPlace A_InvalidPlace_init A_InvalidRule A_InvalidRule_init A_InvalidLimit A_InvalidLimit_init A_InvalidCosts A_InvalidCosts_init A_InvalidLoop A_InvalidLoop_init A_CannotInline A_CannotInline_init A_InvalidLine A_InvalidLine_init A_InvalidCommand A_InvalidCommand_init A_InvalidProgram A_InvalidProgram_init A_StopError A_OverLimit A_NothingToUndo A_NothingToRedo A_OverLimit_init A_NothingToUndo_init A_NothingToRedo_init : Addr}
    (h_mg_StopError : mg "StopError" = some (.ref A_StopError))
    (h_mg_OverLimit : mg "OverLimit" = some (.ref A_OverLimit))
    (h_mg_NothingToUndo : mg "NothingToUndo" = some (.ref A_NothingToUndo))
    (h_mg_NothingToRedo : mg "NothingToRedo" = some (.ref A_NothingToRedo))
    (h_d_law_pool : DefAt K mg "_law_pool" s_law_pool ["_law_script", "_law_k"] A_law_pool)
    (h_d_law_draw : DefAt K mg "_law_draw" s_law_draw ["_law_pool_here", "_law_many"] A_law_draw)
    (h_d_law_choose : DefAt K mg "_law_choose" s_law_choose ["_law_pool_here", "_law_items"] A_law_choose)
    (h_d_law_kinds : DefAt K mg "_law_kinds" s_law_kinds ["_law_e"] A_law_kinds)
    (h_d_law : DefAt K mg "law" s_law ["_law_script"] A_law)
    (h_err_InvalidTime : PySem.ErrX.ErrTxt P K mg "InvalidTime" "value" A_InvalidTime A_InvalidTime_init)
    (h_err_InvalidName : PySem.ErrX.ErrTxt P K mg "InvalidName" "value" A_InvalidName A_InvalidName_init)
    (h_err_InvalidTurns : PySem.ErrX.ErrTxt P K mg "InvalidTurns" "value" A_InvalidTurns A_InvalidTurns_init)
    (h_err_InvalidCode : PySem.ErrX.ErrTxt P K mg "InvalidCode" "value" A_InvalidCode A_InvalidCode_init)
    (h_err_InvalidText : PySem.ErrX.ErrTxt P K mg "InvalidText" "text" A_InvalidText A_InvalidText_init)
    (h_err_InvalidFunctions : PySem.ErrX.ErrTxt P K mg "InvalidFunctions" "name" A_InvalidFunctions A_InvalidFunctions_init)
    (h_err_UnknownName : PySem.ErrX.ErrTxt P K mg "UnknownName" "name" A_UnknownName A_UnknownName_init)
    (h_err_InvalidChoice : PySem.ErrX.ErrTxt P K mg "InvalidChoice" "index" A_InvalidChoice A_InvalidChoice_init)
    (h_err_LimitExceeded : PySem.ErrX.ErrTxt P K mg "LimitExceeded" "limit" A_LimitExceeded A_LimitExceeded_init)
    (h_err_InvalidNumber : PySem.ErrX.ErrTxt P K mg "InvalidNumber" "value" A_InvalidNumber A_InvalidNumber_init)
    (h_err_InvalidTrail : PySem.ErrX.ErrTxt P K mg "InvalidTrail" "index" A_InvalidTrail A_InvalidTrail_init)
    (h_err_InvalidPlace : PySem.ErrX.ErrTxt P K mg "InvalidPlace" "value" A_InvalidPlace A_InvalidPlace_init)
    (h_err_InvalidRule : PySem.ErrX.ErrTxt P K mg "InvalidRule" "value" A_InvalidRule A_InvalidRule_init)
    (h_err_InvalidLimit : PySem.ErrX.ErrTxt P K mg "InvalidLimit" "value" A_InvalidLimit A_InvalidLimit_init)
    (h_err_InvalidCosts : PySem.ErrX.ErrTxt P K mg "InvalidCosts" "value" A_InvalidCosts A_InvalidCosts_init)
    (h_err_InvalidLoop : PySem.ErrX.ErrTxt P K mg "InvalidLoop" "value" A_InvalidLoop A_InvalidLoop_init)
    (h_err_CannotInline : PySem.ErrX.ErrTxt P K mg "CannotInline" "name" A_CannotInline A_CannotInline_init)
    (h_err_InvalidLine : PySem.ErrX.ErrTxt P K mg "InvalidLine" "index" A_InvalidLine A_InvalidLine_init)
    (h_err_InvalidCommand : PySem.ErrX.ErrTxt P K mg "InvalidCommand" "command" A_InvalidCommand A_InvalidCommand_init)
    (h_err_InvalidProgram : PySem.ErrX.ErrTxt P K mg "InvalidProgram" "value" A_InvalidProgram A_InvalidProgram_init)
    (h_isinstance : mg "isinstance" = none)
    (h_int : mg "int" = none)
    (h_range : mg "range" = none)
    (h_len : mg "len" = none)
    (h_enumerate : mg "enumerate" = none)
    (h_ValueError : mg "ValueError" = none)
    (h_iC_OverLimit : PySem.W.findIn K (.ref A_OverLimit) "__init__" = some (some (.ref A_OverLimit_init)))
    (h_tI_OverLimit : PySem.W.typeIn K (.ref A_OverLimit_init) = some (.type "function"))
    (h_ox_OverLimit : SupX.SupE K A_OverLimit A_OverLimit)
    (h_cd_OverLimit : CDef P K mg "__init__" "OverLimit.__init__" s_OverLimit_init ["self", "name", "needed"] A_OverLimit_init A_OverLimit)
    (h_iC_NothingToUndo : PySem.W.findIn K (.ref A_NothingToUndo) "__init__" = some (some (.ref A_NothingToUndo_init)))
    (h_tI_NothingToUndo : PySem.W.typeIn K (.ref A_NothingToUndo_init) = some (.type "function"))
    (h_ox_NothingToUndo : SupX.SupE K A_NothingToUndo A_NothingToUndo)
    (h_cd_NothingToUndo : CDef P K mg "__init__" "NothingToUndo.__init__" s_NothingToUndo_init ["self"] A_NothingToUndo_init A_NothingToUndo)
    (h_iC_NothingToRedo : PySem.W.findIn K (.ref A_NothingToRedo) "__init__" = some (some (.ref A_NothingToRedo_init)))
    (h_tI_NothingToRedo : PySem.W.typeIn K (.ref A_NothingToRedo_init) = some (.type "function"))
    (h_ox_NothingToRedo : SupX.SupE K A_NothingToRedo A_NothingToRedo)
    (h_cd_NothingToRedo : CDef P K mg "__init__" "NothingToRedo.__init__" s_NothingToRedo_init ["self"] A_NothingToRedo_init A_NothingToRedo)
    (h_nA_OverLimit_name : NoAttr K A_OverLimit "name")
    (h_nA_OverLimit_needed : NoAttr K A_OverLimit "needed")
    (h_ec_InvalidTime : ErrC K A_InvalidTime)
    (h_ec_InvalidName : ErrC K A_InvalidName)
    (h_ec_InvalidTurns : ErrC K A_InvalidTurns)
    (h_ec_InvalidCode : ErrC K A_InvalidCode)
    (h_ec_InvalidText : ErrC K A_InvalidText)
    (h_ec_InvalidFunctions : ErrC K A_InvalidFunctions)
    (h_ec_UnknownName : ErrC K A_UnknownName)
    (h_ec_InvalidChoice : ErrC K A_InvalidChoice)
    (h_ec_LimitExceeded : ErrC K A_LimitExceeded)
    (h_ec_InvalidNumber : ErrC K A_InvalidNumber)
    (h_ec_InvalidTrail : ErrC K A_InvalidTrail)
    (h_ec_InvalidPlace : ErrC K A_InvalidPlace)
    (h_ec_InvalidRule : ErrC K A_InvalidRule)
    (h_ec_InvalidLimit : ErrC K A_InvalidLimit)
    (h_ec_InvalidCosts : ErrC K A_InvalidCosts)
    (h_ec_InvalidLoop : ErrC K A_InvalidLoop)
    (h_ec_CannotInline : ErrC K A_CannotInline)
    (h_ec_OverLimit : ErrC K A_OverLimit)
    (h_ec_NothingToUndo : ErrC K A_NothingToUndo)
    (h_ec_NothingToRedo : ErrC K A_NothingToRedo)
    (h_ec_InvalidLine : ErrC K A_InvalidLine)
    (h_ec_InvalidCommand : ErrC K A_InvalidCommand)
    (h_ec_InvalidProgram : ErrC K A_InvalidProgram)
    (h_kits : kitTab K [A_InvalidTime, A_InvalidName, A_InvalidTurns, A_InvalidCode, A_InvalidText, A_InvalidFunctions, A_UnknownName, A_InvalidChoice, A_LimitExceeded, A_InvalidNumber, A_InvalidTrail, A_InvalidPlace, A_InvalidRule, A_InvalidLimit, A_InvalidCosts, A_InvalidLoop, A_CannotInline, A_OverLimit, A_NothingToUndo, A_NothingToRedo, A_InvalidLine, A_InvalidCommand, A_InvalidProgram] = true)
    (h_kitS : kitAll K [A_InvalidTime, A_InvalidName, A_InvalidTurns, A_InvalidCode, A_InvalidText, A_InvalidFunctions, A_UnknownName, A_InvalidChoice, A_LimitExceeded, A_InvalidNumber, A_InvalidTrail, A_InvalidPlace, A_InvalidRule, A_InvalidLimit, A_InvalidCosts, A_InvalidLoop, A_CannotInline, A_OverLimit, A_NothingToUndo, A_NothingToRedo, A_InvalidLine, A_InvalidCommand, A_InvalidProgram] (.ref A_StopError) = true)
    (h_kitV : kitAll K [A_InvalidTime, A_InvalidName, A_InvalidTurns, A_InvalidCode, A_InvalidText, A_InvalidFunctions, A_UnknownName, A_InvalidChoice, A_LimitExceeded, A_InvalidNumber, A_InvalidTrail, A_InvalidPlace, A_InvalidRule, A_InvalidLimit, A_InvalidCosts, A_InvalidLoop, A_CannotInline, A_OverLimit, A_NothingToUndo, A_NothingToRedo, A_InvalidLine, A_InvalidCommand, A_InvalidProgram] (.type "ValueError") = true)
    : Txt P K mg ⟨A_law_pool, A_law_draw, A_law_choose, A_law_kinds, A_law, A_InvalidTime, A_InvalidTime_init, A_InvalidName, A_InvalidName_init, A_InvalidTurns, A_InvalidTurns_init, A_InvalidCode, A_InvalidCode_init, A_InvalidText, A_InvalidText_init, A_InvalidFunctions, A_InvalidFunctions_init, A_UnknownName, A_UnknownName_init, A_InvalidChoice, A_InvalidChoice_init, A_LimitExceeded, A_LimitExceeded_init, A_InvalidNumber, A_InvalidNumber_init, A_InvalidTrail, A_InvalidTrail_init, A_InvalidPlace, A_InvalidPlace_init, A_InvalidRule, A_InvalidRule_init, A_InvalidLimit, A_InvalidLimit_init, A_InvalidCosts, A_InvalidCosts_init, A_InvalidLoop, A_InvalidLoop_init, A_CannotInline, A_CannotInline_init, A_InvalidLine, A_InvalidLine_init, A_InvalidCommand, A_InvalidCommand_init, A_InvalidProgram, A_InvalidProgram_init, A_StopError, A_OverLimit, A_NothingToUndo, A_NothingToRedo, A_OverLimit_init, A_NothingToUndo_init, A_NothingToRedo_init⟩ :=
  ⟨h_d_law_pool, h_d_law_draw, h_d_law_choose, h_d_law_kinds, h_d_law, h_err_InvalidTime, h_err_InvalidName, h_err_InvalidTurns, h_err_InvalidCode, h_err_InvalidText, h_err_InvalidFunctions, h_err_UnknownName, h_err_InvalidChoice, h_err_LimitExceeded, h_err_InvalidNumber, h_err_InvalidTrail, h_err_InvalidPlace, h_err_InvalidRule, h_err_InvalidLimit, h_err_InvalidCosts, h_err_InvalidLoop, h_err_CannotInline, h_err_InvalidLine, h_err_InvalidCommand, h_err_InvalidProgram, h_isinstance, h_int, h_range, h_len, h_enumerate, h_ValueError, h_mg_StopError, h_mg_OverLimit, h_mg_NothingToUndo, h_mg_NothingToRedo, h_iC_OverLimit, h_tI_OverLimit, h_ox_OverLimit, h_cd_OverLimit, h_iC_NothingToUndo, h_tI_NothingToUndo, h_ox_NothingToUndo, h_cd_NothingToUndo, h_iC_NothingToRedo, h_tI_NothingToRedo, h_ox_NothingToRedo, h_cd_NothingToRedo, h_nA_OverLimit_name, h_nA_OverLimit_needed, h_ec_InvalidTime, h_ec_InvalidName, h_ec_InvalidTurns, h_ec_InvalidCode, h_ec_InvalidText, h_ec_InvalidFunctions, h_ec_UnknownName, h_ec_InvalidChoice, h_ec_LimitExceeded, h_ec_InvalidNumber, h_ec_InvalidTrail, h_ec_InvalidPlace, h_ec_InvalidRule, h_ec_InvalidLimit, h_ec_InvalidCosts, h_ec_InvalidLoop, h_ec_CannotInline, h_ec_OverLimit, h_ec_NothingToUndo, h_ec_NothingToRedo, h_ec_InvalidLine, h_ec_InvalidCommand, h_ec_InvalidProgram, h_kits, h_kitS, h_kitV⟩
theorem exK {P : Program} {K : PySem.W.Frag} {mg : Str → Option Value} {h : Heap} (_ : K.In h) (q : ∃ a, Txt P K mg a) : ∃ a, Txt P K mg a := q
theorem boot_isi : bootBuiltins "isinstance" = some (.builtin "isinstance") := by decide +kernel
theorem boot_int : bootBuiltins "int" = some (.type "int") := by decide +kernel
theorem boot_VE : bootBuiltins "ValueError" = some (.type "ValueError") := by decide +kernel
section
variable {P : Program} {w : World} {K : PySem.W.Frag} {mg : Str → Option Value} {base : Heap} {a : Ad}
theorem sc_law_pool : FnScope ["_law_script", "_law_k", "_law_cell", "_law_seed"] ["_law_script", "_law_k"] (defScope s_law_pool) := ⟨rfl, rfl, rfl, by decide +kernel, rfl, by decide +kernel, by decide +kernel⟩
theorem sc_law_draw : FnScope ["_law_pool_here", "_law_many", "_law_digit"] ["_law_pool_here", "_law_many"] (defScope s_law_draw) := ⟨rfl, rfl, rfl, by decide +kernel, rfl, by decide +kernel, by decide +kernel⟩
theorem sc_law_choose : FnScope ["_law_pool_here", "_law_items"] ["_law_pool_here", "_law_items"] (defScope s_law_choose) := ⟨rfl, rfl, rfl, by decide +kernel, rfl, by decide +kernel, by decide +kernel⟩
/-! ### the pool -/
def Pl (c d : Int) : Prop := 0 ≤ c ∧ 0 ≤ d ∧ d < 2147483647
def PoolAt (H : Hp) (p : Addr) : Prop := ∃ c d, Pl c d ∧ H p = some (.lst [.int c, .int d])
def spPool (K : PySem.W.Frag) : Sp := fun vs H Q _ => ∃ (l : Addr) (ns : List Int) (k : Nat), vs = [.ref l, .int k] ∧ SqL K H l (ns.map V.int) ∧ k < 64 ∧ ∀ p c d, H p = none → Pl c d → Q (.ref p) (upd H p (.lst [.int c, .int d]))
theorem ok_pool (T : Txt P K mg a) : FOk P w K mg base CX0 1 a.law_pool ["_law_script", "_law_k"] (spPool K) := by
  refine T.d_law_pool.ok sc_law_pool (fun vs H Q E h => ?_) (fun cdv A outer s H vs Q E hr h => ?_)
  · obtain ⟨l, ns, k, rfl, _⟩ := h
    rfl
  · obtain ⟨l, ns, k, rfl, hl, hk, kk⟩ := h
    refine ⟨_, (pss_cons (ps_set (i := 2) sc_law_pool.nd rfl (Or.inl rfl) pe_int)
      (C8.pss_cut (ps_if (pt_cmpR op_lt (pv 1) (pe_callB call_len_seq (by rfl) T.len PySem.boot_len (pa_cons (pv 0) pa_nil)) (nomark _)) (pss_one (ps_set (i := 2) sc_law_pool.nd rfl (Or.inl rfl) (pe_ix ix_list (pv 0) (pv 1) (fun _ _ => rfl)))) pss_nil)
      (pss_cons (ps_set (i := 3) sc_law_pool.nd rfl (Or.inl rfl) (pe_op op_mod (pe_op op_pow (pe_op op_add (pe_op op_add (pe_op op_mod (pe_callTy call_int1 (by rfl) T.int boot_int (pa_cons (pv 2) pa_nil)) pe_int) (pe_op op_mul (pe_op op_mul pe_int (pv 1)) (pv 1))) pe_int) pe_int) pe_int))
      (C8.pss_cut (ps_if (pt_cmpR op_lt (pv 2) (pe_op op_pow pe_int pe_int) (nomark _)) (pss_one (ps_set (i := 2) sc_law_pool.nd rfl (Or.inl rfl) pe_int)) pss_nil)
      (pss_one (ps_ret (pe_lst (pa_cons (pv 2) (pa_cons (pv 3) pa_nil))))))))), ?_⟩
    refine ⟨fun σ H' => H' = H ∧ ∃ c : Int, σ = [some (.ref l), some (.int k), some (.int c), none], ⟨_, rfl, _, rfl, l, _, rfl, .inl hl, _, _, rfl, rfl, _, rfl, ?_⟩, ?_⟩
    · refine ite2 (fun hlt => ?_) (fun _ => ⟨rfl, 0, rfl⟩)
      have hlt' : k < ns.length := by
        have z := of_decide_eq_true hlt
        rw [List.length_map] at z
        omega
      refine ⟨_, rfl, _, rfl, l, _, _, _, rfl, rfl, hl, atI_nat (by rw [List.getElem?_map, List.getElem?_eq_getElem hlt']; rfl), rfl, _, rfl⟩
    · rintro σ H' ⟨rfl, c, rfl⟩
      have hm0 : (0 : Int) ≤ c % 2147483629 := Int.emod_nonneg _ (by decide)
      have hm1 : c % 2147483629 < 2147483629 := Int.emod_lt_of_pos _ (by decide)
      have hq0 : (0 : Int) ≤ 7919 * (k : Int) * k := Int.mul_nonneg (by omega) (by omega)
      have hq1 : 7919 * (k : Int) * k ≤ 7919 * 64 * 64 := Int.mul_le_mul (by omega) (by omega) (by omega) (by omega)
      refine ⟨_, rfl, .inl ⟨_, rfl, _, _, rfl, rfl, (by show (0 : Int) < 2147483629; decide), _, rfl, _, _, rfl, rfl, .inl ⟨by decide, by decide⟩, _, rfl, _, _, rfl, rfl, .inr ⟨by omega, by omega⟩, _, _, rfl, rfl, _, _, rfl, rfl, _, _, rfl, rfl, ⟨by decide, by decide, ?_⟩, _, _, rfl, rfl, (by show (0 : Int) < 2147483647; decide), ?_⟩⟩
      · omega
      · refine ⟨fun σ H'' => H'' = H' ∧ ∃ c d : Int, Pl c d ∧ σ = [some (.ref l), some (.int k), some (.int c), some (.int d)], ⟨_, rfl, _, _, rfl, rfl, ⟨by decide, by decide, by decide⟩, _, _, rfl, rfl, _, rfl, ?_⟩, ?_⟩
        · refine ite2 (fun _ => ⟨rfl, 0, _, ⟨by decide, Int.emod_nonneg _ (by decide), Int.emod_lt_of_pos _ (by decide)⟩, rfl⟩) (fun z => ⟨rfl, c, _, ⟨?_, Int.emod_nonneg _ (by decide), Int.emod_lt_of_pos _ (by decide)⟩, rfl⟩)
          have z' := of_decide_eq_false (Bool.eq_false_iff.mpr z)
          have : (10 : Int) ^ (18 : Int).toNat = 1000000000000000000 := by decide
          omega
        · rintro σ H'' ⟨rfl, c', d', hp, rfl⟩
          exact ⟨_, rfl, _, rfl, (by show 2 ≤ sizeLine; decide), fun p hn => kk p c' d' hn hp⟩
def spDraw : Sp := fun vs H Q _ => ∃ (p : Addr) (m : Int), vs = [.ref p, .int m] ∧ PoolAt H p ∧ 0 < m ∧ m.natAbs.log2 < 9000 ∧ ∀ x c d, 0 ≤ x → x < m → Pl c d → Q (.int x) (upd H p (.lst [.int c, .int d]))
theorem ok_draw (T : Txt P K mg a) : FOk P w K mg base CX0 1 a.law_draw ["_law_pool_here", "_law_many"] spDraw := by
  refine T.d_law_draw.ok sc_law_draw (fun vs H Q E h => ?_) (fun cdv A outer s H vs Q E hr h => ?_)
  · obtain ⟨p, m, rfl, _⟩ := h
    rfl
  · obtain ⟨p, m, rfl, ⟨c, d, ⟨hc, hd0, hd1⟩, hp⟩, hm, hm2, k⟩ := h
    refine ⟨_, (pss_cons (ps_if (pt_cmpR op_gt (pe_ix ix_list (pv 0) pe_int (fun _ _ => rfl)) pe_int (nomark _)) (pss_cons (ps_set (i := 2) sc_law_draw.nd rfl (Or.inl rfl) (pe_op op_mod (pe_callTy call_int1 (by rfl) T.int boot_int (pa_cons (pe_ix ix_list (pv 0) pe_int (fun _ _ => rfl)) pa_nil)) (pv 1)))
      (pss_cons (ps_asg (pe_op op_fdivW (pe_ix ix_list (pv 0) pe_int (fun _ _ => rfl)) (pv 1)) (pg_sub (pv 0) pe_int set_list))
      (pss_one (ps_ret (pv 2))))) pss_nil)
      (pss_cons (ps_asg (pe_op op_mod (pe_callTy call_int1 (by rfl) T.int boot_int (pa_cons (pe_op op_add (pe_op op_mul (pe_ix ix_list (pv 0) pe_int (fun _ _ => rfl)) pe_int) pe_int) pa_nil)) pe_int) (pg_sub (pv 0) pe_int set_list))
      (pss_one (ps_ret (pe_op op_mod (pe_op op_fdiv (pe_op op_mod (pe_callTy call_int1 (by rfl) T.int boot_int (pa_cons (pe_op op_mul (pe_ix ix_list (pv 0) pe_int (fun _ _ => rfl)) (pe_ix ix_list (pv 0) pe_int (fun _ _ => rfl))) pa_nil)) pe_int) pe_int) (pv 1)))))), ?_⟩
    have ip : SqL K H p [.int c, .int d] := SqL.of hp
    refine ⟨_, rfl, p, _, _, _, rfl, rfl, ip, atI_nat (j := 0) rfl, _, _, rfl, rfl, _, rfl, ?_⟩
    refine ite2 (fun hlt => ?_) (fun _ => ?_)
    · have c0 : 0 < c := of_decide_eq_true hlt
      refine ⟨_, rfl, p, _, _, _, rfl, rfl, ip, atI_nat (j := 0) rfl, .inl ⟨_, rfl, _, rfl, _, _, rfl, rfl, hm, ?_⟩⟩
      refine ⟨_, rfl, p, _, _, _, rfl, rfl, ip, atI_nat (j := 0) rfl, _, rfl, _, _, rfl, rfl, ⟨hm, hm2⟩, _, rfl, p, _, _, 0, rfl, rfl, hp, rfl, ?_⟩
      exact ⟨_, rfl, k _ _ _ (Int.emod_nonneg _ (by omega)) (Int.emod_lt_of_pos _ hm) ⟨Int.ediv_nonneg (by omega) (by omega), hd0, hd1⟩⟩
    · refine ⟨_, rfl, p, _, _, _, rfl, rfl, ip, atI_nat (j := 1) rfl, _, _, rfl, rfl, .inr ⟨by decide, by decide⟩, _, _, rfl, rfl, .inl ⟨_, rfl, _, _, rfl, rfl, (by show (0 : Int) < 2147483647; decide), _, rfl, p, _, _, 1, rfl, rfl, hp, rfl, ?_⟩⟩
      have hd2 := Int.emod_nonneg (d * 48271 + 11) (show (2147483647 : Int) ≠ 0 by decide)
      have hd3 := Int.emod_lt_of_pos (d * 48271 + 11) (show (0 : Int) < 2147483647 by decide)
      refine ⟨_, rfl, p, _, _, _, rfl, rfl, SqL.of upd_same, atI_nat (j := 1) rfl, _, rfl, p, _, _, _, rfl, rfl, SqL.of upd_same, atI_nat (j := 1) rfl, _, _, rfl, rfl, .inl ⟨by omega, by omega⟩, ?_⟩
      refine .inl ⟨_, rfl, _, _, rfl, rfl, (by show (0 : Int) < 2147483629; decide), _, _, rfl, rfl, ⟨by decide, by decide⟩, _, rfl, _, _, rfl, rfl, hm, ?_⟩
      exact k _ _ _ (Int.emod_nonneg _ (by omega)) (Int.emod_lt_of_pos _ hm) ⟨hc, hd2, hd3⟩
def spChoose (K : PySem.W.Frag) : Sp := fun vs H Q _ => ∃ (p l : Addr) (xs : List V), vs = [.ref p, .ref l] ∧ PoolAt H p ∧ H l = some (.lst xs) ∧ l ≠ p ∧ xs ≠ [] ∧ xs.length < 1000 ∧ ∀ v c d, v ∈ xs → Pl c d → Q v (upd H p (.lst [.int c, .int d]))
theorem ok_choose (T : Txt P K mg a) : FOk P w K mg base CX0 3 a.law_choose ["_law_pool_here", "_law_items"] (spChoose K) := by
  have G_draw := ok_draw (P := P) (w := w) (base := base) T
  refine T.d_law_choose.ok sc_law_choose (fun vs H Q E h => ?_) (fun cdv A outer s H vs Q E hr h => ?_)
  · obtain ⟨p, l, xs, rfl, _⟩ := h
    rfl
  · obtain ⟨p, l, xs, rfl, hp, hl, ne, hx, hx2, k⟩ := h
    refine ⟨_, (pss_one (ps_ret (pe_ix ix_list (pv 1) (pcall G_draw (hr.mono (by decide)) (by rfl) T.d_law_draw.mg T.d_law_draw.kp pass0 (pa_cons (pv 0) (pa_cons (pe_callB call_len_seq (by rfl) T.len PySem.boot_len (pa_cons (pv 1) pa_nil)) pa_nil))) (fun _ _ => rfl)))), ?_⟩
    have hpos : 0 < xs.length := List.length_pos_iff.mpr hx
    have hlog : ((xs.length : Int)).natAbs.log2 < 9000 := by
      rw [Int.natAbs_natCast]
      by_cases z : xs.length = 0
      · omega
      · exact Nat.lt_trans ((Nat.log2_lt z).mpr (Nat.lt_of_lt_of_le hx2 (by decide : 1000 ≤ 2 ^ 10))) (by decide)
    refine ⟨_, rfl, _, rfl, _, rfl, l, xs, rfl, .inl (SqL.of hl), p, _, rfl, hp, by omega, hlog, fun x c d h0 h1 hpl => ?_⟩
    obtain ⟨j, rfl⟩ := Int.eq_ofNat_of_zero_le h0
    have hj : j < xs.length := by omega
    exact ⟨l, xs, _, xs[j], rfl, rfl, SqL.of (by rw [upd_ne ne]; exact hl), atI_nat (List.getElem?_eq_getElem hj), k _ _ _ (List.getElem_mem hj) hpl⟩
end
end S30

namespace S30
open PySem L2
section
variable {P : Program} {w : World} {K : PySem.W.Frag} {mg : Str → Option Value} {base : Heap} {a : Ad}
theorem ss_ol : SupX.SScope ["self", "name", "needed"] ["self", "name", "needed"] (defScope s_OverLimit_init) := ⟨rfl, rfl, rfl, by decide +kernel, rfl, by decide +kernel, by decide +kernel, by decide +kernel⟩
theorem ss_nu : SupX.SScope ["self"] ["self"] (defScope s_NothingToUndo_init) := ⟨rfl, rfl, rfl, by decide +kernel, rfl, by decide +kernel, by decide +kernel, by decide +kernel⟩
theorem ss_nr : SupX.SScope ["self"] ["self"] (defScope s_NothingToRedo_init) := ⟨rfl, rfl, rfl, by decide +kernel, rfl, by decide +kernel, by decide +kernel, by decide +kernel⟩
def spOL (a : Ad) : Sp := fun vs H Q _ => ∃ (e : Addr) (v u : V), vs = [.ref e, v, u] ∧ H e = some (exo e a.OverLimit none) ∧ ∀ H', (∀ b o, b ≠ e → H b = some o → H' b = some o) → ErrAt H' e a.OverLimit [("needed", u), ("name", v)] → Q .non H'
theorem ok_OverLimit (T : Txt P K mg a) : FOk P w K mg base CX0 2 a.OverLimit_init ["self", "name", "needed"] (spOL a) := by
  refine T.cd_OverLimit.ok ss_ol (fun vs H Q E h => ?_) (fun cda cc fd A outer s H vs Q E TS hr h => ?_)
  · obtain ⟨e, v, u, rfl, _⟩ := h
    rfl
  · obtain ⟨e, v, u, rfl, he, k⟩ := h
    refine ⟨_, SupX.psa_supE TS T.ox_OverLimit (pa_cons pe_str pa_nil) (SupX.psa_any (pss_cons (ps_ost (pv 0) (pv 1)) (pss_one (ps_ost (pv 0) (pv 2))))), ?_⟩
    refine ⟨e, rfl, he, he, (by show 1 ≤ 1000; decide), _, rfl, _, rfl, e, _, rfl, T.ox_OverLimit.ox, T.nA_OverLimit_name, .inl ⟨he, fun dx hd ne => ?_⟩⟩
    refine ⟨_, rfl, _, rfl, e, _, rfl, T.ox_OverLimit.ox, T.nA_OverLimit_needed, .inr ⟨dx, _, upd_same, by rw [upd_ne ne, upd_same], (by show 1 ≤ 900; decide), ?_⟩⟩
    refine k _ (fun b o nb hb => ?_) (.inr ⟨dx, ?_, upd_same⟩)
    · have nd : b ≠ dx := ne_of_none hb hd
      rw [upd_ne nd, upd_ne nb, upd_ne nd]
      exact hb
    · rw [upd_ne (Ne.symm ne), upd_same]
def spN0 (C : Addr) : Sp := fun vs H Q _ => ∃ e : Addr, vs = [.ref e] ∧ H e = some (exo e C none) ∧ Q .non H
theorem ok_NothingToUndo (T : Txt P K mg a) : FOk P w K mg base CX0 2 a.NothingToUndo_init ["self"] (spN0 a.NothingToUndo) := by
  refine T.cd_NothingToUndo.ok ss_nu (fun vs H Q E h => ?_) (fun cda cc fd A outer s H vs Q E TS hr h => ?_)
  · obtain ⟨e, rfl, _⟩ := h
    rfl
  · obtain ⟨e, rfl, he, k⟩ := h
    refine ⟨_, SupX.psa_supE TS T.ox_NothingToUndo (pa_cons pe_str pa_nil) (SupX.psa_any pss_nil), ?_⟩
    exact ⟨e, rfl, he, he, (by show 1 ≤ 1000; decide), k⟩
theorem ok_NothingToRedo (T : Txt P K mg a) : FOk P w K mg base CX0 2 a.NothingToRedo_init ["self"] (spN0 a.NothingToRedo) := by
  refine T.cd_NothingToRedo.ok ss_nr (fun vs H Q E h => ?_) (fun cda cc fd A outer s H vs Q E TS hr h => ?_)
  · obtain ⟨e, rfl, _⟩ := h
    rfl
  · obtain ⟨e, rfl, he, k⟩ := h
    refine ⟨_, SupX.psa_supE TS T.ox_NothingToRedo (pa_cons pe_str pa_nil) (SupX.psa_any pss_nil), ?_⟩
    exact ⟨e, rfl, he, he, (by show 1 ≤ 1000; decide), k⟩
end
end S30

namespace S30
open PySem L2
theorem kit_at {K : PySem.W.Frag} {cs : List Addr} (h : kitTab K cs = true) {i j : Nat} (hi : i < cs.length) (hj : j < cs.length) : PySem.W.kitOne K (.ref (cs.getD i 0)) (.ref (cs.getD j 0)) = some (i == j) := by
  have z := List.all_eq_true.mp (List.all_eq_true.mp h i (List.mem_range.mpr hi)) j (List.mem_range.mpr hj)
  simpa using z
theorem kit_all {K : PySem.W.Frag} {cs : List Addr} {v : Value} (h : kitAll K cs v = true) {i : Nat} (hi : i < cs.length) : PySem.W.kitOne K (.ref (cs.getD i 0)) v = some true := by
  have hm : cs.getD i 0 ∈ cs := by
    rw [List.getD_eq_getElem?_getD, List.getElem?_eq_getElem hi]
    exact List.getElem_mem hi
  have z := List.all_eq_true.mp h _ hm
  simpa using z
def cs (a : Ad) : List Addr := [a.InvalidTime, a.InvalidName, a.InvalidTurns, a.InvalidCode, a.InvalidText, a.InvalidFunctions, a.UnknownName, a.InvalidChoice, a.LimitExceeded, a.InvalidNumber, a.InvalidTrail, a.InvalidPlace, a.InvalidRule, a.InvalidLimit, a.InvalidCosts, a.InvalidLoop, a.CannotInline, a.OverLimit, a.NothingToUndo, a.NothingToRedo, a.InvalidLine, a.InvalidCommand, a.InvalidProgram]
section
variable {P : Program} {w : World} {K : PySem.W.Frag} {mg : Str → Option Value} {base : Heap} {a : Ad}
theorem sc_law_kinds : FnScope ["_law_e", "_law_kinds_here"] ["_law_e"] (defScope s_law_kinds) := ⟨rfl, rfl, rfl, by decide +kernel, rfl, by decide +kernel, by decide +kernel⟩
def kl (i : Nat) : List V := (List.range 23).map fun j => .bl (i == j)
def spKinds (K : PySem.W.Frag) (a : Ad) : Sp := fun vs H Q _ => ∃ (e : Addr) (fs : List (Str × V)) (i : Nat), vs = [.ref e] ∧ i < 23 ∧ ErrAt H e ((cs a).getD i 0) fs ∧ ErrC K ((cs a).getD i 0) ∧ ∀ p H', Same H H' → H' p = some (.lst (kl i)) → Q (.ref p) H'
theorem ok_kinds (T : Txt P K mg a) : FOk P w K mg base CX0 1 a.law_kinds ["_law_e"] (spKinds K a) := by
  refine T.d_law_kinds.ok sc_law_kinds (fun vs H Q E h => ?_) (fun cdv A outer s H vs Q E hr h => ?_)
  · obtain ⟨e, fs, i, rfl, _⟩ := h
    rfl
  · obtain ⟨e, fs, i, rfl, hi, hE, hC, k⟩ := h
    have kt : ∀ j, j < 23 → PySem.W.kitOne K (.ref ((cs a).getD i 0)) (.ref ((cs a).getD j 0)) = some (i == j) := fun j hj => kit_at T.kits hi hj
    refine ⟨_, (pss_cons (ps_set (i := 1) sc_law_kinds.nd rfl (Or.inl rfl) (pe_lst (pa_cons (pe_callB call_isX (by rfl) T.isinstance boot_isi (pa_cons (pv 0) (pa_cons (pe_glob (v := .ref a.InvalidTime) (by rfl) T.err_InvalidTime.gC rfl) pa_nil))) (pa_cons (pe_callB call_isX (by rfl) T.isinstance boot_isi (pa_cons (pv 0) (pa_cons (pe_glob (v := .ref a.InvalidName) (by rfl) T.err_InvalidName.gC rfl) pa_nil))) (pa_cons (pe_callB call_isX (by rfl) T.isinstance boot_isi (pa_cons (pv 0) (pa_cons (pe_glob (v := .ref a.InvalidTurns) (by rfl) T.err_InvalidTurns.gC rfl) pa_nil))) pa_nil)))))
      (pss_cons (ps_set (i := 1) sc_law_kinds.nd rfl (Or.inl rfl) (pe_op op_cat (pv 1) (pe_lst (pa_cons (pe_callB call_isX (by rfl) T.isinstance boot_isi (pa_cons (pv 0) (pa_cons (pe_glob (v := .ref a.InvalidCode) (by rfl) T.err_InvalidCode.gC rfl) pa_nil))) (pa_cons (pe_callB call_isX (by rfl) T.isinstance boot_isi (pa_cons (pv 0) (pa_cons (pe_glob (v := .ref a.InvalidText) (by rfl) T.err_InvalidText.gC rfl) pa_nil))) (pa_cons (pe_callB call_isX (by rfl) T.isinstance boot_isi (pa_cons (pv 0) (pa_cons (pe_glob (v := .ref a.InvalidFunctions) (by rfl) T.err_InvalidFunctions.gC rfl) pa_nil))) pa_nil))))))
      (pss_cons (ps_set (i := 1) sc_law_kinds.nd rfl (Or.inl rfl) (pe_op op_cat (pv 1) (pe_lst (pa_cons (pe_callB call_isX (by rfl) T.isinstance boot_isi (pa_cons (pv 0) (pa_cons (pe_glob (v := .ref a.UnknownName) (by rfl) T.err_UnknownName.gC rfl) pa_nil))) (pa_cons (pe_callB call_isX (by rfl) T.isinstance boot_isi (pa_cons (pv 0) (pa_cons (pe_glob (v := .ref a.InvalidChoice) (by rfl) T.err_InvalidChoice.gC rfl) pa_nil))) (pa_cons (pe_callB call_isX (by rfl) T.isinstance boot_isi (pa_cons (pv 0) (pa_cons (pe_glob (v := .ref a.LimitExceeded) (by rfl) T.err_LimitExceeded.gC rfl) pa_nil))) pa_nil))))))
      (pss_cons (ps_set (i := 1) sc_law_kinds.nd rfl (Or.inl rfl) (pe_op op_cat (pv 1) (pe_lst (pa_cons (pe_callB call_isX (by rfl) T.isinstance boot_isi (pa_cons (pv 0) (pa_cons (pe_glob (v := .ref a.InvalidNumber) (by rfl) T.err_InvalidNumber.gC rfl) pa_nil))) (pa_cons (pe_callB call_isX (by rfl) T.isinstance boot_isi (pa_cons (pv 0) (pa_cons (pe_glob (v := .ref a.InvalidTrail) (by rfl) T.err_InvalidTrail.gC rfl) pa_nil))) (pa_cons (pe_callB call_isX (by rfl) T.isinstance boot_isi (pa_cons (pv 0) (pa_cons (pe_glob (v := .ref a.InvalidPlace) (by rfl) T.err_InvalidPlace.gC rfl) pa_nil))) pa_nil))))))
      (pss_cons (ps_set (i := 1) sc_law_kinds.nd rfl (Or.inl rfl) (pe_op op_cat (pv 1) (pe_lst (pa_cons (pe_callB call_isX (by rfl) T.isinstance boot_isi (pa_cons (pv 0) (pa_cons (pe_glob (v := .ref a.InvalidRule) (by rfl) T.err_InvalidRule.gC rfl) pa_nil))) (pa_cons (pe_callB call_isX (by rfl) T.isinstance boot_isi (pa_cons (pv 0) (pa_cons (pe_glob (v := .ref a.InvalidLimit) (by rfl) T.err_InvalidLimit.gC rfl) pa_nil))) (pa_cons (pe_callB call_isX (by rfl) T.isinstance boot_isi (pa_cons (pv 0) (pa_cons (pe_glob (v := .ref a.InvalidCosts) (by rfl) T.err_InvalidCosts.gC rfl) pa_nil))) pa_nil))))))
      (pss_cons (ps_set (i := 1) sc_law_kinds.nd rfl (Or.inl rfl) (pe_op op_cat (pv 1) (pe_lst (pa_cons (pe_callB call_isX (by rfl) T.isinstance boot_isi (pa_cons (pv 0) (pa_cons (pe_glob (v := .ref a.InvalidLoop) (by rfl) T.err_InvalidLoop.gC rfl) pa_nil))) (pa_cons (pe_callB call_isX (by rfl) T.isinstance boot_isi (pa_cons (pv 0) (pa_cons (pe_glob (v := .ref a.CannotInline) (by rfl) T.err_CannotInline.gC rfl) pa_nil))) (pa_cons (pe_callB call_isX (by rfl) T.isinstance boot_isi (pa_cons (pv 0) (pa_cons (pe_glob (v := .ref a.OverLimit) (by rfl) T.mg_OverLimit rfl) pa_nil))) pa_nil))))))
      (pss_cons (ps_set (i := 1) sc_law_kinds.nd rfl (Or.inl rfl) (pe_op op_cat (pv 1) (pe_lst (pa_cons (pe_callB call_isX (by rfl) T.isinstance boot_isi (pa_cons (pv 0) (pa_cons (pe_glob (v := .ref a.NothingToUndo) (by rfl) T.mg_NothingToUndo rfl) pa_nil))) (pa_cons (pe_callB call_isX (by rfl) T.isinstance boot_isi (pa_cons (pv 0) (pa_cons (pe_glob (v := .ref a.NothingToRedo) (by rfl) T.mg_NothingToRedo rfl) pa_nil))) (pa_cons (pe_callB call_isX (by rfl) T.isinstance boot_isi (pa_cons (pv 0) (pa_cons (pe_glob (v := .ref a.InvalidLine) (by rfl) T.err_InvalidLine.gC rfl) pa_nil))) pa_nil))))))
      (pss_one (ps_ret (pe_op op_cat (pv 1) (pe_lst (pa_cons (pe_callB call_isX (by rfl) T.isinstance boot_isi (pa_cons (pv 0) (pa_cons (pe_glob (v := .ref a.InvalidCommand) (by rfl) T.err_InvalidCommand.gC rfl) pa_nil))) (pa_cons (pe_callB call_isX (by rfl) T.isinstance boot_isi (pa_cons (pv 0) (pa_cons (pe_glob (v := .ref a.InvalidProgram) (by rfl) T.err_InvalidProgram.gC rfl) pa_nil))) pa_nil))))))))))))), ?_⟩
    refine ⟨_, rfl, e, _, _, _, _, _, rfl, hE, hC, .own _, kt 0 (by decide), _, rfl, e, _, _, _, _, _, rfl, hE, hC, .own _, kt 1 (by decide), _, rfl, e, _, _, _, _, _, rfl, hE, hC, .own _, kt 2 (by decide), (by show 3 ≤ sizeLine; decide), fun p0 n0 => ?_⟩
    refine ⟨_, rfl, _, rfl, e, _, _, _, _, _, rfl, hE.same (same_upd n0), hC, .own _, kt 3 (by decide), _, rfl, e, _, _, _, _, _, rfl, hE.same (same_upd n0), hC, .own _, kt 4 (by decide), _, rfl, e, _, _, _, _, _, rfl, hE.same (same_upd n0), hC, .own _, kt 5 (by decide), (by show 3 ≤ sizeLine; decide), fun q1 m1 => ⟨p0, q1, _, _, rfl, rfl, same_upd m1 _ _ upd_same, upd_same, (by show 3 + 3 ≤ sizeLine; decide), fun p1 n1 => ?_⟩⟩
    refine ⟨_, rfl, _, rfl, e, _, _, _, _, _, rfl, hE.same (((same_upd n0).trans (same_upd m1)).trans (same_upd n1)), hC, .own _, kt 6 (by decide), _, rfl, e, _, _, _, _, _, rfl, hE.same (((same_upd n0).trans (same_upd m1)).trans (same_upd n1)), hC, .own _, kt 7 (by decide), _, rfl, e, _, _, _, _, _, rfl, hE.same (((same_upd n0).trans (same_upd m1)).trans (same_upd n1)), hC, .own _, kt 8 (by decide), (by show 3 ≤ sizeLine; decide), fun q2 m2 => ⟨p1, q2, _, _, rfl, rfl, same_upd m2 _ _ upd_same, upd_same, (by show 6 + 3 ≤ sizeLine; decide), fun p2 n2 => ?_⟩⟩
    refine ⟨_, rfl, _, rfl, e, _, _, _, _, _, rfl, hE.same (((((same_upd n0).trans (same_upd m1)).trans (same_upd n1)).trans (same_upd m2)).trans (same_upd n2)), hC, .own _, kt 9 (by decide), _, rfl, e, _, _, _, _, _, rfl, hE.same (((((same_upd n0).trans (same_upd m1)).trans (same_upd n1)).trans (same_upd m2)).trans (same_upd n2)), hC, .own _, kt 10 (by decide), _, rfl, e, _, _, _, _, _, rfl, hE.same (((((same_upd n0).trans (same_upd m1)).trans (same_upd n1)).trans (same_upd m2)).trans (same_upd n2)), hC, .own _, kt 11 (by decide), (by show 3 ≤ sizeLine; decide), fun q3 m3 => ⟨p2, q3, _, _, rfl, rfl, same_upd m3 _ _ upd_same, upd_same, (by show 9 + 3 ≤ sizeLine; decide), fun p3 n3 => ?_⟩⟩
    refine ⟨_, rfl, _, rfl, e, _, _, _, _, _, rfl, hE.same (((((((same_upd n0).trans (same_upd m1)).trans (same_upd n1)).trans (same_upd m2)).trans (same_upd n2)).trans (same_upd m3)).trans (same_upd n3)), hC, .own _, kt 12 (by decide), _, rfl, e, _, _, _, _, _, rfl, hE.same (((((((same_upd n0).trans (same_upd m1)).trans (same_upd n1)).trans (same_upd m2)).trans (same_upd n2)).trans (same_upd m3)).trans (same_upd n3)), hC, .own _, kt 13 (by decide), _, rfl, e, _, _, _, _, _, rfl, hE.same (((((((same_upd n0).trans (same_upd m1)).trans (same_upd n1)).trans (same_upd m2)).trans (same_upd n2)).trans (same_upd m3)).trans (same_upd n3)), hC, .own _, kt 14 (by decide), (by show 3 ≤ sizeLine; decide), fun q4 m4 => ⟨p3, q4, _, _, rfl, rfl, same_upd m4 _ _ upd_same, upd_same, (by show 12 + 3 ≤ sizeLine; decide), fun p4 n4 => ?_⟩⟩
    refine ⟨_, rfl, _, rfl, e, _, _, _, _, _, rfl, hE.same (((((((((same_upd n0).trans (same_upd m1)).trans (same_upd n1)).trans (same_upd m2)).trans (same_upd n2)).trans (same_upd m3)).trans (same_upd n3)).trans (same_upd m4)).trans (same_upd n4)), hC, .own _, kt 15 (by decide), _, rfl, e, _, _, _, _, _, rfl, hE.same (((((((((same_upd n0).trans (same_upd m1)).trans (same_upd n1)).trans (same_upd m2)).trans (same_upd n2)).trans (same_upd m3)).trans (same_upd n3)).trans (same_upd m4)).trans (same_upd n4)), hC, .own _, kt 16 (by decide), _, rfl, e, _, _, _, _, _, rfl, hE.same (((((((((same_upd n0).trans (same_upd m1)).trans (same_upd n1)).trans (same_upd m2)).trans (same_upd n2)).trans (same_upd m3)).trans (same_upd n3)).trans (same_upd m4)).trans (same_upd n4)), hC, .own _, kt 17 (by decide), (by show 3 ≤ sizeLine; decide), fun q5 m5 => ⟨p4, q5, _, _, rfl, rfl, same_upd m5 _ _ upd_same, upd_same, (by show 15 + 3 ≤ sizeLine; decide), fun p5 n5 => ?_⟩⟩
    refine ⟨_, rfl, _, rfl, e, _, _, _, _, _, rfl, hE.same (((((((((((same_upd n0).trans (same_upd m1)).trans (same_upd n1)).trans (same_upd m2)).trans (same_upd n2)).trans (same_upd m3)).trans (same_upd n3)).trans (same_upd m4)).trans (same_upd n4)).trans (same_upd m5)).trans (same_upd n5)), hC, .own _, kt 18 (by decide), _, rfl, e, _, _, _, _, _, rfl, hE.same (((((((((((same_upd n0).trans (same_upd m1)).trans (same_upd n1)).trans (same_upd m2)).trans (same_upd n2)).trans (same_upd m3)).trans (same_upd n3)).trans (same_upd m4)).trans (same_upd n4)).trans (same_upd m5)).trans (same_upd n5)), hC, .own _, kt 19 (by decide), _, rfl, e, _, _, _, _, _, rfl, hE.same (((((((((((same_upd n0).trans (same_upd m1)).trans (same_upd n1)).trans (same_upd m2)).trans (same_upd n2)).trans (same_upd m3)).trans (same_upd n3)).trans (same_upd m4)).trans (same_upd n4)).trans (same_upd m5)).trans (same_upd n5)), hC, .own _, kt 20 (by decide), (by show 3 ≤ sizeLine; decide), fun q6 m6 => ⟨p5, q6, _, _, rfl, rfl, same_upd m6 _ _ upd_same, upd_same, (by show 18 + 3 ≤ sizeLine; decide), fun p6 n6 => ?_⟩⟩
    refine ⟨_, rfl, _, rfl, e, _, _, _, _, _, rfl, hE.same (((((((((((((same_upd n0).trans (same_upd m1)).trans (same_upd n1)).trans (same_upd m2)).trans (same_upd n2)).trans (same_upd m3)).trans (same_upd n3)).trans (same_upd m4)).trans (same_upd n4)).trans (same_upd m5)).trans (same_upd n5)).trans (same_upd m6)).trans (same_upd n6)), hC, .own _, kt 21 (by decide), _, rfl, e, _, _, _, _, _, rfl, hE.same (((((((((((((same_upd n0).trans (same_upd m1)).trans (same_upd n1)).trans (same_upd m2)).trans (same_upd n2)).trans (same_upd m3)).trans (same_upd n3)).trans (same_upd m4)).trans (same_upd n4)).trans (same_upd m5)).trans (same_upd n5)).trans (same_upd m6)).trans (same_upd n6)), hC, .own _, kt 22 (by decide), (by show 2 ≤ sizeLine; decide), fun q7 m7 => ⟨p6, q7, _, _, rfl, rfl, same_upd m7 _ _ upd_same, upd_same, (by show 21 + 2 ≤ sizeLine; decide), fun p7 n7 => ?_⟩⟩
    exact k _ _ (((((((((((((((same_upd n0).trans (same_upd m1)).trans (same_upd n1)).trans (same_upd m2)).trans (same_upd n2)).trans (same_upd m3)).trans (same_upd n3)).trans (same_upd m4)).trans (same_upd n4)).trans (same_upd m5)).trans (same_upd n5)).trans (same_upd m6)).trans (same_upd n6)).trans (same_upd m7)).trans (same_upd n7)) upd_same
end
end S30

namespace S30
open PySem L2
theorem dpAll_rep {K : PySem.W.Frag} {H : Hp} {v : V} {d : PyData} (h : Dp K H v d) : ∀ n, DpAll K H (List.replicate n v) (List.replicate n d)
  | 0 => .nil
  | n + 1 => .cons h (dpAll_rep h n)
def Fd (K : PySem.W.Frag) (er : List (Addr × Addr × List (Str × V))) (n : Nat) (f : Str) (v : V) : Prop := ∃ (e C : Addr) (fs : List (Str × V)), er[n]? = some (e, C, fs) ∧ ErrC K C ∧ PySem.W.findIn K (.ref C) f = some none ∧ fs.lookup f = some v
/-- errors that stand: address, class, fields -/
abbrev Er := Addr × Addr × List (Str × V)
def Md (H : Hp) (l : List Er) : Prop := ∀ x ∈ l, ErrAt H x.1 x.2.1 x.2.2
theorem Md.nil {H : Hp} : Md H [] := fun x hx => by cases hx
theorem Md.same {H H' : Hp} {l : List Er} (m : Md H l) (e : Same H H') : Md H' l := fun x hx => (m x hx).same e
theorem Md.snoc {H H' : Hp} {l : List Er} {e C : Addr} {fs : List (Str × V)} (m : Md H l) (s : Same H H') (h : ErrAt H' e C fs) : Md H' (l ++ [(e, C, fs)]) := fun x hx => by
  rcases List.mem_append.mp hx with z | z
  · exact (m x z).same s
  · rw [List.mem_singleton] at z
    subst z
    exact h
theorem Md.updL {H : Hp} {l : List Er} {p : Addr} {xs ys : List V} (m : Md H l) (h : H p = some (.lst xs)) : Md (upd H p (.lst ys)) l := fun x hx => by
  have ne : ∀ {b : Addr} {φ : Heap → Prop}, H b = some (.ext φ) → b ≠ p := fun {b φ} e z => by
    rw [z, h] at e
    cases e
  rcases m x hx with ⟨z, e⟩ | ⟨dx, e, ed⟩
  · exact .inl ⟨z, by rw [upd_ne (ne e)]; exact e⟩
  · exact .inr ⟨dx, by rw [upd_ne (ne e)]; exact e, by rw [upd_ne (ne ed)]; exact ed⟩
theorem Same.rfl' {H : Hp} : Same H H := fun _ _ h => h
theorem err_at {H : Hp} {e d C : Addr} {fs : List (Str × V)} (ne : d ≠ e) : ErrAt (upd (upd H d (exd d fs)) e (exo e C (some d))) e C fs := .inr ⟨d, upd_same, by rw [upd_ne ne, upd_same]⟩
theorem err_sm {H : Hp} {e d C : Addr} {fs : List (Str × V)} (he : H e = none) (hd : H d = none) : Same H (upd (upd H d (exd d fs)) e (exo e C (some d))) := fun b o hb => by
  rw [upd_ne (ne_of_none hb he), upd_ne (ne_of_none hb hd)]
  exact hb
section
variable {P : Program} {w : World} {K : PySem.W.Frag} {mg : Str → Option Value} {base : Heap} {a : Ad}
theorem sc_law : FnScope ["_law_script", "_law_pool_here", "_law_v", "_law_made", "_law_at", "_law_e", "_law_place", "_law_fits", "_law_told"] ["_law_script"] (defScope s_law) := ⟨rfl, rfl, rfl, by decide +kernel, rfl, by decide +kernel, by decide +kernel⟩
theorem ec_all (T : Txt P K mg a) : ∀ i, i < 23 → ErrC K ((cs a).getD i 0)
  | 0, _ => T.ec_InvalidTime
  | 1, _ => T.ec_InvalidName
  | 2, _ => T.ec_InvalidTurns
  | 3, _ => T.ec_InvalidCode
  | 4, _ => T.ec_InvalidText
  | 5, _ => T.ec_InvalidFunctions
  | 6, _ => T.ec_UnknownName
  | 7, _ => T.ec_InvalidChoice
  | 8, _ => T.ec_LimitExceeded
  | 9, _ => T.ec_InvalidNumber
  | 10, _ => T.ec_InvalidTrail
  | 11, _ => T.ec_InvalidPlace
  | 12, _ => T.ec_InvalidRule
  | 13, _ => T.ec_InvalidLimit
  | 14, _ => T.ec_InvalidCosts
  | 15, _ => T.ec_InvalidLoop
  | 16, _ => T.ec_CannotInline
  | 17, _ => T.ec_OverLimit
  | 18, _ => T.ec_NothingToUndo
  | 19, _ => T.ec_NothingToRedo
  | 20, _ => T.ec_InvalidLine
  | 21, _ => T.ec_InvalidCommand
  | 22, _ => T.ec_InvalidProgram
  | n + 23, h => absurd h (by omega)
def spLaw (K : PySem.W.Frag) : Sp := fun vs H Q _ => ∃ (l : Addr) (ns : List Int), vs = [.ref l] ∧ SqL K H l (ns.map V.int) ∧ ∀ H', Q (.bl true) H'
theorem ok_law {fd : FuncData} (T : Txt P K mg a) (FL : Fun K "law" "law" s_law a.law fd) : FnOk P w K mg base CX0 31 a.law fd ["_law_script"] (spLaw K) := by
  have G_pool := ok_pool (P := P) (w := w) (base := base) T
  have G_draw := ok_draw (P := P) (w := w) (base := base) T
  have G_choose := ok_choose (P := P) (w := w) (base := base) T
  have G_kinds := ok_kinds (P := P) (w := w) (base := base) T
  have G_OverLimit := ok_OverLimit (P := P) (w := w) (base := base) T
  have G_NothingToUndo := ok_NothingToUndo (P := P) (w := w) (base := base) T
  have G_NothingToRedo := ok_NothingToRedo (P := P) (w := w) (base := base) T
  refine FL.ok sc_law (fun vs H Q E h => ?_) (fun cdv A outer s H vs Q E hr h => ?_)
  · obtain ⟨l, ns, rfl, _⟩ := h
    rfl
  · obtain ⟨l, ns, rfl, hl, k⟩ := h
    refine ⟨_, (pss_cons (ps_set (i := 1) sc_law.nd rfl (Or.inl rfl) (pcall G_pool (hr.mono (by decide)) (by rfl) T.d_law_pool.mg T.d_law_pool.kp pass0 (pa_cons (pv 0) (pa_cons pe_int pa_nil))))
      (pss_cons (ps_set (i := 2) sc_law.nd rfl (Or.inl rfl) (pcall G_choose (hr.mono (by decide)) (by rfl) T.d_law_choose.mg T.d_law_choose.kp pass0 (pa_cons (pv 1) (pa_cons (pe_lst (pa_cons (pcall G_draw (hr.mono (by decide)) (by rfl) T.d_law_draw.mg T.d_law_draw.kp pass0 (pa_cons (pv 1) (pa_cons pe_int pa_nil))) (pa_cons pe_non (pa_cons pe_str (pa_cons (pe_tup (pa_cons pe_str (pa_cons pe_int pa_nil))) pa_nil))))) pa_nil))))
      (pss_cons (ps_set (i := 3) sc_law.nd rfl (Or.inr rfl) (pe_lst (pa_cons (pe_errV T.err_InvalidTime hr (pa_cons (pv 2) pa_nil)) (pa_cons (pe_errV T.err_InvalidName hr (pa_cons (pv 2) pa_nil)) (pa_cons (pe_errV T.err_InvalidTurns hr (pa_cons (pv 2) pa_nil)) (pa_cons (pe_errV T.err_InvalidCode hr (pa_cons (pv 2) pa_nil)) (pa_cons (pe_errV T.err_InvalidText hr (pa_cons (pv 2) pa_nil)) (pa_cons (pe_errV T.err_InvalidFunctions hr (pa_cons (pv 2) pa_nil)) pa_nil))))))))
      (pss_cons (ps_set (i := 3) sc_law.nd rfl (Or.inr rfl) (pe_op op_cat (pv 3) (pe_lst (pa_cons (pe_errV T.err_UnknownName hr (pa_cons (pv 2) pa_nil)) (pa_cons (pe_errV T.err_InvalidChoice hr (pa_cons (pv 2) pa_nil)) (pa_cons (pe_errV T.err_LimitExceeded hr (pa_cons (pv 2) pa_nil)) (pa_cons (pe_errV T.err_InvalidNumber hr (pa_cons (pv 2) pa_nil)) (pa_cons (pe_errV T.err_InvalidTrail hr (pa_cons (pv 2) pa_nil)) pa_nil))))))))
      (pss_cons (ps_set (i := 3) sc_law.nd rfl (Or.inr rfl) (pe_op op_cat (pv 3) (pe_lst (pa_cons (pe_errV T.err_InvalidPlace hr (pa_cons (pv 2) pa_nil)) (pa_cons (pe_errV T.err_InvalidRule hr (pa_cons (pv 2) pa_nil)) (pa_cons (pe_errV T.err_InvalidLimit hr (pa_cons (pv 2) pa_nil)) (pa_cons (pe_errV T.err_InvalidCosts hr (pa_cons (pv 2) pa_nil)) (pa_cons (pe_errV T.err_InvalidLoop hr (pa_cons (pv 2) pa_nil)) (pa_cons (pe_errV T.err_CannotInline hr (pa_cons (pv 2) pa_nil)) pa_nil)))))))))
      (pss_cons (ps_set (i := 3) sc_law.nd rfl (Or.inr rfl) (pe_op op_cat (pv 3) (pe_lst (pa_cons (pmkE T.ox_OverLimit.ox T.iC_OverLimit T.tI_OverLimit G_OverLimit (hr.mono (by decide)) pass0 (by rfl) T.mg_OverLimit (pa_cons pe_str (pa_cons (pv 2) pa_nil))) (pa_cons (pmkE0 T.ox_NothingToUndo.ox T.iC_NothingToUndo T.tI_NothingToUndo G_NothingToUndo (hr.mono (by decide)) pass0 (by rfl) T.mg_NothingToUndo) (pa_cons (pmkE0 T.ox_NothingToRedo.ox T.iC_NothingToRedo T.tI_NothingToRedo G_NothingToRedo (hr.mono (by decide)) pass0 (by rfl) T.mg_NothingToRedo) (pa_cons (pe_errV T.err_InvalidLine hr (pa_cons (pv 2) pa_nil)) (pa_cons (pe_errV T.err_InvalidCommand hr (pa_cons (pv 2) pa_nil)) pa_nil))))))))
      (pss_cons (ps_expr (pe_bm PySem.F.plainAttrs_list PySem.F.slot_list_append PySem.F.type_list_append mt_append (pv 3) (pa_cons (pe_errV T.err_InvalidProgram hr (pa_cons (pv 2) pa_nil)) pa_nil)))
      (pss_cons (ps_for PassesOwn.never rfl (pi_range1 (by rfl) T.range (pa_cons (pe_callB call_len_seq (by rfl) T.len PySem.boot_len (pa_cons (pv 3) pa_nil)) pa_nil)) (pg_name (i := 4) sc_law.nd rfl (Or.inl rfl)) (pss_cons (ps_set (i := 5) sc_law.nd rfl (Or.inl rfl) (pe_ix ix_list (pv 3) (pv 4) (fun _ _ => rfl)))
      (pss_cons (ps_if (PW.pt (pw_or (pt_not (pt_val (pe_callB call_isX (by rfl) T.isinstance boot_isi (pa_cons (pv 5) (pa_cons (pe_glob (v := .ref a.StopError) (by rfl) T.mg_StopError rfl) pa_nil))))) (pw_or1 (pt_not (pt_val (pe_callB call_isX (by rfl) T.isinstance boot_isi (pa_cons (pv 5) (pa_cons (pe_bltn (v := .ty "ValueError") (by rfl) T.ValueError boot_VE rfl) pa_nil)))))))) (pss_one (ps_ret pe_bl)) pss_nil)
      (pss_one (ps_if (pt_cmpR (op_neD hr.units) (pe_lc (own := [("_law_place", 6), ("_law_fits", 7)]) (g := gTup K 2 (gCons (gName 6) (gCons (gName 7) gNil))) (by rfl) sc_law.nd (pi_enum (by rfl) T.enumerate (pa_cons (pcall G_kinds (hr.mono (by decide)) (by rfl) T.d_law_kinds.mg T.d_law_kinds.kp pass0 (pa_cons (pv 5) pa_nil)) pa_nil)) (blkOk_by (own := [("_law_place", 6), ("_law_fits", 7)]) (N := ["_law_script", "_law_pool_here", "_law_v", "_law_made", "_law_at", "_law_e", "_law_place", "_law_fits", "_law_told"]) (sc := defScope s_law) (by decide +kernel)) (fun _ _ _ _ _ => (pg_tup rfl (pgs_cons (pg_name (i := 6) sc_law.nd rfl (Or.inl rfl)) (pgs_cons (pg_name (i := 7) sc_law.nd rfl (Or.inl rfl)) pgs_nil)))) (fun _ _ _ _ _ => pts_one (pt_val (pv 7))) (fun _ _ _ _ _ => (pv 6))) (pe_lst (pa_cons (pv 4) pa_nil)) (nomark _)) (pss_one (ps_ret pe_bl)) pss_nil)))))
      (pss_cons (ps_setLc (i := 8) (own := [("_law_at", 4)]) (g := gName 4) (by rfl) sc_law.nd rfl rfl (sw_true rfl rfl rfl (by decide +kernel)) (pi_tup (pe_tup (pa_cons pe_int (pa_cons pe_int (pa_cons pe_int (pa_cons pe_int (pa_cons pe_int (pa_cons pe_int (pa_cons pe_int (pa_cons pe_int (pa_cons pe_int (pa_cons pe_int (pa_cons pe_int pa_nil))))))))))))) (blkOk_by (own := [("_law_at", 4)]) (N := ["_law_script", "_law_pool_here", "_law_v", "_law_made", "_law_at", "_law_e", "_law_place", "_law_fits", "_law_told"]) (sc := defScope s_law) (by decide +kernel)) (fun _ _ _ _ _ => (pg_name (i := 4) sc_law.nd rfl (Or.inl rfl))) (fun _ _ _ _ _ => pts_nil) (fun _ _ _ _ _ => (pe_efK (K := K) (pe_ix (ix_listK (K := K)) (pv 3) (pv 4) (fun _ _ => rfl)))))
      (pss_cons (ps_set (i := 8) sc_law.nd rfl (Or.inl rfl) (pe_op op_cat (pv 8) (pe_lst (pa_cons (pe_ef (pe_ix ix_list (pv 3) pe_int (fun _ _ => rfl))) (pa_cons (pe_ef (pe_ix ix_list (pv 3) pe_int (fun _ _ => rfl))) (pa_cons (pe_ef (pe_ix ix_list (pv 3) pe_int (fun _ _ => rfl))) (pa_cons (pe_ef (pe_ix ix_list (pv 3) pe_int (fun _ _ => rfl))) (pa_cons (pe_ef (pe_ix ix_list (pv 3) pe_int (fun _ _ => rfl))) (pa_cons (pe_ef (pe_ix ix_list (pv 3) pe_int (fun _ _ => rfl))) pa_nil)))))))))
      (pss_cons (ps_set (i := 8) sc_law.nd rfl (Or.inl rfl) (pe_op op_cat (pv 8) (pe_lst (pa_cons (pe_ef (pe_ix ix_list (pv 3) pe_int (fun _ _ => rfl))) (pa_cons (pe_ef (pe_ix ix_list (pv 3) pe_int (fun _ _ => rfl))) (pa_cons (pe_ef (pe_ix ix_list (pv 3) pe_int (fun _ _ => rfl))) (pa_cons (pe_ef (pe_ix ix_list (pv 3) pe_int (fun _ _ => rfl))) pa_nil)))))))
      (pss_one (ps_ret (pe_and (pe_cmpR (op_eqD hr.units) (pv 8) (pe_op op_rep (pe_lst (pa_cons (pv 2) pa_nil)) (pe_callB call_len_seq (by rfl) T.len PySem.boot_len (pa_cons (pv 8) pa_nil))) (nomark _)) (pe_one (pe_cmpR (op_eqD hr.units) (pe_ef (pe_ix ix_list (pv 3) pe_int (fun _ _ => rfl))) pe_str (nomark _))))))))))))))))), ?_⟩
    refine ⟨_, rfl, l, ns, 0, rfl, hl, by decide, fun p c d hp hpl => ?_⟩
    have hPool : PoolAt (upd H p (.lst [.int c, .int d])) p := ⟨c, d, hpl, upd_same⟩
    generalize upd H p (.lst [.int c, .int d]) = H1 at hPool ⊢
    refine ⟨_, rfl, _, rfl, p, 99, rfl, hPool, by decide, by decide, fun x c2 d2 hx0 hx1 hpl2 => ⟨(by show 2 ≤ sizeLine; decide), fun t ht => ⟨(by show 4 ≤ sizeLine; decide), fun L hL => ?_⟩⟩⟩
    have np : t ≠ p := (ne_of_none upd_same ht).symm
    refine ⟨p, L, _, rfl, ⟨c2, d2, hpl2, same_upd hL _ _ (same_upd ht _ _ upd_same)⟩, upd_same, (ne_of_none (same_upd ht _ _ upd_same) hL).symm, by simp, (by show 4 < 1000; decide), fun v c3 d3 hv hpl3 => ?_⟩
    have hdv : ∃ dd : PyData, (∀ H', Same (upd (upd (upd (upd H1 p (.lst [.int c2, .int d2])) t (.tup [.str "b", .int 1])) L (.lst [.int x, .non, .str "a", .ref t])) p (.lst [.int c3, .int d3])) H' → Dp K H' v dd) ∧ SeqAt.shaped (.list (List.replicate 21 dd)) = true := by
      simp only [List.mem_cons, List.not_mem_nil, or_false] at hv
      rcases hv with rfl | rfl | rfl | rfl
      · exact ⟨.int x, fun _ _ => .int x, by rfl⟩
      · exact ⟨.none, fun _ _ => .non, by rfl⟩
      · exact ⟨.str "a", fun _ _ => .str _, by decide +kernel⟩
      · refine ⟨.tuple [.str "b", .int 1], fun H' hS => .tup (SqT.of (hS _ _ ?_)) (.cons (.str _) (.cons (.int _) .nil)), by decide +kernel⟩
        rw [upd_ne np]
        exact same_upd hL _ _ upd_same
    obtain ⟨dd, hdd, hsh⟩ := hdv
    generalize upd (upd (upd (upd H1 p (.lst [.int c2, .int d2])) t (.tup [.str "b", .int 1])) L (.lst [.int x, .non, .str "a", .ref t])) p (.lst [.int c3, .int d3]) = H5 at hdd ⊢
    refine ⟨_, rfl, _, rfl, fun e0 d0 x1 x2 x3 => ?_⟩
    have A0 := err_at (H := H5) (C := a.InvalidTime) (fs := [("value", v)]) x3
    have s0 := err_sm (H := H5) (C := a.InvalidTime) (fs := [("value", v)]) x1 x2
    generalize upd (upd H5 d0 (exd d0 [("value", v)])) e0 (exo e0 a.InvalidTime (some d0)) = F0 at A0 s0 ⊢
    have M0 := Md.nil.snoc s0 A0
    have S0 := Same.rfl'.trans s0
    refine ⟨_, rfl, _, rfl, fun e1 d1 x1 x2 x3 => ?_⟩
    have A1 := err_at (H := F0) (C := a.InvalidName) (fs := [("value", v)]) x3
    have s1 := err_sm (H := F0) (C := a.InvalidName) (fs := [("value", v)]) x1 x2
    generalize upd (upd F0 d1 (exd d1 [("value", v)])) e1 (exo e1 a.InvalidName (some d1)) = F1 at A1 s1 ⊢
    have M1 := M0.snoc s1 A1
    have S1 := S0.trans s1
    refine ⟨_, rfl, _, rfl, fun e2 d2 x1 x2 x3 => ?_⟩
    have A2 := err_at (H := F1) (C := a.InvalidTurns) (fs := [("value", v)]) x3
    have s2 := err_sm (H := F1) (C := a.InvalidTurns) (fs := [("value", v)]) x1 x2
    generalize upd (upd F1 d2 (exd d2 [("value", v)])) e2 (exo e2 a.InvalidTurns (some d2)) = F2 at A2 s2 ⊢
    have M2 := M1.snoc s2 A2
    have S2 := S1.trans s2
    refine ⟨_, rfl, _, rfl, fun e3 d3 x1 x2 x3 => ?_⟩
    have A3 := err_at (H := F2) (C := a.InvalidCode) (fs := [("value", v)]) x3
    have s3 := err_sm (H := F2) (C := a.InvalidCode) (fs := [("value", v)]) x1 x2
    generalize upd (upd F2 d3 (exd d3 [("value", v)])) e3 (exo e3 a.InvalidCode (some d3)) = F3 at A3 s3 ⊢
    have M3 := M2.snoc s3 A3
    have S3 := S2.trans s3
    refine ⟨_, rfl, _, rfl, fun e4 d4 x1 x2 x3 => ?_⟩
    have A4 := err_at (H := F3) (C := a.InvalidText) (fs := [("text", v)]) x3
    have s4 := err_sm (H := F3) (C := a.InvalidText) (fs := [("text", v)]) x1 x2
    generalize upd (upd F3 d4 (exd d4 [("text", v)])) e4 (exo e4 a.InvalidText (some d4)) = F4 at A4 s4 ⊢
    have M4 := M3.snoc s4 A4
    have S4 := S3.trans s4
    refine ⟨_, rfl, _, rfl, fun e5 d5 x1 x2 x3 => ?_⟩
    have A5 := err_at (H := F4) (C := a.InvalidFunctions) (fs := [("name", v)]) x3
    have s5 := err_sm (H := F4) (C := a.InvalidFunctions) (fs := [("name", v)]) x1 x2
    generalize upd (upd F4 d5 (exd d5 [("name", v)])) e5 (exo e5 a.InvalidFunctions (some d5)) = F5 at A5 s5 ⊢
    have M5 := M4.snoc s5 A5
    have S5 := S4.trans s5
    refine ⟨(by show 6 ≤ sizeLine; decide), fun q0 x1 => ?_⟩
    have hq0 : upd F5 q0 (.lst [V.ref e0, V.ref e1, V.ref e2, V.ref e3, V.ref e4, V.ref e5]) q0 = some (.lst [V.ref e0, V.ref e1, V.ref e2, V.ref e3, V.ref e4, V.ref e5]) := upd_same
    have tq0 : Same F5 (upd F5 q0 (.lst [V.ref e0, V.ref e1, V.ref e2, V.ref e3, V.ref e4, V.ref e5])) := same_upd x1
    generalize upd F5 q0 (.lst [V.ref e0, V.ref e1, V.ref e2, V.ref e3, V.ref e4, V.ref e5]) = J0 at hq0 tq0 ⊢
    have M_q0 := M5.same tq0
    have S_q0 := S5.trans tq0
    refine ⟨_, rfl, _, rfl, _, rfl, fun e6 d6 x1 x2 x3 => ?_⟩
    have A6 := err_at (H := J0) (C := a.UnknownName) (fs := [("name", v)]) x3
    have s6 := err_sm (H := J0) (C := a.UnknownName) (fs := [("name", v)]) x1 x2
    generalize upd (upd J0 d6 (exd d6 [("name", v)])) e6 (exo e6 a.UnknownName (some d6)) = F6 at A6 s6 ⊢
    have M6 := M_q0.snoc s6 A6
    have S6 := S_q0.trans s6
    have hq06 := s6 _ _ hq0
    refine ⟨_, rfl, _, rfl, fun e7 d7 x1 x2 x3 => ?_⟩
    have A7 := err_at (H := F6) (C := a.InvalidChoice) (fs := [("index", v)]) x3
    have s7 := err_sm (H := F6) (C := a.InvalidChoice) (fs := [("index", v)]) x1 x2
    generalize upd (upd F6 d7 (exd d7 [("index", v)])) e7 (exo e7 a.InvalidChoice (some d7)) = F7 at A7 s7 ⊢
    have M7 := M6.snoc s7 A7
    have S7 := S6.trans s7
    have hq07 := s7 _ _ hq06
    refine ⟨_, rfl, _, rfl, fun e8 d8 x1 x2 x3 => ?_⟩
    have A8 := err_at (H := F7) (C := a.LimitExceeded) (fs := [("limit", v)]) x3
    have s8 := err_sm (H := F7) (C := a.LimitExceeded) (fs := [("limit", v)]) x1 x2
    generalize upd (upd F7 d8 (exd d8 [("limit", v)])) e8 (exo e8 a.LimitExceeded (some d8)) = F8 at A8 s8 ⊢
    have M8 := M7.snoc s8 A8
    have S8 := S7.trans s8
    have hq08 := s8 _ _ hq07
    refine ⟨_, rfl, _, rfl, fun e9 d9 x1 x2 x3 => ?_⟩
    have A9 := err_at (H := F8) (C := a.InvalidNumber) (fs := [("value", v)]) x3
    have s9 := err_sm (H := F8) (C := a.InvalidNumber) (fs := [("value", v)]) x1 x2
    generalize upd (upd F8 d9 (exd d9 [("value", v)])) e9 (exo e9 a.InvalidNumber (some d9)) = F9 at A9 s9 ⊢
    have M9 := M8.snoc s9 A9
    have S9 := S8.trans s9
    have hq09 := s9 _ _ hq08
    refine ⟨_, rfl, _, rfl, fun e10 d10 x1 x2 x3 => ?_⟩
    have A10 := err_at (H := F9) (C := a.InvalidTrail) (fs := [("index", v)]) x3
    have s10 := err_sm (H := F9) (C := a.InvalidTrail) (fs := [("index", v)]) x1 x2
    generalize upd (upd F9 d10 (exd d10 [("index", v)])) e10 (exo e10 a.InvalidTrail (some d10)) = F10 at A10 s10 ⊢
    have M10 := M9.snoc s10 A10
    have S10 := S9.trans s10
    have hq010 := s10 _ _ hq09
    refine ⟨(by show 5 ≤ sizeLine; decide), fun q1 x1 => ?_⟩
    have hq1 : upd F10 q1 (.lst [V.ref e6, V.ref e7, V.ref e8, V.ref e9, V.ref e10]) q1 = some (.lst [V.ref e6, V.ref e7, V.ref e8, V.ref e9, V.ref e10]) := upd_same
    have tq1 : Same F10 (upd F10 q1 (.lst [V.ref e6, V.ref e7, V.ref e8, V.ref e9, V.ref e10])) := same_upd x1
    generalize upd F10 q1 (.lst [V.ref e6, V.ref e7, V.ref e8, V.ref e9, V.ref e10]) = J1 at hq1 tq1 ⊢
    have M_q1 := M10.same tq1
    have S_q1 := S10.trans tq1
    have h_q1 := tq1 _ _ hq010
    refine ⟨q0, q1, _, _, rfl, rfl, h_q1, hq1, (by show 6 + 5 ≤ sizeLine; decide), fun p1 x1 => ?_⟩
    have hp1 : upd J1 p1 (.lst ([V.ref e0, V.ref e1, V.ref e2, V.ref e3, V.ref e4, V.ref e5] ++ [V.ref e6, V.ref e7, V.ref e8, V.ref e9, V.ref e10])) p1 = some (.lst ([V.ref e0, V.ref e1, V.ref e2, V.ref e3, V.ref e4, V.ref e5] ++ [V.ref e6, V.ref e7, V.ref e8, V.ref e9, V.ref e10])) := upd_same
    have tp1 : Same J1 (upd J1 p1 (.lst ([V.ref e0, V.ref e1, V.ref e2, V.ref e3, V.ref e4, V.ref e5] ++ [V.ref e6, V.ref e7, V.ref e8, V.ref e9, V.ref e10]))) := same_upd x1
    have np1 := S_q1.free x1
    generalize upd J1 p1 (.lst ([V.ref e0, V.ref e1, V.ref e2, V.ref e3, V.ref e4, V.ref e5] ++ [V.ref e6, V.ref e7, V.ref e8, V.ref e9, V.ref e10])) = G1 at hp1 tp1 ⊢
    have M_p1 := M_q1.same tp1
    have S_p1 := S_q1.trans tp1
    refine ⟨_, rfl, _, rfl, _, rfl, fun e11 d11 x1 x2 x3 => ?_⟩
    have A11 := err_at (H := G1) (C := a.InvalidPlace) (fs := [("value", v)]) x3
    have s11 := err_sm (H := G1) (C := a.InvalidPlace) (fs := [("value", v)]) x1 x2
    generalize upd (upd G1 d11 (exd d11 [("value", v)])) e11 (exo e11 a.InvalidPlace (some d11)) = F11 at A11 s11 ⊢
    have M11 := M_p1.snoc s11 A11
    have S11 := S_p1.trans s11
    have hp111 := s11 _ _ hp1
    refine ⟨_, rfl, _, rfl, fun e12 d12 x1 x2 x3 => ?_⟩
    have A12 := err_at (H := F11) (C := a.InvalidRule) (fs := [("value", v)]) x3
    have s12 := err_sm (H := F11) (C := a.InvalidRule) (fs := [("value", v)]) x1 x2
    generalize upd (upd F11 d12 (exd d12 [("value", v)])) e12 (exo e12 a.InvalidRule (some d12)) = F12 at A12 s12 ⊢
    have M12 := M11.snoc s12 A12
    have S12 := S11.trans s12
    have hp112 := s12 _ _ hp111
    refine ⟨_, rfl, _, rfl, fun e13 d13 x1 x2 x3 => ?_⟩
    have A13 := err_at (H := F12) (C := a.InvalidLimit) (fs := [("value", v)]) x3
    have s13 := err_sm (H := F12) (C := a.InvalidLimit) (fs := [("value", v)]) x1 x2
    generalize upd (upd F12 d13 (exd d13 [("value", v)])) e13 (exo e13 a.InvalidLimit (some d13)) = F13 at A13 s13 ⊢
    have M13 := M12.snoc s13 A13
    have S13 := S12.trans s13
    have hp113 := s13 _ _ hp112
    refine ⟨_, rfl, _, rfl, fun e14 d14 x1 x2 x3 => ?_⟩
    have A14 := err_at (H := F13) (C := a.InvalidCosts) (fs := [("value", v)]) x3
    have s14 := err_sm (H := F13) (C := a.InvalidCosts) (fs := [("value", v)]) x1 x2
    generalize upd (upd F13 d14 (exd d14 [("value", v)])) e14 (exo e14 a.InvalidCosts (some d14)) = F14 at A14 s14 ⊢
    have M14 := M13.snoc s14 A14
    have S14 := S13.trans s14
    have hp114 := s14 _ _ hp113
    refine ⟨_, rfl, _, rfl, fun e15 d15 x1 x2 x3 => ?_⟩
    have A15 := err_at (H := F14) (C := a.InvalidLoop) (fs := [("value", v)]) x3
    have s15 := err_sm (H := F14) (C := a.InvalidLoop) (fs := [("value", v)]) x1 x2
    generalize upd (upd F14 d15 (exd d15 [("value", v)])) e15 (exo e15 a.InvalidLoop (some d15)) = F15 at A15 s15 ⊢
    have M15 := M14.snoc s15 A15
    have S15 := S14.trans s15
    have hp115 := s15 _ _ hp114
    refine ⟨_, rfl, _, rfl, fun e16 d16 x1 x2 x3 => ?_⟩
    have A16 := err_at (H := F15) (C := a.CannotInline) (fs := [("name", v)]) x3
    have s16 := err_sm (H := F15) (C := a.CannotInline) (fs := [("name", v)]) x1 x2
    generalize upd (upd F15 d16 (exd d16 [("name", v)])) e16 (exo e16 a.CannotInline (some d16)) = F16 at A16 s16 ⊢
    have M16 := M15.snoc s16 A16
    have S16 := S15.trans s16
    have hp116 := s16 _ _ hp115
    refine ⟨(by show 6 ≤ sizeLine; decide), fun q2 x1 => ?_⟩
    have hq2 : upd F16 q2 (.lst [V.ref e11, V.ref e12, V.ref e13, V.ref e14, V.ref e15, V.ref e16]) q2 = some (.lst [V.ref e11, V.ref e12, V.ref e13, V.ref e14, V.ref e15, V.ref e16]) := upd_same
    have tq2 : Same F16 (upd F16 q2 (.lst [V.ref e11, V.ref e12, V.ref e13, V.ref e14, V.ref e15, V.ref e16])) := same_upd x1
    generalize upd F16 q2 (.lst [V.ref e11, V.ref e12, V.ref e13, V.ref e14, V.ref e15, V.ref e16]) = J2 at hq2 tq2 ⊢
    have M_q2 := M16.same tq2
    have S_q2 := S16.trans tq2
    have h_q2 := tq2 _ _ hp116
    refine ⟨p1, q2, _, _, rfl, rfl, h_q2, hq2, (by show 11 + 6 ≤ sizeLine; decide), fun p2 x1 => ?_⟩
    have hp2 : upd J2 p2 (.lst (([V.ref e0, V.ref e1, V.ref e2, V.ref e3, V.ref e4, V.ref e5] ++ [V.ref e6, V.ref e7, V.ref e8, V.ref e9, V.ref e10]) ++ [V.ref e11, V.ref e12, V.ref e13, V.ref e14, V.ref e15, V.ref e16])) p2 = some (.lst (([V.ref e0, V.ref e1, V.ref e2, V.ref e3, V.ref e4, V.ref e5] ++ [V.ref e6, V.ref e7, V.ref e8, V.ref e9, V.ref e10]) ++ [V.ref e11, V.ref e12, V.ref e13, V.ref e14, V.ref e15, V.ref e16])) := upd_same
    have tp2 : Same J2 (upd J2 p2 (.lst (([V.ref e0, V.ref e1, V.ref e2, V.ref e3, V.ref e4, V.ref e5] ++ [V.ref e6, V.ref e7, V.ref e8, V.ref e9, V.ref e10]) ++ [V.ref e11, V.ref e12, V.ref e13, V.ref e14, V.ref e15, V.ref e16]))) := same_upd x1
    have np2 := S_q2.free x1
    generalize upd J2 p2 (.lst (([V.ref e0, V.ref e1, V.ref e2, V.ref e3, V.ref e4, V.ref e5] ++ [V.ref e6, V.ref e7, V.ref e8, V.ref e9, V.ref e10]) ++ [V.ref e11, V.ref e12, V.ref e13, V.ref e14, V.ref e15, V.ref e16])) = G2 at hp2 tp2 ⊢
    have M_p2 := M_q2.same tp2
    have S_p2 := S_q2.trans tp2
    refine ⟨_, rfl, _, rfl, (by show 2 ≤ 1000; decide), fun e17 x1 => ⟨e17, _, _, rfl, upd_same, fun F17 y1 A17 => ⟨rfl, ?_⟩⟩⟩
    have s17 : Same G2 F17 := fun b o hb => y1 b o (ne_of_none hb x1) (by rw [upd_ne (ne_of_none hb x1)]; exact hb)
    have M17 := M_p2.snoc s17 A17
    have S17 := S_p2.trans s17
    have hp217 := s17 _ _ hp2
    refine ⟨(by show 0 ≤ 1000; decide), fun e18 x1 => ⟨e18, rfl, upd_same, ⟨rfl, ?_⟩⟩⟩
    have A18 : ErrAt (upd F17 e18 (exo e18 a.NothingToUndo none)) e18 a.NothingToUndo [] := .inl ⟨rfl, upd_same⟩
    have s18 : Same F17 (upd F17 e18 (exo e18 a.NothingToUndo none)) := same_upd x1
    generalize upd F17 e18 (exo e18 a.NothingToUndo none) = F18 at A18 s18 ⊢
    have M18 := M17.snoc s18 A18
    have S18 := S17.trans s18
    have hp218 := s18 _ _ hp217
    refine ⟨(by show 0 ≤ 1000; decide), fun e19 x1 => ⟨e19, rfl, upd_same, ⟨rfl, ?_⟩⟩⟩
    have A19 : ErrAt (upd F18 e19 (exo e19 a.NothingToRedo none)) e19 a.NothingToRedo [] := .inl ⟨rfl, upd_same⟩
    have s19 : Same F18 (upd F18 e19 (exo e19 a.NothingToRedo none)) := same_upd x1
    generalize upd F18 e19 (exo e19 a.NothingToRedo none) = F19 at A19 s19 ⊢
    have M19 := M18.snoc s19 A19
    have S19 := S18.trans s19
    have hp219 := s19 _ _ hp218
    refine ⟨_, rfl, _, rfl, fun e20 d20 x1 x2 x3 => ?_⟩
    have A20 := err_at (H := F19) (C := a.InvalidLine) (fs := [("index", v)]) x3
    have s20 := err_sm (H := F19) (C := a.InvalidLine) (fs := [("index", v)]) x1 x2
    generalize upd (upd F19 d20 (exd d20 [("index", v)])) e20 (exo e20 a.InvalidLine (some d20)) = F20 at A20 s20 ⊢
    have M20 := M19.snoc s20 A20
    have S20 := S19.trans s20
    have hp220 := s20 _ _ hp219
    refine ⟨_, rfl, _, rfl, fun e21 d21 x1 x2 x3 => ?_⟩
    have A21 := err_at (H := F20) (C := a.InvalidCommand) (fs := [("command", v)]) x3
    have s21 := err_sm (H := F20) (C := a.InvalidCommand) (fs := [("command", v)]) x1 x2
    generalize upd (upd F20 d21 (exd d21 [("command", v)])) e21 (exo e21 a.InvalidCommand (some d21)) = F21 at A21 s21 ⊢
    have M21 := M20.snoc s21 A21
    have S21 := S20.trans s21
    have hp221 := s21 _ _ hp220
    refine ⟨(by show 5 ≤ sizeLine; decide), fun q3 x1 => ?_⟩
    have hq3 : upd F21 q3 (.lst [V.ref e17, V.ref e18, V.ref e19, V.ref e20, V.ref e21]) q3 = some (.lst [V.ref e17, V.ref e18, V.ref e19, V.ref e20, V.ref e21]) := upd_same
    have tq3 : Same F21 (upd F21 q3 (.lst [V.ref e17, V.ref e18, V.ref e19, V.ref e20, V.ref e21])) := same_upd x1
    generalize upd F21 q3 (.lst [V.ref e17, V.ref e18, V.ref e19, V.ref e20, V.ref e21]) = J3 at hq3 tq3 ⊢
    have M_q3 := M21.same tq3
    have S_q3 := S21.trans tq3
    have h_q3 := tq3 _ _ hp221
    refine ⟨p2, q3, _, _, rfl, rfl, h_q3, hq3, (by show 17 + 5 ≤ sizeLine; decide), fun p3 x1 => ?_⟩
    have hp3 : upd J3 p3 (.lst ((([V.ref e0, V.ref e1, V.ref e2, V.ref e3, V.ref e4, V.ref e5] ++ [V.ref e6, V.ref e7, V.ref e8, V.ref e9, V.ref e10]) ++ [V.ref e11, V.ref e12, V.ref e13, V.ref e14, V.ref e15, V.ref e16]) ++ [V.ref e17, V.ref e18, V.ref e19, V.ref e20, V.ref e21])) p3 = some (.lst ((([V.ref e0, V.ref e1, V.ref e2, V.ref e3, V.ref e4, V.ref e5] ++ [V.ref e6, V.ref e7, V.ref e8, V.ref e9, V.ref e10]) ++ [V.ref e11, V.ref e12, V.ref e13, V.ref e14, V.ref e15, V.ref e16]) ++ [V.ref e17, V.ref e18, V.ref e19, V.ref e20, V.ref e21])) := upd_same
    have tp3 : Same J3 (upd J3 p3 (.lst ((([V.ref e0, V.ref e1, V.ref e2, V.ref e3, V.ref e4, V.ref e5] ++ [V.ref e6, V.ref e7, V.ref e8, V.ref e9, V.ref e10]) ++ [V.ref e11, V.ref e12, V.ref e13, V.ref e14, V.ref e15, V.ref e16]) ++ [V.ref e17, V.ref e18, V.ref e19, V.ref e20, V.ref e21]))) := same_upd x1
    have np3 := S_q3.free x1
    generalize upd J3 p3 (.lst ((([V.ref e0, V.ref e1, V.ref e2, V.ref e3, V.ref e4, V.ref e5] ++ [V.ref e6, V.ref e7, V.ref e8, V.ref e9, V.ref e10]) ++ [V.ref e11, V.ref e12, V.ref e13, V.ref e14, V.ref e15, V.ref e16]) ++ [V.ref e17, V.ref e18, V.ref e19, V.ref e20, V.ref e21])) = G3 at hp3 tp3 ⊢
    have M_p3 := M_q3.same tp3
    have S_p3 := S_q3.trans tp3
    refine ⟨_, rfl, .inl ⟨rfl, _, SqL.of hp3⟩, _, rfl, _, rfl, fun e22 d22 x1 x2 x3 => ?_⟩
    have A22 := err_at (H := G3) (C := a.InvalidProgram) (fs := [("value", v)]) x3
    have s22 := err_sm (H := G3) (C := a.InvalidProgram) (fs := [("value", v)]) x1 x2
    generalize upd (upd G3 d22 (exd d22 [("value", v)])) e22 (exo e22 a.InvalidProgram (some d22)) = F22 at A22 s22 ⊢
    have h22 := s22 _ _ hp3
    refine ⟨p3, _, _, rfl, rfl, h22, (by show 22 < sizeLine; decide), ?_⟩
    have hM0 := (M_p3.snoc s22 A22).updL (ys := (((([V.ref e0, V.ref e1, V.ref e2, V.ref e3, V.ref e4, V.ref e5] ++ [V.ref e6, V.ref e7, V.ref e8, V.ref e9, V.ref e10]) ++ [V.ref e11, V.ref e12, V.ref e13, V.ref e14, V.ref e15, V.ref e16]) ++ [V.ref e17, V.ref e18, V.ref e19, V.ref e20, V.ref e21]) ++ [V.ref e22])) h22
    have hS0 : Same H5 (upd F22 p3 (.lst (((([V.ref e0, V.ref e1, V.ref e2, V.ref e3, V.ref e4, V.ref e5] ++ [V.ref e6, V.ref e7, V.ref e8, V.ref e9, V.ref e10]) ++ [V.ref e11, V.ref e12, V.ref e13, V.ref e14, V.ref e15, V.ref e16]) ++ [V.ref e17, V.ref e18, V.ref e19, V.ref e20, V.ref e21]) ++ [V.ref e22]))) := fun b o hb => by rw [upd_ne (ne_of_none hb np3)]; exact s22 _ _ (S_p3 b o hb)
    have hF : upd F22 p3 (.lst (((([V.ref e0, V.ref e1, V.ref e2, V.ref e3, V.ref e4, V.ref e5] ++ [V.ref e6, V.ref e7, V.ref e8, V.ref e9, V.ref e10]) ++ [V.ref e11, V.ref e12, V.ref e13, V.ref e14, V.ref e15, V.ref e16]) ++ [V.ref e17, V.ref e18, V.ref e19, V.ref e20, V.ref e21]) ++ [V.ref e22])) p3 = some (.lst (((([V.ref e0, V.ref e1, V.ref e2, V.ref e3, V.ref e4, V.ref e5] ++ [V.ref e6, V.ref e7, V.ref e8, V.ref e9, V.ref e10]) ++ [V.ref e11, V.ref e12, V.ref e13, V.ref e14, V.ref e15, V.ref e16]) ++ [V.ref e17, V.ref e18, V.ref e19, V.ref e20, V.ref e21]) ++ [V.ref e22])) := upd_same
    generalize upd F22 p3 (.lst (((([V.ref e0, V.ref e1, V.ref e2, V.ref e3, V.ref e4, V.ref e5] ++ [V.ref e6, V.ref e7, V.ref e8, V.ref e9, V.ref e10]) ++ [V.ref e11, V.ref e12, V.ref e13, V.ref e14, V.ref e15, V.ref e16]) ++ [V.ref e17, V.ref e18, V.ref e19, V.ref e20, V.ref e21]) ++ [V.ref e22])) = F at hM0 hS0 hF ⊢
    simp only [List.nil_append, List.cons_append, List.append_assoc] at hM0 hF
    obtain ⟨er, her, hM⟩ : ∃ er : List Er, er = ([(e0, a.InvalidTime, [("value", v)]), (e1, a.InvalidName, [("value", v)]), (e2, a.InvalidTurns, [("value", v)]), (e3, a.InvalidCode, [("value", v)]), (e4, a.InvalidText, [("text", v)]), (e5, a.InvalidFunctions, [("name", v)]), (e6, a.UnknownName, [("name", v)]), (e7, a.InvalidChoice, [("index", v)]), (e8, a.LimitExceeded, [("limit", v)]), (e9, a.InvalidNumber, [("value", v)]), (e10, a.InvalidTrail, [("index", v)]), (e11, a.InvalidPlace, [("value", v)]), (e12, a.InvalidRule, [("value", v)]), (e13, a.InvalidLimit, [("value", v)]), (e14, a.InvalidCosts, [("value", v)]), (e15, a.InvalidLoop, [("value", v)]), (e16, a.CannotInline, [("name", v)]), (e17, a.OverLimit, [("needed", v), ("name", .str "f")]), (e18, a.NothingToUndo, []), (e19, a.NothingToRedo, []), (e20, a.InvalidLine, [("index", v)]), (e21, a.InvalidCommand, [("command", v)]), (e22, a.InvalidProgram, [("value", v)])] : List Er) ∧ Md F er := ⟨_, rfl, hM0⟩
    have hxs : F p3 = some (.lst (er.map fun x => .ref x.1)) := by rw [her]; exact hF
    have hcs : er.map (fun x => x.2.1) = cs a := by rw [her]; rfl
    refine ⟨_, rfl, p3, _, rfl, .inl (SqL.of hxs), 23, (by rw [List.length_map, her]; rfl), by decide, by decide, for_range (lo := 0) (n := 23) (fun i σ H' => (∃ v4 v5 v6 v7, σ = [some (.ref l), some (.ref p), some v, some (.ref p3), v4, v5, v6, v7, none]) ∧ Same F H') ?_ ?_ ?_⟩
    · exact ⟨⟨_, _, _, _, rfl⟩, Same.rfl'⟩
    · rintro i σ H' hi ⟨⟨v4, v5, v6, v7, rfl⟩, hS⟩
      have hle : i < er.length := by
        rw [her]
        exact hi
      have hie : er[i]? = some er[i] := List.getElem?_eq_getElem hle
      refine ⟨_, rfl, _, rfl, p3, _, _, .ref er[i].1, rfl, rfl, SqL.of (hS _ _ hxs), (by rw [Int.zero_add]; exact atI_nat (by rw [List.getElem?_map, hie]; rfl)), ?_⟩
      have hci : er[i].2.1 = (cs a).getD i 0 := by
        have z : (er.map fun x => x.2.1)[i]? = some er[i].2.1 := by rw [List.getElem?_map, hie]; rfl
        rw [hcs] at z
        rw [List.getD_eq_getElem?_getD, z]
        rfl
      have hEi : ErrAt H' er[i].1 ((cs a).getD i 0) er[i].2.2 := by
        rw [← hci]
        exact (hM _ (List.getElem_mem hle)).same hS
      have hCi := ec_all T i hi
      refine ⟨_, rfl, er[i].1, _, _, _, _, true, rfl, hEi, hCi, .own _, kit_all T.kitS hi, _, rfl, iteF ⟨_, rfl, er[i].1, _, _, _, _, true, rfl, hEi, hCi, .ty _, kit_all T.kitV hi, _, rfl, iteF ?_⟩⟩
      refine ⟨_, rfl, er[i].1, _, i, rfl, hi, hEi, hCi, fun q H2 s2 hq => ⟨q, _, rfl, SqL.of hq, fun D hD => lc_it (walk_enum (K := K) (a := q) (xs := kl i)) (fun j H3 => H3 q = some (.lst (kl i)) ∧ H3 D = some (.lst (if i < j then [.int (i : Nat)] else [])) ∧ Same H' H3) ?_ ?_ ?_ ?_⟩⟩
      · exact ⟨same_upd hD _ _ hq, by rw [upd_same]; rfl, s2.trans (same_upd hD)⟩
      · rintro j H3 hj ⟨h1, _⟩
        exact SqL.of h1
      · rintro j x H3 H4 hj ⟨h1, h2, h3⟩ ⟨TT, x', y', rfl, hT, rfl, ex, ey⟩
        have hj' : j < 23 := hj
        have ex' : x' = .int (j : Nat) := (Option.some.inj ex).symm
        have ey' : y' = .bl (i == j) := by
          have z : (kl i)[j]? = some (.bl (i == j)) := by
            unfold kl
            rw [List.getElem?_map, List.getElem?_range hj']
            rfl
          exact Option.some.inj (ey.symm.trans z)
        subst ex' ey'
        refine ⟨TT, _, rfl, SqT.of upd_same, rfl, _, _, rfl, _, _, rfl, rfl, rfl, _, rfl, _, rfl, ?_⟩
        have k1 := same_upd hT (o := .tup [.int (j : Nat), .bl (i == j)]) _ _ h1
        have k2 := same_upd hT (o := .tup [.int (j : Nat), .bl (i == j)]) _ _ h2
        have k3 := h3.trans (same_upd hT (o := .tup [.int (j : Nat), .bl (i == j)]))
        refine ite2 (fun hij => ?_) (fun hij => ?_)
        · have hij := eq_of_beq hij
          subst hij
          have nq : q ≠ D := fun z => by
            rw [z, k2] at k1
            have z2 := HO.lst.inj (Option.some.inj k1)
            rw [if_neg (Nat.lt_irrefl _)] at z2
            cases z2
          refine ⟨_, rfl, _, k2, (by rw [if_neg (Nat.lt_irrefl _)]; show 0 < sizeLine; decide), by rw [upd_ne nq]; exact k1, ?_, fun b o hb => ?_⟩
          · rw [upd_same, if_neg (Nat.lt_irrefl _), if_pos (Nat.lt_succ_self _)]
            rfl
          · have nb : b ≠ D := fun z => by
              have y := s2 _ _ hb
              rw [z, hD] at y
              cases y
            rw [upd_ne nb]
            exact k3 _ _ hb
        · have hij : i ≠ j := fun z => hij (by rw [z]; exact beq_self_eq_true _)
          refine ⟨k1, ?_, k3⟩
          have e : (if i < j + 1 then [V.int (i : Nat)] else []) = (if i < j then [V.int (i : Nat)] else []) := by
            by_cases c : i < j
            · rw [if_pos c, if_pos (by omega)]
            · rw [if_neg c, if_neg (by omega)]
          rw [e]
          exact k2
      · rintro H3 ⟨h1, h2, h3⟩
        have h2' : H3 D = some (.lst [.int (i : Nat)]) := by
          have hi' : i < (kl i).length := hi
          rw [if_pos hi'] at h2
          exact h2
        refine ⟨_, rfl, (by show 1 ≤ sizeLine; decide), fun D2 hD2 => ⟨.list [.int (i : Nat)], .list [.int (0 + (i : Int))], .lst (SqL.of (same_upd hD2 _ _ h2')) (.cons (.int _) .nil), .lst (SqL.of upd_same) (.cons (.int _) .nil), by rfl, by rfl, _, rfl, ?_⟩⟩
        have ev : PyData.eqv (.list [.int (i : Nat)]) (.list [.int (0 + (i : Int))]) = true := by simp [PyData.eqv, PyData.eqvAll]
        rw [ev]
        exact ⟨⟨_, _, _, _, rfl⟩, hS.trans (h3.trans (same_upd hD2))⟩
    · rintro σ H' ⟨⟨v4, v5, v6, v7, rfl⟩, hS⟩
      have hxs' := hS _ _ hxs
      have hM' := hM.same hS
      have hdd' : ∀ G, Same H' G → Dp K G v dd := fun G g => hdd G ((hS0.trans hS).trans g)
      have at_ : ∀ {n : Nat} {e C : Addr} {fs : List (Str × V)}, er[n]? = some (e, C, fs) → (er.map fun x => V.ref x.1)[n]? = some (.ref e) := fun {n e C fs} z => by rw [List.getElem?_map, z]; rfl
      have er_ : ∀ {n : Nat} {e C : Addr} {fs : List (Str × V)}, er[n]? = some (e, C, fs) → ErrAt H' e C fs := fun {n e C fs} z => hM' _ (List.mem_of_getElem? z)
      have f0 : Fd K er 0 "value" v := ⟨_, _, _, by rw [her]; rfl, T.ec_InvalidTime, T.err_InvalidTime.noN, by simp [List.lookup]⟩
      have f1 : Fd K er 1 "value" v := ⟨_, _, _, by rw [her]; rfl, T.ec_InvalidName, T.err_InvalidName.noN, by simp [List.lookup]⟩
      have f2 : Fd K er 2 "value" v := ⟨_, _, _, by rw [her]; rfl, T.ec_InvalidTurns, T.err_InvalidTurns.noN, by simp [List.lookup]⟩
      have f3 : Fd K er 3 "value" v := ⟨_, _, _, by rw [her]; rfl, T.ec_InvalidCode, T.err_InvalidCode.noN, by simp [List.lookup]⟩
      have f9 : Fd K er 9 "value" v := ⟨_, _, _, by rw [her]; rfl, T.ec_InvalidNumber, T.err_InvalidNumber.noN, by simp [List.lookup]⟩
      have f11 : Fd K er 11 "value" v := ⟨_, _, _, by rw [her]; rfl, T.ec_InvalidPlace, T.err_InvalidPlace.noN, by simp [List.lookup]⟩
      have f12 : Fd K er 12 "value" v := ⟨_, _, _, by rw [her]; rfl, T.ec_InvalidRule, T.err_InvalidRule.noN, by simp [List.lookup]⟩
      have f13 : Fd K er 13 "value" v := ⟨_, _, _, by rw [her]; rfl, T.ec_InvalidLimit, T.err_InvalidLimit.noN, by simp [List.lookup]⟩
      have f14 : Fd K er 14 "value" v := ⟨_, _, _, by rw [her]; rfl, T.ec_InvalidCosts, T.err_InvalidCosts.noN, by simp [List.lookup]⟩
      have f15 : Fd K er 15 "value" v := ⟨_, _, _, by rw [her]; rfl, T.ec_InvalidLoop, T.err_InvalidLoop.noN, by simp [List.lookup]⟩
      have f22 : Fd K er 22 "value" v := ⟨_, _, _, by rw [her]; rfl, T.ec_InvalidProgram, T.err_InvalidProgram.noN, by simp [List.lookup]⟩
      have f4 : Fd K er 4 "text" v := ⟨_, _, _, by rw [her]; rfl, T.ec_InvalidText, T.err_InvalidText.noN, by simp [List.lookup]⟩
      have f5 : Fd K er 5 "name" v := ⟨_, _, _, by rw [her]; rfl, T.ec_InvalidFunctions, T.err_InvalidFunctions.noN, by simp [List.lookup]⟩
      have f6 : Fd K er 6 "name" v := ⟨_, _, _, by rw [her]; rfl, T.ec_UnknownName, T.err_UnknownName.noN, by simp [List.lookup]⟩
      have f7 : Fd K er 7 "index" v := ⟨_, _, _, by rw [her]; rfl, T.ec_InvalidChoice, T.err_InvalidChoice.noN, by simp [List.lookup]⟩
      have f8 : Fd K er 8 "limit" v := ⟨_, _, _, by rw [her]; rfl, T.ec_LimitExceeded, T.err_LimitExceeded.noN, by simp [List.lookup]⟩
      have f10 : Fd K er 10 "index" v := ⟨_, _, _, by rw [her]; rfl, T.ec_InvalidTrail, T.err_InvalidTrail.noN, by simp [List.lookup]⟩
      have f16 : Fd K er 16 "name" v := ⟨_, _, _, by rw [her]; rfl, T.ec_CannotInline, T.err_CannotInline.noN, by simp [List.lookup]⟩
      have f17 : Fd K er 17 "needed" v := ⟨_, _, _, by rw [her]; rfl, T.ec_OverLimit, T.nA_OverLimit_needed, by simp [List.lookup]⟩
      have f20 : Fd K er 20 "index" v := ⟨_, _, _, by rw [her]; rfl, T.ec_InvalidLine, T.err_InvalidLine.noN, by simp [List.lookup]⟩
      have f21 : Fd K er 21 "command" v := ⟨_, _, _, by rw [her]; rfl, T.ec_InvalidCommand, T.err_InvalidCommand.noN, by simp [List.lookup]⟩
      have g17 : Fd K er 17 "name" (.str "f") := ⟨_, _, _, by rw [her]; rfl, T.ec_OverLimit, T.nA_OverLimit_name, by rfl⟩
      refine ⟨(by show 11 ≤ sizeLine; decide), fun t0 n0 => ⟨t0, rfl, ⟨_, SqT.of upd_same⟩, fun D hD => lc_tup (K := K) (a := t0) (xs := [.int 0, .int 1, .int 2, .int 3, .int 9, .int 11, .int 12, .int 13, .int 14, .int 15, .int 22]) (fun j G => G t0 = some (.tup [.int 0, .int 1, .int 2, .int 3, .int 9, .int 11, .int 12, .int 13, .int 14, .int 15, .int 22]) ∧ G D = some (.lst (List.replicate j v)) ∧ Same H' G) ?_ ?_ ?_ ?_⟩⟩
      · exact ⟨same_upd hD _ _ upd_same, upd_same, (same_upd n0).trans (same_upd hD)⟩
      · rintro j G _ ⟨h1, _⟩
        exact SqT.of h1
      · rintro j x G hx ⟨h1, h2, h3⟩
        obtain ⟨n, rfl, ⟨e, C, fs, g1, g2, g3, g4⟩, hj⟩ : ∃ n : Nat, x = .int (n : Nat) ∧ Fd K er n "value" v ∧ j < 11 := by
          match j, hx with
          | 0, hx => cases hx; exact ⟨0, rfl, f0, by decide⟩
          | 1, hx => cases hx; exact ⟨1, rfl, f1, by decide⟩
          | 2, hx => cases hx; exact ⟨2, rfl, f2, by decide⟩
          | 3, hx => cases hx; exact ⟨3, rfl, f3, by decide⟩
          | 4, hx => cases hx; exact ⟨9, rfl, f9, by decide⟩
          | 5, hx => cases hx; exact ⟨11, rfl, f11, by decide⟩
          | 6, hx => cases hx; exact ⟨12, rfl, f12, by decide⟩
          | 7, hx => cases hx; exact ⟨13, rfl, f13, by decide⟩
          | 8, hx => cases hx; exact ⟨14, rfl, f14, by decide⟩
          | 9, hx => cases hx; exact ⟨15, rfl, f15, by decide⟩
          | 10, hx => cases hx; exact ⟨22, rfl, f22, by decide⟩
          | (m + 11), hx => simp at hx
        have nD : ∀ {b : Addr} {o : HO}, H' b = some o → b ≠ D := fun {b o} y z => by
          have y2 := same_upd n0 (o := .tup [.int 0, .int 1, .int 2, .int 3, .int 9, .int 11, .int 12, .int 13, .int 14, .int 15, .int 22]) _ _ y
          rw [z, hD] at y2
          cases y2
        have nt : t0 ≠ D := fun z => by
          rw [z, h2] at h1
          cases h1
        refine ⟨rfl, _, rfl, _, rfl, p3, _, _, _, rfl, rfl, SqL.of (h3 _ _ hxs'), atI_nat (at_ g1), e, C, fs, v, rfl, g2, g3, (er_ g1).same h3, g4, _, h2, ?_, ?_, ?_, ?_⟩
        · rw [List.length_replicate, sizeLine_eq]
          omega
        · rw [upd_ne nt]
          exact h1
        · rw [upd_same, List.replicate_succ']
        · intro b o hb
          rw [upd_ne (nD hb)]
          exact h3 _ _ hb
      · rintro G ⟨h1, h2, h3⟩
        have h2' : G D = some (.lst (List.replicate 11 v)) := h2
        obtain ⟨u4, C4, fs4, a4, b4, c4, d4⟩ := f4
        obtain ⟨u5, C5, fs5, a5, b5, c5, d5⟩ := f5
        obtain ⟨u6, C6, fs6, a6, b6, c6, d6⟩ := f6
        obtain ⟨u7, C7, fs7, a7, b7, c7, d7⟩ := f7
        obtain ⟨u8, C8, fs8, a8, b8, c8, d8⟩ := f8
        obtain ⟨u10, C10, fs10, a10, b10, c10, d10⟩ := f10
        refine ⟨_, rfl, _, rfl, p3, _, _, _, rfl, rfl, SqL.of (h3 _ _ hxs'), atI_nat (j := 4) (at_ a4), u4, C4, fs4, v, rfl, b4, c4, (er_ a4).same h3, d4, _, rfl, p3, _, _, _, rfl, rfl, SqL.of (h3 _ _ hxs'), atI_nat (j := 5) (at_ a5), u5, C5, fs5, v, rfl, b5, c5, (er_ a5).same h3, d5, _, rfl, p3, _, _, _, rfl, rfl, SqL.of (h3 _ _ hxs'), atI_nat (j := 6) (at_ a6), u6, C6, fs6, v, rfl, b6, c6, (er_ a6).same h3, d6, _, rfl, p3, _, _, _, rfl, rfl, SqL.of (h3 _ _ hxs'), atI_nat (j := 7) (at_ a7), u7, C7, fs7, v, rfl, b7, c7, (er_ a7).same h3, d7, _, rfl, p3, _, _, _, rfl, rfl, SqL.of (h3 _ _ hxs'), atI_nat (j := 8) (at_ a8), u8, C8, fs8, v, rfl, b8, c8, (er_ a8).same h3, d8, _, rfl, p3, _, _, _, rfl, rfl, SqL.of (h3 _ _ hxs'), atI_nat (j := 10) (at_ a10), u10, C10, fs10, v, rfl, b10, c10, (er_ a10).same h3, d10, (by show 6 ≤ sizeLine; decide), fun q1 m1 => ⟨D, q1, _, _, rfl, rfl, same_upd m1 _ _ h2', upd_same, (by show 11 + 6 ≤ sizeLine; decide), fun r1 o1 => ?_⟩⟩
        have w1 := (h3.trans (same_upd m1 (o := .lst [v, v, v, v, v, v]))).trans (same_upd o1 (o := .lst (List.replicate 11 v ++ [v, v, v, v, v, v])))
        obtain ⟨u16, C16, fs16, a16, b16, c16, d16⟩ := f16
        obtain ⟨u17, C17, fs17, a17, b17, c17, d17⟩ := f17
        obtain ⟨u20, C20, fs20, a20, b20, c20, d20⟩ := f20
        obtain ⟨u21, C21, fs21, a21, b21, c21, d21⟩ := f21
        refine ⟨_, rfl, _, rfl, p3, _, _, _, rfl, rfl, SqL.of (w1 _ _ hxs'), atI_nat (j := 16) (at_ a16), u16, C16, fs16, v, rfl, b16, c16, (er_ a16).same w1, d16, _, rfl, p3, _, _, _, rfl, rfl, SqL.of (w1 _ _ hxs'), atI_nat (j := 17) (at_ a17), u17, C17, fs17, v, rfl, b17, c17, (er_ a17).same w1, d17, _, rfl, p3, _, _, _, rfl, rfl, SqL.of (w1 _ _ hxs'), atI_nat (j := 20) (at_ a20), u20, C20, fs20, v, rfl, b20, c20, (er_ a20).same w1, d20, _, rfl, p3, _, _, _, rfl, rfl, SqL.of (w1 _ _ hxs'), atI_nat (j := 21) (at_ a21), u21, C21, fs21, v, rfl, b21, c21, (er_ a21).same w1, d21, (by show 4 ≤ sizeLine; decide), fun q2 m2 => ⟨r1, q2, _, _, rfl, rfl, same_upd m2 _ _ upd_same, upd_same, (by show 17 + 4 ≤ sizeLine; decide), fun r2 o2 => ?_⟩⟩
        have w2 := (w1.trans (same_upd m2 (o := .lst [v, v, v, v]))).trans (same_upd o2 (o := .lst (List.replicate 11 v ++ [v, v, v, v, v, v] ++ [v, v, v, v])))
        have hL2 := upd_same (H := upd (upd (upd G q1 (.lst [v, v, v, v, v, v])) r1 (.lst (List.replicate 11 v ++ [v, v, v, v, v, v]))) q2 (.lst [v, v, v, v])) (a := r2) (o := .lst (List.replicate 11 v ++ [v, v, v, v, v, v] ++ [v, v, v, v]))
        generalize upd (upd (upd (upd G q1 (.lst [v, v, v, v, v, v])) r1 (.lst (List.replicate 11 v ++ [v, v, v, v, v, v]))) q2 (.lst [v, v, v, v])) r2 (.lst (List.replicate 11 v ++ [v, v, v, v, v, v] ++ [v, v, v, v])) = W at w2 hL2 ⊢
        have e21 : List.replicate 11 v ++ [v, v, v, v, v, v] ++ [v, v, v, v] = List.replicate 21 v := rfl
        rw [e21] at hL2
        refine ⟨_, rfl, _, rfl, (by show 1 ≤ sizeLine; decide), fun q3 m3 => ⟨_, rfl, r2, _, rfl, .inl (SqL.of (same_upd m3 _ _ hL2)), q3, _, _, rfl, rfl, upd_same, (by rw [List.length_replicate]; decide), (by rw [List.length_replicate]; decide), (by rw [List.length_replicate]; show 1 * 21 ≤ sizeLine; decide), fun q4 m4 => ?_⟩⟩
        have w3 : ∀ o, Same H' (upd (upd W q3 (.lst [v])) q4 o) := fun o => (w2.trans (same_upd m3)).trans (same_upd m4)
        refine ⟨.list (List.replicate 21 dd), .list (List.replicate 21 dd), .lst (SqL.of (same_upd m4 _ _ (same_upd m3 _ _ hL2))) (dpAll_rep (hdd' _ (w3 _)) 21), .lst (SqL.of upd_same) ?_, hsh, hsh, ?_⟩
        · rw [List.length_replicate]
          exact dpAll_rep (hdd' _ (w3 _)) 21
        obtain ⟨u17, C17, fs17, a17, b17, c17, d17⟩ := g17
        rw [show PyData.eqv (.list (List.replicate 21 dd)) (.list (List.replicate 21 dd)) = true from SeqAt.eqv_refl _ (SeqAt.canLay_of_shaped hsh)]
        refine ⟨_, rfl, iteT ⟨_, rfl, p3, _, _, _, rfl, rfl, SqL.of (w3 _ _ _ hxs'), atI_nat (j := 17) (at_ a17), u17, C17, fs17, _, rfl, b17, c17, (er_ a17).same (w3 _), d17, .str "f", .str "f", .str _, .str _, by decide +kernel, by decide +kernel, ?_⟩⟩
        exact k _
end
end S30

namespace S30
open PySem PySem.Spec PyProof.Rows L2
theorem law_end {l : PySem.W.OpenLaw} {w : World} {K : PySem.W.Frag} {mg : Str → Option Value} {h : Heap} {fa f : Addr} {oc kV doc pm cdv ct : Value} {od an : Option Addr} {osl : Array (Option Value)} (KX : K.In h) (G : h.Ns mainGlobals mg) (TT : ∃ a, Txt l.prog K mg a) (hmg : mg "law" = some (.ref fa))
    (g : PySem.W.nsIn K mainGlobals "law" = some (some (.ref f))) (lk : K.lookup f = some ⟨oc, od, .func (PySem.W.fnOf "law" "law" (defArgs s_law) (defBody s_law) (defScope s_law) .none kV doc pm an cdv ct), osl⟩) (hcd : PySem.W.codeIn K cdv "law" = true) (hkp : PySem.W.keepIn K (.ref f) = true) :
    ∃ fd : FuncData, (∀ (s : Shared) (u : Value), BindsTo s fd ⟨[u], []⟩ [("_law_script", u)]) ∧ ∀ base : Heap, K.In base → base.Ns mainGlobals mg → FnOk l.prog w K mg base CX0 31 fa fd ["_law_script"] (spLaw K) := by
  obtain ⟨a, T⟩ := TT
  have e1 : f = a.law := by
    have z := (PySem.W.mg_of KX G g).symm.trans T.d_law.mg
    cases z
    rfl
  have e2 : f = fa := by
    have z := (PySem.W.mg_of KX G g).symm.trans hmg
    cases z
    rfl
  subst e2
  rw [e1] at lk hkp ⊢
  exact ⟨_, fun s v => .of_eq rfl, fun base _ _ => ok_law T (fun_mk (st := s_law) lk hcd hkp)⟩
end S30
open PySem PySem.W PyProof.Rows L2 in
theorem PySem.Challenge.cw_stoppoints_k30_errors_told_holds : PySem.Challenge.rw_stoppoints_k30_errors_told.Holds := by
  w_on; o_law; k_head; (case hw => w_witness2)
  k_fill
  refine L2.walk_ofK (l := PySem.Challenge.rw_stoppoints_k30_errors_told) (n := 63) (k := 31) (x := "_law_script") (CX := CX0) (sp := S30.spLaw) rfl (by decide) rfl ⟨rfl, by decide, by decide⟩ (fun w h Y => PySem.W.kIn_of Y) ?F (fun _ _ a ns _ _ hS => ⟨a, ns, rfl, hS, fun _ => rfl⟩) (fun _ _ _ _ z => z)
  case F =>
    intro w mg fa h KX G hmg
    have TT := S30.exK (P := PySem.Challenge.pw_stoppoints_k30_errors_told) (mg := mg) KX (by
      refine' ⟨_, S30.txt_mk ?h_mg_StopError ?h_mg_OverLimit ?h_mg_NothingToUndo ?h_mg_NothingToRedo ?h_d_law_pool ?h_d_law_draw ?h_d_law_choose ?h_d_law_kinds ?h_d_law ?h_err_InvalidTime ?h_err_InvalidName ?h_err_InvalidTurns ?h_err_InvalidCode ?h_err_InvalidText ?h_err_InvalidFunctions ?h_err_UnknownName ?h_err_InvalidChoice ?h_err_LimitExceeded ?h_err_InvalidNumber ?h_err_InvalidTrail ?h_err_InvalidPlace ?h_err_InvalidRule ?h_err_InvalidLimit ?h_err_InvalidCosts ?h_err_InvalidLoop ?h_err_CannotInline ?h_err_InvalidLine ?h_err_InvalidCommand ?h_err_InvalidProgram ?h_isinstance ?h_int ?h_range ?h_len ?h_enumerate ?h_ValueError ?h_iC_OverLimit ?h_tI_OverLimit ?h_ox_OverLimit ?h_cd_OverLimit ?h_iC_NothingToUndo ?h_tI_NothingToUndo ?h_ox_NothingToUndo ?h_cd_NothingToUndo ?h_iC_NothingToRedo ?h_tI_NothingToRedo ?h_ox_NothingToRedo ?h_cd_NothingToRedo ?h_nA_OverLimit_name ?h_nA_OverLimit_needed ?h_ec_InvalidTime ?h_ec_InvalidName ?h_ec_InvalidTurns ?h_ec_InvalidCode ?h_ec_InvalidText ?h_ec_InvalidFunctions ?h_ec_UnknownName ?h_ec_InvalidChoice ?h_ec_LimitExceeded ?h_ec_InvalidNumber ?h_ec_InvalidTrail ?h_ec_InvalidPlace ?h_ec_InvalidRule ?h_ec_InvalidLimit ?h_ec_InvalidCosts ?h_ec_InvalidLoop ?h_ec_CannotInline ?h_ec_OverLimit ?h_ec_NothingToUndo ?h_ec_NothingToRedo ?h_ec_InvalidLine ?h_ec_InvalidCommand ?h_ec_InvalidProgram ?h_kits ?h_kitS ?h_kitV⟩
      case h_mg_StopError => exact PySem.W.mg_of KX G (by k_is)
      case h_mg_OverLimit => exact PySem.W.mg_of KX G (by k_is)
      case h_mg_NothingToUndo => exact PySem.W.mg_of KX G (by k_is)
      case h_mg_NothingToRedo => exact PySem.W.mg_of KX G (by k_is)
      case h_d_law_pool => exact defAt_mk KX G (by k_is) (by k_is) (by k_is) (by k_is) (fun _ _ _ _ _ _ us hl => match us, hl with | [_, _], _ => rfl)
      case h_d_law_draw => exact defAt_mk KX G (by k_is) (by k_is) (by k_is) (by k_is) (fun _ _ _ _ _ _ us hl => match us, hl with | [_, _], _ => rfl)
      case h_d_law_choose => exact defAt_mk KX G (by k_is) (by k_is) (by k_is) (by k_is) (fun _ _ _ _ _ _ us hl => match us, hl with | [_, _], _ => rfl)
      case h_d_law_kinds => exact defAt_mk KX G (by k_is) (by k_is) (by k_is) (by k_is) (fun _ _ _ _ _ _ us hl => match us, hl with | [_], _ => rfl)
      case h_d_law => exact defAt_mk KX G (by k_is) (by k_is) (by k_is) (by k_is) (fun _ _ _ _ _ _ us hl => match us, hl with | [_], _ => rfl)
      case h_err_InvalidTime => exact PySem.ErrX.errTxt_mk KX G (by k_is) (by k_is) (by k_is) (by k_is) (by k_is) (by k_is) (by k_is) (by k_is) (by k_is) (by k_is) (by k_is) (by k_is) (by k_is) (by k_is) (by k_is) (by k_is) (by ks_is) (by k_is) (by k_is) (by k_is) (by k_is) (by k_is) (by k_is) (by decide +kernel) (by decide +kernel) (fun _ _ _ => BindsTo.of_eq rfl) (by rfl) (by rfl) (by rfl) (by decide +kernel) (by decide +kernel) (by decide +kernel) (by decide +kernel) (by decide +kernel) (by decide +kernel) (by decide +kernel) (by rfl)
      case h_err_InvalidName => exact PySem.ErrX.errTxt_mk KX G (by k_is) (by k_is) (by k_is) (by k_is) (by k_is) (by k_is) (by k_is) (by k_is) (by k_is) (by k_is) (by k_is) (by k_is) (by k_is) (by k_is) (by k_is) (by k_is) (by ks_is) (by k_is) (by k_is) (by k_is) (by k_is) (by k_is) (by k_is) (by decide +kernel) (by decide +kernel) (fun _ _ _ => BindsTo.of_eq rfl) (by rfl) (by rfl) (by rfl) (by decide +kernel) (by decide +kernel) (by decide +kernel) (by decide +kernel) (by decide +kernel) (by decide +kernel) (by decide +kernel) (by rfl)
      case h_err_InvalidTurns => exact PySem.ErrX.errTxt_mk KX G (by k_is) (by k_is) (by k_is) (by k_is) (by k_is) (by k_is) (by k_is) (by k_is) (by k_is) (by k_is) (by k_is) (by k_is) (by k_is) (by k_is) (by k_is) (by k_is) (by ks_is) (by k_is) (by k_is) (by k_is) (by k_is) (by k_is) (by k_is) (by decide +kernel) (by decide +kernel) (fun _ _ _ => BindsTo.of_eq rfl) (by rfl) (by rfl) (by rfl) (by decide +kernel) (by decide +kernel) (by decide +kernel) (by decide +kernel) (by decide +kernel) (by decide +kernel) (by decide +kernel) (by rfl)
      case h_err_InvalidCode => exact PySem.ErrX.errTxt_mk KX G (by k_is) (by k_is) (by k_is) (by k_is) (by k_is) (by k_is) (by k_is) (by k_is) (by k_is) (by k_is) (by k_is) (by k_is) (by k_is) (by k_is) (by k_is) (by k_is) (by ks_is) (by k_is) (by k_is) (by k_is) (by k_is) (by k_is) (by k_is) (by decide +kernel) (by decide +kernel) (fun _ _ _ => BindsTo.of_eq rfl) (by rfl) (by rfl) (by rfl) (by decide +kernel) (by decide +kernel) (by decide +kernel) (by decide +kernel) (by decide +kernel) (by decide +kernel) (by decide +kernel) (by rfl)
      case h_err_InvalidText => exact PySem.ErrX.errTxt_mk KX G (by k_is) (by k_is) (by k_is) (by k_is) (by k_is) (by k_is) (by k_is) (by k_is) (by k_is) (by k_is) (by k_is) (by k_is) (by k_is) (by k_is) (by k_is) (by k_is) (by ks_is) (by k_is) (by k_is) (by k_is) (by k_is) (by k_is) (by k_is) (by decide +kernel) (by decide +kernel) (fun _ _ _ => BindsTo.of_eq rfl) (by rfl) (by rfl) (by rfl) (by decide +kernel) (by decide +kernel) (by decide +kernel) (by decide +kernel) (by decide +kernel) (by decide +kernel) (by decide +kernel) (by rfl)
      case h_err_InvalidFunctions => exact PySem.ErrX.errTxt_mk KX G (by k_is) (by k_is) (by k_is) (by k_is) (by k_is) (by k_is) (by k_is) (by k_is) (by k_is) (by k_is) (by k_is) (by k_is) (by k_is) (by k_is) (by k_is) (by k_is) (by ks_is) (by k_is) (by k_is) (by k_is) (by k_is) (by k_is) (by k_is) (by decide +kernel) (by decide +kernel) (fun _ _ _ => BindsTo.of_eq rfl) (by rfl) (by rfl) (by rfl) (by decide +kernel) (by decide +kernel) (by decide +kernel) (by decide +kernel) (by decide +kernel) (by decide +kernel) (by decide +kernel) (by rfl)
      case h_err_UnknownName => exact PySem.ErrX.errTxt_mk KX G (by k_is) (by k_is) (by k_is) (by k_is) (by k_is) (by k_is) (by k_is) (by k_is) (by k_is) (by k_is) (by k_is) (by k_is) (by k_is) (by k_is) (by k_is) (by k_is) (by ks_is) (by k_is) (by k_is) (by k_is) (by k_is) (by k_is) (by k_is) (by decide +kernel) (by decide +kernel) (fun _ _ _ => BindsTo.of_eq rfl) (by rfl) (by rfl) (by rfl) (by decide +kernel) (by decide +kernel) (by decide +kernel) (by decide +kernel) (by decide +kernel) (by decide +kernel) (by decide +kernel) (by rfl)
      case h_err_InvalidChoice => exact PySem.ErrX.errTxt_mk KX G (by k_is) (by k_is) (by k_is) (by k_is) (by k_is) (by k_is) (by k_is) (by k_is) (by k_is) (by k_is) (by k_is) (by k_is) (by k_is) (by k_is) (by k_is) (by k_is) (by ks_is) (by k_is) (by k_is) (by k_is) (by k_is) (by k_is) (by k_is) (by decide +kernel) (by decide +kernel) (fun _ _ _ => BindsTo.of_eq rfl) (by rfl) (by rfl) (by rfl) (by decide +kernel) (by decide +kernel) (by decide +kernel) (by decide +kernel) (by decide +kernel) (by decide +kernel) (by decide +kernel) (by rfl)
      case h_err_LimitExceeded => exact PySem.ErrX.errTxt_mk KX G (by k_is) (by k_is) (by k_is) (by k_is) (by k_is) (by k_is) (by k_is) (by k_is) (by k_is) (by k_is) (by k_is) (by k_is) (by k_is) (by k_is) (by k_is) (by k_is) (by ks_is) (by k_is) (by k_is) (by k_is) (by k_is) (by k_is) (by k_is) (by decide +kernel) (by decide +kernel) (fun _ _ _ => BindsTo.of_eq rfl) (by rfl) (by rfl) (by rfl) (by decide +kernel) (by decide +kernel) (by decide +kernel) (by decide +kernel) (by decide +kernel) (by decide +kernel) (by decide +kernel) (by rfl)
      case h_err_InvalidNumber => exact PySem.ErrX.errTxt_mk KX G (by k_is) (by k_is) (by k_is) (by k_is) (by k_is) (by k_is) (by k_is) (by k_is) (by k_is) (by k_is) (by k_is) (by k_is) (by k_is) (by k_is) (by k_is) (by k_is) (by ks_is) (by k_is) (by k_is) (by k_is) (by k_is) (by k_is) (by k_is) (by decide +kernel) (by decide +kernel) (fun _ _ _ => BindsTo.of_eq rfl) (by rfl) (by rfl) (by rfl) (by decide +kernel) (by decide +kernel) (by decide +kernel) (by decide +kernel) (by decide +kernel) (by decide +kernel) (by decide +kernel) (by rfl)
      case h_err_InvalidTrail => exact PySem.ErrX.errTxt_mk KX G (by k_is) (by k_is) (by k_is) (by k_is) (by k_is) (by k_is) (by k_is) (by k_is) (by k_is) (by k_is) (by k_is) (by k_is) (by k_is) (by k_is) (by k_is) (by k_is) (by ks_is) (by k_is) (by k_is) (by k_is) (by k_is) (by k_is) (by k_is) (by decide +kernel) (by decide +kernel) (fun _ _ _ => BindsTo.of_eq rfl) (by rfl) (by rfl) (by rfl) (by decide +kernel) (by decide +kernel) (by decide +kernel) (by decide +kernel) (by decide +kernel) (by decide +kernel) (by decide +kernel) (by rfl)
      case h_err_InvalidPlace => exact PySem.ErrX.errTxt_mk KX G (by k_is) (by k_is) (by k_is) (by k_is) (by k_is) (by k_is) (by k_is) (by k_is) (by k_is) (by k_is) (by k_is) (by k_is) (by k_is) (by k_is) (by k_is) (by k_is) (by ks_is) (by k_is) (by k_is) (by k_is) (by k_is) (by k_is) (by k_is) (by decide +kernel) (by decide +kernel) (fun _ _ _ => BindsTo.of_eq rfl) (by rfl) (by rfl) (by rfl) (by decide +kernel) (by decide +kernel) (by decide +kernel) (by decide +kernel) (by decide +kernel) (by decide +kernel) (by decide +kernel) (by rfl)
      case h_err_InvalidRule => exact PySem.ErrX.errTxt_mk KX G (by k_is) (by k_is) (by k_is) (by k_is) (by k_is) (by k_is) (by k_is) (by k_is) (by k_is) (by k_is) (by k_is) (by k_is) (by k_is) (by k_is) (by k_is) (by k_is) (by ks_is) (by k_is) (by k_is) (by k_is) (by k_is) (by k_is) (by k_is) (by decide +kernel) (by decide +kernel) (fun _ _ _ => BindsTo.of_eq rfl) (by rfl) (by rfl) (by rfl) (by decide +kernel) (by decide +kernel) (by decide +kernel) (by decide +kernel) (by decide +kernel) (by decide +kernel) (by decide +kernel) (by rfl)
      case h_err_InvalidLimit => exact PySem.ErrX.errTxt_mk KX G (by k_is) (by k_is) (by k_is) (by k_is) (by k_is) (by k_is) (by k_is) (by k_is) (by k_is) (by k_is) (by k_is) (by k_is) (by k_is) (by k_is) (by k_is) (by k_is) (by ks_is) (by k_is) (by k_is) (by k_is) (by k_is) (by k_is) (by k_is) (by decide +kernel) (by decide +kernel) (fun _ _ _ => BindsTo.of_eq rfl) (by rfl) (by rfl) (by rfl) (by decide +kernel) (by decide +kernel) (by decide +kernel) (by decide +kernel) (by decide +kernel) (by decide +kernel) (by decide +kernel) (by rfl)
      case h_err_InvalidCosts => exact PySem.ErrX.errTxt_mk KX G (by k_is) (by k_is) (by k_is) (by k_is) (by k_is) (by k_is) (by k_is) (by k_is) (by k_is) (by k_is) (by k_is) (by k_is) (by k_is) (by k_is) (by k_is) (by k_is) (by ks_is) (by k_is) (by k_is) (by k_is) (by k_is) (by k_is) (by k_is) (by decide +kernel) (by decide +kernel) (fun _ _ _ => BindsTo.of_eq rfl) (by rfl) (by rfl) (by rfl) (by decide +kernel) (by decide +kernel) (by decide +kernel) (by decide +kernel) (by decide +kernel) (by decide +kernel) (by decide +kernel) (by rfl)
      case h_err_InvalidLoop => exact PySem.ErrX.errTxt_mk KX G (by k_is) (by k_is) (by k_is) (by k_is) (by k_is) (by k_is) (by k_is) (by k_is) (by k_is) (by k_is) (by k_is) (by k_is) (by k_is) (by k_is) (by k_is) (by k_is) (by ks_is) (by k_is) (by k_is) (by k_is) (by k_is) (by k_is) (by k_is) (by decide +kernel) (by decide +kernel) (fun _ _ _ => BindsTo.of_eq rfl) (by rfl) (by rfl) (by rfl) (by decide +kernel) (by decide +kernel) (by decide +kernel) (by decide +kernel) (by decide +kernel) (by decide +kernel) (by decide +kernel) (by rfl)
      case h_err_CannotInline => exact PySem.ErrX.errTxt_mk KX G (by k_is) (by k_is) (by k_is) (by k_is) (by k_is) (by k_is) (by k_is) (by k_is) (by k_is) (by k_is) (by k_is) (by k_is) (by k_is) (by k_is) (by k_is) (by k_is) (by ks_is) (by k_is) (by k_is) (by k_is) (by k_is) (by k_is) (by k_is) (by decide +kernel) (by decide +kernel) (fun _ _ _ => BindsTo.of_eq rfl) (by rfl) (by rfl) (by rfl) (by decide +kernel) (by decide +kernel) (by decide +kernel) (by decide +kernel) (by decide +kernel) (by decide +kernel) (by decide +kernel) (by rfl)
      case h_err_InvalidLine => exact PySem.ErrX.errTxt_mk KX G (by k_is) (by k_is) (by k_is) (by k_is) (by k_is) (by k_is) (by k_is) (by k_is) (by k_is) (by k_is) (by k_is) (by k_is) (by k_is) (by k_is) (by k_is) (by k_is) (by ks_is) (by k_is) (by k_is) (by k_is) (by k_is) (by k_is) (by k_is) (by decide +kernel) (by decide +kernel) (fun _ _ _ => BindsTo.of_eq rfl) (by rfl) (by rfl) (by rfl) (by decide +kernel) (by decide +kernel) (by decide +kernel) (by decide +kernel) (by decide +kernel) (by decide +kernel) (by decide +kernel) (by rfl)
      case h_err_InvalidCommand => exact PySem.ErrX.errTxt_mk KX G (by k_is) (by k_is) (by k_is) (by k_is) (by k_is) (by k_is) (by k_is) (by k_is) (by k_is) (by k_is) (by k_is) (by k_is) (by k_is) (by k_is) (by k_is) (by k_is) (by ks_is) (by k_is) (by k_is) (by k_is) (by k_is) (by k_is) (by k_is) (by decide +kernel) (by decide +kernel) (fun _ _ _ => BindsTo.of_eq rfl) (by rfl) (by rfl) (by rfl) (by decide +kernel) (by decide +kernel) (by decide +kernel) (by decide +kernel) (by decide +kernel) (by decide +kernel) (by decide +kernel) (by rfl)
      case h_err_InvalidProgram => exact PySem.ErrX.errTxt_mk KX G (by k_is) (by k_is) (by k_is) (by k_is) (by k_is) (by k_is) (by k_is) (by k_is) (by k_is) (by k_is) (by k_is) (by k_is) (by k_is) (by k_is) (by k_is) (by k_is) (by ks_is) (by k_is) (by k_is) (by k_is) (by k_is) (by k_is) (by k_is) (by decide +kernel) (by decide +kernel) (fun _ _ _ => BindsTo.of_eq rfl) (by rfl) (by rfl) (by rfl) (by decide +kernel) (by decide +kernel) (by decide +kernel) (by decide +kernel) (by decide +kernel) (by decide +kernel) (by decide +kernel) (by rfl)
      case h_isinstance => exact PySem.W.mg_none_of KX G (by k_is)
      case h_int => exact PySem.W.mg_none_of KX G (by k_is)
      case h_range => exact PySem.W.mg_none_of KX G (by k_is)
      case h_len => exact PySem.W.mg_none_of KX G (by k_is)
      case h_enumerate => exact PySem.W.mg_none_of KX G (by k_is)
      case h_ValueError => exact PySem.W.mg_none_of KX G (by k_is)
      case h_iC_OverLimit => k_is
      case h_tI_OverLimit => k_is
      case h_ox_OverLimit => exact S30.supE_mk (by k_is) (by decide +kernel) (by k_is) (by k_is) (by k_is) (by k_is) (by k_is) (by ks_is) (by k_is)
      case h_cd_OverLimit => exact cDef_mk KX G (by k_is) (by k_is) (by k_is) (by k_is) (by k_is) (by k_is) (by k_is) (by decide +kernel) (by rfl) (by rfl) (by rfl) (by decide +kernel) (fun _ _ _ _ _ _ _ us hl => match us, hl with | [_, _, _], _ => rfl)
      case h_iC_NothingToUndo => k_is
      case h_tI_NothingToUndo => k_is
      case h_ox_NothingToUndo => exact S30.supE_mk (by k_is) (by decide +kernel) (by k_is) (by k_is) (by k_is) (by k_is) (by k_is) (by ks_is) (by k_is)
      case h_cd_NothingToUndo => exact cDef_mk KX G (by k_is) (by k_is) (by k_is) (by k_is) (by k_is) (by k_is) (by k_is) (by decide +kernel) (by rfl) (by rfl) (by rfl) (by decide +kernel) (fun _ _ _ _ _ _ _ us hl => match us, hl with | [_], _ => rfl)
      case h_iC_NothingToRedo => k_is
      case h_tI_NothingToRedo => k_is
      case h_ox_NothingToRedo => exact S30.supE_mk (by k_is) (by decide +kernel) (by k_is) (by k_is) (by k_is) (by k_is) (by k_is) (by ks_is) (by k_is)
      case h_cd_NothingToRedo => exact cDef_mk KX G (by k_is) (by k_is) (by k_is) (by k_is) (by k_is) (by k_is) (by k_is) (by decide +kernel) (by rfl) (by rfl) (by rfl) (by decide +kernel) (fun _ _ _ _ _ _ _ us hl => match us, hl with | [_], _ => rfl)
      case h_nA_OverLimit_name => show PySem.W.findIn _ (.ref _) "name" = some none; k_is
      case h_nA_OverLimit_needed => show PySem.W.findIn _ (.ref _) "needed" = some none; k_is
      case h_ec_InvalidTime => exact ⟨by k_is, by k_is, by k_is, by k_is, by k_is, by k_is, by k_is, by k_is, by k_is⟩
      case h_ec_InvalidName => exact ⟨by k_is, by k_is, by k_is, by k_is, by k_is, by k_is, by k_is, by k_is, by k_is⟩
      case h_ec_InvalidTurns => exact ⟨by k_is, by k_is, by k_is, by k_is, by k_is, by k_is, by k_is, by k_is, by k_is⟩
      case h_ec_InvalidCode => exact ⟨by k_is, by k_is, by k_is, by k_is, by k_is, by k_is, by k_is, by k_is, by k_is⟩
      case h_ec_InvalidText => exact ⟨by k_is, by k_is, by k_is, by k_is, by k_is, by k_is, by k_is, by k_is, by k_is⟩
      case h_ec_InvalidFunctions => exact ⟨by k_is, by k_is, by k_is, by k_is, by k_is, by k_is, by k_is, by k_is, by k_is⟩
      case h_ec_UnknownName => exact ⟨by k_is, by k_is, by k_is, by k_is, by k_is, by k_is, by k_is, by k_is, by k_is⟩
      case h_ec_InvalidChoice => exact ⟨by k_is, by k_is, by k_is, by k_is, by k_is, by k_is, by k_is, by k_is, by k_is⟩
      case h_ec_LimitExceeded => exact ⟨by k_is, by k_is, by k_is, by k_is, by k_is, by k_is, by k_is, by k_is, by k_is⟩
      case h_ec_InvalidNumber => exact ⟨by k_is, by k_is, by k_is, by k_is, by k_is, by k_is, by k_is, by k_is, by k_is⟩
      case h_ec_InvalidTrail => exact ⟨by k_is, by k_is, by k_is, by k_is, by k_is, by k_is, by k_is, by k_is, by k_is⟩
      case h_ec_InvalidPlace => exact ⟨by k_is, by k_is, by k_is, by k_is, by k_is, by k_is, by k_is, by k_is, by k_is⟩
      case h_ec_InvalidRule => exact ⟨by k_is, by k_is, by k_is, by k_is, by k_is, by k_is, by k_is, by k_is, by k_is⟩
      case h_ec_InvalidLimit => exact ⟨by k_is, by k_is, by k_is, by k_is, by k_is, by k_is, by k_is, by k_is, by k_is⟩
      case h_ec_InvalidCosts => exact ⟨by k_is, by k_is, by k_is, by k_is, by k_is, by k_is, by k_is, by k_is, by k_is⟩
      case h_ec_InvalidLoop => exact ⟨by k_is, by k_is, by k_is, by k_is, by k_is, by k_is, by k_is, by k_is, by k_is⟩
      case h_ec_CannotInline => exact ⟨by k_is, by k_is, by k_is, by k_is, by k_is, by k_is, by k_is, by k_is, by k_is⟩
      case h_ec_OverLimit => exact ⟨by k_is, by k_is, by k_is, by k_is, by k_is, by k_is, by k_is, by k_is, by k_is⟩
      case h_ec_NothingToUndo => exact ⟨by k_is, by k_is, by k_is, by k_is, by k_is, by k_is, by k_is, by k_is, by k_is⟩
      case h_ec_NothingToRedo => exact ⟨by k_is, by k_is, by k_is, by k_is, by k_is, by k_is, by k_is, by k_is, by k_is⟩
      case h_ec_InvalidLine => exact ⟨by k_is, by k_is, by k_is, by k_is, by k_is, by k_is, by k_is, by k_is, by k_is⟩
      case h_ec_InvalidCommand => exact ⟨by k_is, by k_is, by k_is, by k_is, by k_is, by k_is, by k_is, by k_is, by k_is⟩
      case h_ec_InvalidProgram => exact ⟨by k_is, by k_is, by k_is, by k_is, by k_is, by k_is, by k_is, by k_is, by k_is⟩
      case h_kits => exact by kernel_rfl
      case h_kitS => exact by kernel_rfl
      case h_kitV => exact by kernel_rfl)
    refine' S30.law_end KX G TT hmg ?g ?lk ?hcd ?hkp
    case g => k_is
    case lk => k_is
    case hcd => k_is
    case hkp => k_is
