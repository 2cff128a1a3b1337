import PyProof.Rows.All
import Wide.All
import OpenK.AllK
import Wide.FinOn
import HandS.ForMost
import HandS.ForExc
import HandS.ExcField
import KE.KExcSuper
import KE.KOpsOwn
import PyProof.ListMulRight
import HandS.IsInst
import HandS.Wide
import HandS.Codes
import HandS.Lambda
import HandS.EndTab
import HandS.Zip
import HandS.Comp
import PySem.Challenge.RW_stoppoints_k01_spans
set_option Elab.async false
set_option linter.all false
set_option maxRecDepth 100000
set_option maxHeartbeats 0
/-! Own errors over StopError(ValueError): one field, set by an __init__ that says super().__init__('..') first. -/
namespace PySem
namespace ErrX
open PySem.W PySem.Calls PyProof.Rows PySem.HandSPX
abbrev iB (f msg : Str) (q0 q1 q2 q3 q4 q5 q6 q7 q8 q9 : Pos) (j : Nat) : List Stmt :=
  [.Expr (.Call (.Attribute (.Call (.Name "super" q0) [] [] q1) "__init__" q2) [.Constant (.str msg) j q3] [] q4) q5,
   .Assign [.Attribute (.Name "self" q6) f q7] (.Name f q8) q9]
abbrev iS (f : Str) : Scope := { kind := .function, names := [(PySem.Str.ofString "self", .local), (f, .local), (PySem.Str.ofString "__class__", .free), (PySem.Str.ofString "super", .globalImplicit)], isGenerator := false, isCoroutine := false, more := [] }
/-- what the written part says of the error's class at C, its __init__ at fI; f the field and the parameter -/
structure ErrTxt (prog : Program) (K : Frag) (mg : Str → Option Value) (x f : Str) (C fI : Addr) : Prop where
  gC : mg x = some (.ref C)
  cls : ∃ nm q N bs bm sn sub ab col dd k0 k1 k2 k3 k5, K.lookup C = some (excClassObj nm q C N bs bm true sn sub ab col dd k0 k1 k2 k3 k5 "ValueError.__new__") ∧ refsVE bm = true
  sa : findIn K (.ref C) "__setattr__" = some (some (.builtin "object.__setattr__"))
  noN : findIn K (.ref C) f = some none
  iC : findIn K (.ref C) "__init__" = some (some (.ref fI))
  tC : typeIn K (.ref fI) = some (.type "function")
  kC : keepIn K (.ref C) = true
  exC : subIn K (.ref C) (.type "BaseException") = some true
  veC : subIn K (.ref C) (.type "ValueError") = some true
  selfC : mroIn K C (.ref C) = some true
  tyC : typeIn K (.ref C) = some (.type "type")
  hdC : hasDictIn K C = true
  te : exmOne K (.ref C) (.ref C) = some true
  ga : findIn K (.ref C) "__getattribute__" = some (some (.builtin "BaseException.__getattribute__"))
  gg : findIn K (.ref C) "__getattr__" = some none
  sup : ks_superIn K C C "__init__" = some (some (.builtin "ValueError.__init__"))
  opq : nsIn K cStatics "thirdparty.any" = some none
  mS : mg "super" = none
  top : (prog.main.scope.names.lookup ("super" : Str)).isSome = false
  fn : ∃ (q : Str) (oc : Value) (od : Option Addr) (params : Arguments) (doc pm : Value) (an : Option Addr) (cda cc : Addr) (ct : Value) (osl : Array (Option Value)) (msg : Str) (q0 q1 q2 q3 q4 q5 q6 q7 q8 q9 : Pos) (j : Nat) (ar : Arg)
      (ccl cl : Value) (cdd cld : Option Addr) (ccs csl : Array (Option Value)) (vs : Array Value) (file : Str) (tf : Tok),
    K.lookup fI = some ⟨oc, od, .func (ksFn "__init__" q params (iB f msg q0 q1 q2 q3 q4 q5 q6 q7 q8 q9 j) (iS f) .none .none doc pm an (.ref cda) ct cc), osl⟩ ∧ codeIn K (.ref cda) q = true ∧
    (∀ (s : Shared) (u v : Value), BindsTo s (ksFn "__init__" q params (iB f msg q0 q1 q2 q3 q4 q5 q6 q7 q8 q9 j) (iS f) .none .none doc pm an (.ref cda) ct cc) ⟨[u, v], []⟩ [("self", u), (f, v)]) ∧
    (params.posonlyargs ++ params.args).head? = some ar ∧ ar.arg = "self" ∧
    K.lookup cda = some ⟨ccl, cdd, .fields vs, ccs⟩ ∧ vs[2]? = some (.str file tf) ∧ ((prog.main.file : Str) == file) = true ∧
    K.lookup cc = some ⟨cl, cld, .cell (some (.ref C)), csl⟩ ∧
    (iS f).names.lookup ("super" : Str) = some .globalImplicit ∧ (iS f).names.lookup ("__class__" : Str) = some .free ∧ (iS f).names.lookup ("self" : Str) = some .local ∧ (iS f).names.lookup f = some .local ∧ (f == ("__debug__" : Str)) = false ∧ (f == ("self" : Str)) = false ∧ (q2.endLine == q4.line) = true
theorem meth_eq {o : Expr} {name : Str} {apos pos : Pos} {args : List Expr} {env : Env} (h : (apos.endLine == pos.line) = true) (hm : methodCallForm args.length (backTo pos (starEach args env)) [] = true) :
    eval (.Call (.Attribute o name apos) args [] pos) env = (do
      let ov ← attributeBase o name env (eval o env)
      standAt apos.atName
      let (f, first) ← holding [ov] (getMethod ov name (do return (← importBound o env).getD true))
      callWith pos f first (backTo pos (starEach args env)) []) := by
  show (do
    let ov ← attributeBase o name env (eval o env)
    standAt apos.atName
    methodCall o name apos pos env ov (args.length + 0) (backTo pos (starEach args env)) []) = _
  unfold methodCall calleeOf methodCallPos
  rw [Nat.add_zero, hm]
  simp only [h, Bool.or_true, if_true, pure_bind]
theorem one_size (v : Value) : [v].length ≤ sizeLine := by
  rw [sizeLine_eq]
  exact (by decide : 1 ≤ 16777216)
theorem boot_super : bootBuiltins "super" = some (.type "super") := by first | boot_by_name | rfl | kernel_rfl
/-- what __init__ leaves of a fresh exception at x -/
structure InitEnd (h h' : Heap) (x C dx : Addr) (f : Str) (v : Value) : Prop where
  keep : ∀ b o, b ≠ x → h.get? b = some o → h'.get? b = some o
  obj : ∃ t1, h'.get? x = some { cls := .ref C, dict := some dx, data := .fields #[.ref t1, .none, .none, .none, .bool false, .none] }
  dbig : h.objs.size ≤ dx
  dne : dx ≠ x
  ns : h'.Ns1 dx (fun y => if y = f then some v else none)
/-- a made error -/
structure OwnMade (h h' : Heap) (e C d : Addr) (f : Str) (v : Value) : Prop where
  keep : ∀ b o, h.get? b = some o → h'.get? b = some o
  new : h.objs.size ≤ e
  obj : ∃ t1, h'.get? e = some { cls := .ref C, dict := some d, data := .fields #[.ref t1, .none, .none, .none, .bool false, .none] }
  dbig : h.objs.size ≤ d
  dne : d ≠ e
  ns : h'.Ns1 d (fun y => if y = f then some v else none)
section
variable {prog : Program} {w : World} {A : Around} {E : Value → Shared → Prop}
/-- super().__init__(..), bound, called -/
theorem call_mw {h : Heap} {g : Array GenState} {d : Drawn} {t : Nat} {os : OsState} {nm q : Str} {C N : Addr} {bs bm : List Value} {hdct : Bool} {sn : List Str} {sub : List Value} {ab : Bool} {col : Option Bool} {dd : Option Addr} {k0 k1 k2 k3 k5 : Option Value} {u e t0 : Addr} {rest : List Value} {Q : Value → Shared → Prop}
    (hC : h.get? C = some (excClassObj nm q C N bs bm hdct sn sub ab col dd k0 k1 k2 k3 k5 "ValueError.__new__")) (he : h.get? e = some (excO C t0)) (hu : h.get? u = some (kxs_mw "ValueError.__init__" e)) (hrest : rest.length ≤ sizeLine)
    (hq : ∀ h' t1, (∀ b o, b ≠ e → h.get? b = some o → h'.get? b = some o) → h'.get? e = some (excO C t1) → Q .none ⟨h', g, d, t, os⟩) :
    wpAny (model prog w) A (call (.ref u) rest) Q E ⟨h, g, d, t, os⟩ := by
  refine wpAny_call (codeAny_of_tree ?_)
  show wpAny _ A.in1 (callAny (.ref u) ⟨rest, []⟩) _ _ _
  simp only [callAny]
  refine wpAny_bind (wpAny_load hu ?_)
  simp only [kxs_mw, show (Value.type "method-wrapper" == Value.type "method" || Value.type "method-wrapper" == Value.type "builtin_function_or_method" || Value.type "method-wrapper" == Value.type "method-wrapper") = true by decide, if_true]
  refine W.KFB.if_so (by decide) ?_
  refine wpAny_bind (check_bound_init F.excBase_ValueError.toExcCallFacts hC he rfl ?_)
  refine wpAny_bind (wpAny_pure (wpAny_pure ?_))
  refine ⟨Code.quiet_builtin _ (by decide +kernel), codeAny_builtin F.excBase_ValueError.initEntry ?_⟩
  rw [Around.under_plainId F.excBase_ValueError.init.plain _]
  wp_walk
  refine hq _ h.objs.size (fun b o hb ho => ?_) ?_
  · rw [Heap.get?_update_other _ _ (Ne.symm hb)]
    exact Heap.get?_push_of_some _ ho
  · rw [Heap.get?_update_self _ (Heap.get?_push_of_some _ he) rfl]
    rfl

theorem err_init {s : Shared} {K : Frag} {mg : Str → Option Value} {x' f : Str} {C fI : Addr} {R : Result → Shared → Prop} (T : ErrTxt prog K mg x' f C fI) {x t0 : Addr} {v : Value} (X : K.In s.heap) (hlim : s.heap.NoLimit)
    (hG : s.heap.Ns mainGlobals mg) (hB : ∃ mb, s.heap.Ns builtinsNs mb ∧ ∀ y : Str, y ≠ "__name__" → mb y = bootBuiltins y)
    (hx : s.heap.get? x = some (excO C t0)) (hnx : K.lookup x = none) (hroom : A.depth < recursionLimit)
    (hq : ∀ h' tk dx, InitEnd s.heap h' x C dx f v → R (.ok (.ret .none)) { s with heap := h', toks := tk }) :
    codeAny (model prog w) A (.call (.ref fI) ⟨[.ref x, v], []⟩) R s := by
  obtain ⟨q, oc, od, params, doc, pm, an, cda, cc, ct, osl, msg, q0, q1, q2, q3, q4, q5, q6, q7, q8, q9, j, ar, ccl, cl, cdd, cld, ccs, csl, vs, file, tf, ho, hcd, hbind, hp, har, hcode, hvs, hfile, hcell, hks, hkc, hkself, hkf, hfd, hfs, hln⟩ := T.fn
  obtain ⟨nm, qn, N, bs, bm, sn, sub, ab, col, dd, k0, k1, k2, k3, k5, hC, hbm⟩ := T.cls
  have hcl : clsIn K C = some { name := nm, bases := bs, mro := .ref C :: bm, ns := N, qualname := qn, hasDict := true, slotNames := sn, subclasses := sub, abstract := ab, collection := col, hasDel := false } := by unfold clsIn; rw [hC] <;> rfl
  have hk : (iS f).kind = .function := rfl
  have hnc : ∀ x ∈ (iS f).names, x.2 ≠ .cell := by
    intro y hy
    simp only [iS, List.mem_cons, List.not_mem_nil, or_false] at hy
    rcases hy with rfl | rfl | rfl | rfl <;> (intro z; cases z)
  have hloc : ∀ y ∈ [(("self" : Str), Value.ref x), (f, v)], (iS f).names.lookup y.1 = some .local := by
    intro y hy
    simp only [List.mem_cons, List.not_mem_nil, or_false] at hy
    rcases hy with rfl | rfl
    · exact hkself
    · exact hkf
  refine ks_codeAny_call_defAt (fd := ksFn "__init__" q params (iB f msg q0 q1 q2 q3 q4 q5 q6 q7 q8 q9 j) (iS f) .none .none doc pm an (.ref cda) ct cc) (body := iB f msg q0 q1 q2 q3 q4 q5 q6 q7 q8 q9 j)
    hroom (X _ _ ho) rfl hlim (codeRec_of X hcd) rfl (hbind _ _ _) hnc hloc (fun h₁ hns hk₁ => ?_) rfl rfl rfl
  have hxL : s.heap.objs.size ≠ x := Nat.ne_of_gt (Heap.lt_size hx)
  have X₁ : K.In h₁ := X.keeps hk₁
  have hx₁ := hk₁ _ _ hx
  have hself : (List.reverse [(("self" : Str), Value.ref x), (f, v)]).lookup ("self" : Str) = some (.ref x) := by
    have e : (("self" : Str) == f) = false := by
      rw [beq_eq_false_iff_ne] at hfs ⊢
      exact fun z => hfs z.symm
    simp [List.lookup, e]
  have hval : (List.reverse [(("self" : Str), Value.ref x), (f, v)]).lookup f = some v := by simp [List.lookup]
  obtain ⟨mb, hb1, hb2⟩ := hB
  have I : InstAt h₁ x (excO C t0) C none := ⟨hx₁, rfl, rfl, trivial⟩
  obtain ⟨hp0, g0, d0, tk0, os0⟩ := s
  refine ks_wpAt_execs_cons (ks_wpAt_Expr_any (ks_wpAt_MethodCall ?_ (meth_eq hln (by rfl))))
  show _root_.PySem.wpAt (model prog w) _ _ (attributeBase (.Call (.Name "super" q0) [] [] q1) "__init__" (ksEnv q (iS f) hp0.objs.size fI (.ref cda) cc) _) _ _ _
  have hD1 := X₁ _ _ hC
  refine ks_wpAt_super_base (env := ksEnv q (iS f) hp0.objs.size fI (.ref cda) cc) hks hkc (by decide) rfl (X₁ _ _ ho) rfl hp rfl (X₁ _ _ hcode) rfl hvs hfile T.top ?_
  refine ks_loadName_global hk hks (loadGlobal_builtin (env := ksEnv q (iS f) hp0.objs.size fI (.ref cda) cc) (hG.keeps hk₁) T.mS (hb1.keeps hk₁) ((hb2 _ (by decide +kernel)).trans boot_super) ⟨rfl, ?_⟩)
  refine wpAny_loadName_free hk hkc rfl ⟨_, X₁ _ _ hcell, rfl⟩ ?_
  rw [har]
  refine wpAny_loadName_local hk hkself hns hself ?_
  refine ks_wpAny_isType_cls hD1 rfl ⟨rfl, ?_⟩
  refine ks_wpAny_call_super hD1 rfl hx₁ rfl (fun c e => by cases e) (looks_mroIn X₁ T.selfC) (fun h₂ e₂ k₂ => ?_)
  -- the bound __init__
  have X₂ : K.In h₂ := X₁.keeps k₂
  have hx₂ := k₂ _ _ hx₁
  have hI : Looks (model prog w) h₂ (isInstance (.ref x) (.type "ValueError")) true := (show InstAt h₂ x (excO C t0) C none from ⟨hx₂, rfl, rfl, trivial⟩).type.andThen (looks_subIn X₂ T.veC)
  have hsup : alongIn K "__init__" (((Value.ref C :: bm).dropWhile (· != .ref C)).drop 1) = some (some (.builtin "ValueError.__init__")) := by
    have z := T.sup
    unfold ks_superIn at z
    rw [hcl] at z
    exact z
  refine kxs_getMethod kxs_ValueError e₂ (looks_opaque X₂ T.opq) (l₀ := .ref C :: bm) (fun A Q E s k q => wpAny_bind ((looks_clsIn X₂ hcl) A _ E s k (wpAny_pure q))) rfl X₂ hsup hI (ks_ne X₁ I hcl) (by decide) ?_
  have hu : (h₂.push (kxs_mw "ValueError.__init__" x)).get? h₂.objs.size = some (kxs_mw "ValueError.__init__" x) := Heap.get?_push_at rfl rfl
  have hxu : x ≠ h₂.objs.size := Nat.ne_of_lt (Heap.lt_size hx₂)
  have hx₃ : (h₂.push (kxs_mw "ValueError.__init__" x)).get? x = some (excO C t0) := Heap.get?_push_of_some _ hx₂
  have hC₃ := Heap.get?_push_of_some (kxs_mw "ValueError.__init__" x) (X₂ _ _ hC)
  refine kxs_callWith (i := "ValueError.__init__") (x := x) (by rfl) ?_
  show wpAny _ _ (evalArgs _ true ((false, eval (.Constant (.str msg) j q3) _) :: backTo q4 (starEach [] _)) []) _ _ _
  refine evalArgs_plain (Calls.spliced_cons (Calls.Constant_str (Calls.spliced_nil ⟨hu, ?_⟩)))
  refine call_mw hC₃ hx₃ hu (one_size _) (fun h₄ t1 k₄ hx₄ => ?_)
  have k4 : ∀ b o, b ≠ x → h₁.get? b = some o → h₄.get? b = some o := fun b o nb e => k₄ b o nb (Heap.get?_push_of_some _ (k₂ b o e))
  have X₄ : K.In h₄ := fun a o e => k4 a o (fun z => by rw [z, hnx] at e; cases e) (X₁ a o e)
  have hns4 : h₄.Ns hp0.objs.size (fun y => (List.reverse [(("self" : Str), Value.ref x), (f, v)]).lookup y) := by
    obtain ⟨o, es, ep, e1, r⟩ := hns
    exact ⟨o, es, ep, k4 _ _ hxL e1, r⟩
  refine ks_wpAt_execs_cons (ks_wpAt_Assign_Attr ?_)
  refine wpAt_of_wpAny (wpAny_Name (wpAny_loadName_local hk hkf hns4 hval ?_) hfd)
  refine wpAny_Name (wpAny_loadName_local hk hkself hns4 hself ?_) (by decide)
  refine set_plain X₄ (ox := excO C t1) (od := none) ⟨hx₄, rfl, rfl, trivial⟩ T.sa ?_
  refine exc_osa X₄ hx₄ hcl (show refsVE (.ref C :: bm) = true from hbm) rfl T.noN (fun h₅ tk₅ dx k₅ dn dne hx₅ hn₅ => ?_)
  refine wpAt_of_wpAny (wpAny_execs_nil ?_)
  exact hq h₅ tk₅ dx ⟨fun b o hb e => k₅ b o hb (k4 b o hb (hk₁ b o e)), ⟨_, hx₅⟩, Nat.le_of_lt (Nat.lt_of_lt_of_le hns4.lt dn), dne, hn₅⟩
theorem err_made {s : Shared} {K : Frag} {mg : Str → Option Value} {x' f : Str} {C fI : Addr} {R : Result → Shared → Prop} (T : ErrTxt prog K mg x' f C fI) {v : Value} (X : K.In s.heap) (hlim : s.heap.NoLimit)
    (hG : s.heap.Ns mainGlobals mg) (hB : ∃ mb, s.heap.Ns builtinsNs mb ∧ ∀ y : Str, y ≠ "__name__" → mb y = bootBuiltins y) (hroom : A.depth + 1 < recursionLimit)
    (hq : ∀ h' tk e d, OwnMade s.heap h' e C d f v → R (.ok (.ret (.ref e))) { s with heap := h', toks := tk }) :
    codeAny (model prog w) A (.call (.ref C) ⟨[v], []⟩) R s := by
  obtain ⟨nm, q, N, bs, bm, sn, sub, ab, col, dd, k0, k1, k2, k3, k5, hC, hbm⟩ := T.cls
  obtain ⟨hp, g, dr, tk, os⟩ := s
  have k : ∀ b o, hp.get? b = some o → ((hp.push (kdv_tup [v])).push (excO C hp.objs.size)).get? b = some o := fun b o e => Heap.get?_push_of_some _ (Heap.get?_push_of_some _ e)
  have hget : ((hp.push (kdv_tup [v])).push (excO C hp.objs.size)).get? (hp.objs.size + 1) = some (excO C hp.objs.size) := by heap_get
  have hnx : K.lookup (hp.objs.size + 1) = none := by
    cases e : K.lookup (hp.objs.size + 1) with
    | none => rfl
    | some o =>
      have z : hp.get? (hp.objs.size + 1) = some o := X _ _ e
      exact absurd (Nat.lt_of_succ_lt (Heap.lt_size z)) (Nat.lt_irrefl _)
  refine call_own F.excBase_ValueError (fun X => refsVE_contains X bm hbm) (X _ _ hC) (looks_findIn X T.iC) (fun self => bind_fn X self T.tC) (one_size v) ?_
  obtain ⟨mb, hb1, hb2⟩ := hB
  refine err_init (s := ⟨(hp.push (kdv_tup [v])).push (excO C hp.objs.size), g, dr, tk, os⟩) T (X.keeps k) (hlim.keeps k) (hG.keeps k) ⟨mb, hb1.keeps k, hb2⟩ hget hnx ?_ fun h' tk' dx ⟨k', hx, dn, dne, hns⟩ => ?_
  · show A.depth + 1 < recursionLimit
    exact hroom
  · have old : ∀ b o, hp.get? b = some o → h'.get? b = some o := fun b o e => k' b o (Nat.ne_of_lt (Nat.lt_succ_of_lt (Heap.lt_size e))) (k b o e)
    have z : hp.objs.size + 1 + 1 ≤ dx := by
      first
        | (simpa only [Heap.size_push] using dn)
        | exact dn
        | (have q := dn; rw [Heap.size_push, Heap.size_push] at q; exact q)
    exact ⟨rfl, hq h' tk' (hp.objs.size + 1) dx ⟨old, Nat.le_succ _, hx, Nat.le_trans (Nat.le_trans (Nat.le_succ _) (Nat.le_succ _)) z, dne, hns⟩⟩
end
end ErrX
end PySem
namespace PySem
namespace ErrX
open PySem.W PySem.Calls PyProof.Rows PySem.HandSPX
theorem exm_own {K : Frag} {S : Addr} (h1 : subIn K (.ref S) (.type "BaseException") = some true) (h2 : isClsIn K S = true) (h3 : typeIn K (.ref S) = some (.type "type")) (h4 : subIn K (.ref S) (.ref S) = some true) : exmOne K (.ref S) (.ref S) = some true := by
  have h2' : (clsIn K S).isSome = true := h2
  simp [exmOne, kitCls, h1, h2', h3, h4]
theorem errTxt_mk {prog : Program} {K : Frag} {mg : Str → Option Value} {h : Heap} {x f : Str} {C fI : Addr} {nm qn : Str} {N : Addr} {bs bm : List Value} {sn : List Str} {sub : List Value} {ab : Bool} {col : Option Bool} {dd : Option Addr} {k0 k1 k2 k3 k5 : Option Value}
    {q : Str} {oc : Value} {od : Option Addr} {params : Arguments} {doc pm : Value} {an : Option Addr} {cda cc : Addr} {ct : Value} {osl : Array (Option Value)} {msg : Str} {q0 q1 q2 q3 q4 q5 q6 q7 q8 q9 : Pos} {j : Nat} {ar : Arg}
    {ccl cl : Value} {cdd cld : Option Addr} {ccs csl : Array (Option Value)} {vs : Array Value} {file : Str} {tf : Tok} (X : K.In h) (G : h.Ns mainGlobals mg)
    (gC : nsIn K mainGlobals x = some (some (.ref C))) (cls : K.lookup C = some (excClassObj nm qn C N bs bm true sn sub ab col dd k0 k1 k2 k3 k5 "ValueError.__new__"))
    (sa : findIn K (.ref C) "__setattr__" = some (some (.builtin "object.__setattr__"))) (noN : findIn K (.ref C) f = some none) (iC : findIn K (.ref C) "__init__" = some (some (.ref fI))) (tC : typeIn K (.ref fI) = some (.type "function"))
    (kC : keepIn K (.ref C) = true) (exC : subIn K (.ref C) (.type "BaseException") = some true) (veC : subIn K (.ref C) (.type "ValueError") = some true) (selfC : mroIn K C (.ref C) = some true) (tyC : typeIn K (.ref C) = some (.type "type")) (hdC : hasDictIn K C = true)
    (isC : isClsIn K C = true) (ssC : subIn K (.ref C) (.ref C) = some true)
    (ga : findIn K (.ref C) "__getattribute__" = some (some (.builtin "BaseException.__getattribute__"))) (gg : findIn K (.ref C) "__getattr__" = some none)
    (sup : ks_superIn K C C "__init__" = some (some (.builtin "ValueError.__init__"))) (opq : nsIn K cStatics "thirdparty.any" = some none) (mS : nsIn K mainGlobals "super" = some none)
    (lk : K.lookup fI = some ⟨oc, od, .func (ksFn "__init__" q params (iB f msg q0 q1 q2 q3 q4 q5 q6 q7 q8 q9 j) (iS f) .none .none doc pm an (.ref cda) ct cc), osl⟩) (hcd : codeIn K (.ref cda) q = true)
    (lc : K.lookup cda = some ⟨ccl, cdd, .fields vs, ccs⟩) (lcc : K.lookup cc = some ⟨cl, cld, .cell (some (.ref C)), csl⟩)
    (hbm : refsVE bm = true) (top : (prog.main.scope.names.lookup ("super" : Str)).isSome = false)
    (hb : ∀ (s : Shared) (u v : Value), BindsTo s (ksFn "__init__" q params (iB f msg q0 q1 q2 q3 q4 q5 q6 q7 q8 q9 j) (iS f) .none .none doc pm an (.ref cda) ct cc) ⟨[u, v], []⟩ [("self", u), (f, v)])
    (hp : (params.posonlyargs ++ params.args).head? = some ar) (har : ar.arg = "self") (hvs : vs[2]? = some (.str file tf)) (hfile : ((prog.main.file : Str) == file) = true)
    (n1 : (iS f).names.lookup ("super" : Str) = some .globalImplicit) (n2 : (iS f).names.lookup ("__class__" : Str) = some .free) (n3 : (iS f).names.lookup ("self" : Str) = some .local) (n4 : (iS f).names.lookup f = some .local)
    (n5 : (f == ("__debug__" : Str)) = false) (n6 : (f == ("self" : Str)) = false) (n7 : (q2.endLine == q4.line) = true) : ErrTxt prog K mg x f C fI where
  gC := mg_of X G gC
  cls := ⟨_, _, _, _, _, _, _, _, _, _, _, _, _, _, _, cls, hbm⟩
  sa := sa
  noN := noN
  iC := iC
  tC := tC
  kC := kC
  exC := exC
  veC := veC
  selfC := selfC
  tyC := tyC
  hdC := hdC
  te := exm_own exC isC tyC ssC
  ga := ga
  gg := gg
  sup := sup
  opq := opq
  mS := mg_none_of X G mS
  top := top
  fn := ⟨_, _, _, _, _, _, _, _, _, _, _, _, _, _, _, _, _, _, _, _, _, _, _, _, _, _, _, _, _, _, _, _, _, lk, hcd, hb, hp, har, lc, hvs, hfile, lcc, n1, n2, n3, n4, n5, n6, n7⟩
end ErrX
end PySem
namespace L2
open PySem PySem.Spec PyProof.Rows
theorem relO_one {v : V} {v' : Value} {n : Str} (r : RelV v v') (f : Str) : RelO (List.lookup f [(n, v)]) (if f = n then some v' else none) := by
  by_cases hw : f = n
  · subst hw
    rw [if_pos rfl]
    have q : List.lookup f [(f, v)] = some v := by simp [List.lookup]
    rw [q]
    exact r
  · rw [if_neg hw]
    have qw : (f == n) = false := by simpa using hw
    have q2 : List.lookup f [(n, v)] = none := by simp [List.lookup, qw]
    rw [q2]
    trivial
section
variable {X : Cx} {x f : Str} {C fI : Addr}
/-- x(e), an own error with one field f -/
def tMkErr (C : Addr) (f : Str) (ta : TA) : St → Hp → XK → Prop := fun σ H Q => ta σ H fun vs H1 => ∃ v, vs = [v] ∧ ∀ d, H1 d = none → Q (.ref C) (some d) (upd H1 d (.xd [(f, v)]))
theorem pmk_err {a : Expr} {ta : TA} {p pos : Pos} {k : Nat} (T : PySem.ErrX.ErrTxt X.prog X.K X.mg x f C fI) (hr : Room k X.A) (ha : PA X [a] ta) (hg : Gl X x := by rfl) (hdb : (x == ("__debug__" : Str)) = false := by decide)
    (he : starEach (a :: []) X.env = (false, eval a X.env) :: starEach [] X.env := by rfl) (hpl : (backTo pos (starEach [] X.env)).any (·.1) = false := by rfl) :
    PMk X (.Call (.Name x p) [a] [] pos) (tMkErr C f ta) := by
  intro pins s σ H Q I h
  refine wpAny_Call_Name_kw (ld_glob I hg T.gC ?_ hdb)
  refine PySem.W.callWith_K (h₀ := X.base) I.ok.mod.kin T.kC (thn (ha.run pos pins s σ H _ I h) fun us s1 hh => ?_) he hpl
  obtain ⟨vs, H1, I1, r1, v, ev, q1⟩ := hh
  subst ev
  refine ⟨I1.kIn, ?_⟩
  cases r1 with
  | cons rv rn =>
    rename_i v' us'
    cases rn
    show wpAny _ _ (call (.ref C) [v']) _ _ _
    have hlim := I1.nolimit
    have hG := I1.mod.glob.keeps I1.bk
    obtain ⟨mb, hb1, hb2⟩ := I1.mod.blt
    have hB := hb1.keeps I1.bk
    obtain ⟨hp, g, dr, tk, os⟩ := s1
    refine wpAny_call (PySem.ErrX.err_made T I1.kIn hlim hG ⟨mb, hB, hb2⟩ (by have := hr.dp; omega) fun h' tk' e d M => ?_)
    show MkP X pins σ Q (.ref e) ⟨h', g, dr, tk', os⟩
    obtain ⟨t1, hoe⟩ := M.obj
    have hns := M.ns
    obtain ⟨G', g1, g2⟩ := restrict h' fun b => decide (b ≠ e)
    have gk : ∀ b, b ≠ e → G'.get? b = h'.get? b := fun b hb => g1 b (decide_eq_true hb)
    have ge : G'.get? e = none := g2 e (by simp)
    have old : ∀ b o, hp.get? b = some o → G'.get? b = some o := fun b o q => (gk b (Nat.ne_of_lt (Nat.lt_of_lt_of_le (Heap.lt_size q) M.new))).trans (M.keep b o q)
    have ob : ObjOk X.prog X.w (upd H1 d (.xd [(f, v)])) G' d (.xd [(f, v)]) :=
      ⟨_, hns.at (fun o q => (gk d M.dne).trans q), fun f => relO_one rv f⟩
    have J : Inv X pins σ (upd H1 d (.xd [(f, v)])) ⟨G', g, dr, tk', os⟩ := I1.laid (t' := tk') old M.dbig ob
    refine ⟨e, _, _, ⟨G', g, dr, tk', os⟩, _, .ref C, some d, rfl, J, fun b o q => ?_, ge, hoe, ⟨rfl, rfl⟩, rfl, rfl, ?_, rfl, I1.bare, raises_own T.exC T.tyC, q1 d (I1.hok.fresh M.dbig)⟩
    · by_cases hb : b = e
      · have q' : G'.get? b = some o := q
        rw [hb, ge] at q'; cases q'
      · exact (gk b hb).symm.trans q
    · rw [upd_ne (Ne.symm M.dne)]
      exact I1.hok.fresh M.new
/-- raise x(e) -/
def tRaiseErr (C : Addr) (f : Str) (W : WX) (ta : TA) : TS := fun _ σ H => tMkErr C f ta σ H fun cls d H' => W cls d σ H'
theorem ps_raiseErr {a : Expr} {ta : TA} {W : WX} {p pos pos2 : Pos} {k : Nat} (hc : X.calm = true) (T : PySem.ErrX.ErrTxt X.prog X.K X.mg x f C fI) (hr : Room k X.A) (tk : Takes X W) (ha : PA X [a] ta) (hg : Gl X x := by rfl) (hdb : (x == ("__debug__" : Str)) = false := by decide)
    (he : starEach (a :: []) X.env = (false, eval a X.env) :: starEach [] X.env := by rfl) (hpl : (backTo pos (starEach [] X.env)).any (·.1) = false := by rfl) :
    PS X (.Raise (some (.Call (.Name x p) [a] [] pos)) none pos2) (tRaiseErr C f W ta) := ps_raise hc tk (pmk_err T hr ha hg hdb he hpl)
end
end L2

/-! Operators of own classes over the hand layer: a op b by __op__, b op a by __rop__, comparisons. -/
namespace PySem.W
open PySem PySem.Calls PyProof.Rows Builtin
section
variable {prog : Program} {w : World} {A : Around} {E : Value → Shared → Prop} {s : Shared} {K : Frag} {x C L f g : Addr} {h₀ : Heap} {m : Str → Option Value} {ox : Obj} {od : Option Obj}
theorem sop_refl {op : Operator} {a : Value} {T : String} {left : Bool} {Q : Value → Shared → Prop} (F : Fr h₀ L s.heap m) (X₀ : K.In h₀) (I : InstAt s.heap x ox C od) (ha : typeOf a = pure (.type T)) (hc : selfFirst K C = true)
    (hsub : subIn K (.ref C) (.type T) = some false) (hfT : fillsNumberSlot (.type T) op.info.2 = pure left)
    (hdec : left = true → ∀ Q' : Option Value → Shared → Prop, Q' none s → wpAny (model prog w) A (tryMethod a (PySem.dunder op.info.2) (.ref x)) Q' E s)
    (hs : findIn K (.ref C) (PySem.dunder op.info.2) = some (some (.ref g))) (hr : findIn K (.ref C) (dunderR op.info.2) = some (some (.ref f))) (hf : isFn K (.ref f) = true)
    (h : wpAny (model prog w) A (call (.ref f) [.ref x, a]) (CmpBack Q) E s) : wpAny (model prog w) A (binaryOp op a (.ref x)) Q E s := by
  have X := X₀.keeps F.keep
  obtain ⟨cd, rest, hcd, hm⟩ := ksp_first hc
  rcases hi : op.info with ⟨sym, nm'⟩
  rw [hi] at hs hr hfT hdec
  dsimp only at hs hr hfT hdec
  have one := ksp_try X I hr hf h
  obtain ⟨hh, gg, d, tt, os⟩ := s
  have L1 : Looks (model prog w) hh (typeOf (.ref x)) (.ref C) := I.type
  have L2 : Looks (model prog w) hh (typeOf a) (.type T) := Looks.of_pure ha
  have L3 : Looks (model prog w) hh (fillsNumberSlot (.ref C) nm') true := fills_K X hcd hm hs
  have L4 : Looks (model prog w) hh (fillsNumberSlot (.type T) nm') left := Looks.of_pure hfT
  have L5 : Looks (model prog w) hh (isSubtype (.ref C) (.type T)) false := looks_subIn X hsub
  have L7 : Looks (model prog w) hh (numberSlotInPython (.type T) nm') false := Looks.of_pure rfl
  have hne : (Value.type T == Value.ref C) = false := Bool.eq_false_iff.mpr fun q => by cases beq_iff_eq.mp q
  simp only [binaryOp, hi]
  refine wpAny_holding (wpAny_bind ?_)
  unfold binaryOp1
  refine wpAny_bind (L2.at (wpAny_bind (L1.at (wpAny_bind (L4.at ?_)))))
  simp only [hne, Bool.false_eq_true, if_false]
  refine wpAny_bind (L3.at ?_)
  cases left with
  | false =>
    ksp_lk
    refine wpAny_mono one (fun r s' hr' => ?_) fun _ _ e => e
    obtain ⟨v, rfl, hq⟩ := hr'
    ksp_lk
    exact hq
  | true =>
    ksp_lk
    refine hdec rfl _ ?_
    ksp_lk
    refine wpAny_mono one (fun r s' hr' => ?_) fun _ _ e => e
    obtain ⟨v, rfl, hq⟩ := hr'
    ksp_lk
    exact hq
end
end PySem.W
namespace PySem
open Builtin
section
variable {prog : Program} {w : World} {A : Around} {E : Value → Shared → Prop} {s : Shared} {x C dx : Addr}
theorem sop_int_mul (a : Int) (t : Tok) (hx : s.heap.get? x = some (PySem.W.instObj C dx)) (Q : Option Value → Shared → Prop) (h : Q none s) : wpAny (model prog w) A (tryMethod (.int a t) (PySem.dunder "mul") (.ref x)) Q E s := by
  have hT : s.TypeIs (.int a t) "int" := typeIs_int s a t
  refine wpAny_tryMethod_declines (T := "int") (id := "int.__mul__") ?_ ?_ ?_
  exact hT
  exact F.slot_int_mul
  refine wpAny_call_entry (T := "int") (name := PySem.dunder "mul") (id := "int.__mul__") (b := Builtin.«int.__mul__») ?_ ?_ ?_ ?_ ?_
  exact F.slot_int_mul
  exact hT
  exact F.entry_int_mul
  rotate_left
  exact F.args_int_mul_2 _ _
  obtain ⟨hp, g, d, tk, os⟩ := s
  wp_walk
  exact ⟨_, rfl, rfl, h⟩
theorem sop_int_add (a : Int) (t : Tok) (hx : s.heap.get? x = some (PySem.W.instObj C dx)) (Q : Option Value → Shared → Prop) (h : Q none s) : wpAny (model prog w) A (tryMethod (.int a t) (PySem.dunder "add") (.ref x)) Q E s := by
  have hT : s.TypeIs (.int a t) "int" := typeIs_int s a t
  refine wpAny_tryMethod_declines (T := "int") (id := "int.__add__") ?_ ?_ ?_
  exact hT
  exact F.slot_int_add
  refine wpAny_call_entry (T := "int") (name := PySem.dunder "add") (id := "int.__add__") (b := Builtin.«int.__add__») ?_ ?_ ?_ ?_ ?_
  exact F.slot_int_add
  exact hT
  exact F.entry_int_add
  rotate_left
  exact F.args_int_add_2 _ _
  obtain ⟨hp, g, d, tk, os⟩ := s
  wp_walk
  exact ⟨_, rfl, rfl, h⟩
theorem sop_bool_mul (a : Bool) (hx : s.heap.get? x = some (PySem.W.instObj C dx)) (Q : Option Value → Shared → Prop) (h : Q none s) : wpAny (model prog w) A (tryMethod (.bool a) (PySem.dunder "mul") (.ref x)) Q E s := by
  have hT : s.TypeIs (.bool a) "bool" := rfl
  refine wpAny_tryMethod_declines (T := "bool") (id := "int.__mul__") ?_ ?_ ?_
  exact hT
  exact F.slot_bool_mul
  refine wpAny_call_entry (T := "bool") (name := PySem.dunder "mul") (id := "int.__mul__") (b := Builtin.«int.__mul__») ?_ ?_ ?_ ?_ ?_
  exact F.slot_bool_mul
  exact hT
  exact F.entry_int_mul
  rotate_left
  exact F.args_int_mul_2 _ _
  obtain ⟨hp, g, d, tk, os⟩ := s
  wp_walk
  exact ⟨_, rfl, rfl, h⟩
theorem sop_fills_none_mul : fillsNumberSlot (.type "NoneType") "mul" = pure false := by
  unfold fillsNumberSlot
  dsimp only
  rw [typeLookup_type, typeLookup_type, builtinLookup_eq_fast]
  kernel_rfl
end
end PySem
namespace PySem.W
open PySem PySem.Calls PyProof.Rows Builtin
theorem sop_ne_entry : entryFor table "object.__ne__" = some Builtin.«object.__ne__» := entryFor_of_tree (by kernel_rfl)
theorem sop_ne_kind : builtinKind "object.__ne__" = some .slot := by decide +kernel
theorem sop_ne_split : splitId "object.__ne__" = some ("object", "__ne__") := by decide +kernel
theorem sop_ne_plain : plainId "object.__ne__" = true := by decide +kernel
theorem sop_ne_args (a b : Value) : argsOk "object.__ne__" ⟨[a, b], []⟩ := by unfold argsOk; kernel_rfl
theorem sop_ne_type : typeOf (.builtin "object.__ne__") = pure (.type "wrapper_descriptor") := by show builtinType _ = _; rw [builtinType_eq_fast]; kernel_rfl
section
variable {prog : Program} {w : World} {A : Around} {E : Value → Shared → Prop} {s : Shared} {K : Frag} {x C L f g : Addr} {h₀ : Heap} {m : Str → Option Value} {ox : Obj} {od : Option Obj} {b tb : Value}
theorem sop_bind_ne {M : Model} {h : Heap} (self : Value) : Looks M h (bindSpecial (.builtin "object.__ne__") self) (.builtin "object.__ne__", [self]) := Looks.of_pure (by
  first | rfl | kernel_rfl)
theorem sop_ifBound {M : Model} {name : Str} {i : String} {args : List Value} {Q : Option Value → Shared → Prop} (X : K.In s.heap) (I : InstAt s.heap x ox C od) (hs : findIn K (.ref C) name = some (some (.builtin i)))
    (hbnd : Looks M s.heap (bindSpecial (.builtin i) (.ref x)) (.builtin i, [.ref x]))
    (h : wpAny M A (call (.builtin i) (.ref x :: args)) (fun v => Q (some v)) E s) : wpAny M A (callSpecialIfBound? (.ref x) name args) Q E s := by
  simp only [callSpecialIfBound?, bindSpecialIfBound?]
  refine wpAny_holding (wpAny_bind (wpAny_bind (wpAny_bind (I.type.here ((looks_findIn X hs).here ?_)))))
  refine wpAny_bind (wpAny_askSetting (wpAny_ite ?_))
  have fin : wpAny M A (call (.builtin i) ([.ref x] ++ args) >>= fun v => pure (some v)) Q E s := wpAny_bind (wpAny_mono h (fun v s' h' => wpAny_pure h') fun _ _ h' => h')
  split
  · exact wpAny_bind (hbnd.here (wpAny_pure (by exact fin)))
  · exact wpAny_tryCatch (wpAny_bind (hbnd.here (wpAny_pure (by exact fin))))
theorem sop_ne {Q : Value → Shared → Prop} (hu : A.units + 1 < cLine) (F : Fr h₀ L s.heap m) (X₀ : K.In h₀) (I : InstAt s.heap x ox C od) (hb : Looks (model prog w) s.heap (typeOf b) tb) (hn : notFirst K C tb = true)
    (hne : findIn K (.ref C) "__ne__" = some (some (.builtin "object.__ne__"))) (hob : subIn K (.ref C) (.type "object") = some true)
    (hs : findIn K (.ref C) "__eq__" = some (some (.ref f))) (hf : isFn K (.ref f) = true)
    (h : wpAny (model prog w) A.in1 (call (.ref f) [.ref x, b]) (fun v s' => ∃ r, v = .bool r ∧ Q (.bool (!r)) s') E s) : wpAny (model prog w) A (richCompare .NotEq (.ref x) b) Q E s := by
  have X := X₀.keeps F.keep
  have one : wpAny (model prog w) A (tryCompare (.ref x) "__ne__" b) (fun r s' => ∃ v, r = some v ∧ Q v s') E s := by
    unfold tryCompare
    refine wpAny_bind (sop_ifBound X I hne (sop_bind_ne _) (wpAny_call ?_))
    refine codeAny_call_builtin sop_ne_plain sop_ne_entry (check_slot sop_ne_kind sop_ne_split (I.type.andThen (looks_subIn X hob)) (sop_ne_args _ _) ?_)
    unfold Builtin.«object.__ne__»
    refine wpAny_bind (wpAny_of_eq (a := (.ref x, [b])) (by first | rfl | kernel_rfl) ?_)
    refine wpAny_bind (wpAny_cRoomFor (by show A.units + 1 < cLine; exact hu) ?_)
    refine wpAny_bind (ifBound_K X I hs hf (wpAny_mono h (fun v s' hv => ?_) fun _ _ e => e))
    obtain ⟨r, rfl, hq⟩ := hv
    refine wpAny_bind (wpAny_truthy_bool ?_)
    refine wpAny_pure ?_
    exact wpAny_pure ⟨_, rfl, hq⟩
  unfold richCompare
  simp only [oneThing_ref]
  refine wpAny_holding (wpAny_bind (wpAny_cRoomFor (by omega) ?_))
  refine wpAny_bind (I.type.here (wpAny_bind (hb.here ?_)))
  split
  · rename_i q
    have e : subIn K tb (.ref C) = some false := by
      rcases Bool.or_eq_true_iff.mp hn with e | e
      · rw [beq_iff_eq.mp e] at q; simp at q
      · exact beq_iff_eq.mp e
    refine wpAny_bind ((looks_subIn X e).here ?_)
    simp only [Bool.false_eq_true, if_false]
    refine wpAny_bind (wpAny_mono one (fun r s' z => ?_) fun _ _ e => e)
    obtain ⟨v, rfl, hq⟩ := z
    exact wpAny_pure hq
  · refine wpAny_bind (wpAny_pure ?_)
    simp only [Bool.false_eq_true, if_false]
    refine wpAny_bind (wpAny_mono one (fun r s' z => ?_) fun _ _ e => e)
    obtain ⟨v, rfl, hq⟩ := z
    exact wpAny_pure hq
end
end PySem.W
namespace L2
open PySem PySem.Spec PyProof.Rows
/-- the built-in class of a flat value -/
def tyS : V → Option String
  | .int _ => some "int"
  | .bl _ => some "bool"
  | .non => some "NoneType"
  | .str _ => some "str"
  | _ => none
theorem tyS_of {y : V} {u : Value} {T : String} (r : RelV y u) (h : tyS y = some T) : typeOf u = pure (.type T) := by
  cases y with
  | int i => obtain ⟨t, rfl⟩ := r; cases h; rfl
  | bl b => cases r; cases h; rfl
  | non => cases r; cases h; rfl
  | str z => obtain ⟨t, rfl⟩ := r; cases h; rfl
  | byt b => cases h
  | flt b => cases h
  | ref a => cases h
  | ty n => cases h
theorem cmpBack {X : Cx} {pins : List (Addr × Obj)} {σ : St} {Q : VK} {u : Value} {s' : Shared} (h : EP X pins σ Q u s') : PySem.W.CmpBack (EP X pins σ Q) u s' := by
  obtain ⟨v, H', I, r, q⟩ := id h
  cases u with
  | notImplemented => cases v <;> first | (obtain ⟨t, e⟩ := r; cases e) | cases r
  | _ => exact h
section
variable {X : Cx} {CX : CXT} {k : Nat} {f g C : Addr} {fd : FuncData} {ps : List Str} {sp : Sp} {E : XK}
/-- the callee runs, one built-in further in -/
theorem run_in1 {pins : List (Addr × Obj)} {σ : St} {H : Hp} {s : Shared} {Q : VK} {us : List Value} {vs : List V} (F : FnOk X.prog X.w X.K X.mg X.base CX k f fd ps sp) (hr : Room (k + 1) X.A) (hb : Binds X.K fd ps []) (hx : Passes CX X E)
    (I : Inv X pins σ H s) (r : Vals vs us) (h : sp vs H Q E) : wpAny (model X.prog X.w) X.A.in1 (call (.ref f) us) (EP X pins σ Q) X.xe s := by
  have hl : us.length = ps.length := by rw [← F.len _ _ _ _ h, r.length]
  refine wpAny_call (codeAny_mono (F.run X.A.in1 X.stack s H ⟨us, []⟩ us vs Q E hr.in1 I.env0.in1 (by have := hb s us I.kIn (by simpa using hl); simpa using this) r h) fun r s' hq => ?_)
  cases r with
  | error er => exact hx pins σ H s er s' I hq
  | ok fl =>
    cases fl with
    | ret u => exact I.after hq
    | next => exact False.elim hq
    | brk => exact False.elim hq
    | cont => exact False.elim hq
/-- a op b, both of the class at C -/
def rOwnC (C : Addr) (sp : Sp) (E : XK) : R2 := fun x y H Q => ∃ a b dx dy fs gs, x = .ref a ∧ y = .ref b ∧ H a = some (.ins C dx fs) ∧ H b = some (.ins C dy gs) ∧ sp [.ref a, .ref b] H Q E
/-- a op y, y flat -/
def rOwnT (C : Addr) (sp : Sp) (E : XK) : R2 := fun x y H Q => ∃ a dx fs, x = .ref a ∧ H a = some (.ins C dx fs) ∧ (tyS y).isSome = true ∧ sp [.ref a, y] H Q E
/-- y op a, y flat: the reflected one -/
def rOwnR (C : Addr) (sp : Sp) (E : XK) : R2 := fun y x H Q => ∃ a dx fs, x = .ref a ∧ H a = some (.ins C dx fs) ∧ (tyS y).isSome = true ∧ sp [.ref a, y] H Q E
theorem op_ownC {op : Operator} (F : FnOk X.prog X.w X.K X.mg X.base CX k f fd ps sp) (hr : Room k X.A) (hb : Binds X.K fd ps []) (hx : Passes CX X E) (hc : PySem.W.selfFirst X.K C = true)
    (hs : PySem.W.findIn X.K (.ref C) (PySem.dunder op.info.2) = some (some (.ref f))) (hf : PySem.W.isFn X.K (.ref f) = true) : OpR X (binaryOp op) (rOwnC C sp E) := by
  intro pins s σ H x y v u Q I rx ry hq
  obtain ⟨a, b, dx, dy, fs, gs, rfl, rfl, ea, eb, h⟩ := hq
  cases rx
  cases ry
  obtain ⟨mA, J, _⟩ := ins_get I.hok ea
  obtain ⟨mB, J', _⟩ := ins_get I.hok eb
  obtain ⟨od, J, _⟩ := J.look
  obtain ⟨od', J', _⟩ := J'.look
  obtain ⟨m, hF⟩ := I.fr
  exact PySem.W.binop_K hF I.ok.mod.kin J J'.type hc hs hf (thn (run_fn (vs := [.ref a, .ref b]) F hr hb .nil hx I (.cons rfl (.cons rfl .nil)) (by simpa using h)) fun u s' q => cmpBack q)
theorem op_ownT {op : Operator} (F : FnOk X.prog X.w X.K X.mg X.base CX k f fd ps sp) (hr : Room k X.A) (hb : Binds X.K fd ps []) (hx : Passes CX X E) (hc : PySem.W.selfFirst X.K C = true)
    (hs : PySem.W.findIn X.K (.ref C) (PySem.dunder op.info.2) = some (some (.ref f))) (hf : PySem.W.isFn X.K (.ref f) = true) (hrr : PySem.W.findIn X.K (.ref C) (dunderR op.info.2) = some (some (.ref g)))
    (hsub : ∀ T ∈ ["int", "bool", "NoneType", "str"], PySem.W.subIn X.K (.type T) (.ref C) = some false)
    (h1 : ∀ T ∈ ["int", "bool", "NoneType", "str"], ∃ fo, PySem.W.findIn X.K (.type T) (PySem.dunder op.info.2) = some fo) (h2 : ∀ T ∈ ["int", "bool", "NoneType", "str"], ∃ fo, PySem.W.findIn X.K (.type T) (dunderR op.info.2) = some fo) :
    OpR X (binaryOp op) (rOwnT C sp E) := by
  intro pins s σ H x y v u Q I rx ry hq
  obtain ⟨a, dx, fs, rfl, ea, ht, h⟩ := hq
  cases rx
  obtain ⟨mA, J, _⟩ := ins_get I.hok ea
  obtain ⟨od, J, _⟩ := J.look
  obtain ⟨m, hF⟩ := I.fr
  obtain ⟨T, hT⟩ := Option.isSome_iff_exists.mp ht
  have hm : T ∈ ["int", "bool", "NoneType", "str"] := by
    cases y <;> simp [tyS] at hT <;> subst hT <;> decide
  obtain ⟨fo, e1⟩ := h1 T hm
  obtain ⟨ro, e2⟩ := h2 T hm
  exact PySem.W.ksp_binT hF I.ok.mod.kin J (tyS_of ry hT) hc hs hf hrr (.inr ⟨_, rfl⟩) e1 e2 (hsub T hm) (thn (run_fn (vs := [.ref a, y]) F hr hb .nil hx I (.cons rfl (.cons ry .nil)) (by simpa using h)) fun u s' q => cmpBack q)
theorem op_ownR_mul (F : FnOk X.prog X.w X.K X.mg X.base CX k f fd ps sp) (hr : Room k X.A) (hb : Binds X.K fd ps []) (hx : Passes CX X E) (hc : PySem.W.selfFirst X.K C = true)
    (hs : PySem.W.findIn X.K (.ref C) (PySem.dunder "mul") = some (some (.ref g))) (hrr : PySem.W.findIn X.K (.ref C) (dunderR "mul") = some (some (.ref f))) (hf : PySem.W.isFn X.K (.ref f) = true)
    (hsub : ∀ T ∈ ["int", "bool", "NoneType", "str"], PySem.W.subIn X.K (.ref C) (.type T) = some false) : OpR X (binaryOp .Mult) (rOwnR C sp E) := by
  intro pins s σ H y x u v Q I ry rx hq
  obtain ⟨a, dx, fs, rfl, ea, ht, h⟩ := hq
  cases rx
  obtain ⟨mA, J, _⟩ := ins_get I.hok ea
  obtain ⟨od, J, _⟩ := J.look
  obtain ⟨m, hF⟩ := I.fr
  have run := thn (run_fn (vs := [.ref a, y]) F hr hb .nil hx I (.cons rfl (.cons ry .nil)) (by simpa using h)) fun u s' q => cmpBack q
  have hx0 : s.heap.get? a = some (PySem.W.instObj C dx) := J.at_
  cases y with
  | int i =>
    obtain ⟨t, rfl⟩ := ry
    exact PySem.W.sop_refl (op := .Mult) (T := "int") (left := true) hF I.ok.mod.kin J rfl hc (hsub "int" (by decide)) PySem.F.fills_int_mul (fun _ Q' hq' => sop_int_mul i t hx0 Q' hq') hs hrr hf run
  | bl i =>
    cases ry
    exact PySem.W.sop_refl (op := .Mult) (T := "bool") (left := true) hF I.ok.mod.kin J rfl hc (hsub "bool" (by decide)) PySem.F.fills_bool_mul (fun _ Q' hq' => sop_bool_mul i hx0 Q' hq') hs hrr hf run
  | non =>
    cases ry
    exact PySem.W.sop_refl (op := .Mult) (T := "NoneType") (left := false) hF I.ok.mod.kin J rfl hc (hsub "NoneType" (by decide)) sop_fills_none_mul (fun z => nomatch z) hs hrr hf run
  | str i =>
    obtain ⟨t, rfl⟩ := ry
    exact PySem.W.sop_refl (op := .Mult) (T := "str") (left := false) hF I.ok.mod.kin J rfl hc (hsub "str" (by decide)) noFill_str_mul (fun z => nomatch z) hs hrr hf run
  | byt b => cases ht
  | flt b => cases ht
  | ref a => cases ht
  | ty n => cases ht
theorem op_ownR_add (F : FnOk X.prog X.w X.K X.mg X.base CX k f fd ps sp) (hr : Room k X.A) (hb : Binds X.K fd ps []) (hx : Passes CX X E) (hc : PySem.W.selfFirst X.K C = true)
    (hs : PySem.W.findIn X.K (.ref C) (PySem.dunder "add") = some (some (.ref g))) (hrr : PySem.W.findIn X.K (.ref C) (dunderR "add") = some (some (.ref f))) (hf : PySem.W.isFn X.K (.ref f) = true)
    (hsub : PySem.W.subIn X.K (.ref C) (.type "int") = some false) : OpR X (binaryOp .Add) (fun y x H Q => ∃ i, y = .int i ∧ rOwnR C sp E y x H Q) := by
  intro pins s σ H y x u v Q I ry rx hq
  obtain ⟨i, rfl, a, dx, fs, rfl, ea, ht, h⟩ := hq
  cases rx
  obtain ⟨mA, J, _⟩ := ins_get I.hok ea
  obtain ⟨od, J, _⟩ := J.look
  obtain ⟨m, hF⟩ := I.fr
  have run := thn (run_fn (vs := [.ref a, .int i]) F hr hb .nil hx I (.cons rfl (.cons ry .nil)) (by simpa using h)) fun u s' q => cmpBack q
  have hx0 : s.heap.get? a = some (PySem.W.instObj C dx) := J.at_
  obtain ⟨t, rfl⟩ := ry
  exact PySem.W.sop_refl (op := .Add) (T := "int") (left := true) hF I.ok.mod.kin J rfl hc hsub PySem.F.fills_int_add (fun _ Q' hq' => sop_int_add i t hx0 Q' hq') hs hrr hf run
/-- the right side of a comparison: of the class itself, or flat -/
def CmpY (K : PySem.W.Frag) (C : Addr) (y : V) (H : Hp) : Prop := (∃ b dy gs, y = .ref b ∧ H b = some (.ins C dy gs)) ∨ ∃ T, tyS y = some T ∧ PySem.W.subIn K (.type T) (.ref C) = some false
theorem CmpY.look {pins : List (Addr × Obj)} {σ : St} {H : Hp} {s : Shared} {y : V} {u : Value} (I : Inv X pins σ H s) (ry : RelV y u) (h : CmpY X.K C y H) : ∃ tb, PySem.W.Looks (model X.prog X.w) s.heap (typeOf u) tb ∧ PySem.W.notFirst X.K C tb = true := by
  rcases h with ⟨b, dy, gs, rfl, eb⟩ | ⟨T, hT, hs⟩
  · cases ry
    obtain ⟨mB, J', _⟩ := ins_get I.hok eb
    obtain ⟨od', J', _⟩ := J'.look
    exact ⟨_, J'.type, by simp [PySem.W.notFirst]⟩
  · exact ⟨_, PySem.W.Looks.of_pure (tyS_of ry hT), by simp [PySem.W.notFirst, hs]⟩
/-- a < y and the like, by an own method -/
def rOwnCmp (K : PySem.W.Frag) (C : Addr) (sp : Sp) (E : XK) : R2 := fun x y H Q => ∃ a dx fs, x = .ref a ∧ H a = some (.ins C dx fs) ∧ CmpY K C y H ∧ sp [.ref a, y] H Q E
theorem op_ownCmp {op : CmpOp} (F : FnOk X.prog X.w X.K X.mg X.base CX k f fd ps sp) (hr : Room k X.A) (hb : Binds X.K fd ps []) (hx : Passes CX X E)
    (hs : PySem.W.findIn X.K (.ref C) (cmpInfo op).2.1 = some (some (.ref f))) (hf : PySem.W.isFn X.K (.ref f) = true) (ho : ∀ a b, compareOp op a b = richCompare op a b := by intros; rfl) : OpR X (compareOp op) (rOwnCmp X.K C sp E) := by
  intro pins s σ H x y v u Q I rx ry hq
  obtain ⟨a, dx, fs, rfl, ea, hy, h⟩ := hq
  cases rx
  obtain ⟨mA, J, _⟩ := ins_get I.hok ea
  obtain ⟨od, J, _⟩ := J.look
  obtain ⟨m, hF⟩ := I.fr
  obtain ⟨tb, hl, hn⟩ := hy.look I ry
  rw [ho]
  exact PySem.W.cmp_K (by have := hr.un; omega) hF I.ok.mod.kin J hl hn hs hf (thn (run_fn (vs := [.ref a, y]) F hr hb .nil hx I (.cons rfl (.cons ry .nil)) (by simpa using h)) fun u s' q => cmpBack q)
/-- a != y by the own == -/
def rOwnNe (K : PySem.W.Frag) (C : Addr) (sp : Sp) (E : XK) : R2 := fun x y H Q => ∃ a dx fs, x = .ref a ∧ H a = some (.ins C dx fs) ∧ CmpY K C y H ∧ sp [.ref a, y] H (fun v H' => ∃ r, v = .bl r ∧ Q (.bl (!r)) H') E
theorem op_ownNe (F : FnOk X.prog X.w X.K X.mg X.base CX k f fd ps sp) (hr : Room (k + 1) X.A) (hb : Binds X.K fd ps []) (hx : Passes CX X E)
    (hne : PySem.W.findIn X.K (.ref C) "__ne__" = some (some (.builtin "object.__ne__"))) (hob : PySem.W.subIn X.K (.ref C) (.type "object") = some true)
    (hs : PySem.W.findIn X.K (.ref C) "__eq__" = some (some (.ref f))) (hf : PySem.W.isFn X.K (.ref f) = true) : OpR X (compareOp .NotEq) (rOwnNe X.K C sp E) := by
  intro pins s σ H x y v u Q I rx ry hq
  obtain ⟨a, dx, fs, rfl, ea, hy, h⟩ := hq
  cases rx
  obtain ⟨mA, J, _⟩ := ins_get I.hok ea
  obtain ⟨od, J, _⟩ := J.look
  obtain ⟨m, hF⟩ := I.fr
  obtain ⟨tb, hl, hn⟩ := hy.look I ry
  show wpAny (model X.prog X.w) X.A (richCompare .NotEq (.ref a) u) (EP X pins σ Q) X.xe s
  refine PySem.W.sop_ne (by have := hr.un; omega) hF I.ok.mod.kin J hl hn hne hob hs hf (thn (run_in1 (vs := [.ref a, y]) F hr hb hx I (.cons rfl (.cons ry .nil)) h) fun u s' q => ?_)
  obtain ⟨z, H', I', rz, r, rfl, q⟩ := q
  cases rz
  exact ⟨r, rfl, .bl (!r), H', I', rfl, q⟩
end
end L2

/-! C.m(..), m a staticmethod of an own class. -/
namespace L2
open PySem PySem.Spec PyProof.Rows
/-- C.m is a staticmethod: its record at p, its def at g -/
structure SMet (K : PySem.W.Frag) (C : Addr) (m : Str) (p g : Addr) : Prop where
  ty : PySem.W.typeIn K (.ref C) = some (.type "type")
  rd : PySem.W.readsIn K C (.type "type") = true
  ga : PySem.W.specialIn K (.ref C) "__getattribute__" = some (some (.builtin "type.__getattribute__"))
  at_ : PySem.W.findCls K (.ref C) (.type "type") m = some (.get (.builtin "staticmethod.__get__") (.ref p) .none (.ref C))
  rc : ∃ rest, PySem.W.recIn K p "staticmethod" = some (.ref g :: rest)
  kp : PySem.W.keepIn K (.ref g) = true
section
variable {X : Cx} {CX : CXT} {k : Nat} {C p g : Addr} {fd : FuncData} {ps : List Str} {sp : Sp} {E : XK} {o e : Expr} {es : List Expr} {m x : Str} {pos apos p0 : Pos} {t : TA} {ds : List Value} {dvs : List V}
theorem getstat_ok {pins : List (Addr × Obj)} {σ : St} {H : Hp} {s : Shared} {pl : Sem Bool} {A : Around} {E : Value → Shared → Prop} {Q : Value × List Value → Shared → Prop} (I : Inv X pins σ H s) (c : SMet X.K C m p g)
    (h : ∀ s', Inv X pins σ H s' → Q (.ref g, []) s') : wpAny (model X.prog X.w) A (getMethod (.ref C) m pl) Q E s := by
  obtain ⟨rest, hrec⟩ := c.rc
  obtain ⟨mm, hF⟩ := I.fr
  exact PySem.W.method_of_cls hF I.ok.mod.kin c.ga (PySem.W.cls_sm hF I.ok.mod.kin c.ty c.rd c.at_ hrec rfl (h _ (I.tok _)))
theorem pe_static {pl : Sem Bool} (hg : Gl X x) (hm : X.mg x = some (.ref C)) (c : SMet X.K C m p g) (F : FnOk X.prog X.w X.K X.mg X.base CX k g fd ps sp) (hr : Room k X.A) (hb : Binds X.K fd ps ds) (hd : Vals dvs ds) (hx : Passes CX X E) (ha : PA X (e :: es) t)
    (hdb : (x == ("__debug__" : Str)) = false := by decide) (hst : starEach (e :: es) X.env = (false, eval e X.env) :: starEach es X.env := by rfl) (hpl : (backTo pos (starEach es X.env)).any (·.1) = false := by rfl)
    (ht : eval (.Call (.Attribute (.Name x p0) m apos) (e :: es) [] pos) X.env = (do
      let ov ← eval (.Name x p0) X.env
      standAt apos.atName
      let (f, first) ← holding [ov] (getMethod ov m pl)
      callWith pos f first (backTo pos (starEach (e :: es) X.env)) (backToKw pos (keywordEach [] X.env))) := by rfl) :
    PE X (.Call (.Attribute (.Name x p0) m apos) (e :: es) [] pos) (tCall sp dvs E t) := by
  refine ⟨fun pins s σ H Q I h => ?_⟩
  refine PySem.W.methodCall_KW (pl := pl) (ld_glob I hg hm ?_ hdb) ht
  refine getstat_ok I c fun s1 I1 => ?_
  refine PySem.W.callWith_K (first := []) (h₀ := X.base) I.ok.mod.kin c.kp (thn (ha.run pos pins s1 σ H _ I1 h) fun us s2 ⟨vs, H2, I2, r, q2⟩ => ⟨I2.kIn, ?_⟩) hst hpl
  exact run_fn (us := us) (vs := vs) F hr hb hd hx I2 r q2
theorem pe_static0 {pl : Sem Bool} (hg : Gl X x) (hm : X.mg x = some (.ref C)) (c : SMet X.K C m p g) (F : FnOk X.prog X.w X.K X.mg X.base CX k g fd ps sp) (hr : Room k X.A) (hb : Binds X.K fd ps ds) (hd : Vals dvs ds) (hx : Passes CX X E)
    (hdb : (x == ("__debug__" : Str)) = false := by decide)
    (ht : eval (.Call (.Attribute (.Name x p0) m apos) [] [] pos) X.env = (do
      let ov ← eval (.Name x p0) X.env
      standAt apos.atName
      let (f, first) ← holding [ov] (getMethod ov m pl)
      callWith pos f first (backTo pos (starEach [] X.env)) (backToKw pos (keywordEach [] X.env))) := by rfl) :
    PE X (.Call (.Attribute (.Name x p0) m apos) [] [] pos) (tCall sp dvs E tNil) := by
  refine ⟨fun pins s σ H Q I h => ?_⟩
  refine PySem.W.methodCall_KW (pl := pl) (ld_glob I hg hm ?_ hdb) ht
  refine getstat_ok I c fun s1 I1 => ?_
  exact PySem.W.callWith_K0 (first := []) I1.kIn c.kp (run_fn (us := []) (vs := []) F hr hb hd hx I1 .nil h)
end
end L2

/-! Defs of the text by their places: what stands there, promises without the function's record. -/
namespace L2
open PySem PySem.Spec PyProof.Rows
/-- a def of the top -/
structure DefAt (K : PySem.W.Frag) (mg : Str → Option Value) (x : Str) (st : Stmt) (ps : List Str) (f : Addr) : Prop where
  mg : mg x = some (.ref f)
  kp : PySem.W.keepIn K (.ref f) = true
  fn : ∃ fd, Fun K x x st f fd ∧ Binds K fd ps []
theorem defAt_mk {K : PySem.W.Frag} {mg : Str → Option Value} {h : Heap} {x : Str} {st : Stmt} {ps : List Str} {f : Addr} {oc : Value} {od an : Option Addr} {osl : Array (Option Value)} {kV doc pm cdv ct : Value} (X : K.In h) (G : h.Ns mainGlobals mg)
    (a : PySem.W.nsIn K mainGlobals x = some (some (.ref f))) (l : K.lookup f = some ⟨oc, od, .func (PySem.W.fnOf x x (defArgs st) (defBody st) (defScope st) .none kV doc pm an cdv ct), osl⟩) (c : PySem.W.codeIn K cdv x = true) (k : PySem.W.keepIn K (.ref f) = true)
    (b : ∀ (kV doc pm : Value) (an : Option Addr) (cdv ct : Value) (us : List Value), us.length = ps.length → bindArgs (PySem.W.fnOf x x (defArgs st) (defBody st) (defScope st) .none kV doc pm an cdv ct) ⟨us, []⟩ = pure (ps.zip us)) : DefAt K mg x st ps f :=
  ⟨PySem.W.mg_of X G a, k, _, fun_mk l c k, (fun_mk (st := st) l c k).binds b⟩
/-- a method of the class at C -/
structure MetAt (K : PySem.W.Frag) (C : Addr) (m q : Str) (st : Stmt) (ps : List Str) (f : Addr) : Prop where
  mt : Meth K C m f
  fn : ∃ fd, Fun K m q st f fd ∧ Binds K fd ps []
theorem metAt_mk {K : PySem.W.Frag} {C : Addr} {m q : Str} {st : Stmt} {ps : List Str} {f : Addr} {oc : Value} {od an : Option Addr} {osl : Array (Option Value)} {kV doc pm cdv ct : Value}
    (a : PySem.W.findIn K (.ref C) m = some (some (.ref f))) (i : PySem.W.isFn K (.ref f) = true) (l : K.lookup f = some ⟨oc, od, .func (PySem.W.fnOf m q (defArgs st) (defBody st) (defScope st) .none kV doc pm an cdv ct), osl⟩) (c : PySem.W.codeIn K cdv q = true) (k : PySem.W.keepIn K (.ref f) = true)
    (b : ∀ (kV doc pm : Value) (an : Option Addr) (cdv ct : Value) (us : List Value), us.length = ps.length → bindArgs (PySem.W.fnOf m q (defArgs st) (defBody st) (defScope st) .none kV doc pm an cdv ct) ⟨us, []⟩ = pure (ps.zip us)) : MetAt K C m q st ps f :=
  ⟨⟨a, i, k⟩, _, fun_mk l c k, (fun_mk (st := st) l c k).binds b⟩
/-- a staticmethod of the class at C -/
structure StaAt (K : PySem.W.Frag) (C : Addr) (m q : Str) (st : Stmt) (ps : List Str) (p f : Addr) : Prop where
  mt : SMet K C m p f
  fn : ∃ fd, Fun K m q st f fd ∧ Binds K fd ps []
theorem staAt_mk {K : PySem.W.Frag} {C : Addr} {m q : Str} {st : Stmt} {ps : List Str} {p f : Addr} {rest : List Value} {oc : Value} {od an : Option Addr} {osl : Array (Option Value)} {kV doc pm cdv ct : Value}
    (ty : PySem.W.typeIn K (.ref C) = some (.type "type")) (rd : PySem.W.readsIn K C (.type "type") = true) (ga : PySem.W.specialIn K (.ref C) "__getattribute__" = some (some (.builtin "type.__getattribute__")))
    (a : PySem.W.findCls K (.ref C) (.type "type") m = some (.get (.builtin "staticmethod.__get__") (.ref p) .none (.ref C))) (r : PySem.W.recIn K p "staticmethod" = some (.ref f :: rest))
    (l : K.lookup f = some ⟨oc, od, .func (PySem.W.fnOf m q (defArgs st) (defBody st) (defScope st) .none kV doc pm an cdv ct), osl⟩) (c : PySem.W.codeIn K cdv q = true) (k : PySem.W.keepIn K (.ref f) = true)
    (b : ∀ (kV doc pm : Value) (an : Option Addr) (cdv ct : Value) (us : List Value), us.length = ps.length → bindArgs (PySem.W.fnOf m q (defArgs st) (defBody st) (defScope st) .none kV doc pm an cdv ct) ⟨us, []⟩ = pure (ps.zip us)) : StaAt K C m q st ps p f :=
  ⟨⟨ty, rd, ga, a, ⟨_, r⟩, k⟩, _, fun_mk l c k, (fun_mk (st := st) l c k).binds b⟩
/-- the def at f keeps the promise sp -/
def FOk (P : Program) (w : World) (K : PySem.W.Frag) (mg : Str → Option Value) (base : Heap) (CX : CXT) (k : Nat) (f : Addr) (ps : List Str) (sp : Sp) : Prop := ∃ fd, FnOk P w K mg base CX k f fd ps sp ∧ Binds K fd ps []
section
variable {P : Program} {w : World} {K : PySem.W.Frag} {mg : Str → Option Value} {base : Heap} {CX : CXT} {k j : Nat} {f : Addr} {ps : List Str} {sp sp' : Sp}
theorem FOk.mono (F : FOk P w K mg base CX k f ps sp) (h : k ≤ j) : FOk P w K mg base CX j f ps sp := let ⟨fd, G, b⟩ := F; ⟨fd, G.mono h, b⟩
theorem FOk.imp (F : FOk P w K mg base CX k f ps sp) (h : ∀ vs H Q E, sp' vs H Q E → sp vs H Q E) : FOk P w K mg base CX k f ps sp' := let ⟨fd, G, b⟩ := F; ⟨fd, G.imp h, b⟩
theorem DefAt.ok {x : Str} {st : Stmt} {N : List Str} (D : DefAt K mg x st ps f) (S : FnScope N ps (defScope st)) (len : ∀ vs H Q E, sp vs H Q E → vs.length = ps.length)
    (hbody : ∀ (cdv : Value) (A : Around) (outer : List Env) (s : Shared) (H : Hp) (vs : List V) (Q : VK) (E : XK), Room k (A.deeper (envOfC x (defScope st) s.heap.objs.size f cdv)) → sp vs H Q E →
      ∃ t, PSs (cxOf CX0 P w K mg base N x (defScope st) f cdv A outer s H E).nox (defBody st) t ∧ t { nx := fun _ H' => Q .non H', rt := Q } (start N vs) H) : FOk P w K mg base CX0 (k + 1) f ps sp :=
  let ⟨fd, F, b⟩ := D.fn
  ⟨fd, F.ok S len hbody, b⟩
theorem DefAt.okX {x : Str} {st : Stmt} {N : List Str} (D : DefAt K mg x st ps f) (S : FnScope N ps (defScope st)) (len : ∀ vs H Q E, sp vs H Q E → vs.length = ps.length)
    (hbody : ∀ (cdv : Value) (A : Around) (outer : List Env) (s : Shared) (H : Hp) (vs : List V) (Q : VK) (E : XK), Room k (A.deeper (envOfC x (defScope st) s.heap.objs.size f cdv)) → sp vs H Q E →
      ∃ t, PSs (cxOf (L2.CX P w) P w K mg base N x (defScope st) f cdv A outer s H E) (defBody st) t ∧ t { nx := fun _ H' => Q .non H', rt := Q } (start N vs) H) : FOk P w K mg base (L2.CX P w) (k + 1) f ps sp :=
  let ⟨fd, F, b⟩ := D.fn
  ⟨fd, F.okX S len hbody, b⟩
theorem MetAt.ok {C : Addr} {m q : Str} {st : Stmt} {N : List Str} (D : MetAt K C m q st ps f) (S : FnScope N ps (defScope st)) (len : ∀ vs H Q E, sp vs H Q E → vs.length = ps.length)
    (hbody : ∀ (cdv : Value) (A : Around) (outer : List Env) (s : Shared) (H : Hp) (vs : List V) (Q : VK) (E : XK), Room k (A.deeper (envOfC q (defScope st) s.heap.objs.size f cdv)) → sp vs H Q E →
      ∃ t, PSs (cxOf CX0 P w K mg base N q (defScope st) f cdv A outer s H E).nox (defBody st) t ∧ t { nx := fun _ H' => Q .non H', rt := Q } (start N vs) H) : FOk P w K mg base CX0 (k + 1) f ps sp :=
  let ⟨fd, F, b⟩ := D.fn
  ⟨fd, F.ok S len hbody, b⟩
theorem MetAt.okX {C : Addr} {m q : Str} {st : Stmt} {N : List Str} (D : MetAt K C m q st ps f) (S : FnScope N ps (defScope st)) (len : ∀ vs H Q E, sp vs H Q E → vs.length = ps.length)
    (hbody : ∀ (cdv : Value) (A : Around) (outer : List Env) (s : Shared) (H : Hp) (vs : List V) (Q : VK) (E : XK), Room k (A.deeper (envOfC q (defScope st) s.heap.objs.size f cdv)) → sp vs H Q E →
      ∃ t, PSs (cxOf (L2.CX P w) P w K mg base N q (defScope st) f cdv A outer s H E) (defBody st) t ∧ t { nx := fun _ H' => Q .non H', rt := Q } (start N vs) H) : FOk P w K mg base (L2.CX P w) (k + 1) f ps sp :=
  let ⟨fd, F, b⟩ := D.fn
  ⟨fd, F.okX S len hbody, b⟩
theorem StaAt.ok {C p : Addr} {m q : Str} {st : Stmt} {N : List Str} (D : StaAt K C m q st ps p f) (S : FnScope N ps (defScope st)) (len : ∀ vs H Q E, sp vs H Q E → vs.length = ps.length)
    (hbody : ∀ (cdv : Value) (A : Around) (outer : List Env) (s : Shared) (H : Hp) (vs : List V) (Q : VK) (E : XK), Room k (A.deeper (envOfC q (defScope st) s.heap.objs.size f cdv)) → sp vs H Q E →
      ∃ t, PSs (cxOf CX0 P w K mg base N q (defScope st) f cdv A outer s H E).nox (defBody st) t ∧ t { nx := fun _ H' => Q .non H', rt := Q } (start N vs) H) : FOk P w K mg base CX0 (k + 1) f ps sp :=
  let ⟨fd, F, b⟩ := D.fn
  ⟨fd, F.ok S len hbody, b⟩
theorem StaAt.okX {C p : Addr} {m q : Str} {st : Stmt} {N : List Str} (D : StaAt K C m q st ps p f) (S : FnScope N ps (defScope st)) (len : ∀ vs H Q E, sp vs H Q E → vs.length = ps.length)
    (hbody : ∀ (cdv : Value) (A : Around) (outer : List Env) (s : Shared) (H : Hp) (vs : List V) (Q : VK) (E : XK), Room k (A.deeper (envOfC q (defScope st) s.heap.objs.size f cdv)) → sp vs H Q E →
      ∃ t, PSs (cxOf (L2.CX P w) P w K mg base N q (defScope st) f cdv A outer s H E) (defBody st) t ∧ t { nx := fun _ H' => Q .non H', rt := Q } (start N vs) H) : FOk P w K mg base (L2.CX P w) (k + 1) f ps sp :=
  let ⟨fd, F, b⟩ := D.fn
  ⟨fd, F.okX S len hbody, b⟩
end
section
variable {X : Cx} {CX : CXT} {k : Nat} {f C : Addr} {ps : List Str} {sp : Sp} {E : XK} {x m : Str} {p pos apos : Pos} {e o : Expr} {es : List Expr} {ta : TE} {t : TA}
theorem pcall (F : FOk X.prog X.w X.K X.mg X.base CX k f ps sp) (hr : Room k X.A) (hg : Gl X x) (hm : X.mg x = some (.ref f)) (hk : PySem.W.keepIn X.K (.ref f) = true) (hx : Passes CX X E)
    (ha : PA X (e :: es) t) (hdb : (x == ("__debug__" : Str)) = false := by decide) (he : starEach (e :: es) X.env = (false, eval e X.env) :: starEach es X.env := by rfl) (hpl : (backTo pos (starEach es X.env)).any (·.1) = false := by rfl) :
    PE X (.Call (.Name x p) (e :: es) [] pos) (tCall sp [] E t) := let ⟨_, G, b⟩ := F; pe_call G hr hg hm hk b .nil hx ha hdb he hpl
theorem pcall0 (F : FOk X.prog X.w X.K X.mg X.base CX k f ps sp) (hr : Room k X.A) (hg : Gl X x) (hm : X.mg x = some (.ref f)) (hk : PySem.W.keepIn X.K (.ref f) = true) (hx : Passes CX X E)
    (hdb : (x == ("__debug__" : Str)) = false := by decide) : PE X (.Call (.Name x p) [] [] pos) (tCall sp [] E tNil) := let ⟨_, G, b⟩ := F; pe_call0 G hr hg hm hk b .nil hx hdb
theorem pmeth {pl : Sem Bool} (he : PE X o ta) (c : Cls X.K C) (hm : Meth X.K C m f) (F : FOk X.prog X.w X.K X.mg X.base CX k f ps sp) (hr : Room k X.A) (hx : Passes CX X E) (ha : PA X (e :: es) t)
    (hst : starEach (e :: es) X.env = (false, eval e X.env) :: starEach es X.env := by rfl) (hpl : (backTo pos (starEach es X.env)).any (·.1) = false := by rfl)
    (ht : eval (.Call (.Attribute o m apos) (e :: es) [] pos) X.env = (do
      let ov ← eval o X.env
      standAt apos.atName
      let (f, first) ← holding [ov] (getMethod ov m pl)
      callWith pos f first (backTo pos (starEach (e :: es) X.env)) (backToKw pos (keywordEach [] X.env))) := by rfl) :
    PE X (.Call (.Attribute o m apos) (e :: es) [] pos) (tMeth C m sp [] E ta t) := let ⟨_, G, b⟩ := F; pe_meth he c hm G hr b .nil hx ha hst hpl ht
theorem pmeth0 {pl : Sem Bool} (he : PE X o ta) (c : Cls X.K C) (hm : Meth X.K C m f) (F : FOk X.prog X.w X.K X.mg X.base CX k f ps sp) (hr : Room k X.A) (hx : Passes CX X E)
    (ht : eval (.Call (.Attribute o m apos) [] [] pos) X.env = (do
      let ov ← eval o X.env
      standAt apos.atName
      let (f, first) ← holding [ov] (getMethod ov m pl)
      callWith pos f first (backTo pos (starEach [] X.env)) (backToKw pos (keywordEach [] X.env))) := by rfl) :
    PE X (.Call (.Attribute o m apos) [] [] pos) (tMeth C m sp [] E ta tNil) := let ⟨_, G, b⟩ := F; pe_meth0 he c hm G hr b .nil hx ht
theorem pmake (M : Mk X.K C f) (F : FOk X.prog X.w X.K X.mg X.base CX k f ps sp) (hr : Room (k + 1) X.A) (hg : Gl X x) (hm : X.mg x = some (.ref C)) (hx : Passes CX X E)
    (ha : PA X (e :: es) t) (hdb : (x == ("__debug__" : Str)) = false := by decide) (he : starEach (e :: es) X.env = (false, eval e X.env) :: starEach es X.env := by rfl) (hpl : (backTo pos (starEach es X.env)).any (·.1) = false := by rfl) :
    PE X (.Call (.Name x p) (e :: es) [] pos) (tMake C sp [] E t) := let ⟨_, G, b⟩ := F; pe_make M G hr hg hm b .nil hx ha hdb he hpl
theorem pstat {pl : Sem Bool} {p0 q : Addr} {pp : Pos} (hg : Gl X x) (hm : X.mg x = some (.ref C)) (c : SMet X.K C m q f) (F : FOk X.prog X.w X.K X.mg X.base CX k f ps sp) (hr : Room k X.A) (hx : Passes CX X E) (ha : PA X (e :: es) t)
    (hdb : (x == ("__debug__" : Str)) = false := by decide) (hst : starEach (e :: es) X.env = (false, eval e X.env) :: starEach es X.env := by rfl) (hpl : (backTo pos (starEach es X.env)).any (·.1) = false := by rfl)
    (ht : eval (.Call (.Attribute (.Name x pp) m apos) (e :: es) [] pos) X.env = (do
      let ov ← eval (.Name x pp) X.env
      standAt apos.atName
      let (f, first) ← holding [ov] (getMethod ov m pl)
      callWith pos f first (backTo pos (starEach (e :: es) X.env)) (backToKw pos (keywordEach [] X.env))) := by rfl) :
    PE X (.Call (.Attribute (.Name x pp) m apos) (e :: es) [] pos) (tCall sp [] E t) := let ⟨_, G, b⟩ := F; pe_static hg hm c G hr b .nil hx ha hdb hst hpl ht
theorem pstat0 {pl : Sem Bool} {q : Addr} {pp : Pos} (hg : Gl X x) (hm : X.mg x = some (.ref C)) (c : SMet X.K C m q f) (F : FOk X.prog X.w X.K X.mg X.base CX k f ps sp) (hr : Room k X.A) (hx : Passes CX X E)
    (hdb : (x == ("__debug__" : Str)) = false := by decide)
    (ht : eval (.Call (.Attribute (.Name x pp) m apos) [] [] pos) X.env = (do
      let ov ← eval (.Name x pp) X.env
      standAt apos.atName
      let (f, first) ← holding [ov] (getMethod ov m pl)
      callWith pos f first (backTo pos (starEach [] X.env)) (backToKw pos (keywordEach [] X.env))) := by rfl) :
    PE X (.Call (.Attribute (.Name x pp) m apos) [] [] pos) (tCall sp [] E tNil) := let ⟨_, G, b⟩ := F; pe_static0 hg hm c G hr b .nil hx hdb ht
end
/-- instances of the class at C are asked for their class as object does it -/
structure InsTy (K : PySem.W.Frag) (C : Addr) : Prop where
  ha : PySem.W.findIn K (.ref C) "__class__" = some (some (.builtin "object.__class__"))
  hn : PySem.W.specialIn K (.builtin "object.__class__") "__get__" = some (some (.builtin "getset_descriptor.__get__"))
  htk : PySem.W.takesIn K (.builtin "object.__class__") = some true
  hm : PySem.W.mroIn K C (.type "object") = some true
theorem InsTy.ty {K : PySem.W.Frag} {C p dx : Addr} {H : Hp} {fs : List (Str × V)} (i : InsTy K C) (cl : Cls K C) (e : H p = some (.ins C dx fs)) : TyX K H (.ref p) (.ref C) := .base (.ins e cl i.ha i.hn i.htk i.hm)
theorem kit_self {K : PySem.W.Frag} (t : Value) : PySem.W.kitOne K t t = some true := by unfold PySem.W.kitOne; rw [if_pos (beq_self_eq_true t)]
theorem tyF {K : PySem.W.Frag} {H : Hp} {y : V} {T : String} (h : tyS y = some T) : TyX K H y (.type T) := by
  cases y with
  | int i => cases h; exact .base (.int i)
  | bl i => cases h; exact .base (.bl i)
  | non => cases h; exact .base .non
  | str i => cases h; exact .base (.str i)
  | byt b => cases h
  | flt b => cases h
  | ref b => cases h
  | ty b => cases h
/-- the class at C is over no built-in class of flat values -/
def NoFlat (K : PySem.W.Frag) (C : Addr) : Prop := ∀ T ∈ ["int", "bool", "NoneType", "str"], PySem.W.kitOne K (.type T) (.ref C) = some false
theorem NoFlat.of {K : PySem.W.Frag} {C : Addr} {y : V} {T : String} (n : NoFlat K C) (h : tyS y = some T) : PySem.W.kitOne K (.type T) (.ref C) = some false := n T (by
  cases y <;> simp [tyS] at h <;> subst h <;> decide)
section
variable {X : Cx} {CX : CXT} {k : Nat} {f g C : Addr} {ps : List Str} {sp : Sp} {E : XK} {m : Str}
theorem op_binC {op : Operator} (F : FOk X.prog X.w X.K X.mg X.base CX k f ps sp) (hr : Room k X.A) (hx : Passes CX X E) (hc : PySem.W.selfFirst X.K C = true) (hs : Meth X.K C (PySem.dunder op.info.2) f) : OpR X (binaryOp op) (rOwnC C sp E) :=
  let ⟨_, G, b⟩ := F; op_ownC G hr b hx hc hs.at_ hs.fn
theorem op_binT {op : Operator} (F : FOk X.prog X.w X.K X.mg X.base CX k f ps sp) (hr : Room k X.A) (hx : Passes CX X E) (hc : PySem.W.selfFirst X.K C = true) (hs : Meth X.K C (PySem.dunder op.info.2) f) (hrr : Meth X.K C (dunderR op.info.2) g)
    (hsub : ∀ T ∈ ["int", "bool", "NoneType", "str"], PySem.W.subIn X.K (.type T) (.ref C) = some false)
    (h1 : ∀ T ∈ ["int", "bool", "NoneType", "str"], ∃ fo, PySem.W.findIn X.K (.type T) (PySem.dunder op.info.2) = some fo) (h2 : ∀ T ∈ ["int", "bool", "NoneType", "str"], ∃ fo, PySem.W.findIn X.K (.type T) (dunderR op.info.2) = some fo) :
    OpR X (binaryOp op) (rOwnT C sp E) := let ⟨_, G, b⟩ := F; op_ownT G hr b hx hc hs.at_ hs.fn hrr.at_ hsub h1 h2
theorem op_mulR (F : FOk X.prog X.w X.K X.mg X.base CX k f ps sp) (hr : Room k X.A) (hx : Passes CX X E) (hc : PySem.W.selfFirst X.K C = true) (hs : Meth X.K C (PySem.dunder "mul") g) (hrr : Meth X.K C (dunderR "mul") f)
    (hsub : ∀ T ∈ ["int", "bool", "NoneType", "str"], PySem.W.subIn X.K (.ref C) (.type T) = some false) : OpR X (binaryOp .Mult) (rOwnR C sp E) := let ⟨_, G, b⟩ := F; op_ownR_mul G hr b hx hc hs.at_ hrr.at_ hrr.fn hsub
theorem op_addR (F : FOk X.prog X.w X.K X.mg X.base CX k f ps sp) (hr : Room k X.A) (hx : Passes CX X E) (hc : PySem.W.selfFirst X.K C = true) (hs : Meth X.K C (PySem.dunder "add") g) (hrr : Meth X.K C (dunderR "add") f)
    (hsub : PySem.W.subIn X.K (.ref C) (.type "int") = some false) : OpR X (binaryOp .Add) (fun y x H Q => ∃ i, y = .int i ∧ rOwnR C sp E y x H Q) := let ⟨_, G, b⟩ := F; op_ownR_add G hr b hx hc hs.at_ hrr.at_ hrr.fn hsub
theorem op_cmpF {op : CmpOp} (F : FOk X.prog X.w X.K X.mg X.base CX k f ps sp) (hr : Room k X.A) (hx : Passes CX X E) (hs : Meth X.K C (cmpInfo op).2.1 f) (ho : ∀ a b, compareOp op a b = richCompare op a b := by intros; rfl) :
    OpR X (compareOp op) (rOwnCmp X.K C sp E) := let ⟨_, G, b⟩ := F; op_ownCmp G hr b hx hs.at_ hs.fn ho
theorem op_neF (F : FOk X.prog X.w X.K X.mg X.base CX k f ps sp) (hr : Room (k + 1) X.A) (hx : Passes CX X E) (hne : PySem.W.findIn X.K (.ref C) "__ne__" = some (some (.builtin "object.__ne__"))) (hob : PySem.W.subIn X.K (.ref C) (.type "object") = some true)
    (hs : Meth X.K C "__eq__" f) : OpR X (compareOp .NotEq) (rOwnNe X.K C sp E) := let ⟨_, G, b⟩ := F; op_ownNe G hr b hx hne hob hs.at_ hs.fn
theorem cmpY_ref {K : PySem.W.Frag} {b dy : Addr} {gs : List (Str × V)} {H : Hp} (h : H b = some (.ins C dy gs)) : CmpY K C (.ref b) H := .inl ⟨b, dy, gs, rfl, h⟩
end
theorem all4 {p : String → Prop} (h1 : p "int") (h2 : p "bool") (h3 : p "NoneType") (h4 : p "str") : ∀ T ∈ ["int", "bool", "NoneType", "str"], p T := by
  intro T hT
  simp only [List.mem_cons, List.not_mem_nil, or_false] at hT
  rcases hT with rfl | rfl | rfl | rfl <;> assumption
theorem noFlat_mk {K : PySem.W.Frag} {C : Addr} (h1 : PySem.W.kitOne K (.type "int") (.ref C) = some false) (h2 : PySem.W.kitOne K (.type "bool") (.ref C) = some false) (h3 : PySem.W.kitOne K (.type "NoneType") (.ref C) = some false) (h4 : PySem.W.kitOne K (.type "str") (.ref C) = some false) : NoFlat K C := all4 h1 h2 h3 h4
end L2

/-! repr of flat values; lambdas. -/
namespace L2
open PySem PySem.Spec PyProof.Rows
def reprV : V → Option Str
  | .int i => if i.natAbs.log2 < 1920 then some (toString i : String) else none
  | .bl b => some (if b then "True" else "False" : String)
  | .non => some "None"
  | .str z => if (reprText z).length ≤ sizeLine then some (reprText z) else none
  | _ => none
theorem call_repr {X : Cx} : CallR X (.builtin "repr") (fun xs H Q => ∃ y z, xs = [y] ∧ reprV y = some z ∧ Q (.str z) H) := by
  intro pins s σ H xs us Q I r h
  obtain ⟨y, z, rfl, hy, q⟩ := h
  obtain ⟨u, rfl, ry⟩ := vals1 r
  cases y with
  | int i =>
    obtain ⟨t, rfl⟩ := ry
    have hy : (if i.natAbs.log2 < 1920 then some (Str.ofString (toString i)) else none) = some z := hy
    by_cases hz : i.natAbs.log2 < 1920
    · rw [if_pos hz] at hy
      cases hy
      exact PySem.P.repr_of_int hz ⟨.str _, H, I.tok _, ⟨_, rfl⟩, q⟩
    · rw [if_neg hz] at hy
      cases hy
  | bl b =>
    cases ry
    cases hy
    cases b
    · exact PySem.P.repr_of_bool ⟨.str _, H, I.tok _, ⟨_, rfl⟩, q⟩
    · exact PySem.P.repr_of_bool ⟨.str _, H, I.tok _, ⟨_, rfl⟩, q⟩
  | non =>
    cases ry
    cases hy
    exact PySem.P.repr_of_none ⟨.str _, H, I.tok _, ⟨_, rfl⟩, q⟩
  | str x =>
    obtain ⟨t, rfl⟩ := ry
    have hy : (if (reprText x).length ≤ sizeLine then some (reprText x) else none) = some z := hy
    by_cases hz : (reprText x).length ≤ sizeLine
    · rw [if_pos hz] at hy
      cases hy
      exact PySem.P.repr_of_str ⟨.str _, H, I.tok _, ⟨_, rfl⟩, q⟩ hz
    · rw [if_neg hz] at hy
      cases hy
  | byt b => cases hy
  | flt b => cases hy
  | ref b => cases hy
  | ty b => cases hy
/-- the number of slots is known -/
theorem pss_len {X : Cx} {b : List Stmt} {t : TS} (h : PSs X b t) : PSs X b (fun D σ H => σ.length = X.N.length → t D σ H) := ⟨fun pins s σ H D I q => h.run pins s σ H D I (q I.len)⟩
end L2

namespace S01
open PySem L2
def top (i : Nat) : Stmt := PySem.Challenge.pw_stoppoints_k01_spans.main.body.getD i (.Pass ⟨0, 0, 0, 0⟩)
abbrev s_is_integer : Stmt := top 1
abbrev s_InvalidTime_init : Stmt := inClass (top 4) 0
abbrev s_Span_init : Stmt := inClass (top 6) 0
abbrev s_Span_endless : Stmt := inClass (top 6) 1
abbrev s_Span_is_endless : Stmt := inClass (top 6) 2
abbrev s_Span_add : Stmt := inClass (top 6) 3
abbrev s_Span_radd : Stmt := inClass (top 6) 4
abbrev s_Span_mul : Stmt := inClass (top 6) 5
abbrev s_Span_rmul : Stmt := inClass (top 6) 6
abbrev s_Span_eq : Stmt := inClass (top 6) 7
abbrev s_Span_lt : Stmt := inClass (top 6) 8
abbrev s_Span_le : Stmt := inClass (top 6) 9
abbrev s_Span_gt : Stmt := inClass (top 6) 10
abbrev s_Span_ge : Stmt := inClass (top 6) 11
abbrev s_added : Stmt := top 7
abbrev s_repeated : Stmt := top 8
abbrev s_at_most : Stmt := top 9
abbrev s_greatest : Stmt := top 10
abbrev s_law_pool : Stmt := top 12
abbrev s_law_draw : Stmt := top 13
abbrev s_law_choose : Stmt := top 14
abbrev s_law_span : Stmt := top 15
abbrev s_law_sum : Stmt := top 16
abbrev s_law_times : Stmt := top 17
abbrev s_law_less : Stmt := top 18
abbrev s_law_is : Stmt := top 19
abbrev s_law_refused : Stmt := top 20
abbrev s_law_ordered : Stmt := top 21
abbrev s_law_greatest : Stmt := top 22
abbrev s_law : Stmt := top 23
/-! ### data -/
def tv : Option Int → V
  | none => .non
  | some n => .int n
def SpAt (C : Addr) (H : Hp) (p : Addr) (t : Option Int) : Prop := ∃ dx, H p = some (.ins C dx [("time", tv t)])
theorem SpAt.same {C : Addr} {H H' : Hp} {p : Addr} {t : Option Int} (h : SpAt C H p t) (e : Same H H') : SpAt C H' p t := let ⟨dx, q⟩ := h; ⟨dx, e _ _ q⟩
/-- a new span comes back -/
def RetSpan (C : Addr) (t : Option Int) (H : Hp) (Q : VK) : Prop := ∀ p H', H p = none → Same H H' → SpAt C H' p t → Q (.ref p) H'
def RaiseErr (C : Addr) (f : Str) (v : V) (H : Hp) (E : XK) : Prop := ∀ d H', Same H H' → H' d = some (.xd [(f, v)]) → E (.ref C) (some d) H'
theorem RetSpan.same {C : Addr} {t : Option Int} {H H' : Hp} {Q : VK} (h : RetSpan C t H Q) (e : Same H H') : RetSpan C t H' Q := fun p H2 hp e2 s => h p H2 (e.free hp) (e.trans e2) s
theorem RaiseErr.same {C : Addr} {f : Str} {v : V} {H H' : Hp} {E : XK} (h : RaiseErr C f v H E) (e : Same H H') : RaiseErr C f v H' E := fun d H2 e2 s => h d H2 (e.trans e2) s
theorem same_upd {H : Hp} {p : Addr} {o : HO} (h : H p = none) : Same H (upd H p o) := fun b u e => by rw [upd_ne (ne_of_none e h)]; exact e
/-- an integer that is no bool -/
def isI : V → Bool
  | .int _ => true
  | _ => false
def goodT : V → Bool
  | .non => true
  | .int n => decide (0 ≤ n)
  | _ => false
structure Ad where
  Span : Addr
  is_integer : Addr
  Span_init : Addr
  Span_endless : Addr
  Span_endless_p : Addr
  Span_is_endless : Addr
  Span_add : Addr
  Span_radd : Addr
  Span_mul : Addr
  Span_rmul : Addr
  Span_eq : Addr
  Span_lt : Addr
  Span_le : Addr
  Span_gt : Addr
  Span_ge : Addr
  added : Addr
  repeated : Addr
  at_most : Addr
  greatest : Addr
  law_pool : Addr
  law_draw : Addr
  law_choose : Addr
  law_span : Addr
  law_sum : Addr
  law_times : Addr
  law_less : Addr
  law_is : Addr
  law_refused : Addr
  law_ordered : Addr
  law_greatest : Addr
  law : Addr
  InvalidTime : Addr
  InvalidTime_init : Addr
structure Txt (P : Program) (K : PySem.W.Frag) (mg : Str → Option Value) (a : Ad) : Prop where
  cl_Span : Cls K a.Span
  mg_Span : mg "Span" = some (.ref a.Span)
  ity_Span : InsTy K a.Span
  nof_Span : NoFlat K a.Span
  nA_Span_time : NoAttr K a.Span "time"
  d_is_integer : DefAt K mg "is_integer" s_is_integer ["value"] a.is_integer
  d_Span_init : MetAt K a.Span "__init__" "Span.__init__" s_Span_init ["self", "time"] a.Span_init
  mk_Span : Mk K a.Span a.Span_init
  d_Span_endless : StaAt K a.Span "endless" "Span.endless" s_Span_endless [] a.Span_endless_p a.Span_endless
  d_Span_is_endless : MetAt K a.Span "is_endless" "Span.is_endless" s_Span_is_endless ["self"] a.Span_is_endless
  d_Span_add : MetAt K a.Span "__add__" "Span.__add__" s_Span_add ["self", "other"] a.Span_add
  d_Span_radd : MetAt K a.Span "__radd__" "Span.__radd__" s_Span_radd ["self", "other"] a.Span_radd
  d_Span_mul : MetAt K a.Span "__mul__" "Span.__mul__" s_Span_mul ["self", "n"] a.Span_mul
  d_Span_rmul : MetAt K a.Span "__rmul__" "Span.__rmul__" s_Span_rmul ["self", "n"] a.Span_rmul
  d_Span_eq : MetAt K a.Span "__eq__" "Span.__eq__" s_Span_eq ["self", "other"] a.Span_eq
  d_Span_lt : MetAt K a.Span "__lt__" "Span.__lt__" s_Span_lt ["self", "other"] a.Span_lt
  d_Span_le : MetAt K a.Span "__le__" "Span.__le__" s_Span_le ["self", "other"] a.Span_le
  d_Span_gt : MetAt K a.Span "__gt__" "Span.__gt__" s_Span_gt ["self", "other"] a.Span_gt
  d_Span_ge : MetAt K a.Span "__ge__" "Span.__ge__" s_Span_ge ["self", "other"] a.Span_ge
  d_added : DefAt K mg "added" s_added ["span", "other"] a.added
  d_repeated : DefAt K mg "repeated" s_repeated ["span", "n"] a.repeated
  d_at_most : DefAt K mg "at_most" s_at_most ["one", "other"] a.at_most
  d_greatest : DefAt K mg "greatest" s_greatest ["spans"] a.greatest
  d_law_pool : DefAt K mg "_law_pool" s_law_pool ["_law_script", "_law_k"] a.law_pool
  d_law_draw : DefAt K mg "_law_draw" s_law_draw ["_law_pool_here", "_law_many"] a.law_draw
  d_law_choose : DefAt K mg "_law_choose" s_law_choose ["_law_pool_here", "_law_items"] a.law_choose
  d_law_span : DefAt K mg "_law_span" s_law_span ["_law_time"] a.law_span
  d_law_sum : DefAt K mg "_law_sum" s_law_sum ["_law_one", "_law_other"] a.law_sum
  d_law_times : DefAt K mg "_law_times" s_law_times ["_law_one", "_law_n"] a.law_times
  d_law_less : DefAt K mg "_law_less" s_law_less ["_law_one", "_law_other"] a.law_less
  d_law_is : DefAt K mg "_law_is" s_law_is ["_law_span_here", "_law_time"] a.law_is
  d_law_refused : DefAt K mg "_law_refused" s_law_refused ["_law_call"] a.law_refused
  d_law_ordered : DefAt K mg "_law_ordered" s_law_ordered ["_law_one", "_law_other"] a.law_ordered
  d_law_greatest : DefAt K mg "_law_greatest" s_law_greatest ["_law_times_here"] a.law_greatest
  d_law : DefAt K mg "law" s_law ["_law_script"] a.law
  err_InvalidTime : PySem.ErrX.ErrTxt P K mg "InvalidTime" "value" a.InvalidTime a.InvalidTime_init
  isinstance : mg "isinstance" = none
  int : mg "int" = none
  bool : mg "bool" = none
  range : mg "range" = none
  len : mg "len" = none
  max : mg "max" = none
  min : mg "min" = none
  zip : mg "zip" = none
  repr : mg "repr" = none
  super : mg "super" = none
  sf_Span : PySem.W.selfFirst K a.Span = true
  ne_Span : PySem.W.findIn K (.ref a.Span) "__ne__" = some (some (.builtin "object.__ne__"))
  ob_Span : PySem.W.subIn K (.ref a.Span) (.type "object") = some true
  sb_Span : ∀ T ∈ ["int", "bool", "NoneType", "str"], PySem.W.subIn K (.ref a.Span) (.type T) = some false
  bs_Span : ∀ T ∈ ["int", "bool", "NoneType", "str"], PySem.W.subIn K (.type T) (.ref a.Span) = some false
  fm : ∀ T ∈ ["int", "bool", "NoneType", "str"], ∃ fo, PySem.W.findIn K (.type T) "__mul__" = some fo
  frm : ∀ T ∈ ["int", "bool", "NoneType", "str"], ∃ fo, PySem.W.findIn K (.type T) "__rmul__" = some fo
  fa : ∀ T ∈ ["int", "bool", "NoneType", "str"], ∃ fo, PySem.W.findIn K (.type T) "__add__" = some fo
  fra : ∀ T ∈ ["int", "bool", "NoneType", "str"], ∃ fo, PySem.W.findIn K (.type T) "__radd__" = some fo
theorem boot_isi : bootBuiltins "isinstance" = some (.builtin "isinstance") := by decide +kernel
theorem boot_int : bootBuiltins "int" = some (.type "int") := by decide +kernel
theorem boot_bool : bootBuiltins "bool" = some (.type "bool") := by decide +kernel
section
variable {P : Program} {w : World} {K : PySem.W.Frag} {mg : Str → Option Value} {base : Heap} {a : Ad}
/-! ### is_integer -/
def spIsInt : Sp := fun vs H Q _ => ∃ y, vs = [y] ∧ (tyS y).isSome = true ∧ Q (.bl (isI y)) H
theorem sc_is_integer : FnScope ["value"] ["value"] (defScope s_is_integer) := ⟨rfl, rfl, rfl, by decide +kernel, rfl, by decide +kernel, by decide +kernel⟩
theorem ok_is_integer (T : Txt P K mg a) : FOk P w K mg base CX0 1 a.is_integer ["value"] spIsInt := by
  refine T.d_is_integer.ok sc_is_integer (fun vs H Q E h => ?_) (fun cdv A outer s H vs Q E hr h => ?_)
  · obtain ⟨y, rfl, _⟩ := h
    rfl
  · obtain ⟨y, rfl, hy, k⟩ := h
    refine ⟨_, (pss_one (ps_ret (pe_and (pe_callB call_isi (by rfl) T.isinstance boot_isi (pa_cons (pv 0) (pa_cons (pe_bltn (v := .ty "int") (by rfl) T.int boot_int rfl) pa_nil))) (pe_one (pe_not (pe_callB call_isi (by rfl) T.isinstance boot_isi (pa_cons (pv 0) (pa_cons (pe_bltn (v := .ty "bool") (by rfl) T.bool boot_bool rfl) pa_nil)))))))), ?_⟩
    cases y with
    | int i => exact ⟨_, rfl, _, _, _, _, true, rfl, .ty _, .base (.int i), kit_ty (by decide +kernel), _, rfl, iteT ⟨_, rfl, _, _, _, _, false, rfl, .ty _, .base (.int i), kit_ty (by decide +kernel), _, rfl, k⟩⟩
    | bl i => exact ⟨_, rfl, _, _, _, _, true, rfl, .ty _, .base (.bl i), kit_ty (by decide +kernel), _, rfl, iteT ⟨_, rfl, _, _, _, _, true, rfl, .ty _, .base (.bl i), kit_ty (by decide +kernel), _, rfl, k⟩⟩
    | non => exact ⟨_, rfl, _, _, _, _, false, rfl, .ty _, .base .non, kit_ty (by decide +kernel), _, rfl, iteF k⟩
    | str i => exact ⟨_, rfl, _, _, _, _, false, rfl, .ty _, .base (.str i), kit_ty (by decide +kernel), _, rfl, iteF k⟩
    | byt b => cases hy
    | flt b => cases hy
    | ref b => cases hy
    | ty b => cases hy
/-! ### Span.__init__ -/
def spInit (a : Ad) : Sp := fun vs H Q E => ∃ p dx y, vs = [.ref p, y] ∧ H p = some (.ins a.Span dx []) ∧ (tyS y).isSome = true ∧
  (goodT y = true → Q .non (upd H p (.ins a.Span dx [("time", y)]))) ∧ (goodT y = false → RaiseErr a.InvalidTime "value" y H E)
theorem sc_Span_init : FnScope ["self", "time"] ["self", "time"] (defScope s_Span_init) := ⟨rfl, rfl, rfl, by decide +kernel, rfl, by decide +kernel, by decide +kernel⟩
theorem ok_init (T : Txt P K mg a) : FOk P w K mg base (L2.CX P w) 3 a.Span_init ["self", "time"] (spInit a) := by
  have G_is_integer := ok_is_integer (P := P) (w := w) (base := base) T
  refine T.d_Span_init.okX sc_Span_init (fun vs H Q E h => ?_) (fun cdv A outer s H vs Q E hr h => ?_)
  · obtain ⟨p, dx, y, rfl, _⟩ := h
    rfl
  · obtain ⟨p, dx, y, rfl, hp, hy, k1, k2⟩ := h
    refine ⟨_, (pss_cons (ps_if (PW.pt (pw_and (pt_cmpR op_notN (pv 1) pe_non (nomark _)) (pw_and1 (PW.pt (pw_or (pt_not (pt_val (pcall G_is_integer (hr.mono (by decide)) (by rfl) T.d_is_integer.mg T.d_is_integer.kp pass0 (pa_cons (pv 1) pa_nil)))) (pw_or1 (pt_cmpR op_lt (pv 1) pe_int (nomark _)))))))) (pss_one (ps_raiseErr rfl T.err_InvalidTime hr (takes_of rfl rfl rfl rfl) (pa_cons (pv 1) pa_nil))) pss_nil)
      (pss_one (ps_fld (pv 0) (pv 1) rfl))), ?_⟩
    have bad : goodT y = false → ∀ d, H d = none → E (.ref a.InvalidTime) (some d) (upd H d (.xd [("value", y)])) := fun g d hd => k2 g d _ (same_upd hd) upd_same
    cases y with
    | non => exact ⟨_, rfl, rfl, _, rfl, iteF (iteF ⟨_, rfl, _, rfl, p, a.Span, dx, _, rfl, hp, T.cl_Span, T.nA_Span_time, by decide, k1 rfl⟩)⟩
    | int i =>
      refine ⟨_, rfl, rfl, _, rfl, iteT ⟨_, rfl, _, rfl, rfl, _, rfl, iteF ⟨_, rfl, _, _, rfl, rfl, _, rfl, ?_⟩⟩⟩
      by_cases c : i < 0
      · have g : goodT (.int i) = false := decide_eq_false (by omega)
        rw [decide_eq_true c]
        exact iteT ⟨_, rfl, _, rfl, bad g⟩
      · have g : goodT (.int i) = true := decide_eq_true (by omega)
        rw [decide_eq_false c]
        exact iteF ⟨_, rfl, _, rfl, p, a.Span, dx, _, rfl, hp, T.cl_Span, T.nA_Span_time, by decide, k1 g⟩
    | bl i => exact ⟨_, rfl, rfl, _, rfl, iteT ⟨_, rfl, _, rfl, rfl, _, rfl, iteT (iteT ⟨_, rfl, _, rfl, bad rfl⟩)⟩⟩
    | str i => exact ⟨_, rfl, rfl, _, rfl, iteT ⟨_, rfl, _, rfl, rfl, _, rfl, iteT (iteT ⟨_, rfl, _, rfl, bad rfl⟩)⟩⟩
    | byt b => cases hy
    | flt b => cases hy
    | ref b => cases hy
    | ty b => cases hy
/-! ### Span(..) -/
theorem make {y : V} {H : Hp} {Q : VK} {E : XK} (hy : (tyS y).isSome = true) (k1 : ∀ t, y = tv t → goodT y = true → RetSpan a.Span t H Q) (k2 : goodT y = false → RaiseErr a.InvalidTime "value" y H E) :
    ∀ x dx, H x = none → H dx = none → dx ≠ x → spInit a (.ref x :: ([y] ++ [])) (upd (upd H dx (.own x)) x (.ins a.Span dx [])) (fun v H2 => v = .non ∧ Q (.ref x) H2) E := by
  intro x dx nx ndx nex
  have s0 : Same H (upd (upd H dx (.own x)) x (.ins a.Span dx [])) := fun b o e => by
    rw [upd_ne (ne_of_none e nx), upd_ne (ne_of_none e ndx)]
    exact e
  refine ⟨x, dx, y, rfl, upd_same, hy, fun g => ⟨rfl, ?_⟩, fun g => (k2 g).same s0⟩
  obtain ⟨t, rfl⟩ : ∃ t, y = tv t := by
    cases y with
    | non => exact ⟨none, rfl⟩
    | int i => exact ⟨some i, rfl⟩
    | _ => cases g
  refine k1 t rfl g x _ nx (fun b o e => ?_) ⟨dx, upd_same⟩
  rw [upd_ne (ne_of_none e nx)]
  exact s0 b o e
/-! ### added, repeated, at_most -/
def addS : Option Int → Option Int → Option Int
  | some x, some y => some (x + y)
  | _, _ => none
def mulS (t : Option Int) (n : Int) : Option Int := if n = 0 then some 0 else t.map (· * n)
def leS (t u : Option Int) : Bool := match u, t with
  | none, _ => true
  | some y, some x => decide (x ≤ y)
  | some _, none => false
/-- a flat value as an addend -/
def flatA : V → Option (Option Int)
  | .int n => if 0 ≤ n then some (some n) else none
  | _ => none
def Tm : Option Int → Prop
  | none => True
  | some n => 0 ≤ n
theorem Tm.good {t : Option Int} (h : Tm t) : goodT (tv t) = true := by
  cases t with
  | none => rfl
  | some n => exact decide_eq_true h
theorem tyS_tv (t : Option Int) : (tyS (tv t)).isSome = true := by cases t <;> rfl
def spAdded (a : Ad) : Sp := fun vs H Q E => ∃ p y t, vs = [.ref p, y] ∧ SpAt a.Span H p t ∧ Tm t ∧
  ((∃ q u, y = .ref q ∧ SpAt a.Span H q u ∧ Tm u ∧ RetSpan a.Span (addS t u) H Q) ∨
    ((tyS y).isSome = true ∧ (∀ u, flatA y = some u → RetSpan a.Span (addS t u) H Q) ∧ (flatA y = none → RaiseErr a.InvalidTime "value" y H E)))
theorem sc_added : FnScope ["span", "other", "time"] ["span", "other"] (defScope s_added) := ⟨rfl, rfl, rfl, by decide +kernel, rfl, by decide +kernel, by decide +kernel⟩
theorem ok_added (T : Txt P K mg a) : FOk P w K mg base (L2.CX P w) 6 a.added ["span", "other"] (spAdded a) := by
  have G_is_integer := ok_is_integer (P := P) (w := w) (base := base) T
  have G_init := ok_init (P := P) (w := w) (base := base) T
  refine T.d_added.okX sc_added (fun vs H Q E h => ?_) (fun cdv A outer s H vs Q E hr h => ?_)
  · obtain ⟨p, y, t, rfl, _⟩ := h
    rfl
  · obtain ⟨p, y, t, rfl, ⟨dx, hp⟩, ht, k⟩ := h
    refine ⟨_, (pss_cons (ps_set (i := 2) sc_added.nd rfl (Or.inl rfl) (pv 1))
      (pss_cons (ps_if (pt_val (pe_callB call_isi (by rfl) T.isinstance boot_isi (pa_cons (pv 1) (pa_cons (pe_glob (v := .ref a.Span) (by rfl) T.mg_Span rfl) pa_nil)))) (pss_one (ps_set (i := 2) sc_added.nd rfl (Or.inl rfl) (pe_fld (pv 1) rfl))) (pss_one (ps_if (PW.pt (pw_or (pt_not (pt_val (pcall G_is_integer (hr.mono (by decide)) (by rfl) T.d_is_integer.mg T.d_is_integer.kp pass0 (pa_cons (pv 1) pa_nil)))) (pw_or1 (pt_cmpR op_lt (pv 1) pe_int (nomark _))))) (pss_one (ps_raiseErr rfl T.err_InvalidTime hr (takes_of rfl rfl rfl rfl) (pa_cons (pv 1) pa_nil))) pss_nil)))
      (pss_one (ps_ret (pe_ifExp (PW.pt (pw_or (pt_cmpR op_isN (pe_fld (pv 0) rfl) pe_non (nomark _)) (pw_or1 (pt_cmpR op_isN (pv 2) pe_non (nomark _))))) (pmake T.mk_Span G_init (hr.mono (by decide)) (by rfl) T.mg_Span passL (pa_cons pe_non pa_nil)) (pmake T.mk_Span G_init (hr.mono (by decide)) (by rfl) T.mg_Span passL (pa_cons (pe_op op_add (pe_fld (pv 0) rfl) (pv 2)) pa_nil))))))), ?_⟩
    refine ⟨_, rfl, ?_⟩
    have fin : ∀ (y : V) (u : Option Int), Tm u → RetSpan a.Span (addS t u) H Q → tRet (tIf (tOr (tTest (tOp (fun x y H Q => y = V.non ∧ Q (V.bl (decide (x = V.non))) H) (tFld K (tVar 0) "time") (tC V.non))) (tTest (tOp (fun x y H Q => y = V.non ∧ Q (V.bl (decide (x = V.non))) H) (tVar 2) (tC V.non))))
        (tMake a.Span (spInit a) [] E0 (tCons (tC V.non) tNil)) (tMake a.Span (spInit a) [] E0 (tCons (tOp (rI0 fun i j => V.int (i + j)) (tFld K (tVar 0) "time") (tVar 2)) tNil))) { nx := fun _ H' => Q .non H', rt := Q } [some (.ref p), some y, some (tv u)] H := by
      intro y u hu k
      cases t with
      | none =>
        refine ⟨_, rfl, p, a.Span, dx, _, _, rfl, hp, T.cl_Span, T.nA_Span_time, rfl, rfl, _, rfl, iteT (iteT (make rfl (fun t e _ => ?_) (fun z => nomatch z)))⟩
        cases t with
        | none => exact k
        | some n => cases e
      | some x =>
        refine ⟨_, rfl, p, a.Span, dx, _, _, rfl, hp, T.cl_Span, T.nA_Span_time, rfl, rfl, _, rfl, iteF ?_⟩
        cases u with
        | none =>
          refine ⟨_, rfl, rfl, _, rfl, iteT (make rfl (fun t e _ => ?_) (fun z => nomatch z))⟩
          cases t with
          | none => exact k
          | some n => cases e
        | some z =>
          refine ⟨_, rfl, rfl, _, rfl, iteF ⟨_, rfl, p, a.Span, dx, _, _, rfl, hp, T.cl_Span, T.nA_Span_time, rfl, _, rfl, _, _, rfl, rfl, make rfl (fun t e _ => ?_) (fun g => ?_)⟩⟩
          · cases t with
            | none => cases e
            | some n => cases e; exact k
          · have h1 : 0 ≤ x := ht
            have h2 : 0 ≤ z := hu
            exact absurd (of_decide_eq_false g) (by omega)
    rcases k with ⟨q, u, rfl, ⟨dq, hq⟩, hu, k⟩ | ⟨hy, k1, k2⟩
    · exact ⟨_, rfl, _, _, _, _, true, rfl, .own _, T.ity_Span.ty T.cl_Span hq, kit_self _, _, rfl, iteT ⟨_, rfl, q, a.Span, dq, _, _, rfl, hq, T.cl_Span, T.nA_Span_time, rfl, fin _ u hu k⟩⟩
    · obtain ⟨Ty, hT⟩ := Option.isSome_iff_exists.mp hy
      refine ⟨_, rfl, _, _, _, _, false, rfl, .own _, tyF hT, T.nof_Span.of hT, _, rfl, iteF ?_⟩
      have bad : flatA y = none → ∀ d, H d = none → E (.ref a.InvalidTime) (some d) (upd H d (.xd [("value", y)])) := fun g d hd => k2 g d _ (same_upd hd) upd_same
      refine ⟨_, rfl, _, rfl, hy, _, rfl, ?_⟩
      cases y with
      | int n =>
        refine iteF ⟨_, rfl, _, _, rfl, rfl, _, rfl, ?_⟩
        by_cases c : n < 0
        · rw [decide_eq_true c]
          exact iteT ⟨_, rfl, _, rfl, bad (if_neg (by omega))⟩
        · rw [decide_eq_false c]
          exact iteF (fin _ (some n) (show 0 ≤ n by omega) (k1 _ (if_pos (by omega))))
      | bl i => exact iteT (iteT ⟨_, rfl, _, rfl, bad rfl⟩)
      | non => exact iteT (iteT ⟨_, rfl, _, rfl, bad rfl⟩)
      | str i => exact iteT (iteT ⟨_, rfl, _, rfl, bad rfl⟩)
      | byt b => cases hy
      | flt b => cases hy
      | ref b => cases hy
      | ty b => cases hy
def spRepeated (a : Ad) : Sp := fun vs H Q E => ∃ p y t, vs = [.ref p, y] ∧ SpAt a.Span H p t ∧ Tm t ∧ (tyS y).isSome = true ∧
  (∀ n, y = .int n → 0 ≤ n → (∀ x, t = some x → CMulW x n) ∧ RetSpan a.Span (mulS t n) H Q) ∧ (flatA y = none → RaiseErr a.InvalidTime "value" y H E)
theorem sc_repeated : FnScope ["span", "n"] ["span", "n"] (defScope s_repeated) := ⟨rfl, rfl, rfl, by decide +kernel, rfl, by decide +kernel, by decide +kernel⟩
theorem ok_repeated (T : Txt P K mg a) : FOk P w K mg base (L2.CX P w) 6 a.repeated ["span", "n"] (spRepeated a) := by
  have G_is_integer := ok_is_integer (P := P) (w := w) (base := base) T
  have G_init := ok_init (P := P) (w := w) (base := base) T
  refine T.d_repeated.okX sc_repeated (fun vs H Q E h => ?_) (fun cdv A outer s H vs Q E hr h => ?_)
  · obtain ⟨p, y, t, rfl, _⟩ := h
    rfl
  · obtain ⟨p, y, t, rfl, ⟨dx, hp⟩, ht, hy, k1, k2⟩ := h
    refine ⟨_, (pss_cons (ps_if (PW.pt (pw_or (pt_not (pt_val (pcall G_is_integer (hr.mono (by decide)) (by rfl) T.d_is_integer.mg T.d_is_integer.kp pass0 (pa_cons (pv 1) pa_nil)))) (pw_or1 (pt_cmpR op_lt (pv 1) pe_int (nomark _))))) (pss_one (ps_raiseErr rfl T.err_InvalidTime hr (takes_of rfl rfl rfl rfl) (pa_cons (pv 1) pa_nil))) pss_nil)
      (pss_cons (ps_if (pt_cmpR op_eq (pv 1) pe_int (nomark _)) (pss_one (ps_ret (pmake T.mk_Span G_init (hr.mono (by decide)) (by rfl) T.mg_Span passL (pa_cons pe_int pa_nil)))) pss_nil)
      (pss_one (ps_ret (pe_ifExp (pt_cmpR op_isN (pe_fld (pv 0) rfl) pe_non (nomark _)) (pmake T.mk_Span G_init (hr.mono (by decide)) (by rfl) T.mg_Span passL (pa_cons pe_non pa_nil)) (pmake T.mk_Span G_init (hr.mono (by decide)) (by rfl) T.mg_Span passL (pa_cons (pe_op op_mulW (pe_fld (pv 0) rfl) (pv 1)) pa_nil))))))), ?_⟩
    have bad : flatA y = none → ∀ d, H d = none → E (.ref a.InvalidTime) (some d) (upd H d (.xd [("value", y)])) := fun g d hd => k2 g d _ (same_upd hd) upd_same
    refine ⟨_, rfl, _, rfl, hy, _, rfl, ?_⟩
    cases y with
    | int n =>
      refine iteF ⟨_, rfl, _, _, rfl, rfl, _, rfl, ?_⟩
      by_cases c : n < 0
      · rw [decide_eq_true c]
        exact iteT ⟨_, rfl, _, rfl, bad (if_neg (by omega))⟩
      · rw [decide_eq_false c]
        obtain ⟨hm, k⟩ := k1 n rfl (by omega)
        refine iteF ⟨_, rfl, rfl, _, rfl, ?_⟩
        by_cases z : n = 0
        · subst z
          rw [show decide (V.int 0 = V.int 0) = true from rfl]
          refine iteT (make rfl (fun t' e _ => ?_) (fun g => by cases g))
          cases t' with
          | none => cases e
          | some m =>
            cases e
            rw [show mulS t 0 = some 0 from if_pos rfl] at k
            exact k
        · rw [show decide (V.int n = V.int 0) = false from decide_eq_false (fun q => z (V.int.inj q))]
          refine iteF ⟨_, rfl, p, a.Span, dx, _, _, rfl, hp, T.cl_Span, T.nA_Span_time, rfl, rfl, _, rfl, ?_⟩
          have em : mulS t n = t.map (· * n) := if_neg z
          rw [em] at k
          cases t with
          | none =>
            refine iteT (make rfl (fun t' e _ => ?_) (fun g => by cases g))
            cases t' with
            | none => exact k
            | some m => cases e
          | some x =>
            have h1 : 0 ≤ x := ht
            have h2 : 0 ≤ x * n := Int.mul_nonneg h1 (by omega)
            refine iteF ⟨_, rfl, p, a.Span, dx, _, _, rfl, hp, T.cl_Span, T.nA_Span_time, rfl, _, rfl, _, _, rfl, rfl, hm x rfl, make rfl (fun t' e _ => ?_) (fun g => ?_)⟩
            · cases t' with
              | none => cases e
              | some m => cases e; exact k
            · exact absurd (of_decide_eq_false g) (by omega)
    | bl i => exact iteT (iteT ⟨_, rfl, _, rfl, bad rfl⟩)
    | non => exact iteT (iteT ⟨_, rfl, _, rfl, bad rfl⟩)
    | str i => exact iteT (iteT ⟨_, rfl, _, rfl, bad rfl⟩)
    | byt b => cases hy
    | flt b => cases hy
    | ref b => cases hy
    | ty b => cases hy
def spAtMost (a : Ad) : Sp := fun vs H Q _ => ∃ p q t u, vs = [.ref p, .ref q] ∧ SpAt a.Span H p t ∧ SpAt a.Span H q u ∧ Q (.bl (leS t u)) H
theorem sc_at_most : FnScope ["one", "other"] ["one", "other"] (defScope s_at_most) := ⟨rfl, rfl, rfl, by decide +kernel, rfl, by decide +kernel, by decide +kernel⟩
theorem ok_at_most (T : Txt P K mg a) : FOk P w K mg base CX0 1 a.at_most ["one", "other"] (spAtMost a) := by
  refine T.d_at_most.ok sc_at_most (fun vs H Q E h => ?_) (fun cdv A outer s H vs Q E hr h => ?_)
  · obtain ⟨p, q, t, u, rfl, _⟩ := h
    rfl
  · obtain ⟨p, q, t, u, rfl, ⟨dx, hp⟩, ⟨dq, hq⟩, k⟩ := h
    refine ⟨_, (pss_cons (ps_if (pt_cmpR op_isN (pe_fld (pv 1) rfl) pe_non (nomark _)) (pss_one (ps_ret pe_bl)) pss_nil)
      (pss_one (ps_ret (pe_and (pe_cmpR op_notN (pe_fld (pv 0) rfl) pe_non (nomark _)) (pe_one (pe_cmpR op_le (pe_fld (pv 0) rfl) (pe_fld (pv 1) rfl) (nomark _))))))), ?_⟩
    refine ⟨_, rfl, q, a.Span, dq, _, _, rfl, hq, T.cl_Span, T.nA_Span_time, rfl, rfl, _, rfl, ?_⟩
    cases u with
    | none => cases t <;> exact iteT k
    | some y =>
      refine iteF ⟨_, rfl, p, a.Span, dx, _, _, rfl, hp, T.cl_Span, T.nA_Span_time, rfl, rfl, _, rfl, ?_⟩
      cases t with
      | none => exact iteF k
      | some x => exact iteT ⟨_, rfl, p, a.Span, dx, _, _, rfl, hp, T.cl_Span, T.nA_Span_time, rfl, _, rfl, q, a.Span, dq, _, _, rfl, hq, T.cl_Span, T.nA_Span_time, rfl, _, _, rfl, rfl, k⟩
/-! ### greatest -/
abbrev Its := List (Option (Addr × Option Int))
def gv : Option (Addr × Option Int) → V
  | none => .non
  | some p => .ref p.1
def gStep (b : Option (Addr × Option Int)) : Option (Addr × Option Int) → Option (Addr × Option Int)
  | none => b
  | some p => match b with
    | none => some p
    | some q => if leS p.2 q.2 = true then some q else some p
def gAt (C : Addr) (H : Hp) (i : Option (Addr × Option Int)) : Prop := ∀ p, i = some p → SpAt C H p.1 p.2
def spGreatest (K : PySem.W.Frag) (a : Ad) : Sp := fun vs H Q _ => ∃ (l : Addr) (its : Its), vs = [.ref l] ∧ SqL K H l (its.map gv) ∧ (∀ i ∈ its, gAt a.Span H i) ∧ Q (gv (its.foldl gStep none)) H
theorem sc_greatest : FnScope ["spans", "best", "span"] ["spans"] (defScope s_greatest) := ⟨rfl, rfl, rfl, by decide +kernel, rfl, by decide +kernel, by decide +kernel⟩
theorem ok_greatest (T : Txt P K mg a) : FOk P w K mg base CX0 3 a.greatest ["spans"] (spGreatest K a) := by
  have G_at_most := ok_at_most (P := P) (w := w) (base := base) T
  refine T.d_greatest.ok sc_greatest (fun vs H Q E h => ?_) (fun cdv A outer s H vs Q E hr h => ?_)
  · obtain ⟨l, its, rfl, _⟩ := h
    rfl
  · obtain ⟨l, its, rfl, hl, hs, k⟩ := h
    refine ⟨_, (pss_cons (ps_set (i := 1) sc_greatest.nd rfl (Or.inl rfl) pe_non)
      (pss_cons (ps_for PassesOwn.never rfl (pi_list (pv 0)) (pg_name (i := 2) sc_greatest.nd rfl (Or.inl rfl)) (pss_one (ps_if (PW.pt (pw_and (pt_cmpR op_notN (pv 2) pe_non (nomark _)) (pw_and1 (PW.pt (pw_or (pt_cmpR op_isN (pv 1) pe_non (nomark _)) (pw_or1 (pt_not (pt_val (pcall G_at_most (hr.mono (by decide)) (by rfl) T.d_at_most.mg T.d_at_most.kp pass0 (pa_cons (pv 2) (pa_cons (pv 1) pa_nil))))))))))) (pss_one (ps_set (i := 1) sc_greatest.nd rfl (Or.inl rfl) (pv 2))) pss_nil)))
      (pss_one (ps_ret (pv 1))))), ?_⟩
    refine ⟨_, rfl, l, rfl, ⟨_, hl⟩, for_list (K := K) (a := l) (xs := its.map gv) (fun i σ H' => H' = H ∧ ∃ v, σ = [some (.ref l), some (gv ((its.take i).foldl gStep none)), v])
      ⟨rfl, none, rfl⟩ (fun i σ H' _ z => by rw [z.1]; exact hl) ?_ ?_⟩
    · rintro i y σ H' hi ⟨rfl, v, rfl⟩
      rw [List.getElem?_map] at hi
      cases e : its[i]? with
      | none => rw [e] at hi; cases hi
      | some x =>
        rw [e] at hi
        cases hi
        have hx : x ∈ its := List.mem_of_getElem? e
        have hb : gAt a.Span H' ((its.take i).foldl gStep none) := by
          have gen : ∀ (l : Its) (b : Option (Addr × Option Int)), gAt a.Span H' b → (∀ i ∈ l, gAt a.Span H' i) → gAt a.Span H' (l.foldl gStep b) := by
            intro l
            induction l with
            | nil => intro b hb _; exact hb
            | cons x r ih =>
              intro b hb hl
              refine ih _ ?_ fun i hi => hl i (.tail _ hi)
              have hx := hl x (.head _)
              cases x with
              | none => exact hb
              | some p =>
                cases b with
                | none => exact hx
                | some q =>
                  show gAt a.Span H' (if leS p.2 q.2 = true then some q else some p)
                  split
                  · exact hb
                  · exact hx
          exact gen _ _ (fun p z => nomatch z) fun i hi => hs i (List.mem_of_mem_take hi)
        have step : (its.take (i + 1)).foldl gStep none = gStep ((its.take i).foldl gStep none) x := by
          rw [List.take_add_one, e, List.foldl_append]
          rfl
        generalize hB : (its.take i).foldl gStep none = B at *
        have fin : ∀ C, gStep B x = C → (H' = H' ∧ ∃ v, [some (V.ref l), some (gv C), some (gv x)] = [some (V.ref l), some (gv ((its.take (i + 1)).foldl gStep none)), v]) := fun C hC => ⟨rfl, some (gv x), by rw [step, hC]⟩
        cases x with
        | none => exact ⟨_, rfl, rfl, _, rfl, iteF (iteF (fin _ rfl))⟩
        | some p =>
          refine ⟨_, rfl, rfl, _, rfl, iteT ⟨_, rfl, rfl, _, rfl, ?_⟩⟩
          cases B with
          | none => exact iteT (iteT ⟨_, rfl, fin _ rfl⟩)
          | some q =>
            refine iteF ⟨_, rfl, _, rfl, p.1, q.1, p.2, q.2, rfl, hs _ hx p rfl, hb q rfl, _, rfl, ?_⟩
            by_cases c : leS p.2 q.2 = true
            · rw [c]
              exact iteF (fin _ (by show (if leS p.2 q.2 = true then some q else some p) = _; rw [if_pos c]))
            · rw [Bool.eq_false_iff.mpr c]
              exact iteT ⟨_, rfl, fin _ (by show (if leS p.2 q.2 = true then some q else some p) = _; rw [if_neg c])⟩
    · rintro σ H' ⟨rfl, v, rfl⟩
      rw [List.length_map, List.take_length]
      exact ⟨_, rfl, k⟩
end
end S01

namespace S01
open PySem L2
section
variable {P : Program} {w : World} {K : PySem.W.Frag} {mg : Str → Option Value} {base : Heap} {a : Ad}
theorem sc_Span_endless : FnScope [] [] (defScope s_Span_endless) := ⟨rfl, rfl, rfl, by decide +kernel, rfl, by decide +kernel, by decide +kernel⟩
theorem sc_Span_is_endless : FnScope ["self"] ["self"] (defScope s_Span_is_endless) := ⟨rfl, rfl, rfl, by decide +kernel, rfl, by decide +kernel, by decide +kernel⟩
theorem sc_Span_add : FnScope ["self", "other"] ["self", "other"] (defScope s_Span_add) := ⟨rfl, rfl, rfl, by decide +kernel, rfl, by decide +kernel, by decide +kernel⟩
theorem sc_Span_radd : FnScope ["self", "other"] ["self", "other"] (defScope s_Span_radd) := ⟨rfl, rfl, rfl, by decide +kernel, rfl, by decide +kernel, by decide +kernel⟩
theorem sc_Span_mul : FnScope ["self", "n"] ["self", "n"] (defScope s_Span_mul) := ⟨rfl, rfl, rfl, by decide +kernel, rfl, by decide +kernel, by decide +kernel⟩
theorem sc_Span_rmul : FnScope ["self", "n"] ["self", "n"] (defScope s_Span_rmul) := ⟨rfl, rfl, rfl, by decide +kernel, rfl, by decide +kernel, by decide +kernel⟩
theorem sc_Span_eq : FnScope ["self", "other"] ["self", "other"] (defScope s_Span_eq) := ⟨rfl, rfl, rfl, by decide +kernel, rfl, by decide +kernel, by decide +kernel⟩
theorem sc_Span_lt : FnScope ["self", "other"] ["self", "other"] (defScope s_Span_lt) := ⟨rfl, rfl, rfl, by decide +kernel, rfl, by decide +kernel, by decide +kernel⟩
theorem sc_Span_le : FnScope ["self", "other"] ["self", "other"] (defScope s_Span_le) := ⟨rfl, rfl, rfl, by decide +kernel, rfl, by decide +kernel, by decide +kernel⟩
theorem sc_Span_gt : FnScope ["self", "other"] ["self", "other"] (defScope s_Span_gt) := ⟨rfl, rfl, rfl, by decide +kernel, rfl, by decide +kernel, by decide +kernel⟩
theorem sc_Span_ge : FnScope ["self", "other"] ["self", "other"] (defScope s_Span_ge) := ⟨rfl, rfl, rfl, by decide +kernel, rfl, by decide +kernel, by decide +kernel⟩
def spEndless (a : Ad) : Sp := fun vs H Q _ => vs = [] ∧ RetSpan a.Span none H Q
theorem ok_endless (T : Txt P K mg a) : FOk P w K mg base CX0 5 a.Span_endless [] (spEndless a) := by
  have G_init := ok_init (P := P) (w := w) (base := base) T
  refine T.d_Span_endless.ok sc_Span_endless (fun vs H Q E h => ?_) (fun cdv A outer s H vs Q E hr h => ?_)
  · obtain ⟨rfl, _⟩ := h
    rfl
  · obtain ⟨rfl, k⟩ := h
    refine ⟨_, (pss_one (ps_ret (pmake T.mk_Span G_init (hr.mono (by decide)) (by rfl) T.mg_Span passL (pa_cons pe_non pa_nil)))), ?_⟩
    refine make rfl (fun t e _ => ?_) (fun g => by cases g)
    cases t with
    | none => exact k
    | some n => cases e
def spIsEndless (a : Ad) : Sp := fun vs H Q _ => ∃ p t, vs = [.ref p] ∧ SpAt a.Span H p t ∧ Q (.bl (decide (tv t = .non))) H
theorem ok_is_endless (T : Txt P K mg a) : FOk P w K mg base CX0 1 a.Span_is_endless ["self"] (spIsEndless a) := by
  refine T.d_Span_is_endless.ok sc_Span_is_endless (fun vs H Q E h => ?_) (fun cdv A outer s H vs Q E hr h => ?_)
  · obtain ⟨p, t, rfl, _⟩ := h
    rfl
  · obtain ⟨p, t, rfl, ⟨dx, hp⟩, k⟩ := h
    refine ⟨_, (pss_one (ps_ret (pe_cmpR op_isN (pe_fld (pv 0) rfl) pe_non (nomark _)))), ?_⟩
    exact ⟨_, rfl, p, a.Span, dx, _, _, rfl, hp, T.cl_Span, T.nA_Span_time, rfl, rfl, k⟩
theorem ok_add (T : Txt P K mg a) : FOk P w K mg base (L2.CX P w) 7 a.Span_add ["self", "other"] (spAdded a) := by
  have G_added := ok_added (P := P) (w := w) (base := base) T
  refine T.d_Span_add.okX sc_Span_add (fun vs H Q E h => ?_) (fun cdv A outer s H vs Q E hr h => ?_)
  · obtain ⟨p, y, t, rfl, _⟩ := h
    rfl
  · have h' := h
    obtain ⟨p, y, t, rfl, _⟩ := h
    exact ⟨_, (pss_one (ps_ret (pcall G_added (hr.mono (by decide)) (by rfl) T.d_added.mg T.d_added.kp (passes_call (takes_of rfl rfl rfl rfl) (fun _ _ _ _ z => z)) (pa_cons (pv 0) (pa_cons (pv 1) pa_nil))))), _, rfl, _, rfl, h'⟩
theorem ok_radd (T : Txt P K mg a) : FOk P w K mg base (L2.CX P w) 7 a.Span_radd ["self", "other"] (spAdded a) := by
  have G_added := ok_added (P := P) (w := w) (base := base) T
  refine T.d_Span_radd.okX sc_Span_radd (fun vs H Q E h => ?_) (fun cdv A outer s H vs Q E hr h => ?_)
  · obtain ⟨p, y, t, rfl, _⟩ := h
    rfl
  · have h' := h
    obtain ⟨p, y, t, rfl, _⟩ := h
    exact ⟨_, (pss_one (ps_ret (pcall G_added (hr.mono (by decide)) (by rfl) T.d_added.mg T.d_added.kp (passes_call (takes_of rfl rfl rfl rfl) (fun _ _ _ _ z => z)) (pa_cons (pv 0) (pa_cons (pv 1) pa_nil))))), _, rfl, _, rfl, h'⟩
theorem ok_mul (T : Txt P K mg a) : FOk P w K mg base (L2.CX P w) 7 a.Span_mul ["self", "n"] (spRepeated a) := by
  have G_repeated := ok_repeated (P := P) (w := w) (base := base) T
  refine T.d_Span_mul.okX sc_Span_mul (fun vs H Q E h => ?_) (fun cdv A outer s H vs Q E hr h => ?_)
  · obtain ⟨p, y, t, rfl, _⟩ := h
    rfl
  · have h' := h
    obtain ⟨p, y, t, rfl, _⟩ := h
    exact ⟨_, (pss_one (ps_ret (pcall G_repeated (hr.mono (by decide)) (by rfl) T.d_repeated.mg T.d_repeated.kp (passes_call (takes_of rfl rfl rfl rfl) (fun _ _ _ _ z => z)) (pa_cons (pv 0) (pa_cons (pv 1) pa_nil))))), _, rfl, _, rfl, h'⟩
theorem ok_rmul (T : Txt P K mg a) : FOk P w K mg base (L2.CX P w) 7 a.Span_rmul ["self", "n"] (spRepeated a) := by
  have G_repeated := ok_repeated (P := P) (w := w) (base := base) T
  refine T.d_Span_rmul.okX sc_Span_rmul (fun vs H Q E h => ?_) (fun cdv A outer s H vs Q E hr h => ?_)
  · obtain ⟨p, y, t, rfl, _⟩ := h
    rfl
  · have h' := h
    obtain ⟨p, y, t, rfl, _⟩ := h
    exact ⟨_, (pss_one (ps_ret (pcall G_repeated (hr.mono (by decide)) (by rfl) T.d_repeated.mg T.d_repeated.kp (passes_call (takes_of rfl rfl rfl rfl) (fun _ _ _ _ z => z)) (pa_cons (pv 0) (pa_cons (pv 1) pa_nil))))), _, rfl, _, rfl, h'⟩
def spEq (a : Ad) : Sp := fun vs H Q _ => ∃ p y t, vs = [.ref p, y] ∧ SpAt a.Span H p t ∧ ((∃ q u, y = .ref q ∧ SpAt a.Span H q u ∧ Q (.bl (decide (tv t = tv u))) H) ∨ ((tyS y).isSome = true ∧ Q (.bl false) H))
theorem scal_tv (t u : Option Int) : scal (tv t) (tv u) = true := by cases t <;> cases u <;> rfl
theorem ok_eq (T : Txt P K mg a) : FOk P w K mg base CX0 1 a.Span_eq ["self", "other"] (spEq a) := by
  refine T.d_Span_eq.ok sc_Span_eq (fun vs H Q E h => ?_) (fun cdv A outer s H vs Q E hr h => ?_)
  · obtain ⟨p, y, t, rfl, _⟩ := h
    rfl
  · obtain ⟨p, y, t, rfl, ⟨dx, hp⟩, k⟩ := h
    refine ⟨_, (pss_one (ps_ret (pe_and (pe_callB call_isi (by rfl) T.isinstance boot_isi (pa_cons (pv 1) (pa_cons (pe_glob (v := .ref a.Span) (by rfl) T.mg_Span rfl) pa_nil))) (pe_one (pe_cmpR op_eq (pe_fld (pv 0) rfl) (pe_fld (pv 1) rfl) (nomark _)))))), ?_⟩
    rcases k with ⟨q, u, rfl, ⟨dq, hq⟩, k⟩ | ⟨hy, k⟩
    · exact ⟨_, rfl, _, _, _, _, true, rfl, .own _, T.ity_Span.ty T.cl_Span hq, kit_self _, _, rfl, iteT ⟨_, rfl, p, a.Span, dx, _, _, rfl, hp, T.cl_Span, T.nA_Span_time, rfl, _, rfl, q, a.Span, dq, _, _, rfl, hq, T.cl_Span, T.nA_Span_time, rfl, scal_tv t u, k⟩⟩
    · obtain ⟨Ty, hT⟩ := Option.isSome_iff_exists.mp hy
      exact ⟨_, rfl, _, _, _, _, false, rfl, .own _, tyF hT, T.nof_Span.of hT, _, rfl, iteF k⟩
def spCmp (a : Ad) (r : Option Int → Option Int → Bool) : Sp := fun vs H Q _ => ∃ p q t u, vs = [.ref p, .ref q] ∧ SpAt a.Span H p t ∧ SpAt a.Span H q u ∧ Q (.bl (r t u)) H
theorem ok_lt (T : Txt P K mg a) : FOk P w K mg base CX0 3 a.Span_lt ["self", "other"] (spCmp a (fun t u => !leS u t)) := by
  have G_at_most := ok_at_most (P := P) (w := w) (base := base) T
  refine T.d_Span_lt.ok sc_Span_lt (fun vs H Q E h => ?_) (fun cdv A outer s H vs Q E hr h => ?_)
  · obtain ⟨p, q, t, u, rfl, _⟩ := h
    rfl
  · obtain ⟨p, q, t, u, rfl, ⟨dx, hp⟩, ⟨dq, hq⟩, k⟩ := h
    refine ⟨_, (pss_cons (ps_if (pt_not (pt_val (pe_callB call_isi (by rfl) T.isinstance boot_isi (pa_cons (pv 1) (pa_cons (pe_glob (v := .ref a.Span) (by rfl) T.mg_Span rfl) pa_nil))))) (pss_one (ps_never)) pss_nil)
      (pss_one (ps_ret (pe_not (pcall G_at_most (hr.mono (by decide)) (by rfl) T.d_at_most.mg T.d_at_most.kp pass0 (pa_cons (pv 1) (pa_cons (pv 0) pa_nil))))))), ?_⟩
    exact ⟨_, rfl, _, _, _, _, true, rfl, .own _, T.ity_Span.ty T.cl_Span hq, kit_self _, _, rfl, iteF ⟨_, rfl, _, rfl, q, p, u, t, rfl, ⟨dq, hq⟩, ⟨dx, hp⟩, _, rfl, k⟩⟩
theorem ok_le (T : Txt P K mg a) : FOk P w K mg base CX0 3 a.Span_le ["self", "other"] (spCmp a (fun t u => leS t u)) := by
  have G_at_most := ok_at_most (P := P) (w := w) (base := base) T
  refine T.d_Span_le.ok sc_Span_le (fun vs H Q E h => ?_) (fun cdv A outer s H vs Q E hr h => ?_)
  · obtain ⟨p, q, t, u, rfl, _⟩ := h
    rfl
  · obtain ⟨p, q, t, u, rfl, ⟨dx, hp⟩, ⟨dq, hq⟩, k⟩ := h
    refine ⟨_, (pss_cons (ps_if (pt_not (pt_val (pe_callB call_isi (by rfl) T.isinstance boot_isi (pa_cons (pv 1) (pa_cons (pe_glob (v := .ref a.Span) (by rfl) T.mg_Span rfl) pa_nil))))) (pss_one (ps_never)) pss_nil)
      (pss_one (ps_ret (pcall G_at_most (hr.mono (by decide)) (by rfl) T.d_at_most.mg T.d_at_most.kp pass0 (pa_cons (pv 0) (pa_cons (pv 1) pa_nil)))))), ?_⟩
    exact ⟨_, rfl, _, _, _, _, true, rfl, .own _, T.ity_Span.ty T.cl_Span hq, kit_self _, _, rfl, iteF ⟨_, rfl, _, rfl, p, q, t, u, rfl, ⟨dx, hp⟩, ⟨dq, hq⟩, k⟩⟩
theorem ok_gt (T : Txt P K mg a) : FOk P w K mg base CX0 3 a.Span_gt ["self", "other"] (spCmp a (fun t u => !leS t u)) := by
  have G_at_most := ok_at_most (P := P) (w := w) (base := base) T
  refine T.d_Span_gt.ok sc_Span_gt (fun vs H Q E h => ?_) (fun cdv A outer s H vs Q E hr h => ?_)
  · obtain ⟨p, q, t, u, rfl, _⟩ := h
    rfl
  · obtain ⟨p, q, t, u, rfl, ⟨dx, hp⟩, ⟨dq, hq⟩, k⟩ := h
    refine ⟨_, (pss_cons (ps_if (pt_not (pt_val (pe_callB call_isi (by rfl) T.isinstance boot_isi (pa_cons (pv 1) (pa_cons (pe_glob (v := .ref a.Span) (by rfl) T.mg_Span rfl) pa_nil))))) (pss_one (ps_never)) pss_nil)
      (pss_one (ps_ret (pe_not (pcall G_at_most (hr.mono (by decide)) (by rfl) T.d_at_most.mg T.d_at_most.kp pass0 (pa_cons (pv 0) (pa_cons (pv 1) pa_nil))))))), ?_⟩
    exact ⟨_, rfl, _, _, _, _, true, rfl, .own _, T.ity_Span.ty T.cl_Span hq, kit_self _, _, rfl, iteF ⟨_, rfl, _, rfl, p, q, t, u, rfl, ⟨dx, hp⟩, ⟨dq, hq⟩, _, rfl, k⟩⟩
theorem ok_ge (T : Txt P K mg a) : FOk P w K mg base CX0 3 a.Span_ge ["self", "other"] (spCmp a (fun t u => leS u t)) := by
  have G_at_most := ok_at_most (P := P) (w := w) (base := base) T
  refine T.d_Span_ge.ok sc_Span_ge (fun vs H Q E h => ?_) (fun cdv A outer s H vs Q E hr h => ?_)
  · obtain ⟨p, q, t, u, rfl, _⟩ := h
    rfl
  · obtain ⟨p, q, t, u, rfl, ⟨dx, hp⟩, ⟨dq, hq⟩, k⟩ := h
    refine ⟨_, (pss_cons (ps_if (pt_not (pt_val (pe_callB call_isi (by rfl) T.isinstance boot_isi (pa_cons (pv 1) (pa_cons (pe_glob (v := .ref a.Span) (by rfl) T.mg_Span rfl) pa_nil))))) (pss_one (ps_never)) pss_nil)
      (pss_one (ps_ret (pcall G_at_most (hr.mono (by decide)) (by rfl) T.d_at_most.mg T.d_at_most.kp pass0 (pa_cons (pv 1) (pa_cons (pv 0) pa_nil)))))), ?_⟩
    exact ⟨_, rfl, _, _, _, _, true, rfl, .own _, T.ity_Span.ty T.cl_Span hq, kit_self _, _, rfl, iteF ⟨_, rfl, _, rfl, q, p, u, t, rfl, ⟨dq, hq⟩, ⟨dx, hp⟩, k⟩⟩
end
end S01

namespace S01
open PySem L2
section
variable {P : Program} {w : World} {K : PySem.W.Frag} {mg : Str → Option Value} {base : Heap} {a : Ad}
theorem sc_law_pool : FnScope ["_law_script", "_law_k", "_law_cell", "_law_seed"] ["_law_script", "_law_k"] (defScope s_law_pool) := ⟨rfl, rfl, rfl, by decide +kernel, rfl, by decide +kernel, by decide +kernel⟩
theorem sc_law_draw : FnScope ["_law_pool_here", "_law_many", "_law_digit"] ["_law_pool_here", "_law_many"] (defScope s_law_draw) := ⟨rfl, rfl, rfl, by decide +kernel, rfl, by decide +kernel, by decide +kernel⟩
theorem sc_law_choose : FnScope ["_law_pool_here", "_law_items"] ["_law_pool_here", "_law_items"] (defScope s_law_choose) := ⟨rfl, rfl, rfl, by decide +kernel, rfl, by decide +kernel, by decide +kernel⟩
theorem sc_law_span : FnScope ["_law_time"] ["_law_time"] (defScope s_law_span) := ⟨rfl, rfl, rfl, by decide +kernel, rfl, by decide +kernel, by decide +kernel⟩
theorem sc_law_sum : FnScope ["_law_one", "_law_other"] ["_law_one", "_law_other"] (defScope s_law_sum) := ⟨rfl, rfl, rfl, by decide +kernel, rfl, by decide +kernel, by decide +kernel⟩
theorem sc_law_times : FnScope ["_law_one", "_law_n"] ["_law_one", "_law_n"] (defScope s_law_times) := ⟨rfl, rfl, rfl, by decide +kernel, rfl, by decide +kernel, by decide +kernel⟩
theorem sc_law_less : FnScope ["_law_one", "_law_other"] ["_law_one", "_law_other"] (defScope s_law_less) := ⟨rfl, rfl, rfl, by decide +kernel, rfl, by decide +kernel, by decide +kernel⟩
theorem sc_law_is : FnScope ["_law_span_here", "_law_time"] ["_law_span_here", "_law_time"] (defScope s_law_is) := ⟨rfl, rfl, rfl, by decide +kernel, rfl, by decide +kernel, by decide +kernel⟩
theorem sc_law_ordered : FnScope ["_law_one", "_law_other", "_law_a", "_law_b"] ["_law_one", "_law_other"] (defScope s_law_ordered) := ⟨rfl, rfl, rfl, by decide +kernel, rfl, by decide +kernel, by decide +kernel⟩
theorem sc_law_greatest : FnScope ["_law_times_here", "_law_best", "_law_time"] ["_law_times_here"] (defScope s_law_greatest) := ⟨rfl, rfl, rfl, by decide +kernel, rfl, by decide +kernel, by decide +kernel⟩
/-! ### the pool -/
def Pl (c d : Int) : Prop := 0 ≤ c ∧ 0 ≤ d ∧ d < 2147483647
def PoolAt (H : Hp) (p : Addr) : Prop := ∃ c d, Pl c d ∧ H p = some (.lst [.int c, .int d])
def spPool (K : PySem.W.Frag) : Sp := fun vs H Q _ => ∃ (l : Addr) (ns : List Int) (k : Nat), vs = [.ref l, .int k] ∧ SqL K H l (ns.map V.int) ∧ k < 64 ∧ ∀ p c d, H p = none → Pl c d → Q (.ref p) (upd H p (.lst [.int c, .int d]))
theorem ok_pool (T : Txt P K mg a) : FOk P w K mg base CX0 1 a.law_pool ["_law_script", "_law_k"] (spPool K) := by
  refine T.d_law_pool.ok sc_law_pool (fun vs H Q E h => ?_) (fun cdv A outer s H vs Q E hr h => ?_)
  · obtain ⟨l, ns, k, rfl, _⟩ := h
    rfl
  · obtain ⟨l, ns, k, rfl, hl, hk, kk⟩ := h
    refine ⟨_, (pss_cons (ps_set (i := 2) sc_law_pool.nd rfl (Or.inl rfl) pe_int)
      (C8.pss_cut (ps_if (pt_cmpR op_lt (pv 1) (pe_callB call_len_seq (by rfl) T.len PySem.boot_len (pa_cons (pv 0) pa_nil)) (nomark _)) (pss_one (ps_set (i := 2) sc_law_pool.nd rfl (Or.inl rfl) (pe_ix ix_list (pv 0) (pv 1) (fun _ _ => rfl)))) pss_nil)
      (pss_cons (ps_set (i := 3) sc_law_pool.nd rfl (Or.inl rfl) (pe_op op_mod (pe_op op_pow (pe_op op_add (pe_op op_add (pe_op op_mod (pe_callTy call_int1 (by rfl) T.int boot_int (pa_cons (pv 2) pa_nil)) pe_int) (pe_op op_mul (pe_op op_mul pe_int (pv 1)) (pv 1))) pe_int) pe_int) pe_int))
      (C8.pss_cut (ps_if (pt_cmpR op_lt (pv 2) (pe_op op_pow pe_int pe_int) (nomark _)) (pss_one (ps_set (i := 2) sc_law_pool.nd rfl (Or.inl rfl) pe_int)) pss_nil)
      (pss_one (ps_ret (pe_lst (pa_cons (pv 2) (pa_cons (pv 3) pa_nil))))))))), ?_⟩
    refine ⟨fun σ H' => H' = H ∧ ∃ c : Int, σ = [some (.ref l), some (.int k), some (.int c), none], ⟨_, rfl, _, rfl, l, _, rfl, .inl hl, _, _, rfl, rfl, _, rfl, ?_⟩, ?_⟩
    · refine ite2 (fun hlt => ?_) (fun _ => ⟨rfl, 0, rfl⟩)
      have hlt' : k < ns.length := by
        have z := of_decide_eq_true hlt
        rw [List.length_map] at z
        omega
      refine ⟨_, rfl, _, rfl, l, _, _, _, rfl, rfl, hl, atI_nat (by rw [List.getElem?_map, List.getElem?_eq_getElem hlt']; rfl), rfl, _, rfl⟩
    · rintro σ H' ⟨rfl, c, rfl⟩
      have hm0 : (0 : Int) ≤ c % 2147483629 := Int.emod_nonneg _ (by decide)
      have hm1 : c % 2147483629 < 2147483629 := Int.emod_lt_of_pos _ (by decide)
      have hq0 : (0 : Int) ≤ 7919 * (k : Int) * k := Int.mul_nonneg (by omega) (by omega)
      have hq1 : 7919 * (k : Int) * k ≤ 7919 * 64 * 64 := Int.mul_le_mul (by omega) (by omega) (by omega) (by omega)
      refine ⟨_, rfl, .inl ⟨_, rfl, _, _, rfl, rfl, (by show (0 : Int) < 2147483629; decide), _, rfl, _, _, rfl, rfl, .inl ⟨by decide, by decide⟩, _, rfl, _, _, rfl, rfl, .inr ⟨by omega, by omega⟩, _, _, rfl, rfl, _, _, rfl, rfl, _, _, rfl, rfl, ⟨by decide, by decide, ?_⟩, _, _, rfl, rfl, (by show (0 : Int) < 2147483647; decide), ?_⟩⟩
      · omega
      · refine ⟨fun σ H'' => H'' = H' ∧ ∃ c d : Int, Pl c d ∧ σ = [some (.ref l), some (.int k), some (.int c), some (.int d)], ⟨_, rfl, _, _, rfl, rfl, ⟨by decide, by decide, by decide⟩, _, _, rfl, rfl, _, rfl, ?_⟩, ?_⟩
        · refine ite2 (fun _ => ⟨rfl, 0, _, ⟨by decide, Int.emod_nonneg _ (by decide), Int.emod_lt_of_pos _ (by decide)⟩, rfl⟩) (fun z => ⟨rfl, c, _, ⟨?_, Int.emod_nonneg _ (by decide), Int.emod_lt_of_pos _ (by decide)⟩, rfl⟩)
          have z' := of_decide_eq_false (Bool.eq_false_iff.mpr z)
          have : (10 : Int) ^ (18 : Int).toNat = 1000000000000000000 := by decide
          omega
        · rintro σ H'' ⟨rfl, c', d', hp, rfl⟩
          exact ⟨_, rfl, _, rfl, (by show 2 ≤ sizeLine; decide), fun p hn => kk p c' d' hn hp⟩
def spDraw : Sp := fun vs H Q _ => ∃ (p : Addr) (m : Int), vs = [.ref p, .int m] ∧ PoolAt H p ∧ 0 < m ∧ m.natAbs.log2 < 9000 ∧ ∀ x c d, 0 ≤ x → x < m → Pl c d → Q (.int x) (upd H p (.lst [.int c, .int d]))
theorem ok_draw (T : Txt P K mg a) : FOk P w K mg base CX0 1 a.law_draw ["_law_pool_here", "_law_many"] spDraw := by
  refine T.d_law_draw.ok sc_law_draw (fun vs H Q E h => ?_) (fun cdv A outer s H vs Q E hr h => ?_)
  · obtain ⟨p, m, rfl, _⟩ := h
    rfl
  · obtain ⟨p, m, rfl, ⟨c, d, ⟨hc, hd0, hd1⟩, hp⟩, hm, hm2, k⟩ := h
    refine ⟨_, (pss_cons (ps_if (pt_cmpR op_gt (pe_ix ix_list (pv 0) pe_int (fun _ _ => rfl)) pe_int (nomark _)) (pss_cons (ps_set (i := 2) sc_law_draw.nd rfl (Or.inl rfl) (pe_op op_mod (pe_callTy call_int1 (by rfl) T.int boot_int (pa_cons (pe_ix ix_list (pv 0) pe_int (fun _ _ => rfl)) pa_nil)) (pv 1)))
      (pss_cons (ps_asg (pe_op op_fdivW (pe_ix ix_list (pv 0) pe_int (fun _ _ => rfl)) (pv 1)) (pg_sub (pv 0) pe_int set_list))
      (pss_one (ps_ret (pv 2))))) pss_nil)
      (pss_cons (ps_asg (pe_op op_mod (pe_callTy call_int1 (by rfl) T.int boot_int (pa_cons (pe_op op_add (pe_op op_mul (pe_ix ix_list (pv 0) pe_int (fun _ _ => rfl)) pe_int) pe_int) pa_nil)) pe_int) (pg_sub (pv 0) pe_int set_list))
      (pss_one (ps_ret (pe_op op_mod (pe_op op_fdiv (pe_op op_mod (pe_callTy call_int1 (by rfl) T.int boot_int (pa_cons (pe_op op_mul (pe_ix ix_list (pv 0) pe_int (fun _ _ => rfl)) (pe_ix ix_list (pv 0) pe_int (fun _ _ => rfl))) pa_nil)) pe_int) pe_int) (pv 1)))))), ?_⟩
    have ip : SqL K H p [.int c, .int d] := SqL.of hp
    refine ⟨_, rfl, p, _, _, _, rfl, rfl, ip, atI_nat (j := 0) rfl, _, _, rfl, rfl, _, rfl, ?_⟩
    refine ite2 (fun hlt => ?_) (fun _ => ?_)
    · have c0 : 0 < c := of_decide_eq_true hlt
      refine ⟨_, rfl, p, _, _, _, rfl, rfl, ip, atI_nat (j := 0) rfl, .inl ⟨_, rfl, _, rfl, _, _, rfl, rfl, hm, ?_⟩⟩
      refine ⟨_, rfl, p, _, _, _, rfl, rfl, ip, atI_nat (j := 0) rfl, _, rfl, _, _, rfl, rfl, ⟨hm, hm2⟩, _, rfl, p, _, _, 0, rfl, rfl, hp, rfl, ?_⟩
      exact ⟨_, rfl, k _ _ _ (Int.emod_nonneg _ (by omega)) (Int.emod_lt_of_pos _ hm) ⟨Int.ediv_nonneg (by omega) (by omega), hd0, hd1⟩⟩
    · refine ⟨_, rfl, p, _, _, _, rfl, rfl, ip, atI_nat (j := 1) rfl, _, _, rfl, rfl, .inr ⟨by decide, by decide⟩, _, _, rfl, rfl, .inl ⟨_, rfl, _, _, rfl, rfl, (by show (0 : Int) < 2147483647; decide), _, rfl, p, _, _, 1, rfl, rfl, hp, rfl, ?_⟩⟩
      have hd2 := Int.emod_nonneg (d * 48271 + 11) (show (2147483647 : Int) ≠ 0 by decide)
      have hd3 := Int.emod_lt_of_pos (d * 48271 + 11) (show (0 : Int) < 2147483647 by decide)
      refine ⟨_, rfl, p, _, _, _, rfl, rfl, SqL.of upd_same, atI_nat (j := 1) rfl, _, rfl, p, _, _, _, rfl, rfl, SqL.of upd_same, atI_nat (j := 1) rfl, _, _, rfl, rfl, .inl ⟨by omega, by omega⟩, ?_⟩
      refine .inl ⟨_, rfl, _, _, rfl, rfl, (by show (0 : Int) < 2147483629; decide), _, _, rfl, rfl, ⟨by decide, by decide⟩, _, rfl, _, _, rfl, rfl, hm, ?_⟩
      exact k _ _ _ (Int.emod_nonneg _ (by omega)) (Int.emod_lt_of_pos _ hm) ⟨hc, hd2, hd3⟩
def spChoose (K : PySem.W.Frag) : Sp := fun vs H Q _ => ∃ (p l : Addr) (xs : List V), vs = [.ref p, .ref l] ∧ PoolAt H p ∧ H l = some (.lst xs) ∧ l ≠ p ∧ xs ≠ [] ∧ xs.length < 1000 ∧ ∀ v c d, v ∈ xs → Pl c d → Q v (upd H p (.lst [.int c, .int d]))
theorem ok_choose (T : Txt P K mg a) : FOk P w K mg base CX0 3 a.law_choose ["_law_pool_here", "_law_items"] (spChoose K) := by
  have G_draw := ok_draw (P := P) (w := w) (base := base) T
  refine T.d_law_choose.ok sc_law_choose (fun vs H Q E h => ?_) (fun cdv A outer s H vs Q E hr h => ?_)
  · obtain ⟨p, l, xs, rfl, _⟩ := h
    rfl
  · obtain ⟨p, l, xs, rfl, hp, hl, ne, hx, hx2, k⟩ := h
    refine ⟨_, (pss_one (ps_ret (pe_ix ix_list (pv 1) (pcall G_draw (hr.mono (by decide)) (by rfl) T.d_law_draw.mg T.d_law_draw.kp pass0 (pa_cons (pv 0) (pa_cons (pe_callB call_len_seq (by rfl) T.len PySem.boot_len (pa_cons (pv 1) pa_nil)) pa_nil))) (fun _ _ => rfl)))), ?_⟩
    have hpos : 0 < xs.length := List.length_pos_iff.mpr hx
    have hlog : ((xs.length : Int)).natAbs.log2 < 9000 := by
      rw [Int.natAbs_natCast]
      by_cases z : xs.length = 0
      · omega
      · exact Nat.lt_trans ((Nat.log2_lt z).mpr (Nat.lt_of_lt_of_le hx2 (by decide : 1000 ≤ 2 ^ 10))) (by decide)
    refine ⟨_, rfl, _, rfl, _, rfl, l, xs, rfl, .inl (SqL.of hl), p, _, rfl, hp, by omega, hlog, fun x c d h0 h1 hpl => ?_⟩
    obtain ⟨j, rfl⟩ := Int.eq_ofNat_of_zero_le h0
    have hj : j < xs.length := by omega
    exact ⟨l, xs, _, xs[j], rfl, rfl, SqL.of (by rw [upd_ne ne]; exact hl), atI_nat (List.getElem?_eq_getElem hj), k _ _ _ (List.getElem_mem hj) hpl⟩
def spSpan (a : Ad) : Sp := fun vs H Q _ => ∃ t, vs = [tv t] ∧ Tm t ∧ RetSpan a.Span t H Q
theorem ok_span (T : Txt P K mg a) : FOk P w K mg base CX0 6 a.law_span ["_law_time"] (spSpan a) := by
  have G_init := ok_init (P := P) (w := w) (base := base) T
  have G_endless := ok_endless (P := P) (w := w) (base := base) T
  refine T.d_law_span.ok sc_law_span (fun vs H Q E h => ?_) (fun cdv A outer s H vs Q E hr h => ?_)
  · obtain ⟨t, rfl, _⟩ := h
    rfl
  · obtain ⟨t, rfl, ht, k⟩ := h
    refine ⟨_, (pss_cons (ps_if (pt_cmpR op_isN (pv 0) pe_non (nomark _)) (pss_one (ps_ret (pstat0 (by rfl) T.mg_Span T.d_Span_endless.mt G_endless (hr.mono (by decide)) pass0))) pss_nil)
      (pss_one (ps_ret (pmake T.mk_Span G_init (hr.mono (by decide)) (by rfl) T.mg_Span passL (pa_cons (pv 0) pa_nil))))), ?_⟩
    refine ⟨_, rfl, rfl, _, rfl, ?_⟩
    cases t with
    | none => exact iteT ⟨rfl, k⟩
    | some n =>
      refine iteF ⟨_, rfl, make rfl (fun t e _ => ?_) (fun g => ?_)⟩
      · cases t with
        | none => cases e
        | some m => cases e; exact k
      · exact absurd g (by rw [Tm.good ht]; decide)
def spSum : Sp := fun vs H Q _ => ∃ t u, vs = [tv t, tv u] ∧ Q (tv (addS t u)) H
theorem ok_sum (T : Txt P K mg a) : FOk P w K mg base CX0 1 a.law_sum ["_law_one", "_law_other"] spSum := by
  refine T.d_law_sum.ok sc_law_sum (fun vs H Q E h => ?_) (fun cdv A outer s H vs Q E hr h => ?_)
  · obtain ⟨t, u, rfl, _⟩ := h
    rfl
  · obtain ⟨t, u, rfl, k⟩ := h
    refine ⟨_, (pss_cons (ps_if (PW.pt (pw_or (pt_cmpR op_isN (pv 0) pe_non (nomark _)) (pw_or1 (pt_cmpR op_isN (pv 1) pe_non (nomark _))))) (pss_one (ps_ret pe_non)) pss_nil)
      (pss_one (ps_ret (pe_op op_add (pv 0) (pv 1))))), ?_⟩
    cases t with
    | none => exact ⟨_, rfl, rfl, _, rfl, iteT (iteT k)⟩
    | some x =>
      cases u with
      | none => exact ⟨_, rfl, rfl, _, rfl, iteF ⟨_, rfl, rfl, _, rfl, iteT k⟩⟩
      | some y => exact ⟨_, rfl, rfl, _, rfl, iteF ⟨_, rfl, rfl, _, rfl, iteF ⟨_, rfl, _, rfl, _, _, rfl, rfl, k⟩⟩⟩
def spTimes : Sp := fun vs H Q _ => ∃ t n, vs = [tv t, .int n] ∧ (∀ x, t = some x → CMulW x n) ∧ Q (tv (mulS t n)) H
theorem ok_times (T : Txt P K mg a) : FOk P w K mg base CX0 1 a.law_times ["_law_one", "_law_n"] spTimes := by
  refine T.d_law_times.ok sc_law_times (fun vs H Q E h => ?_) (fun cdv A outer s H vs Q E hr h => ?_)
  · obtain ⟨t, n, rfl, _⟩ := h
    rfl
  · obtain ⟨t, n, rfl, hm, k⟩ := h
    refine ⟨_, (pss_cons (ps_if (pt_cmpR op_eq (pv 1) pe_int (nomark _)) (pss_one (ps_ret pe_int)) pss_nil)
      (pss_one (ps_ret (pe_ifExp (pt_cmpR op_isN (pv 0) pe_non (nomark _)) pe_non (pe_op op_mulW (pv 0) (pv 1)))))), ?_⟩
    refine ⟨_, rfl, rfl, _, rfl, ?_⟩
    by_cases z : n = 0
    · subst z
      rw [show mulS t 0 = some 0 from if_pos rfl] at k
      exact iteT k
    · rw [show decide (V.int n = V.int 0) = false from decide_eq_false (fun q => z (V.int.inj q))]
      rw [show mulS t n = t.map (· * n) from if_neg z] at k
      cases t with
      | none => exact iteF ⟨_, rfl, rfl, _, rfl, iteT k⟩
      | some x => exact iteF ⟨_, rfl, rfl, _, rfl, iteF ⟨_, rfl, _, rfl, _, _, rfl, rfl, hm x rfl, k⟩⟩
def spLess : Sp := fun vs H Q _ => ∃ t u, vs = [tv t, tv u] ∧ Q (.bl (!leS u t)) H
theorem ok_less (T : Txt P K mg a) : FOk P w K mg base CX0 1 a.law_less ["_law_one", "_law_other"] spLess := by
  refine T.d_law_less.ok sc_law_less (fun vs H Q E h => ?_) (fun cdv A outer s H vs Q E hr h => ?_)
  · obtain ⟨t, u, rfl, _⟩ := h
    rfl
  · obtain ⟨t, u, rfl, k⟩ := h
    refine ⟨_, (pss_one (ps_ret (pe_and (pe_cmpR op_notN (pv 0) pe_non (nomark _)) (pe_one (pe_or (pe_cmpR op_isN (pv 1) pe_non (nomark _)) (pe_one (pe_cmpR op_lt (pv 0) (pv 1) (nomark _)))))))), ?_⟩
    cases t with
    | none => exact ⟨_, rfl, rfl, _, rfl, iteF (by cases u <;> exact k)⟩
    | some x =>
      cases u with
      | none => exact ⟨_, rfl, rfl, _, rfl, iteT ⟨_, rfl, rfl, _, rfl, iteT k⟩⟩
      | some y =>
        refine ⟨_, rfl, rfl, _, rfl, iteT ⟨_, rfl, rfl, _, rfl, iteF ⟨_, rfl, _, rfl, _, _, rfl, rfl, ?_⟩⟩⟩
        have e : (!leS (some y) (some x)) = decide (x < y) := by
          show (!decide (y ≤ x)) = decide (x < y)
          by_cases c : x < y
          · rw [decide_eq_true c, decide_eq_false (show ¬ y ≤ x by omega)]; rfl
          · rw [decide_eq_false c, decide_eq_true (show y ≤ x by omega)]; rfl
        rw [e] at k
        exact k
def spIs (a : Ad) : Sp := fun vs H Q _ => ∃ p t u, vs = [.ref p, tv u] ∧ SpAt a.Span H p t ∧ Q (.bl (decide (tv t = tv u))) H
theorem ok_is (T : Txt P K mg a) : FOk P w K mg base CX0 3 a.law_is ["_law_span_here", "_law_time"] (spIs a) := by
  have G_is_endless := ok_is_endless (P := P) (w := w) (base := base) T
  refine T.d_law_is.ok sc_law_is (fun vs H Q E h => ?_) (fun cdv A outer s H vs Q E hr h => ?_)
  · obtain ⟨p, t, u, rfl, _⟩ := h
    rfl
  · obtain ⟨p, t, u, rfl, ⟨dx, hp⟩, k⟩ := h
    refine ⟨_, (pss_one (ps_ret (pe_and (pe_callB call_isi (by rfl) T.isinstance boot_isi (pa_cons (pv 0) (pa_cons (pe_glob (v := .ref a.Span) (by rfl) T.mg_Span rfl) pa_nil))) (pe_and (pe_cmpR op_eq (pe_fld (pv 0) rfl) (pv 1) (nomark _)) (pe_one (pe_cmpR op_eq (pmeth0 (pv 0) T.cl_Span T.d_Span_is_endless.mt G_is_endless (hr.mono (by decide)) pass0) (pe_cmpR op_isN (pv 1) pe_non (nomark _)) (nomark _))))))), ?_⟩
    refine ⟨_, rfl, _, _, _, _, true, rfl, .own _, T.ity_Span.ty T.cl_Span hp, kit_self _, _, rfl, iteT ⟨_, rfl, p, a.Span, dx, _, _, rfl, hp, T.cl_Span, T.nA_Span_time, rfl, _, rfl, scal_tv t u, _, rfl, ?_⟩⟩
    by_cases e : tv t = tv u
    · rw [decide_eq_true e] at k ⊢
      refine iteT ⟨_, rfl, p, dx, _, rfl, hp, rfl, p, t, rfl, ⟨dx, hp⟩, _, rfl, rfl, rfl, ?_⟩
      have z : decide (V.bl (decide (tv t = .non)) = V.bl (decide (tv u = .non))) = true := by rw [e]; exact decide_eq_true rfl
      rw [z]
      exact k
    · rw [decide_eq_false e] at k ⊢
      exact iteF k
theorem ne_bl {b : Bool} : decide (V.bl b = V.bl (!b)) = false := by cases b <;> rfl
theorem ne_bl' {b : Bool} : decide (V.bl (!b) = V.bl b) = false := by cases b <;> rfl
def spOrdered : Sp := fun vs H Q _ => ∃ t u, vs = [tv t, tv u] ∧ Tm t ∧ Tm u ∧ ∀ H', Same H H' → Q (.bl true) H'
theorem ok_ordered (T : Txt P K mg a) : FOk P w K mg base CX0 8 a.law_ordered ["_law_one", "_law_other"] spOrdered := by
  have G_span := ok_span (P := P) (w := w) (base := base) T
  have G_less := ok_less (P := P) (w := w) (base := base) T
  have G_lt := ok_lt (P := P) (w := w) (base := base) T
  have G_le := ok_le (P := P) (w := w) (base := base) T
  have G_gt := ok_gt (P := P) (w := w) (base := base) T
  have G_ge := ok_ge (P := P) (w := w) (base := base) T
  have G_eq := ok_eq (P := P) (w := w) (base := base) T
  refine T.d_law_ordered.ok sc_law_ordered (fun vs H Q E h => ?_) (fun cdv A outer s H vs Q E hr h => ?_)
  · obtain ⟨t, u, rfl, _⟩ := h
    rfl
  · obtain ⟨t, u, rfl, ht, hu, k⟩ := h
    refine ⟨_, (pss_cons (ps_par (i := 2) (j := 3) (by rfl) sc_law_ordered.nd rfl rfl (by decide) rfl rfl (pa_cons (pcall G_span (hr.mono (by decide)) (by rfl) T.d_law_span.mg T.d_law_span.kp pass0 (pa_cons (pv 0) pa_nil)) (pa_cons (pcall G_span (hr.mono (by decide)) (by rfl) T.d_law_span.mg T.d_law_span.kp pass0 (pa_cons (pv 1) pa_nil)) pa_nil)) (by rfl))
      (pss_cons (ps_if (PW.pt (pw_or (pt_cmpR op_ne (pe_cmpR (op_cmpF (op := .Lt) (C := a.Span) G_lt (hr.mono (by decide)) pass0 T.d_Span_lt.mt) (pv 2) (pv 3) (nomark _)) (pcall G_less (hr.mono (by decide)) (by rfl) T.d_law_less.mg T.d_law_less.kp pass0 (pa_cons (pv 0) (pa_cons (pv 1) pa_nil))) (nomark _)) (pw_or1 (pt_cmpR op_ne (pe_cmpR (op_cmpF (op := .Gt) (C := a.Span) G_gt (hr.mono (by decide)) pass0 T.d_Span_gt.mt) (pv 2) (pv 3) (nomark _)) (pcall G_less (hr.mono (by decide)) (by rfl) T.d_law_less.mg T.d_law_less.kp pass0 (pa_cons (pv 1) (pa_cons (pv 0) pa_nil))) (nomark _))))) (pss_one (ps_ret pe_bl)) pss_nil)
      (pss_cons (ps_if (PW.pt (pw_or (pt_cmpR op_eq (pe_cmpR (op_cmpF (op := .LtE) (C := a.Span) G_le (hr.mono (by decide)) pass0 T.d_Span_le.mt) (pv 2) (pv 3) (nomark _)) (pcall G_less (hr.mono (by decide)) (by rfl) T.d_law_less.mg T.d_law_less.kp pass0 (pa_cons (pv 1) (pa_cons (pv 0) pa_nil))) (nomark _)) (pw_or1 (pt_cmpR op_eq (pe_cmpR (op_cmpF (op := .GtE) (C := a.Span) G_ge (hr.mono (by decide)) pass0 T.d_Span_ge.mt) (pv 2) (pv 3) (nomark _)) (pcall G_less (hr.mono (by decide)) (by rfl) T.d_law_less.mg T.d_law_less.kp pass0 (pa_cons (pv 0) (pa_cons (pv 1) pa_nil))) (nomark _))))) (pss_one (ps_ret pe_bl)) pss_nil)
      (pss_one (ps_ret (pe_and (pe_cmpR op_eq (pe_cmpR (op_cmpF (op := .Eq) (C := a.Span) G_eq (hr.mono (by decide)) pass0 T.d_Span_eq.mt) (pv 2) (pv 3) (nomark _)) (pe_cmpR op_eq (pv 0) (pv 1) (nomark _)) (nomark _)) (pe_one (pe_cmpR op_eq (pe_cmpR (op_neF (C := a.Span) G_eq (hr.mono (by decide)) pass0 T.ne_Span T.ob_Span T.d_Span_eq.mt) (pv 2) (pv 3) (nomark _)) (pe_cmpR op_ne (pv 0) (pv 1) (nomark _)) (nomark _))))))))), ?_⟩
    refine ⟨_, rfl, t, rfl, ht, fun pa H1 na s1 ha => ⟨_, rfl, u, rfl, hu, fun pb H2 nb s2 hb => ⟨_, _, rfl, ?_⟩⟩⟩
    have ha2 := ha.same s2
    obtain ⟨da, ea⟩ := id ha2
    obtain ⟨db, eb⟩ := id hb
    have fin := k H2 (s1.trans s2)
    refine ⟨_, rfl, _, rfl, pa, da, _, rfl, ea, cmpY_ref eb, pa, pb, t, u, rfl, ha2, hb, _, rfl, _, rfl, t, u, rfl, rfl, _, rfl, iteNS rfl ?_⟩
    refine ⟨_, rfl, _, rfl, pa, da, _, rfl, ea, cmpY_ref eb, pa, pb, t, u, rfl, ha2, hb, _, rfl, _, rfl, u, t, rfl, rfl, _, rfl, iteNS rfl ?_⟩
    refine ⟨_, rfl, _, rfl, pa, da, _, rfl, ea, cmpY_ref eb, pa, pb, t, u, rfl, ha2, hb, _, rfl, _, rfl, u, t, rfl, rfl, _, rfl, ?_⟩
    rw [ne_bl]
    refine iteF ⟨_, rfl, _, rfl, pa, da, _, rfl, ea, cmpY_ref eb, pa, pb, t, u, rfl, ha2, hb, _, rfl, _, rfl, t, u, rfl, rfl, _, rfl, ?_⟩
    rw [ne_bl]
    refine iteF ⟨_, rfl, _, rfl, pa, da, _, rfl, ea, cmpY_ref eb, pa, _, t, rfl, ha2, .inl ⟨pb, u, rfl, hb, _, rfl, _, rfl, scal_tv t u, rfl, _, rfl, ?_⟩⟩
    rw [show decide (V.bl (decide (tv t = tv u)) = V.bl (decide (tv t = tv u))) = true from decide_eq_true rfl]
    refine iteT ⟨_, rfl, _, rfl, pa, da, _, rfl, ea, cmpY_ref eb, pa, _, t, rfl, ha2, .inl ⟨pb, u, rfl, hb, _, rfl, _, rfl, _, rfl, scal_tv t u, rfl, ?_⟩⟩
    rw [show decide (V.bl (!decide (tv t = tv u)) = V.bl (!decide (tv t = tv u))) = true from decide_eq_true rfl]
    exact fin
/-! ### the law's own greatest -/
def lStep (b : Option (Option Int)) (t : Option Int) : Option (Option Int) := match b with
  | none => some t
  | some u => if leS t u = true then some u else some t
def spLawGr (K : PySem.W.Frag) : Sp := fun vs H Q _ => ∃ (l : Addr) (ts : List (Option Int)) (t : Option Int), vs = [.ref l] ∧ SqL K H l (ts.map tv) ∧ ts.foldl lStep none = some t ∧ ∀ p H', Same H H' → H' p = some (.lst [tv t]) → Q (.ref p) H'
theorem ok_law_greatest (T : Txt P K mg a) : FOk P w K mg base CX0 3 a.law_greatest ["_law_times_here"] (spLawGr K) := by
  have G_less := ok_less (P := P) (w := w) (base := base) T
  refine T.d_law_greatest.ok sc_law_greatest (fun vs H Q E h => ?_) (fun cdv A outer s H vs Q E hr h => ?_)
  · obtain ⟨l, ts, t, rfl, _⟩ := h
    rfl
  · obtain ⟨l, ts, t, rfl, hl, hf, k⟩ := h
    refine ⟨_, (pss_cons (ps_set (i := 1) sc_law_greatest.nd rfl (Or.inl rfl) pe_non)
      (pss_cons (ps_for PassesOwn.never rfl (pi_list (pv 0)) (pg_name (i := 2) sc_law_greatest.nd rfl (Or.inl rfl)) (pss_one (ps_if (PW.pt (pw_or (pt_cmpR op_isN (pv 1) pe_non (nomark _)) (pw_or1 (pt_val (pcall G_less (hr.mono (by decide)) (by rfl) T.d_law_less.mg T.d_law_less.kp pass0 (pa_cons (pe_ix ix_list (pv 1) pe_int (fun _ _ => rfl)) (pa_cons (pv 2) pa_nil))))))) (pss_one (ps_set (i := 1) sc_law_greatest.nd rfl (Or.inl rfl) (pe_lst (pa_cons (pv 2) pa_nil)))) pss_nil)))
      (pss_one (ps_ret (pv 1))))), ?_⟩
    refine ⟨_, rfl, l, rfl, ⟨_, hl⟩, for_list (K := K) (a := l) (xs := ts.map tv) (fun i σ H' => Same H H' ∧ ∃ v b, σ = [some (.ref l), some b, v] ∧ ((b = .non ∧ (ts.take i).foldl lStep none = none) ∨ ∃ q u, b = .ref q ∧ H' q = some (.lst [tv u]) ∧ (ts.take i).foldl lStep none = some u))
      ⟨Same.refl _, none, .non, rfl, .inl ⟨rfl, rfl⟩⟩ (fun i σ H' _ z => z.1.seq hl) ?_ ?_⟩
    · rintro i y σ H' hi ⟨hs, v, b, rfl, hb⟩
      rw [List.getElem?_map] at hi
      cases e : ts[i]? with
      | none => rw [e] at hi; cases hi
      | some x =>
        rw [e] at hi
        cases hi
        have step : (ts.take (i + 1)).foldl lStep none = lStep ((ts.take i).foldl lStep none) x := by
          rw [List.take_add_one, e, List.foldl_append]
          rfl
        have new : lStep ((ts.take i).foldl lStep none) x = some x → ∀ q, H' q = none → (Same H (upd H' q (.lst [tv x])) ∧ ∃ v b, [some (V.ref l), some (V.ref q), some (tv x)] = [some (.ref l), some b, v] ∧ ((b = .non ∧ (ts.take (i + 1)).foldl lStep none = none) ∨ ∃ q' u, b = .ref q' ∧ (upd H' q (.lst [tv x])) q' = some (.lst [tv u]) ∧ (ts.take (i + 1)).foldl lStep none = some u)) := fun hz q hq =>
          ⟨hs.trans (same_upd hq), _, _, rfl, .inr ⟨q, x, rfl, upd_same, step.trans hz⟩⟩
        rcases hb with ⟨rfl, hb⟩ | ⟨q, u, rfl, hq, hb⟩
        · refine ⟨_, rfl, rfl, _, rfl, iteT (iteT ⟨_, rfl, (by show 1 ≤ sizeLine; decide), fun q hq => new (by rw [hb]; rfl) q hq⟩)⟩
        · refine ⟨_, rfl, rfl, _, rfl, iteF ⟨_, rfl, q, _, _, _, rfl, rfl, SqL.of hq, atI_nat (j := 0) rfl, _, rfl, u, x, rfl, _, rfl, ?_⟩⟩
          by_cases c : leS x u = true
          · rw [c]
            exact iteF ⟨hs, _, _, rfl, .inr ⟨q, u, rfl, hq, by rw [step, hb]; exact if_pos c⟩⟩
          · rw [Bool.eq_false_iff.mpr c]
            exact iteT ⟨_, rfl, (by show 1 ≤ sizeLine; decide), fun q hq => new (by rw [hb]; exact if_neg c) q hq⟩
    · rintro σ H' ⟨hs, v, b, rfl, hb⟩
      rw [List.length_map, List.take_length] at hb
      rcases hb with ⟨rfl, hb⟩ | ⟨q, u, rfl, hq, hb⟩
      · rw [hf] at hb
        cases hb
      · rw [hf] at hb
        cases hb
        exact ⟨_, rfl, k q H' hs hq⟩
end
end S01

namespace S01
open PySem L2
theorem boot_repr : bootBuiltins "repr" = some (.builtin "repr") := by decide +kernel
section
variable {P : Program} {w : World} {K : PySem.W.Frag} {mg : Str → Option Value} {base : Heap} {a : Ad}
theorem sc_law_refused : FnScope ["_law_call", "e"] ["_law_call"] (defScope s_law_refused) := ⟨rfl, rfl, rfl, by decide +kernel, rfl, by decide +kernel, by decide +kernel⟩
/-- what _law_refused makes of the lambda's reading -/
def TRef (CE : Addr) : (XK → Hp → VK → Prop) → Hp → VK → Prop := fun tl H Q =>
  tl (fun cls d H' => cls = .ref CE ∧ ∃ dd v z, d = some dd ∧ H' dd = some (.xd [("value", v)]) ∧ reprV v = some z ∧ Q (.str z) H') H (fun _ H' => Q (.str "none") H')
theorem refused_gives {X : Cx} {g : Addr} {cdg : Value} {q : Str} (T : Txt X.prog X.K X.mg a) : LamX.GivesTo X ["_law_call", "e"] "_law_refused" (defScope s_law_refused) g cdg (defBody s_law_refused) "_law_call" q (TRef a.InvalidTime) := by
  intro f c' s H Q tl act hc h
  have XF : XfC X.K a.InvalidTime := ⟨T.err_InvalidTime.ga, T.err_InvalidTime.gg, T.err_InvalidTime.exC, T.err_InvalidTime.hdC⟩
  refine ⟨_, pss_cons (ps_try_as (X := (cxOf C8.CX0 X.prog X.w X.K X.mg X.base ["_law_call", "e"] "_law_refused" (defScope s_law_refused) g cdg X.A X.stack s H C8.E0).nox) (c := .ref a.InvalidTime) (i := 1)
      (tb := fun W D σ H => ∃ Ech : XK, (∀ cls d σ' H', Ech cls d H' → W cls d σ' H') ∧ σ[0]? = some (some (.ref f)) ∧ H c' = some (LamX.CodeO c' q) ∧ tl Ech H (fun _ H' => D.nx σ H'))
      (ts := fun a0 cls d D σ H => σ.length = 2 → tRet (tCB (fun xs H Q => ∃ y z, xs = [y] ∧ reprV y = some z ∧ Q (.str z) H) (tCons (tXf a0 cls d a.InvalidTime "value" (tVar 1)) tNil)) D σ H)
      rfl rfl sc_law_refused.nd rfl rfl ⟨rfl, by decide, .inl T.err_InvalidTime.gC⟩ LamX.takes0 (fun W pn xe tk _ => ?_)
      (fun a0 oe cls d pn hz hf => pss_len (pss_one (ps_ret (pe_callB call_repr (by rfl) T.repr boot_repr (pa_cons (pe_xf XF T.err_InvalidTime.noN hz hf (pv 1)) pa_nil))))))
    (pss_one (ps_ret pe_str)), ?_⟩
  · refine ⟨fun pins s' σ H' D I h' => ?_⟩
    obtain ⟨Ech, hW, h1, h2, h3⟩ := h'
    have hp := fun p1 p2 => act W pn xe Ech p1 p2 tk hW
    exact (pss_one (ps_expr (hp _ _))).run pins s' σ H' D I ⟨h1, h2, h3⟩
  · refine ⟨_, fun cls d σ' H' hx => ?_, rfl, hc, h⟩
    obtain ⟨rfl, dd, v, z, rfl, hd, hr, k⟩ := hx
    refine ⟨true, T.err_InvalidTime.te, fun _ a0 ha0 hlen => ?_, fun z => Bool.noConfusion z⟩
    have h2 : (σ'.set 1 (some (V.ref a0)))[1]? = some (some (V.ref a0)) := List.getElem?_set_self (by rw [List.length_set] at hlen; omega)
    exact ⟨_, h2, rfl, rfl, dd, _, v, rfl, hd, rfl, v, z, rfl, hr, k⟩
end
end S01

namespace S01
open PySem L2
theorem boot_max : bootBuiltins "max" = some (.builtin "max") := by decide +kernel
theorem boot_min : bootBuiltins "min" = some (.builtin "min") := by decide +kernel
section
variable {P : Program} {w : World} {K : PySem.W.Frag} {mg : Str → Option Value} {base : Heap} {a : Ad}
theorem sc_law : FnScope ["_law_script", "_law_k", "_law_pool_here", "_law_times_here", "_law_turn", "_law_spans", "_law_time", "_law_one", "_law_a", "_law_n", "_law_many", "_law_both", "_law_other", "_law_b", "_law_value"] ["_law_script"] (defScope s_law) := ⟨rfl, rfl, rfl, by decide +kernel, rfl, by decide +kernel, by decide +kernel⟩
abbrev NLaw : List Str := ["_law_script", "_law_k", "_law_pool_here", "_law_times_here", "_law_turn", "_law_spans", "_law_time", "_law_one", "_law_a", "_law_n", "_law_many", "_law_both", "_law_other", "_law_b", "_law_value"]
def lamQ : Str := (PyProof.Rows.envOfC "law" (defScope s_law) 0 0 .none).qual ++ "<lambda>"
def spLaw (K : PySem.W.Frag) (PL : Addr) : Sp := fun vs H Q _ => ∃ (l : Addr) (ns : List Int), vs = [.ref l] ∧ SqL K H l (ns.map V.int) ∧ LamX.Tabs [(PL, lamQ)] H ∧ ∀ H', Q (.bl true) H'
/-! ### heaps of the law -/
abbrev Tbl (PL : Addr) (H : Hp) : Prop := LamX.Tabs [(PL, lamQ)] H
theorem tabs_same {PL : Addr} {H H' : Hp} (h : Tbl PL H) (e : Same H H') : Tbl PL H' := LamX.Tabs.ext h e
theorem tabs_lst {PL p : Addr} {H : Hp} {xs ys : List V} (h : Tbl PL H) (hp : H p = some (.lst xs)) : Tbl PL (upd H p (.lst ys)) := by
  intro q hq
  obtain ⟨ps, h1, h2, h3⟩ := h q hq
  have n1 : q.1 ≠ p := ne_of h1 hp (fun z => by cases z)
  refine ⟨ps, by rw [upd_ne n1]; exact h1, h2, fun pos cv hc => ?_⟩
  obtain ⟨c, e, hc'⟩ := h3 pos cv hc
  exact ⟨c, e, by rw [upd_ne (ne_of hc' hp (fun z => by cases z))]; exact hc'⟩
/-- all that H1 had stands in H', but the tables and what stands at p -/
def Kp (PL p : Addr) (H1 H' : Hp) : Prop := (∀ b o, b ≠ p → H1 b = some o → (∀ ps, o ≠ .tbl ps) → H' b = some o) ∧ Tbl PL H' ∧ PoolAt H' p
theorem Kp.trans {PL p : Addr} {H1 H2 H3 : Hp} (x : Kp PL p H1 H2) (y : Kp PL p H2 H3) : Kp PL p H1 H3 := ⟨fun b o nb e nt => y.1 b o nb (x.1 b o nb e nt) nt, y.2⟩
theorem Kp.same {PL p : Addr} {H1 H2 H3 : Hp} (x : Kp PL p H1 H2) (e : Same H2 H3) : Kp PL p H1 H3 := ⟨fun b o nb h nt => e _ _ (x.1 b o nb h nt), tabs_same x.2.1 e, let ⟨c, d, h1, h2⟩ := x.2.2; ⟨c, d, h1, e _ _ h2⟩⟩
theorem Kp.new {PL p q : Addr} {H1 H2 : Hp} {o : HO} (x : Kp PL p H1 H2) (h : H2 q = none) : Kp PL p H1 (upd H2 q o) := x.same (same_upd h)
theorem Kp.pool {PL p : Addr} {H1 H2 : Hp} {c d : Int} (x : Kp PL p H1 H2) (h : Pl c d) : Kp PL p H1 (upd H2 p (.lst [.int c, .int d])) :=
  ⟨fun b o nb e nt => by rw [upd_ne nb]; exact x.1 b o nb e nt, let ⟨_, _, _, h2⟩ := x.2.2; tabs_lst x.2.1 h2, c, d, h, upd_same⟩
theorem Kp.lst {PL p q : Addr} {H1 H2 : Hp} {xs ys : List V} (x : Kp PL p H1 H2) (h : H2 q = some (.lst xs)) (hn : H1 q = none) (hq : q ≠ p) : Kp PL p H1 (upd H2 q (.lst ys)) :=
  ⟨fun b o nb e nt => by rw [upd_ne (ne_of_none e hn)]; exact x.1 b o nb e nt, tabs_lst x.2.1 h, let ⟨c, d, h1, h2⟩ := x.2.2; ⟨c, d, h1, by rw [upd_ne (Ne.symm hq)]; exact h2⟩⟩
theorem Kp.lam {PL p : Addr} {H1 H2 H3 : Hp} (x : Kp PL p H1 H2) (e : LamX.ExtN H2 H3) (t : Tbl PL H3) : Kp PL p H1 H3 :=
  ⟨fun b o nb h nt => e _ _ (x.1 b o nb h nt) nt, t, let ⟨c, d, h1, h2⟩ := x.2.2; ⟨c, d, h1, e _ _ h2 (fun ps z => by cases z)⟩⟩
theorem Kp.sq {PL p l : Addr} {H1 H2 : Hp} {xs : List V} (x : Kp PL p H1 H2) (hp : H1 p = none) (h : SqL K H1 l xs) : SqL K H2 l xs := by
  rcases h with (h | ⟨o, h⟩) | h
  · exact .inl (.inl (x.1 _ _ (ne_of_none h hp) h (fun ps z => by cases z)))
  · exact .inl (.inr ⟨o, x.1 _ _ (ne_of_none h hp) h (fun ps z => by cases z)⟩)
  · exact .inr h
theorem Kp.at_ {PL p q : Addr} {H1 H2 : Hp} {o : HO} (x : Kp PL p H1 H2) (h : H1 q = some o) (hq : q ≠ p) (nt : ∀ ps, o ≠ .tbl ps) : H2 q = some o := x.1 _ _ hq h nt
theorem Kp.spA {PL p q : Addr} {H1 H2 : Hp} {C : Addr} {t : Option Int} (x : Kp PL p H1 H2) (h : SpAt C H1 q t) (hq : q ≠ p) : SpAt C H2 q t := let ⟨dx, e⟩ := h; ⟨dx, x.at_ e hq (fun ps z => by cases z)⟩
theorem spIs_ok {p : Addr} {t u : Option Int} {H : Hp} {Q : VK} {E : XK} (hs : SpAt a.Span H p t) (e : t = u) (k : Q (.bl true) H) : spIs a [.ref p, tv u] H Q E := by
  subst e
  refine ⟨p, t, t, rfl, hs, ?_⟩
  rw [decide_eq_true rfl]
  exact k
theorem spA_upd {C q D : Addr} {H : Hp} {t : Option Int} {xs : List V} {o : HO} (h : SpAt C H q t) (hD : H D = some (.lst xs)) : SpAt C (upd H D o) q t := let ⟨dx, e⟩ := h; ⟨dx, by rw [upd_ne (ne_of e hD (fun z => by cases z))]; exact e⟩
theorem dec_self (v : V) : decide (v = v) = true := decide_eq_true rfl
def Sm (t : Option Int) : Prop := Tm t ∧ ∀ x, t = some x → x.natAbs < 2 ^ 200
theorem Sm.mul {t : Option Int} {n : Int} (h : Sm t) (hn : n.natAbs < 2 ^ 200) : ∀ x, t = some x → CMulW x n := fun x e => wide_mul (h.2 x e) hn (by decide) (by decide) (by decide)
theorem rep_ok {q : Addr} {t : Option Int} {n : Int} {H : Hp} {Q : VK} {E : XK} (hs : SpAt a.Span H q t) (hm : Sm t) (hn0 : 0 ≤ n) (hn : n.natAbs < 2 ^ 200) (k : RetSpan a.Span (mulS t n) H Q) : spRepeated a [.ref q, .int n] H Q E :=
  ⟨q, _, t, rfl, hs, hm.1, rfl, fun n' e _ => by cases e; exact ⟨hm.mul hn, k⟩, fun g => by rw [show flatA (.int n) = some (some n) from if_pos hn0] at g; cases g⟩
theorem rep_bad {q : Addr} {t : Option Int} {y : V} {H : Hp} {Q : VK} {E : XK} (hs : SpAt a.Span H q t) (hm : Tm t) (hy : (tyS y).isSome = true) (hf : flatA y = none) (k : RaiseErr a.InvalidTime "value" y H E) : spRepeated a [.ref q, y] H Q E :=
  ⟨q, _, t, rfl, hs, hm, hy, fun n e h0 => (by rw [e, show flatA (.int n) = some (some n) from if_pos h0] at hf; cases hf), fun _ => k⟩
theorem add_ok {q : Addr} {t : Option Int} {n : Int} {H : Hp} {Q : VK} {E : XK} (hs : SpAt a.Span H q t) (hm : Tm t) (hn0 : 0 ≤ n) (k : RetSpan a.Span (addS t (some n)) H Q) : spAdded a [.ref q, .int n] H Q E :=
  ⟨q, _, t, rfl, hs, hm, .inr ⟨rfl, fun u e => by rw [show flatA (.int n) = some (some n) from if_pos hn0] at e; cases e; exact k, fun g => by rw [show flatA (.int n) = some (some n) from if_pos hn0] at g; cases g⟩⟩
theorem addC_ok {q r : Addr} {t u : Option Int} {H : Hp} {Q : VK} {E : XK} (hs : SpAt a.Span H q t) (hm : Tm t) (hs' : SpAt a.Span H r u) (hm' : Tm u) (k : RetSpan a.Span (addS t u) H Q) : spAdded a [.ref q, .ref r] H Q E :=
  ⟨q, _, t, rfl, hs, hm, .inl ⟨r, u, rfl, hs', hm', k⟩⟩
theorem add_bad {q : Addr} {t : Option Int} {y : V} {H : Hp} {Q : VK} {E : XK} (hs : SpAt a.Span H q t) (hm : Tm t) (hy : (tyS y).isSome = true) (hf : flatA y = none) (k : RaiseErr a.InvalidTime "value" y H E) : spAdded a [.ref q, y] H Q E :=
  ⟨q, _, t, rfl, hs, hm, .inr ⟨hy, fun u e => (by rw [hf] at e; cases e), fun _ => k⟩⟩
theorem cmpY_flat (T : Txt P K mg a) {y : V} {H : Hp} (h : (tyS y).isSome = true) : CmpY K a.Span y H := by
  obtain ⟨Ty, hT⟩ := Option.isSome_iff_exists.mp h
  exact .inr ⟨Ty, hT, T.bs_Span Ty (by cases y <;> simp [tyS] at hT <;> subst hT <;> decide)⟩
/-! ### the two greatest agree -/
theorem fold_gr : ∀ (ts : List (Option Int)) (qs : List Addr) (b : Option (Addr × Option Int)), ts.length = qs.length → (∃ p, ((qs.zip ts).map some).foldl gStep b = p ∧ p.map (·.2) = ts.foldl lStep (b.map (·.2)))
  | [], [], b, _ => ⟨b, rfl, rfl⟩
  | [], _ :: _, _, h => by cases h
  | _ :: _, [], _, h => by cases h
  | t :: ts, q :: qs, b, h => by
    obtain ⟨p, h1, h2⟩ := fold_gr ts qs (gStep b (some (q, t))) (by simpa using h)
    refine ⟨p, h1, ?_⟩
    rw [h2, List.foldl_cons]
    congr 1
    cases b with
    | none => rfl
    | some r =>
      show Option.map (·.2) (if leS t r.2 = true then some r else some (q, t)) = (if leS t r.2 = true then some r.2 else some t)
      split <;> rfl
theorem fold_l : ∀ (ts : List (Option Int)) (b : Option Int), ∃ t, ts.foldl lStep (some b) = some t
  | [], b => ⟨b, rfl⟩
  | t :: ts, b => by
    rw [List.foldl_cons]
    show ∃ t', ts.foldl lStep (if leS t b = true then some b else some t) = some t'
    split <;> exact fold_l ts _
theorem gv_map : ∀ (qs : List Addr) (ts : List (Option Int)), ts.length = qs.length → ((qs.zip ts).map some).map gv = qs.map V.ref
  | [], [], _ => rfl
  | [], _ :: _, h => by cases h
  | _ :: _, [], h => by cases h
  | q :: qs, t :: ts, h => by
    rw [List.zip_cons_cons, List.map_cons, List.map_cons, List.map_cons, gv_map qs ts (by simpa using h)]
    rfl
theorem gAt_fold {C : Addr} {H : Hp} : ∀ (l : Its) (b : Option (Addr × Option Int)), gAt C H b → (∀ i ∈ l, gAt C H i) → gAt C H (l.foldl gStep b)
  | [], b, hb, _ => hb
  | x :: r, b, hb, hl => by
    refine gAt_fold r _ ?_ fun i hi => hl i (.tail _ hi)
    have hx := hl x (.head _)
    cases x with
    | none => exact hb
    | some p =>
      cases b with
      | none => exact hx
      | some q =>
        show gAt C H (if leS p.2 q.2 = true then some q else some p)
        split
        · exact hb
        · exact hx
theorem eqv_two : PyData.eqv (.list [.str "-1", .str "True"]) (.list [.str "-1", .str "True"]) = true := by decide +kernel
theorem shaped_two : SeqAt.shaped (.list [.str "-1", .str "True"]) = true := by decide +kernel
theorem ok_law {cL PL : Addr} {oc kV doc pm ct : Value} {od an : Option Addr} {osl : Array (Option Value)} (T : Txt P K mg a) (TB : LamX.TabB base mg cL PL)
    (lk : K.lookup a.law = some ⟨oc, od, .func (PySem.W.fnOf "law" "law" (defArgs s_law) (defBody s_law) (defScope s_law) .none kV doc pm an (.ref cL) ct), osl⟩) (hcd : PySem.W.codeIn K (.ref cL) "law" = true) :
    FnOk P w K mg base CX0 31 a.law (PySem.W.fnOf "law" "law" (defArgs s_law) (defBody s_law) (defScope s_law) .none kV doc pm an (.ref cL) ct) ["_law_script"] (spLaw K PL) := by
  have G_init := ok_init (P := P) (w := w) (base := base) T
  have G_add := ok_add (P := P) (w := w) (base := base) T
  have G_radd := ok_radd (P := P) (w := w) (base := base) T
  have G_mul := ok_mul (P := P) (w := w) (base := base) T
  have G_rmul := ok_rmul (P := P) (w := w) (base := base) T
  have G_eq := ok_eq (P := P) (w := w) (base := base) T
  have G_greatest := ok_greatest (P := P) (w := w) (base := base) T
  have G_pool := ok_pool (P := P) (w := w) (base := base) T
  have G_draw := ok_draw (P := P) (w := w) (base := base) T
  have G_choose := ok_choose (P := P) (w := w) (base := base) T
  have G_span := ok_span (P := P) (w := w) (base := base) T
  have G_sum := ok_sum (P := P) (w := w) (base := base) T
  have G_times := ok_times (P := P) (w := w) (base := base) T
  have G_is := ok_is (P := P) (w := w) (base := base) T
  have G_ordered := ok_ordered (P := P) (w := w) (base := base) T
  have G_lgr := ok_law_greatest (P := P) (w := w) (base := base) T
  obtain ⟨fdR, ⟨⟨ocR, odR, kVR, docR, pmR, anR, cdR, ctR, oslR, rfl, lkR, hcR⟩, kpR⟩, bR⟩ := T.d_law_refused.fn
  have hmT : (PL, lamQ) ∈ [(PL, lamQ)] := .head _
  have huT : ∀ p ∈ [(PL, lamQ)], p.1 = PL → p.2 = lamQ := fun p hp _ => by
    rw [List.mem_singleton.mp hp]
  refine fn_of lk hcd sc_law (fun vs H Q E h => ?_) (fun A outer s H vs Q E hr h => ?_)
  · obtain ⟨l, ns, rfl, _⟩ := h
    rfl
  · obtain ⟨l, ns, rfl, hl, hT, k⟩ := h
    refine ⟨_, PSs.nox (pss_cons (ps_for PassesOwn.never rfl (pi_range1 (by rfl) T.range (pa_cons (pe_callB (call_max2 rfl) (by rfl) T.max boot_max (pa_cons pe_int (pa_cons (pe_callB (call_min2 rfl) (by rfl) T.min boot_min (pa_cons (pe_callB call_len_seq (by rfl) T.len PySem.boot_len (pa_cons (pv 0) pa_nil)) (pa_cons pe_int pa_nil))) pa_nil))) pa_nil)) (pg_name (i := 1) sc_law.nd rfl (Or.inl rfl)) (pss_cons (ps_set (i := 2) sc_law.nd rfl (Or.inl rfl) (pcall G_pool (hr.mono (by decide)) (by rfl) T.d_law_pool.mg T.d_law_pool.kp pass0 (pa_cons (pv 0) (pa_cons (pv 1) pa_nil))))
      (pss_cons (ps_set (i := 3) sc_law.nd rfl (Or.inl rfl) (pe_lst pa_nil))
      (pss_cons (ps_for PassesOwn.never rfl (pi_range1 (by rfl) T.range (pa_cons pe_int pa_nil)) (pg_name (i := 4) sc_law.nd rfl (Or.inl rfl)) (pss_one (ps_expr (pe_bm PySem.F.plainAttrs_list PySem.F.slot_list_append PySem.F.type_list_append mt_append (pv 3) (pa_cons (pcall G_choose (hr.mono (by decide)) (by rfl) T.d_law_choose.mg T.d_law_choose.kp pass0 (pa_cons (pv 2) (pa_cons (pe_lst (pa_cons (pcall G_draw (hr.mono (by decide)) (by rfl) T.d_law_draw.mg T.d_law_draw.kp pass0 (pa_cons (pv 2) (pa_cons pe_int pa_nil))) (pa_cons (pe_op op_mul (pcall G_draw (hr.mono (by decide)) (by rfl) T.d_law_draw.mg T.d_law_draw.kp pass0 (pa_cons (pv 2) (pa_cons (pe_op op_pow pe_int pe_int) pa_nil))) (pe_op op_pow pe_int pe_int)) (pa_cons pe_int (pa_cons pe_non pa_nil))))) pa_nil))) pa_nil)))))
      (pss_cons (ps_setLc (i := 5) (own := [("_law_time", 6)]) (g := gName 6) (by rfl) sc_law.nd rfl rfl (sw_true rfl rfl rfl (by decide +kernel)) (pi_list (pv 3)) (blkOk_by (own := [("_law_time", 6)]) (N := NLaw) (sc := defScope s_law) (by decide +kernel)) (fun _ _ _ _ _ => pg_name (i := 6) sc_law.nd rfl (Or.inl rfl)) (fun _ _ _ _ _ => pts_nil) (fun _ _ _ _ _ => pcall G_span (hr.mono (by decide)) (by rfl) T.d_law_span.mg T.d_law_span.kp pass0 (pa_cons (pv 6) pa_nil)))
      (pss_cons (ps_for PassesOwn.never rfl (pi_zip (by rfl) T.zip (pa_cons (pv 3) (pa_cons (pv 5) pa_nil))) (pg_tup rfl (pgs_cons (pg_name (i := 7) sc_law.nd rfl (Or.inl rfl)) (pgs_cons (pg_name (i := 8) sc_law.nd rfl (Or.inr rfl)) pgs_nil))) (pss_cons (ps_set (i := 9) sc_law.nd rfl (Or.inl rfl) (pcall G_choose (hr.mono (by decide)) (by rfl) T.d_law_choose.mg T.d_law_choose.kp pass0 (pa_cons (pv 2) (pa_cons (pe_lst (pa_cons pe_int (pa_cons pe_int (pa_cons pe_int (pa_cons (pe_op op_pow pe_int pe_int) pa_nil))))) pa_nil))))
      (pss_cons (ps_par (i := 10) (j := 11) (by rfl) sc_law.nd rfl rfl (by decide) rfl rfl (pa_cons (pcall G_times (hr.mono (by decide)) (by rfl) T.d_law_times.mg T.d_law_times.kp pass0 (pa_cons (pv 7) (pa_cons (pv 9) pa_nil))) (pa_cons (pcall G_sum (hr.mono (by decide)) (by rfl) T.d_law_sum.mg T.d_law_sum.kp pass0 (pa_cons (pv 7) (pa_cons (pv 9) pa_nil))) pa_nil)) (by rfl))
      (pss_cons (ps_if (PW.pt (pw_or (pt_not (pt_val (pcall G_is (hr.mono (by decide)) (by rfl) T.d_law_is.mg T.d_law_is.kp pass0 (pa_cons (pv 8) (pa_cons (pv 7) pa_nil))))) (pw_or (pt_not (pt_val (pcall G_is (hr.mono (by decide)) (by rfl) T.d_law_is.mg T.d_law_is.kp pass0 (pa_cons (pe_op (op_binT (op := .Mult) (C := a.Span) G_mul (hr.mono (by decide)) passL T.sf_Span T.d_Span_mul.mt T.d_Span_rmul.mt T.bs_Span T.fm T.frm) (pv 8) (pv 9)) (pa_cons (pv 10) pa_nil))))) (pw_or1 (pt_not (pt_val (pcall G_is (hr.mono (by decide)) (by rfl) T.d_law_is.mg T.d_law_is.kp pass0 (pa_cons (pe_op (op_mulR (C := a.Span) G_rmul (hr.mono (by decide)) passL T.sf_Span T.d_Span_mul.mt T.d_Span_rmul.mt T.sb_Span) (pv 9) (pv 8)) (pa_cons (pv 10) pa_nil))))))))) (pss_one (ps_ret pe_bl)) pss_nil)
      (pss_cons (ps_if (PW.pt (pw_or (pt_not (pt_val (pcall G_is (hr.mono (by decide)) (by rfl) T.d_law_is.mg T.d_law_is.kp pass0 (pa_cons (pe_op (op_binT (op := .Add) (C := a.Span) G_add (hr.mono (by decide)) passL T.sf_Span T.d_Span_add.mt T.d_Span_radd.mt T.bs_Span T.fa T.fra) (pv 8) (pv 9)) (pa_cons (pv 11) pa_nil))))) (pw_or (pt_not (pt_val (pcall G_is (hr.mono (by decide)) (by rfl) T.d_law_is.mg T.d_law_is.kp pass0 (pa_cons (pe_op (op_addR (C := a.Span) G_radd (hr.mono (by decide)) passL T.sf_Span T.d_Span_add.mt T.d_Span_radd.mt (T.sb_Span _ (by decide))) (pv 9) (pv 8)) (pa_cons (pv 11) pa_nil))))) (pw_or (pt_cmpR (op_cmpF (op := .Eq) (C := a.Span) G_eq (hr.mono (by decide)) pass0 T.d_Span_eq.mt) (pv 8) (pv 7) (nomark _)) (pw_or1 (pt_cmpR (op_cmpF (op := .Eq) (C := a.Span) G_eq (hr.mono (by decide)) pass0 T.d_Span_eq.mt) (pv 8) pe_str (nomark _))))))) (pss_one (ps_ret pe_bl)) pss_nil)
      (pss_cons (ps_for PassesOwn.never rfl (pi_zip (by rfl) T.zip (pa_cons (pv 3) (pa_cons (pv 5) pa_nil))) (pg_tup rfl (pgs_cons (pg_name (i := 12) sc_law.nd rfl (Or.inl rfl)) (pgs_cons (pg_name (i := 13) sc_law.nd rfl (Or.inl rfl)) pgs_nil))) (pss_one (ps_if (PW.pt (pw_or (pt_not (pt_val (pcall G_ordered (hr.mono (by decide)) (by rfl) T.d_law_ordered.mg T.d_law_ordered.kp pass0 (pa_cons (pv 7) (pa_cons (pv 12) pa_nil))))) (pw_or1 (pt_not (pt_val (pcall G_is (hr.mono (by decide)) (by rfl) T.d_law_is.mg T.d_law_is.kp pass0 (pa_cons (pe_op (op_binC (op := .Add) (C := a.Span) G_add (hr.mono (by decide)) passL T.sf_Span T.d_Span_add.mt) (pv 8) (pv 13)) (pa_cons (pcall G_sum (hr.mono (by decide)) (by rfl) T.d_law_sum.mg T.d_law_sum.kp pass0 (pa_cons (pv 7) (pa_cons (pv 12) pa_nil))) pa_nil)))))))) (pss_one (ps_ret pe_bl)) pss_nil)))
      (pss_one (ps_for PassesOwn.never rfl (pi_list (pe_lst (pa_cons (pe_un un_neg pe_int) (pa_cons pe_bl (pa_cons pe_non (pa_cons pe_str pa_nil)))))) (pg_name (i := 14) sc_law.nd rfl (Or.inr rfl)) (pss_cons (ps_if (pt_cmpR op_ne (LamX.pe_lamcall (T := [(PL, lamQ)]) (k := 12) (by rfl) T.d_law_refused.mg T.d_law_refused.kp lkR hcR bR sc_law_refused rfl (Or.inl rfl) (refused_gives T) TB rfl hmT huT (hr.mono (by decide)) (LamX.lamS_by (by rfl)) (by rfl) (fun _ _ _ _ _ => rfl) (fun A1 o1 s1 H1 E1 f1 c1 hr2 => pe_op (op_binT (op := .Add) (C := a.Span) G_add (hr2.mono (by decide)) (passes_call (takes_of rfl rfl rfl rfl) (fun _ _ _ _ z => z)) T.sf_Span T.d_Span_add.mt T.d_Span_radd.mt T.bs_Span T.fa T.fra) (pv 8) (pv 14))) (pe_callB call_repr (by rfl) T.repr boot_repr (pa_cons (pv 14) pa_nil)) (nomark _)) (pss_one (ps_ret pe_bl)) pss_nil)
      (pss_one (ps_if (pt_cmpR op_ne (LamX.pe_lamcall (T := [(PL, lamQ)]) (k := 12) (by rfl) T.d_law_refused.mg T.d_law_refused.kp lkR hcR bR sc_law_refused rfl (Or.inl rfl) (refused_gives T) TB rfl hmT huT (hr.mono (by decide)) (LamX.lamS_by (by rfl)) (by rfl) (fun _ _ _ _ _ => rfl) (fun A1 o1 s1 H1 E1 f1 c1 hr2 => pe_op (op_mulR (C := a.Span) G_rmul (hr2.mono (by decide)) (passes_call (takes_of rfl rfl rfl rfl) (fun _ _ _ _ z => z)) T.sf_Span T.d_Span_mul.mt T.d_Span_rmul.mt T.sb_Span) (pv 14) (pv 8))) (pe_callB call_repr (by rfl) T.repr boot_repr (pa_cons (pv 14) pa_nil)) (nomark _)) (pss_one (ps_ret pe_bl)) pss_nil)))))))))))
      (pss_cons (ps_if (PW.pt (pw_or (pt_not (pt_val (pcall G_is (hr.mono (by decide)) (by rfl) T.d_law_is.mg T.d_law_is.kp pass0 (pa_cons (pcall G_greatest (hr.mono (by decide)) (by rfl) T.d_greatest.mg T.d_greatest.kp pass0 (pa_cons (pe_op op_cat (pe_op op_cat (pe_lst (pa_cons pe_non pa_nil)) (pv 5)) (pe_lst (pa_cons pe_non pa_nil))) pa_nil)) (pa_cons (pe_ix ix_list (pcall G_lgr (hr.mono (by decide)) (by rfl) T.d_law_greatest.mg T.d_law_greatest.kp pass0 (pa_cons (pv 3) pa_nil)) pe_int (fun _ _ => rfl)) pa_nil))))) (pw_or1 (pt_cmpR op_notN (pcall G_greatest (hr.mono (by decide)) (by rfl) T.d_greatest.mg T.d_greatest.kp pass0 (pa_cons (pe_lst (pa_cons pe_non pa_nil)) pa_nil)) pe_non (nomark _))))) (pss_one (ps_ret pe_bl)) pss_nil)
      (pss_one (ps_if (PW.pt (pw_or (pt_cmpR op_notN (pcall G_greatest (hr.mono (by decide)) (by rfl) T.d_greatest.mg T.d_greatest.kp pass0 (pa_cons (pe_lst pa_nil) pa_nil)) pe_non (nomark _)) (pw_or1 (pt_cmpR (op_neD hr.units) (pe_lc (own := [("_law_value", 14)]) (g := gName 14) (by rfl) sc_law.nd (pi_list (pe_lst (pa_cons (pe_un un_neg pe_int) (pa_cons pe_bl pa_nil)))) (blkOk_by (own := [("_law_value", 14)]) (N := NLaw) (sc := defScope s_law) (by decide +kernel)) (fun _ _ _ _ _ => pg_name (i := 14) sc_law.nd rfl (Or.inr rfl)) (fun _ _ _ _ _ => pts_nil) (fun _ _ _ _ _ => LamX.pe_lamcall (T := [(PL, lamQ)]) (k := 12) (by rfl) T.d_law_refused.mg T.d_law_refused.kp lkR hcR bR sc_law_refused rfl (Or.inl rfl) (refused_gives T) TB rfl hmT huT (hr.mono (by decide)) (LamX.lamS_by (by rfl)) (by rfl) (fun _ _ _ _ _ => rfl) (fun A1 o1 s1 H1 E1 f1 c1 hr2 => pmake T.mk_Span G_init (hr2.mono (by decide)) (by rfl) T.mg_Span (passes_call (takes_of rfl rfl rfl rfl) (fun _ _ _ _ z => z)) (pa_cons (pv 14) pa_nil)))) (pe_lst (pa_cons pe_str (pa_cons pe_str pa_nil))) (nomark _))))) (pss_one (ps_ret pe_bl)) pss_nil)))))))))
      (pss_one (ps_ret pe_bl))), ?_⟩
    refine ⟨_, rfl, l, _, rfl, .inl hl, _, _, rfl, _, _, rfl, _, rfl, ?_, ?_, for_range (lo := 0) (fun i σ H' => (∃ v1 v2 v3 v4 v5 v6 v7 v8 v9 v10 v11 v12 v13 v14, σ = [some (.ref l), v1, v2, v3, v4, v5, v6, v7, v8, v9, v10, v11, v12, v13, v14]) ∧ Tbl PL H' ∧ SqL K H' l (ns.map V.int)) ?_ ?_ ?_⟩
    · split <;> (try split) <;> omega
    · split <;> (try split) <;> omega
    · exact ⟨⟨none, none, none, none, none, none, none, none, none, none, none, none, none, none, rfl⟩, hT, hl⟩
    · rintro i σ H1 hi ⟨⟨v1, v2, v3, v4, v5, v6, v7, v8, v9, v10, v11, v12, v13, v14, rfl⟩, hT1, hl1⟩
      have hi6 : i < 64 := by
        have : i < (if (if (6 : Int) < ((ns.map V.int).length : Int) then (6 : Int) else ((ns.map V.int).length : Int)) > 1 then (if (6 : Int) < ((ns.map V.int).length : Int) then (6 : Int) else ((ns.map V.int).length : Int)) else 1).toNat := hi
        split at this <;> (try split at this) <;> omega
      refine ⟨_, rfl, _, rfl, l, ns, i, by rw [Int.zero_add]; rfl, hl1, hi6, fun p c d hp hpl => ?_⟩
      refine ⟨Nat.zero_le _, fun L hL => ?_⟩
      have nLp : L ≠ p := fun z => by rw [z, upd_same] at hL; cases hL
      have hL1 : H1 L = none := by rw [upd_ne nLp] at hL; exact hL
      have A0 : Kp PL p H1 (upd H1 p (.lst [.int c, .int d])) := ⟨fun b o nb e nt => by rw [upd_ne nb]; exact e, tabs_same hT1 (same_upd hp), c, d, hpl, upd_same⟩
      refine ⟨3, rfl, by decide, by decide, for_range (lo := 0) (n := 3) (fun j σ H' => ∃ (v4 : Option V) (ts : List (Option Int)), σ = [some (.ref l), some (.int (0 + (i : Int))), some (.ref p), some (.ref L), v4, v5, v6, v7, v8, v9, v10, v11, v12, v13, v14] ∧ Kp PL p H1 H' ∧ H' L = some (.lst (ts.map tv)) ∧ ts.length = j ∧ ∀ t ∈ ts, Sm t) ?_ ?_ ?_⟩
      · exact ⟨v4, [], rfl, A0.new hL, upd_same, rfl, fun t ht => nomatch ht⟩
      · rintro j σ H' hj ⟨v4, ts, rfl, A1, hL', hts, hsm⟩
        refine ⟨_, rfl, .inl ⟨rfl, _, SqL.of hL'⟩, _, rfl, ?_⟩
        refine ⟨_, rfl, p, 4, rfl, A1.2.2, by decide, by decide, fun x4 c1 d1 h40 h41 hpl1 => ?_⟩
        have B1 := A1.pool hpl1
        refine ⟨_, rfl, _, _, rfl, rfl, ⟨by decide, by decide, by decide⟩, p, _, rfl, B1.2.2, by decide, by decide, fun x9 c2 d2 h90 h91 hpl2 => ?_⟩
        have B2 := B1.pool hpl2
        have e9 : (10 : Int) ^ (9 : Int).toNat = 1000000000 := by decide
        rw [e9] at h91
        refine ⟨_, _, rfl, rfl, ⟨by decide, by decide, by decide⟩, _, _, rfl, rfl, .inl ⟨by omega, by omega⟩, (by show 4 ≤ sizeLine; decide), fun q hq => ?_⟩
        have nqp : q ≠ p := fun z => by rw [z, upd_same] at hq; cases hq
        refine ⟨p, q, _, rfl, (B2.new hq).2.2, upd_same, nqp, by simp, by show 4 < 1000; decide, fun v c3 d3 hv hpl3 => ?_⟩
        have B3 := (B2.new (o := .lst [.int x4, .int (x9 * 10 ^ (20 : Int).toNat), .int 1, .non]) hq).pool hpl3
        have hL3 : (upd (upd (upd (upd H' p (.lst [.int c1, .int d1])) p (.lst [.int c2, .int d2])) q (.lst [.int x4, .int (x9 * 10 ^ (20 : Int).toNat), .int 1, .non])) p (.lst [.int c3, .int d3])) L = some (.lst (ts.map tv)) := by
          have nLq : L ≠ q := fun z => by
            rw [← z, upd_ne nLp, upd_ne nLp, hL'] at hq
            cases hq
          rw [upd_ne nLp, upd_ne nLq, upd_ne nLp, upd_ne nLp]
          exact hL'
        obtain ⟨t, rfl, ht⟩ : ∃ t, v = tv t ∧ Sm t := by
          have e20 : (10 : Int) ^ (20 : Int).toNat = 100000000000000000000 := by decide
          rw [e20] at hv
          simp only [List.mem_cons, List.not_mem_nil, or_false] at hv
          rcases hv with rfl | rfl | rfl | rfl
          · exact ⟨some x4, rfl, h40, fun x e => by cases e; omega⟩
          · refine ⟨some _, rfl, Int.mul_nonneg h90 (by decide), fun x e => ?_⟩
            cases e
            omega
          · exact ⟨some 1, rfl, (by show (0 : Int) ≤ 1; decide), fun x e => by cases e; decide⟩
          · exact ⟨none, rfl, trivial, fun x e => by cases e⟩
        refine ⟨L, _, _, rfl, rfl, hL3, ?_, ?_⟩
        · rw [List.length_map, hts, sizeLine_eq]; omega
        · refine ⟨_, ts ++ [t], rfl, B3.lst hL3 hL1 nLp, ?_, by rw [List.length_append, hts]; rfl, fun u hu => ?_⟩
          · rw [upd_same, List.map_append]; rfl
          · rcases List.mem_append.mp hu with z | z
            · exact hsm u z
            · rw [List.mem_singleton.mp z]; exact ht
      · rintro σ H2 ⟨v4, ts, rfl, A1, hL', hts, hsm⟩
        have A2 : Kp PL p H2 H2 := ⟨fun b o _ e _ => e, A1.2⟩
        refine ⟨_, rfl, L, rfl, ⟨_, SqL.of hL'⟩, fun D hD => lc_list (K := K) (a := L) (xs := ts.map tv) (fun j H' => ∃ qs : List Addr, qs.length = j ∧ H' D = some (.lst (qs.map V.ref)) ∧ (∀ (i : Nat) q, qs[i]? = some q → ∃ t, ts[i]? = some t ∧ SpAt a.Span H' q t) ∧ Kp PL p H2 H') ?_ ?_ ?_ ?_⟩
        · exact ⟨[], rfl, upd_same, fun i q z => by simp at z, A2.new hD⟩
        · rintro j H' _ ⟨qs, _, _, _, C1⟩
          exact SqL.of (C1.at_ hL' nLp (fun ps z => by cases z))
        · rintro j x H' hx ⟨qs, hq1, hq2, hq3, C1⟩
          rw [List.getElem?_map] at hx
          cases e : ts[j]? with
          | none => rw [e] at hx; cases hx
          | some t =>
            rw [e] at hx
            cases hx
            have ht := hsm t (List.mem_of_getElem? e)
            refine ⟨rfl, _, rfl, t, rfl, ht.1, fun q H3 hq s3 hspan => ⟨_, s3 _ _ hq2, ?_, ?_⟩⟩
            · rw [List.length_map, hq1, sizeLine_eq]
              have := (List.getElem?_eq_some_iff.mp e).1
              omega
            · have nDp : D ≠ p := fun z => by
                obtain ⟨_, _, _, z2⟩ := A1.2.2
                rw [z, z2] at hD
                cases hD
              have hD3 := s3 _ _ hq2
              refine ⟨qs ++ [q], by rw [List.length_append, hq1]; rfl, by rw [upd_same, List.map_append]; rfl, fun i' q' hq' => ?_, (C1.same s3).lst hD3 hD nDp⟩
              by_cases hlt : i' < qs.length
              · rw [List.getElem?_append_left hlt] at hq'
                obtain ⟨t', e1, e2⟩ := hq3 i' q' hq'
                exact ⟨t', e1, spA_upd (e2.same s3) hD3⟩
              · rw [List.getElem?_append_right (by omega)] at hq'
                have h0 : i' - qs.length = 0 := by
                  rcases Nat.eq_zero_or_pos (i' - qs.length) with z | z
                  · exact z
                  · rw [List.getElem?_eq_none (by simp; omega)] at hq'; cases hq'
                rw [h0] at hq'
                cases hq'
                exact ⟨t, by rw [show i' = j by omega]; exact e, spA_upd hspan hD3⟩
        · rintro H3 ⟨qs, hq1, hq2, hq3, C1⟩
          have nDp : D ≠ p := fun z => by
            obtain ⟨_, _, _, z2⟩ := A1.2.2
            rw [z, z2] at hD
            cases hD
          rw [List.length_map] at hq1
          have hL3 := C1.at_ hL' nLp (fun ps z => by cases z)
          have A3 : Kp PL p H1 H3 := A1.trans C1
          clear C1 hL' A2 A1 hD
          have C0 : Kp PL p H3 H3 := ⟨fun b o _ e _ => e, A3.2⟩
          have nsp : ∀ {q : Addr} {t : Option Int}, SpAt a.Span H3 q t → q ≠ p := fun {q t} ⟨dx, e⟩ => by
            obtain ⟨_, _, _, z2⟩ := A3.2.2
            exact ne_of e z2 (fun z => by cases z)
          refine ⟨_, rfl, _, rfl, L, D, _, _, rfl, SqL.of hL3, SqL.of hq2, RZ.for_zipL (K := K) (a := L) (b := D) (xs := ts.map tv) (ys := qs.map V.ref) (by rw [List.length_map, List.length_map]; exact hq1.symm) (fun j σ H' => (∃ v6 v7 v8 v9 v10 v11 v12 v13 v14, σ = [some (.ref l), some (.int (0 + (i : Int))), some (.ref p), some (.ref L), v4, some (.ref D), v6, v7, v8, v9, v10, v11, v12, v13, v14]) ∧ Kp PL p H3 H') ?_ ?_ ?_ ?_⟩
          · exact ⟨⟨_, _, _, _, _, _, _, _, _, rfl⟩, C0⟩
          · rintro j σ H' ⟨_, C1⟩
            exact ⟨SqL.of (C1.at_ hL3 nLp (fun ps z => by cases z)), SqL.of (C1.at_ hq2 nDp (fun ps z => by cases z))⟩
          · rintro j x y Tp σ H' hx hy ⟨⟨v6, v7, v8, v9, v10, v11, v12, v13, v14, rfl⟩, C1⟩ hTn
            rw [List.getElem?_map] at hx hy
            cases ex : ts[j]? with
            | none => rw [ex] at hx; cases hx
            | some t =>
            cases ey : qs[j]? with
            | none => rw [ey] at hy; cases hy
            | some qa =>
            rw [ex] at hx
            rw [ey] at hy
            cases hx
            cases hy
            have ht := hsm t (List.mem_of_getElem? ex)
            have hqa : SpAt a.Span H3 qa t := by
              obtain ⟨t', e1, e2⟩ := hq3 j qa ey
              rw [ex] at e1
              cases e1
              exact e2
            have npa := nsp hqa
            have C2 := C1.new (o := .tup [tv t, .ref qa]) hTn
            refine ⟨Tp, _, rfl, SqT.of upd_same, rfl, _, _, rfl, _, _, rfl, rfl, ?_⟩
            refine ⟨_, rfl, ?_⟩
            refine ⟨_, _, rfl, rfl, ⟨by decide, by decide, by decide⟩, (by show 4 ≤ sizeLine; decide), fun q hq => ?_⟩
            have nqp : q ≠ p := fun z => by
              obtain ⟨_, _, _, z2⟩ := C2.2.2
              rw [z, z2] at hq
              cases hq
            refine ⟨p, q, _, rfl, (C2.new hq).2.2, upd_same, nqp, by simp, by show 4 < 1000; decide, fun v c3 d3 hv hpl3 => ?_⟩
            obtain ⟨n, rfl, hn0, hn1⟩ : ∃ n : Int, v = .int n ∧ 0 ≤ n ∧ n.natAbs < 2 ^ 200 := by
              simp only [List.mem_cons, List.not_mem_nil, or_false] at hv
              rcases hv with rfl | rfl | rfl | rfl
              · exact ⟨0, rfl, by decide, by decide⟩
              · exact ⟨1, rfl, by decide, by decide⟩
              · exact ⟨2, rfl, by decide, by decide⟩
              · exact ⟨_, rfl, by decide, by decide⟩
            have C3 := (C2.new (o := .lst [.int 0, .int 1, .int 2, .int (10 ^ (9 : Int).toNat)]) hq).pool hpl3
            generalize hH4 : upd (upd (upd H' Tp (.tup [tv t, .ref qa])) q (.lst [.int 0, .int 1, .int 2, .int (10 ^ (9 : Int).toNat)])) p (.lst [.int c3, .int d3]) = H4 at C3 ⊢
            refine ⟨_, rfl, _, rfl, t, n, rfl, ht.mul hn1, _, rfl, _, rfl, t, some n, rfl, _, _, rfl, ?_⟩
            have s4 := C3.spA hqa npa
            obtain ⟨dx4, e4⟩ := id s4
            refine ⟨_, rfl, _, rfl, qa, t, t, rfl, s4, ?_⟩
            rw [dec_self]
            refine ⟨_, rfl, iteF ?_⟩
            refine ⟨_, rfl, _, rfl, qa, dx4, _, rfl, e4, rfl, rep_ok s4 ht hn0 hn1 fun r1 H5 _ sm5 sp5 => ⟨_, rfl, r1, _, _, rfl, sp5, ?_⟩⟩
            rw [dec_self]
            refine ⟨_, rfl, iteF ?_⟩
            have s5 := s4.same sm5
            obtain ⟨dx5, e5⟩ := id s5
            refine ⟨_, rfl, _, rfl, qa, dx5, _, rfl, e5, rfl, rep_ok s5 ht hn0 hn1 fun r2 H6 _ sm6 sp6 => ⟨_, rfl, r2, _, _, rfl, sp6, ?_⟩⟩
            rw [dec_self]
            refine ⟨_, rfl, iteF ?_⟩
            have s6 := s5.same sm6
            obtain ⟨dx6, e6⟩ := id s6
            refine ⟨_, rfl, _, rfl, qa, dx6, _, rfl, e6, rfl, add_ok s6 ht.1 hn0 fun r3 H7 _ sm7 sp7 => ⟨_, rfl, r3, _, _, rfl, sp7, ?_⟩⟩
            rw [dec_self]
            refine ⟨_, rfl, iteF ?_⟩
            have s7 := s6.same sm7
            obtain ⟨dx7, e7⟩ := id s7
            refine ⟨_, rfl, _, rfl, n, rfl, qa, dx7, _, rfl, e7, rfl, add_ok s7 ht.1 hn0 fun r4 H8 _ sm8 sp8 => ⟨_, rfl, r4, _, _, rfl, sp8, ?_⟩⟩
            rw [dec_self]
            refine ⟨_, rfl, iteF ?_⟩
            have s8 := s7.same sm8
            obtain ⟨dx8, e8⟩ := id s8
            refine ⟨_, rfl, _, rfl, qa, dx8, _, rfl, e8, cmpY_flat T (tyS_tv t), qa, tv t, t, rfl, s8, .inr ⟨tyS_tv t, _, rfl, iteF ?_⟩⟩
            refine ⟨_, rfl, qa, dx8, _, rfl, e8, cmpY_flat T rfl, qa, _, t, rfl, s8, .inr ⟨rfl, _, rfl, iteF ?_⟩⟩
            have C8 := (((((C3.same sm5).same sm6).same sm7).same sm8))
            clear C3 s4 s5 s6 s7 e4 e5 e6 e7 sm5 sm6 sm7 sm8 sp5 sp6 sp7 sp8
            refine ⟨_, rfl, _, rfl, L, D, _, _, rfl, SqL.of (C8.at_ hL3 nLp (fun ps z => by cases z)), SqL.of (C8.at_ hq2 nDp (fun ps z => by cases z)), RZ.for_zipL (K := K) (a := L) (b := D) (xs := ts.map tv) (ys := qs.map V.ref) (by rw [List.length_map, List.length_map]; exact hq1.symm) (fun j σ H' => (∃ v12 v13 v14, σ = [some (.ref l), some (.int (0 + (i : Int))), some (.ref p), some (.ref L), v4, some (.ref D), v6, some (tv t), some (.ref qa), some (.int n), some (tv (mulS t n)), some (tv (addS t (some n))), v12, v13, v14]) ∧ Kp PL p H3 H') ?_ ?_ ?_ ?_⟩
            · exact ⟨⟨_, _, _, rfl⟩, C8⟩
            · rintro j' σ H' ⟨_, C9⟩
              exact ⟨SqL.of (C9.at_ hL3 nLp (fun ps z => by cases z)), SqL.of (C9.at_ hq2 nDp (fun ps z => by cases z))⟩
            · rintro j' x y Tq σ H9 hx hy ⟨⟨v12, v13, v14, rfl⟩, C9⟩ hTn'
              rw [List.getElem?_map] at hx hy
              cases ex' : ts[j']? with
              | none => rw [ex'] at hx; cases hx
              | some u =>
              cases ey' : qs[j']? with
              | none => rw [ey'] at hy; cases hy
              | some qb =>
              rw [ex'] at hx
              rw [ey'] at hy
              cases hx
              cases hy
              have hu := hsm u (List.mem_of_getElem? ex')
              have hqb : SpAt a.Span H3 qb u := by
                obtain ⟨t', e1, e2⟩ := hq3 j' qb ey'
                rw [ex'] at e1
                cases e1
                exact e2
              have npb := nsp hqb
              have C10 := C9.new (o := .tup [tv u, .ref qb]) hTn'
              refine ⟨Tq, _, rfl, SqT.of upd_same, rfl, _, _, rfl, _, _, rfl, rfl, ?_⟩
              refine ⟨_, rfl, _, rfl, t, u, rfl, ht.1, hu.1, fun H10 sm10 => ⟨_, rfl, iteF ?_⟩⟩
              have C11 := C10.same sm10
              have sa := C11.spA hqa npa
              have sb := C11.spA hqb npb
              obtain ⟨dxa, ea⟩ := id sa
              obtain ⟨dxb, eb⟩ := id sb
              refine ⟨_, rfl, _, rfl, qa, qb, dxa, dxb, _, _, rfl, rfl, ea, eb, addC_ok sa ht.1 sb hu.1 fun r1 H11 _ sm11 sp11 => ⟨_, rfl, _, rfl, t, u, rfl, r1, _, _, rfl, sp11, ?_⟩⟩
              rw [dec_self]
              exact ⟨_, rfl, iteF ⟨⟨_, _, _, rfl⟩, C11.same sm11⟩⟩
            · rintro σ H9 ⟨⟨v12, v13, v14, rfl⟩, C9⟩
              refine ⟨_, rfl, (by show 4 ≤ sizeLine; decide), fun V hV => ⟨V, rfl, ⟨_, SqL.of upd_same⟩, for_list (K := K) (a := V) (xs := [.int (-1), .bl true, .non, .str "1"]) (fun j σ H' => (∃ v14, σ = [some (.ref l), some (.int (0 + (i : Int))), some (.ref p), some (.ref L), v4, some (.ref D), v6, some (tv t), some (.ref qa), some (.int n), some (tv (mulS t n)), some (tv (addS t (some n))), v12, v13, v14]) ∧ Kp PL p H3 H' ∧ H' V = some (.lst [.int (-1), .bl true, .non, .str "1"])) ?_ ?_ ?_ ?_⟩⟩
              · exact ⟨⟨_, rfl⟩, C9.new hV, upd_same⟩
              · rintro j' σ H' _ ⟨_, _, z⟩
                exact SqL.of z
              · rintro j' y σ H10 hy ⟨⟨v14, rfl⟩, C10, hV10⟩
                obtain ⟨hy1, hy2, z, hz⟩ : (tyS y).isSome = true ∧ flatA y = none ∧ ∃ z, reprV y = some z := by
                  match j', hy with
                  | 0, hy => cases hy; exact ⟨rfl, rfl, _, rfl⟩
                  | 1, hy => cases hy; exact ⟨rfl, rfl, _, rfl⟩
                  | 2, hy => cases hy; exact ⟨rfl, rfl, _, rfl⟩
                  | 3, hy => cases hy; exact ⟨rfl, rfl, _, if_pos (by decide +kernel)⟩
                  | (m + 4), hy => simp at hy
                refine ⟨C10.2.1, fun H11 e11 t11 => ?_⟩
                have C11 := C10.lam e11 t11
                have sa := C11.spA hqa npa
                obtain ⟨dxa, ea⟩ := id sa
                refine ⟨_, rfl, _, rfl, qa, dxa, _, rfl, ea, hy1, add_bad sa ht.1 hy1 hy2 fun d H12 sm12 hd => ⟨rfl, d, y, z, rfl, hd, hz, ?_⟩⟩
                refine ⟨_, rfl, y, z, rfl, hz, rfl, _, rfl, iteNS rfl ?_⟩
                have C12 := C11.same sm12
                refine ⟨C12.2.1, fun H13 e13 t13 => ?_⟩
                have C13 := C12.lam e13 t13
                have sa' := C13.spA hqa npa
                obtain ⟨dxa', ea'⟩ := id sa'
                refine ⟨_, rfl, _, rfl, qa, dxa', _, rfl, ea', hy1, rep_bad sa' ht.1 hy1 hy2 fun d' H14 sm14 hd' => ⟨rfl, d', y, z, rfl, hd', hz, ?_⟩⟩
                refine ⟨_, rfl, y, z, rfl, hz, rfl, _, rfl, iteNS rfl ?_⟩
                exact ⟨⟨_, rfl⟩, C13.same sm14, sm14 _ _ (e13 _ _ (sm12 _ _ (e11 _ _ hV10 (fun ps z => by cases z))) (fun ps z => by cases z))⟩
              · rintro σ H10 ⟨⟨v14, rfl⟩, C10, _⟩
                exact ⟨⟨_, _, _, _, _, _, _, _, _, rfl⟩, C10⟩
          · rintro σ H' ⟨⟨v6, v7, v8, v9, v10, v11, v12, v13, v14, rfl⟩, C1⟩
            -- greatest([None] + spans + [None])
            refine ⟨(by show 1 ≤ sizeLine; decide), fun x1 hx1 => ?_⟩
            have C2 := C1.new (o := .lst [.non]) hx1
            refine ⟨_, rfl, x1, D, _, _, rfl, rfl, upd_same, C2.at_ hq2 nDp (fun ps z => by cases z), ?_, fun x2 hx2 => ?_⟩
            · rw [List.length_map, hq1, hts]; show 1 + 3 ≤ sizeLine; decide
            have C3 := C2.new (o := .lst ([.non] ++ qs.map V.ref)) hx2
            refine ⟨(by show 1 ≤ sizeLine; decide), fun x3 hx3 => ?_⟩
            have C4 := C3.new (o := .lst [.non]) hx3
            have n23 : x2 ≠ x3 := fun z => by rw [← z, upd_same] at hx3; cases hx3
            refine ⟨x2, x3, _, _, rfl, rfl, (by rw [upd_ne n23, upd_same]), upd_same, ?_, fun x4 hx4 => ?_⟩
            · rw [List.length_append, List.length_map, hq1, hts]; show 1 + 3 + 1 ≤ sizeLine; decide
            have C5 := C4.new (o := .lst (([.non] ++ qs.map V.ref) ++ [.non])) hx4
            generalize hH5 : upd (upd (upd (upd H' x1 (.lst [.non])) x2 (.lst ([.non] ++ qs.map V.ref))) x3 (.lst [.non])) x4 (.lst (([.non] ++ qs.map V.ref) ++ [.non])) = H5 at C5 ⊢
            have hx5 : H5 x4 = some (.lst (([.non] ++ qs.map V.ref) ++ [.non])) := by rw [← hH5, upd_same]
            clear C2 C3 C4
            have hzip : ∀ q t, (q, t) ∈ qs.zip ts → SpAt a.Span H3 q t := by
              intro q t hm
              obtain ⟨m, hm'⟩ := List.mem_iff_getElem?.mp hm
              obtain ⟨h1, h2⟩ := List.getElem?_zip_eq_some.mp hm'
              obtain ⟨t', e1, e2⟩ := hq3 m q h1
              rw [h2] at e1
              cases e1
              exact e2
            have hall : ∀ i ∈ ([none] ++ (qs.zip ts).map some ++ [none] : Its), gAt a.Span H5 i := by
              intro i hi pr e
              subst e
              have hm : some pr ∈ (qs.zip ts).map some := by
                rcases List.mem_append.mp hi with z | z
                · rcases List.mem_append.mp z with z | z
                  · cases List.mem_singleton.mp z
                  · exact z
                · cases List.mem_singleton.mp z
              obtain ⟨pr', hm1, hm2⟩ := List.mem_map.mp hm
              cases hm2
              have := hzip pr.1 pr.2 hm1
              exact C5.spA this (nsp this)
            obtain ⟨pr, hpr1, hpr2⟩ := fold_gr ts qs none hq1.symm
            obtain ⟨tm, htm⟩ : ∃ tm, ts.foldl lStep none = some tm := by
              cases ts with
              | nil => cases hts
              | cons t0 r => exact fold_l r t0
            have hpr3 : pr.map (·.2) = some tm := hpr2.trans htm
            obtain ⟨pm, rfl, hpm⟩ : ∃ pm, pr = some pm ∧ pm.2 = tm := by
              cases pr with
              | none => cases hpr3
              | some pm => exact ⟨pm, rfl, Option.some.inj hpr3⟩
            have hfold : ([none] ++ (qs.zip ts).map some ++ [none] : Its).foldl gStep none = some pm := by
              rw [List.foldl_append, List.foldl_append]
              show gStep (((qs.zip ts).map some).foldl gStep none) none = some pm
              rw [hpr1]
              rfl
            have hpmS : SpAt a.Span H5 pm.1 tm := by
              have z := gAt_fold _ none (fun p z => nomatch z) hall
              rw [hfold] at z
              rw [← hpm]
              exact z pm rfl
            refine ⟨x4, ([none] ++ (qs.zip ts).map some ++ [none] : Its), rfl, SqL.of ?_, hall, ?_⟩
            · rw [hx5, List.map_append, List.map_append, gv_map qs ts hq1.symm]; rfl
            rw [hfold]
            refine ⟨_, rfl, L, ts, tm, rfl, SqL.of (C5.at_ hL3 nLp (fun ps z => by cases z)), htm, fun r H6 sm6 hr6 => ⟨r, _, _, _, rfl, rfl, SqL.of hr6, atI_nat (j := 0) rfl, pm.1, tm, tm, rfl, hpmS.same sm6, ?_⟩⟩
            rw [dec_self]
            have C6 := C5.same sm6
            refine ⟨_, rfl, iteF ⟨(by show 1 ≤ sizeLine; decide), fun y1 hy1 => ⟨y1, [none], rfl, SqL.of upd_same, fun i hi => (by rw [List.mem_singleton.mp hi]; exact fun p z => nomatch z), rfl, _, rfl, iteNS rfl ?_⟩⟩⟩
            have C7 := C6.new (o := .lst [.non]) hy1
            refine ⟨Nat.zero_le _, fun y2 hy2 => ⟨y2, [], rfl, SqL.of upd_same, (fun i hi => nomatch hi), rfl, _, rfl, iteNS rfl ?_⟩⟩
            have C8 := C7.new (o := .lst []) hy2
            refine ⟨_, rfl, (by show 2 ≤ sizeLine; decide), fun V hV => ⟨V, rfl, ⟨_, SqL.of upd_same⟩, fun D2 hD2 => ?_⟩⟩
            have C9 := C8.new (o := .lst [.int (-1), .bl true]) hV
            generalize hH9 : upd (upd (upd H6 y1 (.lst [.non])) y2 (.lst [])) V (.lst [.int (-1), .bl true]) = H9 at C9 hD2 ⊢
            have hV9 : H9 V = some (.lst [.int (-1), .bl true]) := by rw [← hH9, upd_same]
            have nVp : V ≠ p := fun z => by
              obtain ⟨_, _, _, z2⟩ := C8.2.2
              rw [z, z2] at hV
              cases hV
            have nD2p : D2 ≠ p := fun z => by
              obtain ⟨_, _, _, z2⟩ := C9.2.2
              rw [z, z2] at hD2
              cases hD2
            have B0 : Kp PL p H9 H9 := ⟨fun b o _ e _ => e, C9.2⟩
            refine lc_list (K := K) (a := V) (xs := [.int (-1), .bl true]) (fun j H' => Kp PL p H9 H' ∧ H' D2 = some (.lst (([.str "-1", .str "True"] : List L2.V).take j))) ?_ ?_ ?_ ?_
            · exact ⟨B0.new hD2, upd_same⟩
            · rintro j H' _ ⟨B1, _⟩
              exact SqL.of (B1.at_ hV9 nVp (fun ps z => by cases z))
            · rintro j y H' hy ⟨B1, hD3⟩
              obtain ⟨hy1', hy2', z, hz, hzz, hlt⟩ : (tyS y).isSome = true ∧ goodT y = false ∧ ∃ z, reprV y = some z ∧ (([.str "-1", .str "True"] : List L2.V).take j ++ [.str z] = ([.str "-1", .str "True"] : List L2.V).take (j + 1)) ∧ j < 2 := by
                match j, hy with
                | 0, hy => cases hy; exact ⟨rfl, rfl, "-1", by decide +kernel, rfl, by decide⟩
                | 1, hy => cases hy; exact ⟨rfl, rfl, "True", rfl, rfl, by decide⟩
                | (m + 2), hy => simp at hy
              refine ⟨rfl, B1.2.1, fun H11 e11 t11 => ⟨_, rfl, fun xS dS nxS ndS neS => ⟨xS, dS, y, rfl, upd_same, hy1', (fun g => by rw [hy2'] at g; cases g), fun _ d H12 sm12' hd => ⟨rfl, d, y, z, rfl, hd, hz, ?_⟩⟩⟩⟩
              have sm12 : Same H11 H12 := fun b o e => sm12' b o (by rw [upd_ne (ne_of_none e nxS), upd_ne (ne_of_none e ndS)]; exact e)
              have hD12 : H12 D2 = some (.lst (([.str "-1", .str "True"] : List L2.V).take j)) := sm12 _ _ (e11 _ _ hD3 (fun ps z => by cases z))
              refine ⟨_, hD12, ?_, ((B1.lam e11 t11).same sm12).lst hD12 hD2 nD2p, by rw [upd_same, hzz]⟩
              rw [List.length_take, sizeLine_eq]
              show min j 2 < 16777216
              omega
            · rintro H' ⟨B1, hD3⟩
              refine ⟨(by show 2 ≤ sizeLine; decide), fun W hW => ?_⟩
              have nWD : D2 ≠ W := fun z => by rw [← z, hD3] at hW; cases hW
              refine ⟨.list [.str "-1", .str "True"], .list [.str "-1", .str "True"], .lst (SqL.of (by rw [upd_ne nWD, hD3]; rfl)) (.cons (.str _) (.cons (.str _) .nil)), .lst (SqL.of upd_same) (.cons (.str _) (.cons (.str _) .nil)), shaped_two, shaped_two, _, rfl, ?_⟩
              rw [eqv_two]
              have B2 := (A3.trans (C9.trans B1)).new (o := .lst [.str "-1", .str "True"]) hW
              exact iteF ⟨⟨_, _, _, _, _, _, _, _, _, _, _, _, _, _, rfl⟩, B2.2.1, B2.sq hp hl1⟩
    · rintro σ H' _
      exact k _
end
end S01

namespace S01
open PySem PySem.Spec PyProof.Rows L2
theorem txt_mk {P : Program} {K : PySem.W.Frag} {mg : Str → Option Value} {A_Span A_is_integer A_Span_init A_Span_endless A_Span_endless_p A_Span_is_endless A_Span_add A_Span_radd A_Span_mul A_Span_rmul A_Span_eq A_Span_lt A_Span_le A_Span_gt A_Span_ge A_added A_repeated A_at_most A_greatest A_law_pool A_law_draw A_law_choose A_law_span A_law_sum A_law_times A_law_less A_law_is A_law_refused A_law_ordered A_law_greatest A_law A_InvalidTime A_InvalidTime_init : Addr}
    (h_mg_Span : mg "Span" = some (.ref A_Span))
    (h_cl_Span : Cls K A_Span)
    (h_ity_Span : InsTy K A_Span)
    (h_nof_Span : NoFlat K A_Span)
    (h_nA_Span_time : NoAttr K A_Span "time")
    (h_d_is_integer : DefAt K mg "is_integer" s_is_integer ["value"] A_is_integer)
    (h_d_Span_init : MetAt K A_Span "__init__" "Span.__init__" s_Span_init ["self", "time"] A_Span_init)
    (h_mk_Span : Mk K A_Span A_Span_init)
    (h_d_Span_endless : StaAt K A_Span "endless" "Span.endless" s_Span_endless [] A_Span_endless_p A_Span_endless)
    (h_d_Span_is_endless : MetAt K A_Span "is_endless" "Span.is_endless" s_Span_is_endless ["self"] A_Span_is_endless)
    (h_d_Span_add : MetAt K A_Span "__add__" "Span.__add__" s_Span_add ["self", "other"] A_Span_add)
    (h_d_Span_radd : MetAt K A_Span "__radd__" "Span.__radd__" s_Span_radd ["self", "other"] A_Span_radd)
    (h_d_Span_mul : MetAt K A_Span "__mul__" "Span.__mul__" s_Span_mul ["self", "n"] A_Span_mul)
    (h_d_Span_rmul : MetAt K A_Span "__rmul__" "Span.__rmul__" s_Span_rmul ["self", "n"] A_Span_rmul)
    (h_d_Span_eq : MetAt K A_Span "__eq__" "Span.__eq__" s_Span_eq ["self", "other"] A_Span_eq)
    (h_d_Span_lt : MetAt K A_Span "__lt__" "Span.__lt__" s_Span_lt ["self", "other"] A_Span_lt)
    (h_d_Span_le : MetAt K A_Span "__le__" "Span.__le__" s_Span_le ["self", "other"] A_Span_le)
    (h_d_Span_gt : MetAt K A_Span "__gt__" "Span.__gt__" s_Span_gt ["self", "other"] A_Span_gt)
    (h_d_Span_ge : MetAt K A_Span "__ge__" "Span.__ge__" s_Span_ge ["self", "other"] A_Span_ge)
    (h_d_added : DefAt K mg "added" s_added ["span", "other"] A_added)
    (h_d_repeated : DefAt K mg "repeated" s_repeated ["span", "n"] A_repeated)
    (h_d_at_most : DefAt K mg "at_most" s_at_most ["one", "other"] A_at_most)
    (h_d_greatest : DefAt K mg "greatest" s_greatest ["spans"] A_greatest)
    (h_d_law_pool : DefAt K mg "_law_pool" s_law_pool ["_law_script", "_law_k"] A_law_pool)
    (h_d_law_draw : DefAt K mg "_law_draw" s_law_draw ["_law_pool_here", "_law_many"] A_law_draw)
    (h_d_law_choose : DefAt K mg "_law_choose" s_law_choose ["_law_pool_here", "_law_items"] A_law_choose)
    (h_d_law_span : DefAt K mg "_law_span" s_law_span ["_law_time"] A_law_span)
    (h_d_law_sum : DefAt K mg "_law_sum" s_law_sum ["_law_one", "_law_other"] A_law_sum)
    (h_d_law_times : DefAt K mg "_law_times" s_law_times ["_law_one", "_law_n"] A_law_times)
    (h_d_law_less : DefAt K mg "_law_less" s_law_less ["_law_one", "_law_other"] A_law_less)
    (h_d_law_is : DefAt K mg "_law_is" s_law_is ["_law_span_here", "_law_time"] A_law_is)
    (h_d_law_refused : DefAt K mg "_law_refused" s_law_refused ["_law_call"] A_law_refused)
    (h_d_law_ordered : DefAt K mg "_law_ordered" s_law_ordered ["_law_one", "_law_other"] A_law_ordered)
    (h_d_law_greatest : DefAt K mg "_law_greatest" s_law_greatest ["_law_times_here"] A_law_greatest)
    (h_d_law : DefAt K mg "law" s_law ["_law_script"] A_law)
    (h_err_InvalidTime : PySem.ErrX.ErrTxt P K mg "InvalidTime" "value" A_InvalidTime A_InvalidTime_init)
    (h_isinstance : mg "isinstance" = none)
    (h_int : mg "int" = none)
    (h_bool : mg "bool" = none)
    (h_range : mg "range" = none)
    (h_len : mg "len" = none)
    (h_max : mg "max" = none)
    (h_min : mg "min" = none)
    (h_zip : mg "zip" = none)
    (h_repr : mg "repr" = none)
    (h_super : mg "super" = none)
    (h_sf_Span : PySem.W.selfFirst K A_Span = true)
    (h_ne_Span : PySem.W.findIn K (.ref A_Span) "__ne__" = some (some (.builtin "object.__ne__")))
    (h_ob_Span : PySem.W.subIn K (.ref A_Span) (.type "object") = some true)
    (h_sb_Span : ∀ T ∈ ["int", "bool", "NoneType", "str"], PySem.W.subIn K (.ref A_Span) (.type T) = some false)
    (h_bs_Span : ∀ T ∈ ["int", "bool", "NoneType", "str"], PySem.W.subIn K (.type T) (.ref A_Span) = some false)
    (h_fm : ∀ T ∈ ["int", "bool", "NoneType", "str"], ∃ fo, PySem.W.findIn K (.type T) "__mul__" = some fo)
    (h_frm : ∀ T ∈ ["int", "bool", "NoneType", "str"], ∃ fo, PySem.W.findIn K (.type T) "__rmul__" = some fo)
    (h_fa : ∀ T ∈ ["int", "bool", "NoneType", "str"], ∃ fo, PySem.W.findIn K (.type T) "__add__" = some fo)
    (h_fra : ∀ T ∈ ["int", "bool", "NoneType", "str"], ∃ fo, PySem.W.findIn K (.type T) "__radd__" = some fo)
    : Txt P K mg ⟨A_Span, A_is_integer, A_Span_init, A_Span_endless, A_Span_endless_p, A_Span_is_endless, A_Span_add, A_Span_radd, A_Span_mul, A_Span_rmul, A_Span_eq, A_Span_lt, A_Span_le, A_Span_gt, A_Span_ge, A_added, A_repeated, A_at_most, A_greatest, A_law_pool, A_law_draw, A_law_choose, A_law_span, A_law_sum, A_law_times, A_law_less, A_law_is, A_law_refused, A_law_ordered, A_law_greatest, A_law, A_InvalidTime, A_InvalidTime_init⟩ :=
  ⟨h_cl_Span, h_mg_Span, h_ity_Span, h_nof_Span, h_nA_Span_time, h_d_is_integer, h_d_Span_init, h_mk_Span, h_d_Span_endless, h_d_Span_is_endless, h_d_Span_add, h_d_Span_radd, h_d_Span_mul, h_d_Span_rmul, h_d_Span_eq, h_d_Span_lt, h_d_Span_le, h_d_Span_gt, h_d_Span_ge, h_d_added, h_d_repeated, h_d_at_most, h_d_greatest, h_d_law_pool, h_d_law_draw, h_d_law_choose, h_d_law_span, h_d_law_sum, h_d_law_times, h_d_law_less, h_d_law_is, h_d_law_refused, h_d_law_ordered, h_d_law_greatest, h_d_law, h_err_InvalidTime, h_isinstance, h_int, h_bool, h_range, h_len, h_max, h_min, h_zip, h_repr, h_super, h_sf_Span, h_ne_Span, h_ob_Span, h_sb_Span, h_bs_Span, h_fm, h_frm, h_fa, h_fra⟩
theorem exK {P : Program} {K : PySem.W.Frag} {mg : Str → Option Value} {h : Heap} (_ : K.In h) (q : ∃ a, Txt P K mg a) : ∃ a, Txt P K mg a := q
theorem law_end {l : PySem.W.OpenLaw} {w : World} {K : PySem.W.Frag} {mg : Str → Option Value} {h : Heap} {fa f cL PL : Addr} {oc kV doc pm ct : Value} {od an : Option Addr} {osl : Array (Option Value)} (KX : K.In h) (G : h.Ns mainGlobals mg) (TT : ∃ a, Txt l.prog K mg a) (hmg : mg "law" = some (.ref fa))
    (g : PySem.W.nsIn K mainGlobals "law" = some (some (.ref f))) (lk : K.lookup f = some ⟨oc, od, .func (PySem.W.fnOf "law" "law" (defArgs s_law) (defBody s_law) (defScope s_law) .none kV doc pm an (.ref cL) ct), osl⟩) (hcd : PySem.W.codeIn K (.ref cL) "law" = true)
    (hd : PySem.W.codeHdIn K cL PL = true) (nT : K.lookup PL = none) (hT : h.get? PL = some { cls := .none, data := .fields #[] }) : LamX.LawAtS l w K CX0 31 63 "_law_script" mg fa h := by
  obtain ⟨a, T⟩ := TT
  have e1 : f = a.law := by
    have z := (PySem.W.mg_of KX G g).symm.trans T.d_law.mg
    cases z
    rfl
  have e2 : f = fa := by
    have z := (PySem.W.mg_of KX G g).symm.trans hmg
    cases z
    rfl
  subst e2
  rw [e1] at lk ⊢
  have one : ∀ {p : Addr × Addr} {q : Addr × Addr → Prop}, q (cL, PL) → p ∈ [(cL, PL)] → q p := fun hq hp => by
    cases hp with
    | head => exact hq
    | tail _ z => cases z
  refine ⟨_, [(cL, PL)], spLaw K PL, fun p hp => one (q := fun p => h.get? p.2 = _) hT hp, fun p hp => one (q := fun p => K.lookup p.2 = none) nT hp, fun p hp => one (q := fun p => PySem.W.CodeHd h p.1 p.2) (PySem.W.codeHd_of_K KX hd) hp, fun s v => .of_eq rfl,
    fun H a ns hl hb hH hS => ⟨a, ns, rfl, hS, fun p hp => ?_, fun _ => rfl⟩, fun base KB GB TBs => ok_law T (TBs _ (.head _)) lk hcd⟩
  cases hp with
  | head => exact LamX.TabS.nil (hH _ (.head _))
  | tail _ z => cases z
end S01
open PySem PySem.W PyProof.Rows L2 in
theorem PySem.Challenge.cw_stoppoints_k01_spans_holds : PySem.Challenge.rw_stoppoints_k01_spans.Holds := by
  w_on; o_law; k_head; (case hw => w_witness2)
  k_fill
  refine LamX.walk_ofTs (l := PySem.Challenge.rw_stoppoints_k01_spans) (n := 63) (k := 31) (x := "_law_script") (CX := fun _ => CX0) rfl (by decide) rfl ⟨rfl, by decide, by decide⟩ (fun w h Y => PySem.W.km_in_of Y) ?F (fun _ _ _ _ _ z => z)
  case F =>
    intro w mg fa h Y KX G hmg
    have TT := S01.exK (P := PySem.Challenge.pw_stoppoints_k01_spans) (mg := mg) KX (by
      refine' ⟨_, S01.txt_mk ?h_mg_Span ?h_cl_Span ?h_ity_Span ?h_nof_Span ?h_nA_Span_time ?h_d_is_integer ?h_d_Span_init ?h_mk_Span ?h_d_Span_endless ?h_d_Span_is_endless ?h_d_Span_add ?h_d_Span_radd ?h_d_Span_mul ?h_d_Span_rmul ?h_d_Span_eq ?h_d_Span_lt ?h_d_Span_le ?h_d_Span_gt ?h_d_Span_ge ?h_d_added ?h_d_repeated ?h_d_at_most ?h_d_greatest ?h_d_law_pool ?h_d_law_draw ?h_d_law_choose ?h_d_law_span ?h_d_law_sum ?h_d_law_times ?h_d_law_less ?h_d_law_is ?h_d_law_refused ?h_d_law_ordered ?h_d_law_greatest ?h_d_law ?h_err_InvalidTime ?h_isinstance ?h_int ?h_bool ?h_range ?h_len ?h_max ?h_min ?h_zip ?h_repr ?h_super ?h_sf_Span ?h_ne_Span ?h_ob_Span ?h_sb_Span ?h_bs_Span ?h_fm ?h_frm ?h_fa ?h_fra⟩
      case h_mg_Span => exact PySem.W.mg_of KX G (by k_is)
      case h_cl_Span => exact ⟨by k_is, by k_is, by k_is, by k_is⟩
      case h_ity_Span => exact ⟨by k_is, by k_is, by k_is, by k_is⟩
      case h_nof_Span => exact noFlat_mk (by kit_is) (by kit_is) (by kit_is) (by kit_is)
      case h_nA_Span_time => show PySem.W.findIn _ (.ref _) "time" = some none; k_is
      case h_d_is_integer => exact defAt_mk KX G (by k_is) (by k_is) (by k_is) (by k_is) (fun _ _ _ _ _ _ us hl => match us, hl with | [_], _ => rfl)
      case h_d_Span_init => exact metAt_mk (by k_is) (by k_is) (by k_is) (by k_is) (by k_is) (fun _ _ _ _ _ _ us hl => match us, hl with | [_, _], _ => rfl)
      case h_mk_Span => exact ⟨by k_is, by k_is, by k_is, by k_is⟩
      case h_d_Span_endless => exact staAt_mk (by k_is) (by k_is) (by k_is) (by k_is) (by k_is) (by k_is) (by k_is) (by k_is) (fun _ _ _ _ _ _ us hl => match us, hl with | [], _ => rfl)
      case h_d_Span_is_endless => exact metAt_mk (by k_is) (by k_is) (by k_is) (by k_is) (by k_is) (fun _ _ _ _ _ _ us hl => match us, hl with | [_], _ => rfl)
      case h_d_Span_add => exact metAt_mk (by k_is) (by k_is) (by k_is) (by k_is) (by k_is) (fun _ _ _ _ _ _ us hl => match us, hl with | [_, _], _ => rfl)
      case h_d_Span_radd => exact metAt_mk (by k_is) (by k_is) (by k_is) (by k_is) (by k_is) (fun _ _ _ _ _ _ us hl => match us, hl with | [_, _], _ => rfl)
      case h_d_Span_mul => exact metAt_mk (by k_is) (by k_is) (by k_is) (by k_is) (by k_is) (fun _ _ _ _ _ _ us hl => match us, hl with | [_, _], _ => rfl)
      case h_d_Span_rmul => exact metAt_mk (by k_is) (by k_is) (by k_is) (by k_is) (by k_is) (fun _ _ _ _ _ _ us hl => match us, hl with | [_, _], _ => rfl)
      case h_d_Span_eq => exact metAt_mk (by k_is) (by k_is) (by k_is) (by k_is) (by k_is) (fun _ _ _ _ _ _ us hl => match us, hl with | [_, _], _ => rfl)
      case h_d_Span_lt => exact metAt_mk (by k_is) (by k_is) (by k_is) (by k_is) (by k_is) (fun _ _ _ _ _ _ us hl => match us, hl with | [_, _], _ => rfl)
      case h_d_Span_le => exact metAt_mk (by k_is) (by k_is) (by k_is) (by k_is) (by k_is) (fun _ _ _ _ _ _ us hl => match us, hl with | [_, _], _ => rfl)
      case h_d_Span_gt => exact metAt_mk (by k_is) (by k_is) (by k_is) (by k_is) (by k_is) (fun _ _ _ _ _ _ us hl => match us, hl with | [_, _], _ => rfl)
      case h_d_Span_ge => exact metAt_mk (by k_is) (by k_is) (by k_is) (by k_is) (by k_is) (fun _ _ _ _ _ _ us hl => match us, hl with | [_, _], _ => rfl)
      case h_d_added => exact defAt_mk KX G (by k_is) (by k_is) (by k_is) (by k_is) (fun _ _ _ _ _ _ us hl => match us, hl with | [_, _], _ => rfl)
      case h_d_repeated => exact defAt_mk KX G (by k_is) (by k_is) (by k_is) (by k_is) (fun _ _ _ _ _ _ us hl => match us, hl with | [_, _], _ => rfl)
      case h_d_at_most => exact defAt_mk KX G (by k_is) (by k_is) (by k_is) (by k_is) (fun _ _ _ _ _ _ us hl => match us, hl with | [_, _], _ => rfl)
      case h_d_greatest => exact defAt_mk KX G (by k_is) (by k_is) (by k_is) (by k_is) (fun _ _ _ _ _ _ us hl => match us, hl with | [_], _ => rfl)
      case h_d_law_pool => exact defAt_mk KX G (by k_is) (by k_is) (by k_is) (by k_is) (fun _ _ _ _ _ _ us hl => match us, hl with | [_, _], _ => rfl)
      case h_d_law_draw => exact defAt_mk KX G (by k_is) (by k_is) (by k_is) (by k_is) (fun _ _ _ _ _ _ us hl => match us, hl with | [_, _], _ => rfl)
      case h_d_law_choose => exact defAt_mk KX G (by k_is) (by k_is) (by k_is) (by k_is) (fun _ _ _ _ _ _ us hl => match us, hl with | [_, _], _ => rfl)
      case h_d_law_span => exact defAt_mk KX G (by k_is) (by k_is) (by k_is) (by k_is) (fun _ _ _ _ _ _ us hl => match us, hl with | [_], _ => rfl)
      case h_d_law_sum => exact defAt_mk KX G (by k_is) (by k_is) (by k_is) (by k_is) (fun _ _ _ _ _ _ us hl => match us, hl with | [_, _], _ => rfl)
      case h_d_law_times => exact defAt_mk KX G (by k_is) (by k_is) (by k_is) (by k_is) (fun _ _ _ _ _ _ us hl => match us, hl with | [_, _], _ => rfl)
      case h_d_law_less => exact defAt_mk KX G (by k_is) (by k_is) (by k_is) (by k_is) (fun _ _ _ _ _ _ us hl => match us, hl with | [_, _], _ => rfl)
      case h_d_law_is => exact defAt_mk KX G (by k_is) (by k_is) (by k_is) (by k_is) (fun _ _ _ _ _ _ us hl => match us, hl with | [_, _], _ => rfl)
      case h_d_law_refused => exact defAt_mk KX G (by k_is) (by k_is) (by k_is) (by k_is) (fun _ _ _ _ _ _ us hl => match us, hl with | [_], _ => rfl)
      case h_d_law_ordered => exact defAt_mk KX G (by k_is) (by k_is) (by k_is) (by k_is) (fun _ _ _ _ _ _ us hl => match us, hl with | [_, _], _ => rfl)
      case h_d_law_greatest => exact defAt_mk KX G (by k_is) (by k_is) (by k_is) (by k_is) (fun _ _ _ _ _ _ us hl => match us, hl with | [_], _ => rfl)
      case h_d_law => exact defAt_mk KX G (by k_is) (by k_is) (by k_is) (by k_is) (fun _ _ _ _ _ _ us hl => match us, hl with | [_], _ => rfl)
      case h_err_InvalidTime => exact PySem.ErrX.errTxt_mk KX G (by k_is) (by k_is) (by k_is) (by k_is) (by k_is) (by k_is) (by k_is) (by k_is) (by k_is) (by k_is) (by k_is) (by k_is) (by k_is) (by k_is) (by k_is) (by k_is) (by ks_is) (by k_is) (by k_is) (by k_is) (by k_is) (by k_is) (by k_is) (by decide +kernel) (by decide +kernel) (fun _ _ _ => BindsTo.of_eq rfl) (by rfl) (by rfl) (by rfl) (by decide +kernel) (by decide +kernel) (by decide +kernel) (by decide +kernel) (by decide +kernel) (by decide +kernel) (by decide +kernel) (by rfl)
      case h_isinstance => exact PySem.W.mg_none_of KX G (by k_is)
      case h_int => exact PySem.W.mg_none_of KX G (by k_is)
      case h_bool => exact PySem.W.mg_none_of KX G (by k_is)
      case h_range => exact PySem.W.mg_none_of KX G (by k_is)
      case h_len => exact PySem.W.mg_none_of KX G (by k_is)
      case h_max => exact PySem.W.mg_none_of KX G (by k_is)
      case h_min => exact PySem.W.mg_none_of KX G (by k_is)
      case h_zip => exact PySem.W.mg_none_of KX G (by k_is)
      case h_repr => exact PySem.W.mg_none_of KX G (by k_is)
      case h_super => exact PySem.W.mg_none_of KX G (by k_is)
      case h_sf_Span => k_is
      case h_ne_Span => k_is
      case h_ob_Span => k_is
      case h_sb_Span => exact all4 (by k_is) (by k_is) (by k_is) (by k_is)
      case h_bs_Span => exact all4 (by k_is) (by k_is) (by k_is) (by k_is)
      case h_fm => exact all4 ⟨_, by k_is⟩ ⟨_, by k_is⟩ ⟨_, by k_is⟩ ⟨_, by k_is⟩
      case h_frm => exact all4 ⟨_, by k_is⟩ ⟨_, by k_is⟩ ⟨_, by k_is⟩ ⟨_, by k_is⟩
      case h_fa => exact all4 ⟨_, by k_is⟩ ⟨_, by k_is⟩ ⟨_, by k_is⟩ ⟨_, by k_is⟩
      case h_fra => exact all4 ⟨_, by k_is⟩ ⟨_, by k_is⟩ ⟨_, by k_is⟩ ⟨_, by k_is⟩)
    refine' S01.law_end (PL := 263) KX G TT hmg ?g ?lk ?hcd ?hd ?nT ?hT
    case g => k_is
    case lk => k_is
    case hcd => k_is
    case hd => kernel_rfl
    case nT => kernel_rfl
    case hT => exact PySem.W.km_tabs_of Y 263 (by k_mem)
