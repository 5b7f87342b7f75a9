import PyProof.Rows.All
import Wide.All
import OpenK.AllK
import Wide.FinOn
import KE.KExcSuper
import HandS.ForMost
import HandS.ForExc
import HandS.Defaults
import HandS.IsInst
import HandS.ExcField
import HandS.ExcInit
import KE.KExcIs
import HandS.ExcIs
import HandS.Wide
import HandS.MakeKw
import HandS.MakeKwOnly
import HandS.CallSlots
import HandS.HeadEnd
import HandS.HeadHook2
import HandS.Head2
import HandS.OwnEq
import KE.KOpsOwn
import HandS.Style
import HandS.Lambda
import HandS.EndTab
import HandS.DeepEq
import PySem.Challenge.RW_momentrows_k03_ratio_quotients_and_power
set_option Elab.async false
set_option linter.all false
set_option maxRecDepth 100000
set_option maxHeartbeats 4000000
/-! MR: an own error whose __init__(self, p) says super().__init__(p); self.p = p, below MeansError(ValueError) -/
namespace MR
open PySem PySem.W PySem.Calls PyProof.Rows PySem.HandSPX
/-- the facts of the error class at C, its __init__ at fI with the parameter p -/
structure SupC (prog : Program) (K : Frag) (C fI : Addr) (p : Str) : Prop where
  cls : ∃ nm q N bs bm sn sub ab col dd k0 k1 k2 k3 k5, K.lookup C = some (excClassObj nm q C N bs bm true sn sub ab col dd k0 k1 k2 k3 k5 "ValueError.__new__") ∧ refsVE bm = true ∧
    alongIn K "__init__" bm = some (some (.builtin "ValueError.__init__"))
  sa : findIn K (.ref C) "__setattr__" = some (some (.builtin "object.__setattr__"))
  no : findIn K (.ref C) p = some none
  ini : findIn K (.ref C) "__init__" = some (some (.ref fI))
  tfn : typeIn K (.ref fI) = some (.type "function")
  kC : keepIn K (.ref C) = true
  exC : subIn K (.ref C) (.type "BaseException") = some true
  veC : subIn K (.ref C) (.type "ValueError") = some true
  tyC : typeIn K (.ref C) = some (.type "type")
  selfC : mroIn K C (.ref C) = some true
  opq : nsIn K cStatics "thirdparty.any" = some none
  sup : nsIn K mainGlobals "super" = some none
  top : (prog.main.scope.names.lookup ("super" : Str)).isSome = false
  fn : ∃ (oc : Value) (od : Option Addr) (osl : Array (Option Value)) (fd : FuncData) (a1 a2 : Arg) (q1 q2 q3 q4 q5 q6 q7 q8 q9 q10 : Pos) (cda cc : Addr) (ccl : Value) (cdd : Option Addr) (vs : Array Value) (ccs : Array (Option Value)) (file : Str) (tf : Tok) (cl : Value) (cld : Option Addr) (csl : Array (Option Value)),
    K.lookup fI = some ⟨oc, od, .func fd, osl⟩ ∧ codeIn K fd.code fd.qualname = true ∧
    fd.params = { posonlyargs := [], args := [a1, a2], vararg := none, kwonlyargs := [], kw_defaults := [], kwarg := none, defaults := [] } ∧ a1.arg = "self" ∧ a2.arg = p ∧
    fd.body = .stmts [.Expr (.Call (.Attribute (.Call (.Name "super" q1) [] [] q2) "__init__" q3) [.Name p q4] [] q5) q6, .Assign [.Attribute (.Name "self" q7) p q8] (.Name p q9) q10] ∧
    fd.scope = { kind := .function, names := [("self", .local), (p, .local), ("__class__", .free), ("super", .globalImplicit)], isGenerator := false, isCoroutine := false, more := [] } ∧
    fd.globals = mainGlobals ∧ fd.builtins = builtinsNs ∧ fd.closure = [(("__class__" : Str), cc)] ∧ fd.defaults = .none ∧ fd.code = .ref cda ∧
    K.lookup cda = some ⟨ccl, cdd, .fields vs, ccs⟩ ∧ vs[2]? = some (.str file tf) ∧ ((prog.main.file : Str) == file) = true ∧
    K.lookup cc = some ⟨cl, cld, .cell (some (.ref C)), csl⟩ ∧ (q3.endLine == q5.line) = true
/-- a good parameter's name -/
structure PName (p : Str) : Prop where
  n1 : ¬ p = ("self" : Str)
  n2 : ¬ p = ("__class__" : Str)
  n3 : ¬ p = ("super" : Str)
  n4 : (p == ("__debug__" : Str)) = false
  n5 : (p == ("__classdict__" : Str)) = false
  bnd : ∀ (n1 n2 : Str) (an1 : Option Expr) (ap1 : Pos) (an2 : Option Expr) (ap2 : Pos) (b : FuncBody) (sc : Scope) (gl : Addr) (clo : List (Str × Addr)) (n9 n10 n11 : Value) (n12 : Option Addr) (n13 n14 : Value) (n15 : Addr) (u v : Value),
    bindArgs ⟨n1, n2, { posonlyargs := [], args := [⟨"self", an1, ap1⟩, ⟨p, an2, ap2⟩], vararg := none, kwonlyargs := [], kw_defaults := [], kwarg := none, defaults := [] }, b, sc, gl, clo, .none, n9, n10, n11, n12, n13, n14, n15⟩ ⟨[u, v], []⟩ = pure [(("self" : Str), u), (p, v)]
structure InitEnd (h h' : Heap) (x C dx : Addr) (p : Str) (v : Value) : Prop where
  keep : ∀ b o, b ≠ x → h.get? b = some o → h'.get? b = some o
  obj : ∃ t1, h'.get? x = some { cls := .ref C, dict := some dx, data := .fields #[.ref t1, .none, .none, .none, .bool false, .none] }
  dbig : h.objs.size ≤ dx
  dne : dx ≠ x
  ns : h'.Ns1 dx (fun y => if y = p then some v else none)
theorem pn_word : PName "word" := ⟨by decide +kernel, by decide +kernel, by decide +kernel, by decide +kernel, by decide +kernel, fun _ _ _ _ _ _ _ _ _ _ _ _ _ _ _ _ _ _ _ => rfl⟩
theorem pn_part : PName "part" := ⟨by decide +kernel, by decide +kernel, by decide +kernel, by decide +kernel, by decide +kernel, fun _ _ _ _ _ _ _ _ _ _ _ _ _ _ _ _ _ _ _ => rfl⟩
theorem pn_index : PName "index" := ⟨by decide +kernel, by decide +kernel, by decide +kernel, by decide +kernel, by decide +kernel, fun _ _ _ _ _ _ _ _ _ _ _ _ _ _ _ _ _ _ _ => rfl⟩
theorem pn_most : PName "most" := ⟨by decide +kernel, by decide +kernel, by decide +kernel, by decide +kernel, by decide +kernel, fun _ _ _ _ _ _ _ _ _ _ _ _ _ _ _ _ _ _ _ => rfl⟩
theorem call_form {o : Expr} {name : Str} {apos pos : Pos} {env : Env} {a : Expr} (h : (apos.endLine == pos.line) = true) (hs : starEach [a] env = [(false, eval a env)]) :
    eval (.Call (.Attribute o name apos) [a] [] pos) env = (do
      let ov ← attributeBase o name env (eval o env)
      standAt apos.atName
      let (f, first) ← holding [ov] (getMethod ov name (do return (← importBound o env).getD true))
      callWith pos f first (backTo pos (starEach [a] env)) []) := by
  have e0 : eval (.Call (.Attribute o name apos) [a] [] pos) env = (do
      let ov ← attributeBase o name env (eval o env)
      standAt apos.atName
      methodCall o name apos pos env ov 1 (backTo pos (starEach [a] env)) []) := rfl
  have e1 : methodCallPos true o env apos pos = pure pos := by
    unfold methodCallPos
    rw [h]
    rfl
  have e2 : methodCallForm 1 (backTo pos (starEach [a] env)) [] = true := by rw [hs]; rfl
  rw [e0]
  unfold methodCall
  rw [e2]
  simp only [e1, pure_bind]
  rfl
/-- the bound ValueError.__init__ called -/
theorem bound_init {prog : Program} {w : World} {A : Around} {E : Value → Shared → Prop} {s : Shared} {C u x t0 : Addr} {nm q : Str} {N : Addr} {bs bm : List Value} {hdct : Bool} {sn : List Str} {sub : List Value} {ab : Bool} {col : Option Bool} {dd : Option Addr} {k0 k1 k2 k3 k5 : Option Value} {Q : Value → Shared → Prop}
    (hC : s.heap.get? C = some (excClassObj nm q C N bs bm hdct sn sub ab col dd k0 k1 k2 k3 k5 "ValueError.__new__")) (hu : s.heap.get? u = some (kxs_mw "ValueError.__init__" x)) (hx : s.heap.get? x = some (excO C t0)) {rest : List Value} (hz : rest.length ≤ sizeLine)
    (h : ∀ h' t1, (∀ b o, b ≠ x → s.heap.get? b = some o → h'.get? b = some o) → h'.get? x = some (excO C t1) → Q .none { s with heap := h' }) : wpAny (model prog w) A (call (.ref u) rest) Q E s := by
  have f1 : (Value.type "method-wrapper" == Value.type "method" || Value.type "method-wrapper" == Value.type "builtin_function_or_method" || Value.type "method-wrapper" == Value.type "method-wrapper") = true := by decide
  obtain ⟨hh, g, d, tk, os⟩ := s
  refine wpAny_call (codeAny_of_tree ?_)
  show wpAny _ A.in1 (callAny (Value.ref u) ⟨rest, []⟩) _ _ _
  unfold callAny
  refine wpAny_bind (wpAny_load hu ?_)
  dsimp only [kxs_mw]
  rw [if_pos f1]
  refine KFB.if_so (by decide) ?_
  refine wpAny_bind (check_bound_init F.excBase_ValueError.toExcCallFacts hC hx rfl ?_)
  refine wpAny_bind (wpAny_pure (wpAny_pure ⟨plainId_quiet F.excBase_ValueError.init.plain _, codeAny_builtin F.excBase_ValueError.initEntry ?_⟩))
  refine exc_init_tree (cls := .ref C) (t0 := t0) (dv := none) (c2 := .none) (c3 := .none) (b4 := .bool false) hx hz ?_
  intro h' k e1 e2
  exact h h' _ k e1
section
variable {prog : Program} {w : World} {A : Around} {E : Value → Shared → Prop} {R : Result → Shared → Prop} {s : Shared} {K : Frag} {C fI : Addr} {p : Str}
theorem sup_init (T : SupC prog K C fI p) (hp : PName p) {x t0 : Addr} {v : Value} {mg mb : Str → Option Value} (X : K.In s.heap) (G : s.heap.Ns mainGlobals mg) (B : s.heap.Ns builtinsNs mb) (hB : ∀ x : Str, x ≠ "__name__" → mb x = bootBuiltins x)
    (hlim : s.heap.NoLimit) (hx : s.heap.get? x = some (excO C t0)) (hnx : K.lookup x = none) (hroom : A.depth < recursionLimit)
    (hq : ∀ h' tk dx, InitEnd s.heap h' x C dx p v → R (.ok (.ret .none)) { s with heap := h', toks := tk }) :
    codeAny (model prog w) A (.call (.ref fI) ⟨[.ref x, v], []⟩) R s := by
  obtain ⟨oc, od, osl, fd, a1, a2, q1, q2, q3, q4, q5, q6, q7, q8, q9, q10, cda, cc, ccl, cdd, vs, ccs, file, tf, cl, cld, csl, hf, hcd, hpar, ha1, ha2, hbody, hsc, hgl, hbt, hclo, hdf, hcode, hcda, hvs, hfile, hcell, hq35⟩ := T.fn
  obtain ⟨nm, q, N, bs, bm, sn, sub, ab, col, dd, k0, k1, k2, k3, k5, hC, hbm, hal⟩ := T.cls
  have hcl : clsIn K C = some { name := nm, bases := bs, mro := .ref C :: bm, ns := N, qualname := q, hasDict := true, slotNames := sn, subclasses := sub, abstract := ab, collection := col, hasDel := false } := by unfold clsIn; rw [hC] <;> rfl
  obtain ⟨n1, n2, n3, n4, n5, n6, n7, n8, n9, n10, n11, n12, n13, n14, n15⟩ := fd
  obtain ⟨aa1, an1, ap1⟩ := a1
  obtain ⟨aa2, an2, ap2⟩ := a2
  dsimp only at hcd hpar ha1 ha2 hbody hsc hgl hbt hclo hdf hcode
  subst hpar ha1 ha2 hbody hsc hgl hbt hclo hdf hcode
  have e1 : ¬ aa2 = ("self" : Str) := hp.n1
  have b1 : (aa2 == ("self" : Str)) = false := by simpa using e1
  have b2 : (aa2 == ("__class__" : Str)) = false := by simpa using hp.n2
  have b3 : (aa2 == ("super" : Str)) = false := by simpa using hp.n3
  have b4 : (("self" : Str) == aa2) = false := by simpa using Ne.symm e1
  have b5 : (("__class__" : Str) == aa2) = false := by simpa using Ne.symm hp.n2
  have b6 : (("super" : Str) == aa2) = false := by simpa using Ne.symm hp.n3
  have ls : ([(("self" : Str), NameKind.local), (aa2, NameKind.local), (("__class__" : Str), NameKind.free), (("super" : Str), NameKind.globalImplicit)] : List (Str × NameKind)).lookup ("self" : Str) = some .local := by simp [List.lookup]
  have lp : ([(("self" : Str), NameKind.local), (aa2, NameKind.local), (("__class__" : Str), NameKind.free), (("super" : Str), NameKind.globalImplicit)] : List (Str × NameKind)).lookup aa2 = some .local := by simp [List.lookup, b1]
  have lc : ([(("self" : Str), NameKind.local), (aa2, NameKind.local), (("__class__" : Str), NameKind.free), (("super" : Str), NameKind.globalImplicit)] : List (Str × NameKind)).lookup ("__class__" : Str) = some .free := by
    simp [List.lookup, b5, show (("__class__" : Str) == ("self" : Str)) = false by decide +kernel]
  have lu : ([(("self" : Str), NameKind.local), (aa2, NameKind.local), (("__class__" : Str), NameKind.free), (("super" : Str), NameKind.globalImplicit)] : List (Str × NameKind)).lookup ("super" : Str) = some .globalImplicit := by
    simp [List.lookup, b6, show (("super" : Str) == ("self" : Str)) = false by decide +kernel, show (("super" : Str) == ("__class__" : Str)) = false by decide +kernel]
  refine ks_codeAny_call_defAt (binds := [(("self" : Str), .ref x), (aa2, v)]) hroom (X _ _ hf) rfl hlim (codeRec_of X hcd) rfl (BindsTo.of_eq (hp.bnd _ _ _ _ _ _ _ _ _ _ _ _ _ _ _ _ _ _ _)) ?cell ?loc ?body rfl rfl rfl
  case cell => simp
  case loc =>
    intro y hy
    rcases List.mem_cons.mp hy with rfl | hy
    · exact ls
    · rcases List.mem_cons.mp hy with rfl | hy
      · exact lp
      · cases hy
  case body =>
    intro h₁ hn k
    have X₁ : K.In h₁ := X.keeps k
    have hx₁ := k _ _ hx
    have G₁ : h₁.Ns mainGlobals mg := G.keepsP k
    have B₁ : h₁.Ns builtinsNs mb := B.keepsP k
    have hm1 : (fun y => ([(("self" : Str), Value.ref x), (aa2, v)] : List (Str × Value)).reverse.lookup y) ("self" : Str) = some (.ref x) := by simp [List.lookup, b4]
    have hm2 : (fun y => ([(("self" : Str), Value.ref x), (aa2, v)] : List (Str × Value)).reverse.lookup y) aa2 = some v := by simp [List.lookup]
    have hsup : mg "super" = none := mg_none_of X G T.sup
    have hC1 := X₁ _ _ hC
    refine ks_wpAt_execs_cons (ks_wpAt_Expr_any ?_ rfl rfl)
    refine ks_wpAt_MethodCall ?_ (call_form hq35 rfl)
    refine ks_wpAt_super_base (env := callEnv _ _ _) lu lc (by decide +kernel) rfl (X₁ _ _ hf) rfl rfl rfl (X₁ _ _ hcda) rfl hvs hfile T.top ?_
    refine ks_loadName_global rfl lu (loadGlobal_builtin (env := callEnv _ _ _) G₁ hsup B₁ ((hB _ (by decide +kernel)).trans (by decide +kernel)) ⟨rfl, ?_⟩)
    refine wpAny_loadName_free rfl lc rfl ⟨_, X₁ _ _ hcell, rfl⟩ ?_
    refine wpAny_loadName_local rfl ls hn hm1 ?_
    refine ks_wpAny_isType_cls hC1 rfl ⟨rfl, ?_⟩
    refine ks_wpAny_call_super hC1 rfl hx₁ rfl (fun c e => by cases e) (looks_mroIn X₁ T.selfC) (fun h₂ e₂ k₂ => ?_)
    have X₂ : K.In h₂ := X₁.keeps k₂
    have hx₂ := k₂ _ _ hx₁
    have hC2 := X₂ _ _ hC
    have I₂ : InstAt h₂ x (excO C t0) C none := ⟨hx₂, rfl, rfl, trivial⟩
    have hxC : x ≠ C := fun z => by rw [z, hC2] at hx₂; cases hx₂
    have hI2 : Looks (model prog w) h₂ (isInstance (.ref x) (.type "ValueError")) true := I₂.type.andThen (looks_subIn X₂ T.veC)
    refine kxs_getMethod kxs_ValueError (l₀ := .ref C :: bm) (l := bm) e₂ (looks_opaque X₂ T.opq) ((looks_clsIn X₂ hcl).andThen .now) (by simp [List.dropWhile_cons]) X₂ hal hI2 hxC (by decide +kernel) ?_
    dsimp only
    refine kxs_callWith (i := "ValueError.__init__") (x := x) rfl (evalArgs_plain (spliced_cons ?_))
    have kw : ∀ b o, h₂.get? b = some o → (h₂.push (kxs_mw "ValueError.__init__" x)).get? b = some o := fun b o e => Heap.get?_push_of_some _ e
    have hn₂ : (h₂.push (kxs_mw "ValueError.__init__" x)).Ns s.heap.objs.size (fun y => ([(("self" : Str), Value.ref x), (aa2, v)] : List (Str × Value)).reverse.lookup y) := (hn.keepsP k₂).keepsP kw
    refine wpAny_Name (wpAny_loadName_local rfl lp hn₂ hm2 ?_) hp.n4
    refine spliced_nil ⟨Heap.get?_push_at rfl rfl, ?_⟩
    refine bound_init (x := x) (t0 := t0) (kw _ _ hC2) (Heap.get?_push_at rfl rfl) (kw _ _ hx₂) (by rw [sizeLine_eq]; exact (by decide : 1 ≤ 16777216)) fun h₃ t1 k₃ hx₃ => ?_
    have hsz : s.heap.objs.size ≠ x := Nat.ne_of_gt (Heap.lt_size hx)
    have old : ∀ b o, b ≠ x → h₁.get? b = some o → h₃.get? b = some o := fun b o hb e => k₃ b o hb (kw b o (k₂ b o e))
    have X₃ : K.In h₃ := fun a o e => old a o (fun z => by rw [z, hnx] at e; cases e) (X₁ _ _ e)
    have hn₃ : h₃.Ns s.heap.objs.size (fun y => ([(("self" : Str), Value.ref x), (aa2, v)] : List (Str × Value)).reverse.lookup y) := by
      obtain ⟨o, es, ep, ho, r⟩ := hn
      exact ⟨o, es, ep, old _ _ hsz ho, r⟩
    refine ks_wpAt_execs_cons (ks_wpAt_Assign_Attr (wpAt_of_wpAny ?_) rfl)
    refine wpAny_Name (wpAny_loadName_local rfl lp hn₃ hm2 ?_) hp.n4
    refine wpAny_Name (wpAny_loadName_local rfl ls hn₃ hm1 ?_) (by decide +kernel)
    refine set_plain X₃ (ox := excO C t1) (od := none) ⟨hx₃, rfl, rfl, trivial⟩ T.sa ?_
    refine exc_osa X₃ hx₃ hcl (show refsVE (.ref C :: bm) = true from hbm) rfl T.no (fun h₄ tk₄ dx k₄ dn dne hx₄ hn₄ => ?_)
    refine wpAt_of_wpAny (wpAny_execs_nil (hq h₄ tk₄ dx ⟨fun b o hb e => k₄ b o hb (old b o hb (k b o e)), ⟨t1, hx₄⟩, Nat.le_of_lt (Nat.lt_of_lt_of_le hn₃.lt dn), dne, hn₄⟩))

/-- a made error -/
structure OwnMade (h h' : Heap) (e C d : Addr) (p : Str) (v : Value) : Prop where
  keep : ∀ b o, h.get? b = some o → h'.get? b = some o
  new : h.objs.size ≤ e
  obj : ∃ oe vs, h'.get? e = some oe ∧ oe.cls = .ref C ∧ oe.dict = some d ∧ oe.data = .fields vs ∧ vs[1]? = some .none
  dbig : h.objs.size ≤ d
  dne : d ≠ e
  ns : h'.Ns1 d (fun y => if y = p then some v else none)
theorem sup_made (T : SupC prog K C fI p) (hp : PName p) {v : Value} {mg mb : Str → Option Value} (X : K.In s.heap) (G : s.heap.Ns mainGlobals mg) (B : s.heap.Ns builtinsNs mb) (hB : ∀ x : Str, x ≠ "__name__" → mb x = bootBuiltins x)
    (hlim : s.heap.NoLimit) (hroom : A.depth + 1 < recursionLimit)
    (hq : ∀ h' tk e d, OwnMade s.heap h' e C d p v → R (.ok (.ret (.ref e))) { s with heap := h', toks := tk }) :
    codeAny (model prog w) A (.call (.ref C) ⟨[v], []⟩) R s := by
  obtain ⟨nm, q, N, bs, bm, sn, sub, ab, col, dd, k0, k1, k2, k3, k5, hC, hbm, _⟩ := T.cls
  obtain ⟨hp', g, dr, tk, os⟩ := s
  have k : ∀ b o, hp'.get? b = some o → ((hp'.push (kdv_tup [v])).push (excO C hp'.objs.size)).get? b = some o := fun b o e => Heap.get?_push_of_some _ (Heap.get?_push_of_some _ e)
  have hget : ((hp'.push (kdv_tup [v])).push (excO C hp'.objs.size)).get? (hp'.objs.size + 1) = some (excO C hp'.objs.size) := by heap_get
  have hnx : K.lookup (hp'.objs.size + 1) = none := by
    cases e : K.lookup (hp'.objs.size + 1) with
    | none => rfl
    | some o => exact absurd (Nat.lt_of_succ_lt (Heap.lt_size (show hp'.get? (hp'.objs.size + 1) = some o from X _ _ e))) (Nat.lt_irrefl _)
  refine call_own F.excBase_ValueError (fun X => refsVE_contains X bm hbm) (X _ _ hC) (looks_findIn X T.ini) (fun self => bind_fn X self T.tfn) (by rw [sizeLine_eq]; exact (by decide : 1 ≤ 16777216)) ?_
  refine sup_init (s := ⟨(hp'.push (kdv_tup [v])).push (excO C hp'.objs.size), g, dr, tk, os⟩) T hp (X.keeps k) (G.keepsP k) (B.keepsP k) hB (hlim.keeps k) hget hnx ?_ fun h' tk' dx ⟨k', ⟨t1, hx⟩, dn, dne, hns⟩ => ?_
  · show A.depth + 1 < recursionLimit
    exact hroom
  · have old : ∀ b o, hp'.get? b = some o → h'.get? b = some o := fun b o e => k' b o (Nat.ne_of_lt (Nat.lt_succ_of_lt (Heap.lt_size e))) (k b o e)
    have z : hp'.objs.size + 1 + 1 ≤ dx := by
      have q := dn
      simp only [Heap.size_push] at q
      exact q
    exact ⟨rfl, hq h' tk' (hp'.objs.size + 1) dx ⟨old, Nat.le_succ _, ⟨_, _, hx, rfl, rfl, rfl, rfl⟩, (by show hp'.objs.size ≤ dx; omega), dne, hns⟩⟩
end
end MR
namespace MR
open PySem PySem.Spec PyProof.Rows L2
theorem relO_one {p : Str} {v : V} {v' : Value} (r : RelV v v') (f : Str) : RelO (List.lookup f [(p, v)]) (if f = p then some v' else none) := by
  by_cases hw : f = p
  · subst hw
    rw [if_pos rfl]
    have q : List.lookup f [(f, v)] = some v := by simp [List.lookup]
    rw [q]
    exact r
  · rw [if_neg hw]
    have qw : (f == p) = false := by simpa using hw
    have q2 : List.lookup f [(p, v)] = none := by simp [List.lookup, qw]
    rw [q2]
    trivial
section
variable {X : Cx} {C fI : Addr} {p : Str}
/-- C(e): the error, its dict d new -/
def tMkS (C : Addr) (p : Str) (ta : TA) : L2.St → Hp → XK → Prop := fun σ H Q => ta σ H fun vs H1 => ∃ v, vs = [v] ∧ ∀ d, H1 d = none → Q (.ref C) (some d) (upd H1 d (.xd [(p, v)]))
theorem pmk_sup {a : Expr} {ta : TA} {x : Str} {p1 pos : Pos} {k : Nat} (T : SupC X.prog X.K C fI p) (hp : PName p) (gC : X.mg x = some (.ref C)) (hr : Room k X.A) (ha : PA X [a] ta) (hg : Gl X x := by rfl)
    (hdb : (x == ("__debug__" : Str)) = false := by decide)
    (he : starEach (a :: []) X.env = (false, eval a X.env) :: starEach [] X.env := by rfl) (hpl : (backTo pos (starEach [] X.env)).any (·.1) = false := by rfl) :
    PMk X (.Call (.Name x p1) [a] [] pos) (tMkS C p ta) := by
  intro pins s σ H Q I h
  refine wpAny_Call_Name_kw (ld_glob I hg gC ?_ hdb)
  refine PySem.W.callWith_K (h₀ := X.base) I.ok.mod.kin T.kC (thn (ha.run pos pins s σ H _ I h) fun us s1 hh => ?_) he hpl
  obtain ⟨vs, H1, I1, r1, v, ev, q1⟩ := hh
  subst ev
  refine ⟨I1.kIn, ?_⟩
  cases r1 with
  | cons rv rn =>
    rename_i v' us'
    cases rn
    show wpAny _ _ (call (.ref C) [v']) _ _ _
    have hlim := I1.nolimit
    have GG : s1.heap.Ns mainGlobals X.mg := I1.ok.mod.glob.keepsP I1.bk
    obtain ⟨mb, BB, hB⟩ := I1.ok.mod.blt
    have BB1 : s1.heap.Ns builtinsNs mb := BB.keepsP I1.bk
    obtain ⟨hp', g, dr, tk, os⟩ := s1
    refine wpAny_call (sup_made T hp I1.kIn GG BB1 hB hlim (by have := hr.dp; omega) fun h' tk' e d M => ?_)
    show MkP X pins σ Q (.ref e) ⟨h', g, dr, tk', os⟩
    obtain ⟨oe, fv, hoe, hc, hd, hdat, h1⟩ := M.obj
    have hns := M.ns
    obtain ⟨G', g1, g2⟩ := restrict h' fun b => decide (b ≠ e)
    have gk : ∀ b, b ≠ e → G'.get? b = h'.get? b := fun b hb => g1 b (decide_eq_true hb)
    have ge : G'.get? e = none := g2 e (by simp)
    have old : ∀ b o, hp'.get? b = some o → G'.get? b = some o := fun b o q => (gk b (Nat.ne_of_lt (Nat.lt_of_lt_of_le (Heap.lt_size q) M.new))).trans (M.keep b o q)
    have ob : ObjOk X.prog X.w (upd H1 d (.xd [(p, v)])) G' d (.xd [(p, v)]) := ⟨_, hns.at (fun o q => (gk d M.dne).trans q), fun f => relO_one rv f⟩
    have J : Inv X pins σ (upd H1 d (.xd [(p, v)])) ⟨G', g, dr, tk', os⟩ := I1.laid (t' := tk') old M.dbig ob
    refine ⟨e, oe, fv, ⟨G', g, dr, tk', os⟩, _, .ref C, some d, rfl, J, fun b o q => ?_, ge, hoe, ⟨hc, hd⟩, hdat, h1, ?_, rfl, I1.bare, raises_own T.exC T.tyC, q1 d (I1.hok.fresh M.dbig)⟩
    · by_cases hb : b = e
      · have q' : G'.get? b = some o := q
        rw [hb, ge] at q'; cases q'
      · exact (gk b hb).symm.trans q
    · rw [upd_ne (Ne.symm M.dne)]
      exact I1.hok.fresh M.new
/-- raise C(e) -/
def tRaiseS (C : Addr) (p : Str) (W : WX) (ta : TA) : TS := fun _ σ H => tMkS C p ta σ H fun cls d H' => W cls d σ H'
theorem ps_raiseS {a : Expr} {ta : TA} {W : WX} {x : Str} {p1 pos pos2 : Pos} {k : Nat} (hc : X.calm = true) (T : SupC X.prog X.K C fI p) (hp : PName p) (gC : X.mg x = some (.ref C)) (hr : Room k X.A) (tk : Takes X W) (ha : PA X [a] ta) (hg : Gl X x := by rfl)
    (hdb : (x == ("__debug__" : Str)) = false := by decide)
    (he : starEach (a :: []) X.env = (false, eval a X.env) :: starEach [] X.env := by rfl) (hpl : (backTo pos (starEach [] X.env)).any (·.1) = false := by rfl) :
    PS X (.Raise (some (.Call (.Name x p1) [a] [] pos)) none pos2) (tRaiseS C p W ta) := ps_raise hc tk (pmk_sup T hp gC hr ha hg hdb he hpl)
end
end MR

set_option Elab.async false
set_option linter.all false
set_option maxRecDepth 100000
set_option maxHeartbeats 4000000
/-! MR: isinstance of the error that a suite holds, whether it has a dict or not -/
namespace MR
open PySem PySem.Spec PyProof.Rows L2
def rIsX (K : PySem.W.Frag) (a : Addr) (cls : Value) (d : Option Addr) : List V → Hp → VK → Prop := fun xs H Q => ∃ (D : Addr) (c : V) (cv : Value) (b : Bool), xs = [.ref a, c] ∧ cls = .ref D ∧ ExcC K D ∧ ClsV c cv ∧ PySem.W.kitOne K (.ref D) cv = some b ∧
  (d = none ∨ ∃ dd fs, d = some dd ∧ H dd = some (.xd fs)) ∧ Q (.bl b) H
theorem call_isX {X : Cx} {a : Addr} {oe : Obj} {cls : Value} {d : Option Addr} {pn : List (Addr × Obj)} (hz : Zc cls d oe) (hf : ∃ vs, oe.data = .fields vs) : CallR (X.suite a ((a, oe) :: pn)) (.builtin "isinstance") (rIsX X.K a cls d) := by
  intro pins s σ H xs us Q I r h
  obtain ⟨D, c, cv, b, rfl, ecls, C, hcv, e, hd, q⟩ := h
  cases r with
  | cons rx rr =>
    cases rr with
    | cons rt rr =>
      cases rr
      cases rx
      have ec := hcv.eq rt
      subst ec
      have hget : s.heap.get? a = some oe := (I.pin (a, oe) (List.mem_append.mpr (.inl List.mem_cons_self))).1
      obtain ⟨vs, hv⟩ := hf
      have J : ∃ od, PySem.W.InstAt s.heap a oe D od := by
        obtain ⟨oc, od, oda, osl⟩ := oe
        obtain ⟨h1, h2⟩ := hz
        dsimp only at h1 h2 hv
        subst h1 h2 hv
        cases ecls
        rcases hd with rfl | ⟨dd, fs, rfl, hx⟩
        · exact ⟨none, hget, rfl, rfl, trivial⟩
        · have hx' : ObjOk X.prog X.w H s.heap dd (.xd fs) := I.hok dd _ hx
          obtain ⟨mA, hns, _⟩ := hx'
          obtain ⟨od, ho, _⟩ := lookIn_ns hns
          exact ⟨some od, hget, rfl, rfl, ho⟩
      obtain ⟨od, J⟩ := J
      have hc : (PySem.W.clsIn X.K D).isSome = true := by
        obtain ⟨cd, hc, _⟩ := PySem.W.any_some C.hd
        rw [hc]
        rfl
      exact PySem.W.kia_one (PySem.W.kitx_exc hc C.hg C.hk C.hs C.ha C.hn C.ht C.hm) I.kIn J e (fun z => nomatch z) fun tk => ⟨.bl b, H, I.kept (t' := tk) fun _ _ z => z, rfl, q⟩
end MR

set_option Elab.async false
set_option linter.all false
set_option maxRecDepth 100000
set_option maxHeartbeats 4000000
/-! MR: rules in the form that the program's walks take -/
namespace MR
open PySem PySem.Spec PyProof.Rows L2
/-! ### a def, a method, a class as the walk takes it -/
abbrev CXX (P : Program) (w : World) : CXT := L2.CX P w
/-- the module's name x is a def that keeps sp; dvs: the defaults of the last parameters -/
def DefOk (P : Program) (w : World) (K : PySem.W.Frag) (mg : Str → Option Value) (base : Heap) (k : Nat) (x : Str) (dvs : List V) (sp : Sp) : Prop :=
  ∃ (f : Addr) (fd : FuncData) (ps : List Str) (ds : List Value), mg x = some (.ref f) ∧ PySem.W.keepIn K (.ref f) = true ∧ FnOk P w K mg base (CXX P w) k f fd ps sp ∧ Binds K fd ps ds ∧ Vals dvs ds
def MethOk (P : Program) (w : World) (K : PySem.W.Frag) (mg : Str → Option Value) (base : Heap) (k : Nat) (C : Addr) (m : Str) (dvs : List V) (sp : Sp) : Prop :=
  ∃ (f : Addr) (fd : FuncData) (ps : List Str) (ds : List Value), Cls K C ∧ Meth K C m f ∧ FnOk P w K mg base (CXX P w) k f fd ps sp ∧ Binds K fd ps ds ∧ Vals dvs ds
def MakeOk (P : Program) (w : World) (K : PySem.W.Frag) (mg : Str → Option Value) (base : Heap) (k : Nat) (x : Str) (C : Addr) (dvs : List V) (sp : Sp) : Prop :=
  ∃ (f : Addr) (fd : FuncData) (ps : List Str) (ds : List Value), mg x = some (.ref C) ∧ Mk K C f ∧ FnOk P w K mg base (CXX P w) k f fd ps sp ∧ Binds K fd ps ds ∧ Vals dvs ds
def MakeKOk (P : Program) (w : World) (K : PySem.W.Frag) (mg : Str → Option Value) (base : Heap) (k : Nat) (x : Str) (C : Addr) (n : Nat) (ks : List Str) (gV : List V → List V → List V) (sp : Sp) : Prop :=
  ∃ (f : Addr) (fd : FuncData) (ps : List Str) (g : List Value → List Value → List Value), mg x = some (.ref C) ∧ Mk K C f ∧ FnOk P w K mg base (CXX P w) k f fd ps sp ∧ KBn K fd ps (n + 1) ks g gV
section
variable {X : Cx} {k : Nat} {C : Addr} {sp : Sp} {dvs : List V} {E : XK} {x m : Str} {p pos apos : Pos} {e o : Expr} {es : List Expr} {ta : TE} {t : TA}
theorem pe_callD (D : DefOk X.prog X.w X.K X.mg X.base k x dvs sp) (hr : Room k X.A) (hg : Gl X x) (hx : Passes (CXX X.prog X.w) X E)
    (ha : PA X (e :: es) t) (hdb : (x == ("__debug__" : Str)) = false := by decide) (he : starEach (e :: es) X.env = (false, eval e X.env) :: starEach es X.env := by rfl) (hpl : (backTo pos (starEach es X.env)).any (·.1) = false := by rfl) :
    PE X (.Call (.Name x p) (e :: es) [] pos) (tCall sp dvs E t) := by
  obtain ⟨f, fd, ps, ds, h1, h2, h3, h4, h5⟩ := D
  exact pe_call h3 hr hg h1 h2 h4 h5 hx ha hdb he hpl
theorem pe_callD0 (D : DefOk X.prog X.w X.K X.mg X.base k x dvs sp) (hr : Room k X.A) (hg : Gl X x) (hx : Passes (CXX X.prog X.w) X E) (hdb : (x == ("__debug__" : Str)) = false := by decide) :
    PE X (.Call (.Name x p) [] [] pos) (tCall sp dvs E tNil) := by
  obtain ⟨f, fd, ps, ds, h1, h2, h3, h4, h5⟩ := D
  exact pe_call0 h3 hr hg h1 h2 h4 h5 hx hdb
theorem pe_makeD (D : MakeOk X.prog X.w X.K X.mg X.base k x C dvs sp) (hr : Room (k + 1) X.A) (hg : Gl X x) (hx : Passes (CXX X.prog X.w) X E)
    (ha : PA X (e :: es) t) (hdb : (x == ("__debug__" : Str)) = false := by decide) (he : starEach (e :: es) X.env = (false, eval e X.env) :: starEach es X.env := by rfl) (hpl : (backTo pos (starEach es X.env)).any (·.1) = false := by rfl) :
    PE X (.Call (.Name x p) (e :: es) [] pos) (tMake C sp dvs E t) := by
  obtain ⟨f, fd, ps, ds, h1, h2, h3, h4, h5⟩ := D
  exact pe_make h2 h3 hr hg h1 h4 h5 hx ha hdb he hpl
theorem pe_methD {pl : Sem Bool} (he : PE X o ta) (D : MethOk X.prog X.w X.K X.mg X.base k C m dvs sp) (hr : Room k X.A) (hx : Passes (CXX X.prog X.w) X E) (ha : PA X (e :: es) t)
    (hst : starEach (e :: es) X.env = (false, eval e X.env) :: starEach es X.env := by rfl) (hpl : (backTo pos (starEach es X.env)).any (·.1) = false := by rfl)
    (ht : eval (.Call (.Attribute o m apos) (e :: es) [] pos) X.env = (do
      let ov ← eval o X.env
      standAt apos.atName
      let (f, first) ← holding [ov] (getMethod ov m pl)
      callWith pos f first (backTo pos (starEach (e :: es) X.env)) (backToKw pos (keywordEach [] X.env))) := by rfl) :
    PE X (.Call (.Attribute o m apos) (e :: es) [] pos) (tMeth C m sp dvs E ta t) := by
  obtain ⟨f, fd, ps, ds, h1, h2, h3, h4, h5⟩ := D
  exact pe_meth he h1 h2 h3 hr h4 h5 hx ha hst hpl ht
theorem pe_methD0 {pl : Sem Bool} (he : PE X o ta) (D : MethOk X.prog X.w X.K X.mg X.base k C m dvs sp) (hr : Room k X.A) (hx : Passes (CXX X.prog X.w) X E)
    (ht : eval (.Call (.Attribute o m apos) [] [] pos) X.env = (do
      let ov ← eval o X.env
      standAt apos.atName
      let (f, first) ← holding [ov] (getMethod ov m pl)
      callWith pos f first (backTo pos (starEach [] X.env)) (backToKw pos (keywordEach [] X.env))) := by rfl) :
    PE X (.Call (.Attribute o m apos) [] [] pos) (tMeth C m sp dvs E ta tNil) := by
  obtain ⟨f, fd, ps, ds, h1, h2, h3, h4, h5⟩ := D
  exact pe_meth0 he h1 h2 h3 hr h4 h5 hx ht
/-- within a try: what is raised is wished for at the slots -/
def tMakeS (C : Addr) (sp : Sp) (dvs : List V) (E : L2.St → XK) (t : TA) : TE := fun σ H Q => t σ H fun vs H1 => ∀ x dx, H1 x = none → H1 dx = none → dx ≠ x →
  sp (.ref x :: (vs ++ dvs)) (upd (upd H1 dx (.own x)) x (.ins C dx [])) (fun v H2 => v = .non ∧ Q (.ref x) H2) (E σ)
theorem pe_callDS {E : L2.St → XK} (D : DefOk X.prog X.w X.K X.mg X.base k x dvs sp) (hr : Room k X.A) (hg : Gl X x) (hx : ∀ σ, PassesAt (CXX X.prog X.w) X σ (E σ))
    (ha : PA X (e :: es) t) (hdb : (x == ("__debug__" : Str)) = false := by decide) (he : starEach (e :: es) X.env = (false, eval e X.env) :: starEach es X.env := by rfl) (hpl : (backTo pos (starEach es X.env)).any (·.1) = false := by rfl) :
    PE X (.Call (.Name x p) (e :: es) [] pos) (tCallSD sp dvs E t) := by
  obtain ⟨f, fd, ps, ds, h1, h2, h3, h4, h5⟩ := D
  exact pe_callSD h3 hr hg h1 h2 h4 h5 hx ha hdb he hpl
theorem run_makeS {E : L2.St → XK} {f : Addr} {fd : FuncData} {ps : List Str} {ds : List Value} {pins : List (Addr × Obj)} {σ : L2.St} {H : Hp} {s : Shared} {Q : VK} {us : List Value} {vs : List V} (M : Mk X.K C f) (F : FnOk X.prog X.w X.K X.mg X.base (CXX X.prog X.w) k f fd ps sp) (hr : Room (k + 1) X.A) (hb : Binds X.K fd ps ds) (hd : Vals dvs ds)
    (hx : PassesAt (CXX X.prog X.w) X σ (E σ)) (I : Inv X pins σ H s) (r : Vals vs us)
    (h : ∀ x dx, H x = none → H dx = none → dx ≠ x → sp (.ref x :: (vs ++ dvs)) (upd (upd H dx (.own x)) x (.ins C dx [])) (fun v H2 => v = .non ∧ Q (.ref x) H2) (E σ)) :
    wpAny (model X.prog X.w) X.A (call (.ref C) us) (EP X pins σ Q) X.xe s := by
  have hq := h (s.heap.objs.size + 1) s.heap.objs.size (I.hok.fresh (Nat.le_succ _)) (I.hok.fresh (Nat.le_refl _)) (Nat.ne_of_lt (Nat.lt_succ_self _))
  have J := Inv.made (C := C) I
  have rr : Vals (V.ref (s.heap.objs.size + 1) :: (vs ++ dvs)) (Value.ref (s.heap.objs.size + 1) :: (us ++ ds)) := .cons rfl (r.append hd)
  have len : (Value.ref (s.heap.objs.size + 1) :: us ++ ds).length = ps.length := rr.length.symm.trans (F.len _ _ _ _ hq)
  refine wpAny_call (make_map (f := f) I.kIn M.makes M.init (beq_iff_eq.mp M.fn) (codeAny_mono (F.run _ X.stack _ _ ⟨Value.ref (s.heap.objs.size + 1) :: us, []⟩ (Value.ref (s.heap.objs.size + 1) :: (us ++ ds)) _ _ (E σ) (hr.make C us []) (J.env0.make C us []) (hb _ (Value.ref (s.heap.objs.size + 1) :: us) J.kIn len) rr hq) fun res s' z => ?_))
  match res, z with
  | .error er, z => exact hx pins _ _ er s' J z
  | .ok (.ret u), z =>
    obtain ⟨v, H', J', rv, ev, q⟩ := J.after z
    subst ev
    exact ⟨rv, ⟨V.ref (s.heap.objs.size + 1), H', J', rfl, q⟩⟩
  | .ok .next, z => exact False.elim z
  | .ok .brk, z => exact False.elim z
  | .ok .cont, z => exact False.elim z
theorem pe_makeDS {E : L2.St → XK} (D : MakeOk X.prog X.w X.K X.mg X.base k x C dvs sp) (hr : Room (k + 1) X.A) (hg : Gl X x) (hx : ∀ σ, PassesAt (CXX X.prog X.w) X σ (E σ))
    (ha : PA X (e :: es) t) (hdb : (x == ("__debug__" : Str)) = false := by decide) (he : starEach (e :: es) X.env = (false, eval e X.env) :: starEach es X.env := by rfl) (hpl : (backTo pos (starEach es X.env)).any (·.1) = false := by rfl) :
    PE X (.Call (.Name x p) (e :: es) [] pos) (tMakeS C sp dvs E t) := by
  obtain ⟨f, fd, ps, ds, h1, h2, h3, h4, h5⟩ := D
  refine ⟨fun pins s σ H Q I h => ?_⟩
  refine wpAny_Call_Name_kw (ld_glob I hg h1 ?_ hdb)
  refine PySem.W.callWith_K (h₀ := X.base) I.ok.mod.kin h2.kp (thn (ha.run pos pins s σ H _ I h) fun us s1 hh => ?_) he hpl
  obtain ⟨vs, H1, I1, r, q⟩ := hh
  exact ⟨I1.kIn, run_makeS h2 h3 hr h4 h5 (hx σ) I1 r q⟩
theorem pe_makeKD0 {ks : List Str} {gV : List V → List V → List V} {kws : List Keyword} {tk : TA} (D : MakeKOk X.prog X.w X.K X.mg X.base k x C 0 ks gV sp) (hr : Room (k + 1) X.A) (hg : Gl X x) (hx : Passes (CXX X.prog X.w) X E) (hkw : PK X kws tk)
    (hall : (backToKw pos (keywordEach kws X.env)).all (·.1.isSome) = true := by rfl) (hks : (backToKw pos (keywordEach kws X.env)).filterMap (·.1) = ks := by rfl) (hdb : (x == ("__debug__" : Str)) = false := by decide)
    (hpl : ((backTo pos (starEach [] X.env)).any (·.1) || (backToKw pos (keywordEach kws X.env)).any (·.1.isNone)) = false := by rfl) : PE X (.Call (.Name x p) [] kws pos) (tMakeK C 0 ks.length sp gV E tNil tk) := by
  obtain ⟨f, fd, ps, g, h1, h2, h3, h4⟩ := D
  exact pe_makeK0 h2 h3 hr hg h1 h4 hx hkw hall hks hdb hpl
/-- what leaves a def's body by a call -/
theorem pass_on {W : WX} (tk : Takes X W) (hW : ∀ cls d σ H, E cls d H → W cls d σ H) : Passes (CXX X.prog X.w) X E := passes_call tk hW
end
/-! ### ints -/
def CDivZ (_ j : Int) : Prop := j ≠ 0 ∧ j.natAbs.log2 < 9000
section
variable {X : Cx}
theorem op_fdivZ : OpR X (binaryOp .FloorDiv) (rI CDivZ fun i j => .int (i.fdiv j)) := opI fun _ _ _ _ _ _ _ hc q => floordiv_int hc.1 q (.inl (PyProof.noPylong_of_log2 hc.2))
/-- xs[i] read on the way of xs[i] += e -/
theorem get_list : PGet X (fun x y H Q => ∃ p xs i v, x = .ref p ∧ y = .int i ∧ 0 ≤ i ∧ SqL X.K H p xs ∧ xs[i.toNat]? = some v ∧ Q v H) := by
  intro pins s σ H x y v u Q I rx ry h
  obtain ⟨p, xs, i, z, rfl, rfl, h0, hq, he, q⟩ := h
  cases rx
  obtain ⟨t, rfl⟩ := ry
  obtain ⟨its, r, pl, hz⟩ := I.list hq
  obtain ⟨w, ew, rw'⟩ := r.get he
  have hn := line63
  have hlt : i.toNat < xs.length := (List.getElem?_eq_some_iff.mp he).1
  exact wpAny_getItem_list pl.isList h0 (by omega) (by simpa using ew) ⟨z, H, I, rw', q⟩
end
end MR
namespace MR
open PySem PySem.Spec PyProof.Rows L2
/-! ### short names of readings -/
abbrev rAdd0 : R2 := rI0 fun i j => .int (i + j)
abbrev rSub0 : R2 := rI0 fun i j => .int (i - j)
abbrev rMulI : R2 := rI IntMulOk fun i j => .int (i * j)
abbrev rDivZ : R2 := rI CDivZ fun i j => .int (i.fdiv j)
abbrev rModN : R2 := rI (fun _ j => j ≠ 0) fun i j => .int (i.fmod j)
abbrev rPow0 : R2 := rI CPow fun i j => .int (i ^ j.toNat)
abbrev rLt0 : R2 := rI0 fun i j => .bl (decide (i < j))
abbrev rLe0 : R2 := rI0 fun i j => .bl (decide (i ≤ j))
abbrev rGt0 : R2 := rI0 fun i j => .bl (decide (j < i))
abbrev rGe0 : R2 := rI0 fun i j => .bl (decide (j ≤ i))
abbrev rIsN0 : R2 := fun x y H Q => y = .non ∧ Q (.bl (decide (x = .non))) H
abbrev rNotN0 : R2 := fun x y H Q => y = .non ∧ Q (.bl (!decide (x = .non))) H
abbrev rNeg0 : V → Hp → VK → Prop := rU fun i => .int (-i)
abbrev rAddS : R2 := fun x y H Q => ∃ i j, x = .str i ∧ y = .str j ∧ i.length + j.length ≤ sizeLine ∧ Q (.str (i ++ j)) H
abbrev rAbs0 : List V → Hp → VK → Prop := fun xs H Q => ∃ i, xs = [.int i] ∧ Q (.int (if i < 0 then -i else i)) H
abbrev rMax0 : List V → Hp → VK → Prop := fun xs H Q => ∃ i j, xs = [.int i, .int j] ∧ Q (.int (if j > i then j else i)) H
abbrev rMin0 : List V → Hp → VK → Prop := fun xs H Q => ∃ i j, xs = [.int i, .int j] ∧ Q (.int (if j < i then j else i)) H
abbrev rInt0 : List V → Hp → VK → Prop := fun xs H Q => (∃ i, xs = [.int i] ∧ Q (.int i) H) ∨ ∃ k, xs = [.bl k] ∧ Q (.int (if k then 1 else 0)) H
abbrev rGetL (K : PySem.W.Frag) : V → V → Hp → VK → Prop := fun x y H Q => ∃ p xs i v, x = .ref p ∧ y = .int i ∧ 0 ≤ i ∧ SqL K H p xs ∧ xs[i.toNat]? = some v ∧ Q v H
abbrev rListOf0 (K : PySem.W.Frag) : List V → Hp → VK → Prop := fun xs H Q => ∃ p ys, xs = [.ref p] ∧ (SqL K H p ys ∨ SqT K H p ys) ∧ ∀ l, H l = none → Q (.ref l) (upd H l (.lst ys))
abbrev rLenA (K : PySem.W.Frag) : List V → Hp → VK → Prop := fun xs H Q => ∃ x n, xs = [x] ∧ LenV K x H n ∧ Q (.int n) H
abbrev tTruA (K : PySem.W.Frag) (ta : TE) : TT := fun σ H Q => ta σ H fun x H1 => ∃ k, TruV K x H1 k ∧ Q k H1
theorem op_mulI {X : Cx} : OpR X (binaryOp .Mult) rMulI := opI fun _ _ _ _ _ _ _ hc q => mul_int q hc
/-! ### sizes -/
theorem mul_ok {i j : Int} {a b : Nat} (ha : i.natAbs < 2 ^ a) (hb : j.natAbs < 2 ^ b) (h0 : 0 < a) (h1 : 0 < b) (h : a + b ≤ 1000000) : IntMulOk i j := (wide_mul ha hb h0 h1 h).ok
theorem mul_okL {i j : Int} (h : i.natAbs < 2 ^ 64) : IntMulOk i j := CMul.ok (.inl (by omega))
theorem mul_okR {i j : Int} (h : j.natAbs < 2 ^ 64) : IntMulOk i j := CMul.ok (.inr (by omega))
theorem div_ok {i j : Int} {b : Nat} (h : j ≠ 0) (hb : j.natAbs < 2 ^ b) (h0 : 0 < b) (h9 : b ≤ 9000) : CDivZ i j := ⟨h, Nat.lt_of_lt_of_le (PySem.Flt.log2_lt_of h0 hb) h9⟩
/-! ### heaps -/
theorem same_new {H : Hp} {p : Addr} {o : HO} (h : H p = none) : Same H (upd H p o) := fun b u e => by
  rw [upd_ne (ne_of_none e h)]
  exact e
/-- all but f is as it was -/
def Keep (f : Addr) (H H' : Hp) : Prop := ∀ b o, H b = some o → b ≠ f → H' b = some o
theorem Keep.refl (f : Addr) (H : Hp) : Keep f H H := fun _ _ h _ => h
theorem Keep.trans {f : Addr} {H H1 H2 : Hp} (a : Keep f H H1) (b : Keep f H1 H2) : Keep f H H2 := fun c o h n => b c o (a c o h n) n
theorem Same.keep {f : Addr} {H H1 : Hp} (a : Same H H1) : Keep f H H1 := fun c o h _ => a c o h
theorem keep_upd {f : Addr} {H : Hp} {o : HO} : Keep f H (upd H f o) := fun b u e n => by rw [upd_ne n]; exact e
end MR

/-! MR: the mathematics of fractions -/
namespace MR
theorem fdiv_num {a b : Int} (hb : 0 < b) : a.fdiv (a.gcd b : Int) = (Rat.divInt a b).num := by
  have hg : (a.gcd b : Int) ∣ a := Int.gcd_dvd_left ..
  rw [Rat.num_divInt, Int.fdiv_eq_ediv_of_dvd hg, Int.sign_eq_one_of_pos hb, Int.one_mul, Int.gcd_comm]
theorem fdiv_den {a b : Int} (hb : 0 < b) : b.fdiv (a.gcd b : Int) = ((Rat.divInt a b).den : Int) := by
  have hg : (a.gcd b : Int) ∣ b := Int.gcd_dvd_right ..
  have hn : b ≠ 0 := by omega
  rw [Rat.den_divInt, if_neg hn, Int.fdiv_eq_ediv_of_dvd hg, Int.gcd_comm, Int.natCast_ediv]
  congr 1
  omega
theorem fdiv_numN {a b : Int} (hb : b < 0) : a.fdiv (-(a.gcd b : Int)) = (Rat.divInt a b).num := by
  have h := fdiv_num (a := -a) (b := -b) (by omega)
  rw [Rat.neg_divInt_neg, Int.gcd_neg, Int.neg_gcd] at h
  have e := Int.neg_fdiv_neg (-a) (a.gcd b : Int)
  rw [Int.neg_neg] at e
  rw [e, h]
theorem fdiv_denN {a b : Int} (hb : b < 0) : b.fdiv (-(a.gcd b : Int)) = ((Rat.divInt a b).den : Int) := by
  have h := fdiv_den (a := -a) (b := -b) (by omega)
  rw [Rat.neg_divInt_neg, Int.gcd_neg, Int.neg_gcd] at h
  have e := Int.neg_fdiv_neg (-b) (a.gcd b : Int)
  rw [Int.neg_neg] at e
  rw [e, h]
theorem divInt_parts {a b : Int} (hb : b ≠ 0) : ∃ m : Int, m ≠ 0 ∧ a = (Rat.divInt a b).num * m ∧ b = ((Rat.divInt a b).den : Int) * m := by
  obtain ⟨m, h1, h2, h3⟩ := Rat.divInt_num_den (n := a) (d := b) (n' := (Rat.divInt a b).num) (d' := (Rat.divInt a b).den) (z' := (Rat.divInt a b).den_nz) (c := (Rat.divInt a b).reduced) hb rfl
  exact ⟨m, h1, h2, h3⟩
theorem divInt_cross {a b : Int} (hb : b ≠ 0) : (Rat.divInt a b).num * b = a * ((Rat.divInt a b).den : Int) := by
  have hd : ((Rat.divInt a b).den : Int) ≠ 0 := by
    have := (Rat.divInt a b).den_nz
    omega
  exact (Rat.divInt_eq_divInt_iff hd hb).mp (Rat.num_divInt_den _)
theorem num_le {a b : Int} (hb : b ≠ 0) : (Rat.divInt a b).num.natAbs ≤ a.natAbs := by
  obtain ⟨m, h1, h2, _⟩ := divInt_parts (a := a) hb
  have e : a.natAbs = (Rat.divInt a b).num.natAbs * m.natAbs := by
    rw [← Int.natAbs_mul, ← h2]
  rw [e]
  exact Nat.le_mul_of_pos_right _ (by omega)
theorem den_le {a b : Int} (hb : b ≠ 0) : (Rat.divInt a b).den ≤ b.natAbs := by
  obtain ⟨m, h1, _, h3⟩ := divInt_parts (a := a) hb
  have e : b.natAbs = ((Rat.divInt a b).den : Int).natAbs * m.natAbs := by
    rw [← Int.natAbs_mul, ← h3]
  rw [e, Int.natAbs_natCast]
  exact Nat.le_mul_of_pos_right _ (by omega)
theorem rat_gcd (q : Rat) : q.num.gcd (q.den : Int) = 1 := q.reduced
end MR

set_option Elab.async false
set_option linter.all false
set_option maxRecDepth 100000
set_option maxHeartbeats 4000000
/-! MR: is_integer, common_part, Ratio() -/
namespace MR
open PySem PySem.Spec PyProof.Rows L2
/-- b is the answer to: is x an integer? -/
def IntQ (K : PySem.W.Frag) (H : Hp) (x : V) (b : Bool) : Prop := ∃ (t : Value) (b1 : Bool), TyX K H x t ∧ PySem.W.kitOne K t (.type "int") = some b1 ∧ (b1 = false → b = false) ∧ (b1 = true → ∃ b2, PySem.W.kitOne K t (.type "bool") = some b2 ∧ b = !b2)
theorem intQ_int {K : PySem.W.Frag} {H : Hp} {i : Int} : IntQ K H (.int i) true := ⟨_, true, .base (.int i), kit_ty (by decide +kernel), fun z => (by cases z), fun _ => ⟨false, kit_ty (by decide +kernel), rfl⟩⟩
theorem intQ_bl {K : PySem.W.Frag} {H : Hp} {i : Bool} : IntQ K H (.bl i) false := ⟨_, true, .base (.bl i), kit_ty (by decide +kernel), fun z => (by cases z), fun _ => ⟨true, kit_ty (by decide +kernel), rfl⟩⟩
theorem intQ_non {K : PySem.W.Frag} {H : Hp} : IntQ K H .non false := ⟨_, false, .base .non, kit_ty (by decide +kernel), fun _ => rfl, fun z => nomatch z⟩
theorem intQ_str {K : PySem.W.Frag} {H : Hp} {x : Str} : IntQ K H (.str x) false := ⟨_, false, .base (.str x), kit_ty (by decide +kernel), fun _ => rfl, fun z => nomatch z⟩
theorem intQ_lst {K : PySem.W.Frag} {H : Hp} {a : Addr} {xs : List V} (h : H a = some (.lst xs)) : IntQ K H (.ref a) false := ⟨_, false, .base (.lst h), kit_ty (by decide +kernel), fun _ => rfl, fun z => nomatch z⟩
theorem intQ_tup {K : PySem.W.Frag} {H : Hp} {a : Addr} {xs : List V} (h : H a = some (.tup xs)) : IntQ K H (.ref a) false := ⟨_, false, .base (.tup h), kit_ty (by decide +kernel), fun _ => rfl, fun z => nomatch z⟩
/-- what the written part says of an own class without surprises -/
structure OwnC (K : PySem.W.Frag) (C : Addr) : Prop where
  cl : Cls K C
  ha : PySem.W.findIn K (.ref C) "__class__" = some (some (.builtin "object.__class__"))
  hn : PySem.W.specialIn K (.builtin "object.__class__") "__get__" = some (some (.builtin "getset_descriptor.__get__"))
  ht : PySem.W.takesIn K (.builtin "object.__class__") = some true
  hm : PySem.W.mroIn K C (.type "object") = some true
  ki : PySem.W.kitOne K (.ref C) (.type "int") = some false
theorem OwnC.ty {K : PySem.W.Frag} {H : Hp} {C a dx : Addr} {fs : List (Str × V)} (T : OwnC K C) (h : H a = some (.ins C dx fs)) : TyX K H (.ref a) (.ref C) := .base (.ins h T.cl T.ha T.hn T.ht T.hm)
theorem intQ_ins {K : PySem.W.Frag} {H : Hp} {C a dx : Addr} {fs : List (Str × V)} (T : OwnC K C) (h : H a = some (.ins C dx fs)) : IntQ K H (.ref a) false := ⟨_, false, T.ty h, T.ki, fun _ => rfl, fun z => nomatch z⟩
def spIsInt (K : PySem.W.Frag) : Sp := fun vs H Q _ => ∃ (x : V) (b : Bool), vs = [x] ∧ IntQ K H x b ∧ Q (.bl b) H
def t_is_integer (K : PySem.W.Frag) : TS :=
  (tRet (tAndV (tCB (rIsi K) (tCons (tVar 0) (tCons (tC (.ty "int")) tNil))) (tNotV (tCB (rIsi K) (tCons (tVar 0) (tCons (tC (.ty "bool")) tNil))))))
theorem pure_is_integer {K : PySem.W.Frag} (vs : List V) (H : Hp) (Q : VK) (E : XK) (h : spIsInt K vs H Q E) : t_is_integer K { nx := fun _ H' => Q .non H', rt := Q } (start ["value"] vs) H := by
  obtain ⟨x, b, rfl, ⟨t, b1, ty, k1, c1, c2⟩, q⟩ := h
  refine ⟨_, rfl, x, _, t, _, b1, rfl, .ty "int", ty, k1, b1, rfl, ?_⟩
  cases b1 with
  | false =>
    rw [c1 rfl] at q
    exact iteF q
  | true =>
    obtain ⟨b2, k2, rfl⟩ := c2 rfl
    exact iteT ⟨_, rfl, x, _, t, _, b2, rfl, .ty "bool", ty, k2, b2, rfl, q⟩
def spGcd : Sp := fun vs H Q _ => ∃ a b : Int, vs = [.int a, .int b] ∧ Q (.int (a.gcd b : Nat)) H
def t_common_part (K : PySem.W.Frag) : TS :=
  (tSeq (tPar 0 1 (tCons (tCB rAbs0 (tCons (tVar 0) tNil)) (tCons (tCB rAbs0 (tCons (tVar 1) tNil)) tNil)))
  (tSeq (tWhile (tTest (tOp rGt0 (tVar 1) (tC (.int 0)))) (tPar 0 1 (tCons (tVar 1) (tCons (tOp rModN (tVar 0) (tVar 1)) tNil))))
  (tRet (tVar 0))))
theorem abs_if (i : Int) : (if i < 0 then -i else i) = (i.natAbs : Int) := by omega
theorem pure_common_part {K : PySem.W.Frag} (vs : List V) (H : Hp) (Q : VK) (E : XK) (h : spGcd vs H Q E) : t_common_part K { nx := fun _ H' => Q .non H', rt := Q } (start ["one", "other"] vs) H := by
  obtain ⟨a, b, rfl, q⟩ := h
  refine ⟨_, rfl, _, rfl, _, rfl, _, rfl, _, _, rfl, ?_⟩
  rw [abs_if, abs_if]
  refine while_by (fun σ H' => H' = H ∧ ∃ x y : Nat, σ = [some (.int x), some (.int y)] ∧ x.gcd y = a.gcd b) (fun σ _ => match σ with | [_, some (.int y)] => y.toNat | _ => 0) ⟨rfl, _, _, rfl, rfl⟩ ?_ ?_
  · rintro σ H' ⟨rfl, x, y, rfl, hg⟩
    refine ⟨_, rfl, _, _, rfl, rfl, _, rfl, ?_⟩
    refine ite2 (fun c => ?_) (fun c => ?_)
    · have hy : 0 < y := by
        have := of_decide_eq_true c
        omega
      refine ⟨_, rfl, _, rfl, _, rfl, _, _, rfl, rfl, (by omega), _, _, rfl, ⟨rfl, y, x % y, ?_, ?_⟩, ?_⟩
      · show [some (V.int y), some (V.int ((x : Int).fmod y))] = _
        rw [Int.fmod_eq_emod_of_nonneg _ (by omega)]
        rfl
      · rw [← hg, Nat.gcd_comm x y, Nat.gcd_rec y x, Nat.gcd_comm]
      · show ((x : Int).fmod y).toNat < (y : Int).toNat
        rw [Int.fmod_eq_emod_of_nonneg _ (by omega)]
        have := Nat.mod_lt x hy
        omega
    · have hy : y = 0 := by
        rw [decide_eq_true_eq] at c
        omega
      subst hy
      refine ⟨_, rfl, ?_⟩
      rw [Nat.gcd_zero_right] at hg
      rw [hg]
      exact q
  · rintro σ H' Q1 Q2 hq ⟨v, e1, i, j, e2, e3, k, e4, h4⟩
    exact ⟨v, e1, i, j, e2, e3, k, e4, hq _ _ h4⟩
/-! ### Ratio(top, bottom) -/
abbrev CR (K : PySem.W.Frag) : Addr := He.ga K "Ratio"
/-- the fields of a fraction -/
def ratF (q : Rat) : List (Str × V) := [("top", .int q.num), ("bottom", .int (q.den : Nat))]
def IsRat (K : PySem.W.Frag) (H : Hp) (p : Addr) (q : Rat) : Prop := ∃ dx, H p = some (.ins (CR K) dx (ratF q))
theorem IsRat.same {K : PySem.W.Frag} {H H' : Hp} {p : Addr} {q : Rat} (h : IsRat K H p q) (s : Same H H') : IsRat K H' p q := let ⟨dx, e⟩ := h; ⟨dx, s _ _ e⟩
theorem tb_ne : ¬ (("bottom" : Str) = "top") := by decide +kernel
theorem ratF_top (q : Rat) : (ratF q).lookup ("top" : Str) = some (.int q.num) := by simp [ratF, List.lookup]
theorem ratF_bot (q : Rat) : (ratF q).lookup ("bottom" : Str) = some (.int (q.den : Nat)) := by
  have h : (("bottom" : Str) == ("top" : Str)) = false := by decide +kernel
  simp [ratF, List.lookup, h]
/-- what the walk asks of the class Ratio -/
structure RTxt (K : PySem.W.Frag) : Prop where
  own : OwnC K (CR K)
  nT : NoAttr K (CR K) "top"
  nB : NoAttr K (CR K) "bottom"
/-- an error of the class at C with the field p = v -/
def Err (K : PySem.W.Frag) (C p w : Str) (H : Hp) (E : XK) : Prop := ∀ d : Addr, H d = none → E (.ref (He.ga K C)) (some d) (upd H d (.xd [(p, .str w)]))
def spRInit (K : PySem.W.Frag) : Sp := fun vs H Q E => ∃ (p dx : Addr) (x y : V) (bx : Bool), vs = [.ref p, x, y] ∧ H p = some (.ins (CR K) dx []) ∧ IntQ K H x bx ∧ (bx = false → Err K "NoRatio" "word" "top" H E) ∧
  (bx = true → ∃ bY, IntQ K H y bY ∧ (bY = false → Err K "NoRatio" "word" "bottom" H E) ∧ (bY = true → ∃ a b : Int, x = .int a ∧ y = .int b ∧ (b = 0 → Err K "NoRatio" "word" "zero" H E) ∧
    (b ≠ 0 → b.natAbs < 2 ^ 9000 ∧ Q .non (upd H p (.ins (CR K) dx (ratF (Rat.divInt a b)))))))
def t_Ratio_init (K : PySem.W.Frag) (E : XK) : TS :=
  (tSeq (tIfS (tNot (tB (tCall (spIsInt K) [] E0 (tCons (tVar 1) tNil)))) (tRaiseS (He.ga K "NoRatio") "word" (fun cls d _ H => E cls d H) (tCons (tC (.str "top")) tNil)) tNext)
  (tSeq (tIfS (tNot (tB (tCall (spIsInt K) [] E0 (tCons (tVar 2) tNil)))) (tRaiseS (He.ga K "NoRatio") "word" (fun cls d _ H => E cls d H) (tCons (tC (.str "bottom")) tNil)) tNext)
  (tSeq (tIfS (tTest (tOp rEq (tVar 2) (tC (.int 0)))) (tRaiseS (He.ga K "NoRatio") "word" (fun cls d _ H => E cls d H) (tCons (tC (.str "zero")) tNil)) tNext)
  (tSeq (tAsg (tCall spGcd [] E0 (tCons (tVar 1) (tCons (tVar 2) tNil))) (gName 3))
  (tSeq (tIfS (tTest (tOp rLt0 (tVar 2) (tC (.int 0)))) (tAsg (tUn rNeg0 (tVar 3)) (gName 3)) tNext)
  (tSeq (sFld K (tVar 0) (tOp rDivZ (tVar 1) (tVar 3)) "top")
  (sFld K (tVar 0) (tOp rDivZ (tVar 2) (tVar 3)) "bottom")))))))
theorem gcd_small {a b : Int} (hb : b ≠ 0) (h : b.natAbs < 2 ^ 9000) : a.gcd b ≠ 0 ∧ a.gcd b < 2 ^ 9000 := by
  have h1 : a.gcd b ≤ b.natAbs := Nat.le_of_dvd (by omega) (Int.gcd_dvd_natAbs_right a b)
  have h2 : a.gcd b ≠ 0 := fun e => hb (Int.gcd_eq_zero_iff.mp e).2
  exact ⟨h2, Nat.lt_of_le_of_lt h1 h⟩
theorem pure_Ratio_init {K : PySem.W.Frag} (T : RTxt K) (vs : List V) (H : Hp) (Q : VK) (E : XK) (h : spRInit K vs H Q E) : t_Ratio_init K E { nx := fun _ H' => Q .non H', rt := Q } (start ["self", "top", "bottom", "divisor"] vs) H := by
  obtain ⟨p, dx, x, y, bx, rfl, hp, ix, e1, k1⟩ := h
  refine ⟨_, rfl, x, bx, rfl, ix, _, rfl, ?_⟩
  cases bx with
  | false => exact iteT ⟨_, rfl, e1 rfl⟩
  | true =>
    refine iteF ?_
    obtain ⟨bY, iy, e2, k2⟩ := k1 rfl
    refine ⟨_, rfl, y, bY, rfl, iy, _, rfl, ?_⟩
    cases bY with
    | false => exact iteT ⟨_, rfl, e2 rfl⟩
    | true =>
      refine iteF ?_
      obtain ⟨a, b, rfl, rfl, e3, k3⟩ := k2 rfl
      refine ⟨_, rfl, rfl, _, rfl, ?_⟩
      refine ite2 (fun c => ?_) (fun c => ?_)
      · have hb : b = 0 := by
          have := of_decide_eq_true c
          injection this
        exact ⟨_, rfl, e3 hb⟩
      · have hb : b ≠ 0 := fun z => c (by rw [z]; exact decide_eq_true rfl)
        obtain ⟨hs, q⟩ := k3 hb
        obtain ⟨g0, g9⟩ := gcd_small (a := a) hb hs
        refine ⟨_, rfl, _, rfl, a, b, rfl, ?_⟩
        refine ⟨_, rfl, _, _, rfl, rfl, _, rfl, ?_⟩
        have fin : ∀ d : Int, d ≠ 0 → d.natAbs < 2 ^ 9000 → a.fdiv d = (Rat.divInt a b).num → b.fdiv d = ((Rat.divInt a b).den : Nat) →
            tSeq (sFld K (tVar 0) (tOp rDivZ (tVar 1) (tVar 3)) "top") (sFld K (tVar 0) (tOp rDivZ (tVar 2) (tVar 3)) "bottom") { nx := fun _ H' => Q .non H', rt := Q } [some (.ref p), some (.int a), some (.int b), some (.int d)] H := by
          intro d d0 d9 en ed
          refine ⟨_, rfl, _, rfl, _, _, rfl, rfl, div_ok d0 d9 (by decide) (by decide), _, rfl, p, CR K, dx, [], rfl, hp, T.own.cl, T.nT, (by show 0 < 1000; decide), ?_⟩
          refine ⟨_, rfl, _, rfl, _, _, rfl, rfl, div_ok d0 d9 (by decide) (by decide), _, rfl, p, CR K, dx, _, rfl, upd_same, T.own.cl, T.nB, (by show 1 < 1000; decide), ?_⟩
          rw [upd_upd]
          dsimp only
          rw [en, ed]
          have ef : putF "bottom" (V.int ((Rat.divInt a b).den : Nat)) (putF "top" (V.int (Rat.divInt a b).num) []) = ratF (Rat.divInt a b) := by
            show (if ("top" : Str) = "bottom" then _ else _ :: putF "bottom" _ []) = _
            rw [if_neg (fun z => tb_ne z.symm)]
            rfl
          rw [ef]
          exact q
        refine ite2 (fun c => ?_) (fun c => ?_)
        · have hn : b < 0 := of_decide_eq_true c
          refine ⟨_, rfl, _, rfl, ?_⟩
          exact fin (-(a.gcd b : Int)) (by omega) (by omega) (fdiv_numN hn) (fdiv_denN hn)
        · have hn : 0 < b := by
            rw [decide_eq_true_eq] at c
            omega
          exact fin (a.gcd b : Int) (by omega) (by omega) (fdiv_num hn) (fdiv_den hn)
/-- Ratio(a, b), a fraction comes out: all that was stands, the new object holds it -/
theorem mk_rat {K : PySem.W.Frag} {H : Hp} {R : Hp → Prop} {E : XK} {a b : Int} {x dx : Addr} (nx : H x = none) (nd : H dx = none) (hb : b ≠ 0) (hs : b.natAbs < 2 ^ 9000) (k : ∀ H', Same H H' → IsRat K H' x (Rat.divInt a b) → R H') :
    spRInit K [.ref x, .int a, .int b] (upd (upd H dx (.own x)) x (.ins (CR K) dx [])) (fun v H2 => v = .non ∧ R H2) E := by
  refine ⟨x, dx, _, _, true, rfl, upd_same, intQ_int, fun z => (by cases z), fun _ => ⟨true, intQ_int, fun z => (by cases z), fun _ => ⟨a, b, rfl, rfl, fun z => absurd z hb, fun _ => ⟨hs, rfl, ?_⟩⟩⟩⟩
  rw [upd_upd]
  refine k _ (fun c o e => ?_) ⟨dx, upd_same⟩
  rw [upd_ne (ne_of_none e nx), upd_ne (ne_of_none e nd)]
  exact e
theorem tyX_same {K : PySem.W.Frag} {H H' : Hp} {x : V} {t : Value} (s : Same H H') (h : TyX K H x t) : TyX K H' x t := by
  cases h with
  | base h =>
    refine .base ?_
    cases h with
    | non => exact .non
    | bl x => exact .bl x
    | int i => exact .int i
    | str x => exact .str x
    | flt x => exact .flt x
    | lst e => exact .lst (s _ _ e)
    | frz e => exact .frz (s _ _ e)
    | tup e => exact .tup (s _ _ e)
    | dK e => exact .dK (s _ _ e)
    | dT e => exact .dT (s _ _ e)
    | ins e cl ha hn htk hm => exact .ins (s _ _ e) cl ha hn htk hm
  | byt b => exact .byt b
  | set e => exact .set (s _ _ e)
  | kList e c => exact .kList e c
  | kTuple e c => exact .kTuple e c
  | kDict e c => exact .kDict e c
  | fTuple e => exact .fTuple (s _ _ e)
  | fDict e => exact .fDict (s _ _ e)
theorem IntQ.same {K : PySem.W.Frag} {H H' : Hp} {x : V} {b : Bool} (h : IntQ K H x b) (s : Same H H') : IntQ K H' x b := let ⟨t, b1, h1, h2⟩ := h; ⟨t, b1, tyX_same s h1, h2⟩
/-- the fields of a fraction, read -/
theorem rd_top {K : PySem.W.Frag} (T : RTxt K) {H : Hp} {p : Addr} {q : Rat} {R : V → Prop} (h : IsRat K H p q) (k : R (.int q.num)) : ∃ a C dx fs v, V.ref p = .ref a ∧ H a = some (.ins C dx fs) ∧ Cls K C ∧ NoAttr K C "top" ∧ fs.lookup ("top" : Str) = some v ∧ R v := by
  obtain ⟨dx, e⟩ := h
  exact ⟨p, _, dx, _, _, rfl, e, T.own.cl, T.nT, ratF_top q, k⟩
theorem rd_bot {K : PySem.W.Frag} (T : RTxt K) {H : Hp} {p : Addr} {q : Rat} {R : V → Prop} (h : IsRat K H p q) (k : R (.int (q.den : Nat))) : ∃ a C dx fs v, V.ref p = .ref a ∧ H a = some (.ins C dx fs) ∧ Cls K C ∧ NoAttr K C "bottom" ∧ fs.lookup ("bottom" : Str) = some v ∧ R v := by
  obtain ⟨dx, e⟩ := h
  exact ⟨p, _, dx, _, _, rfl, e, T.own.cl, T.nB, ratF_bot q, k⟩
theorem keep_tyX {K : PySem.W.Frag} {H H' : Hp} {f : Addr} {x : V} {t : Value} (s : Keep f H H') (n : x ≠ .ref f) (h : TyX K H x t) : TyX K H' x t := by
  have nn : ∀ {a : Addr}, V.ref a ≠ .ref f → a ≠ f := fun h e => h (by rw [e])
  cases h with
  | base h =>
    refine .base ?_
    cases h with
    | non => exact .non
    | bl x => exact .bl x
    | int i => exact .int i
    | str x => exact .str x
    | flt x => exact .flt x
    | lst e => exact .lst (s _ _ e (nn n))
    | frz e => exact .frz (s _ _ e (nn n))
    | tup e => exact .tup (s _ _ e (nn n))
    | dK e => exact .dK (s _ _ e (nn n))
    | dT e => exact .dT (s _ _ e (nn n))
    | ins e cl ha hn htk hm => exact .ins (s _ _ e (nn n)) cl ha hn htk hm
  | byt b => exact .byt b
  | set e => exact .set (s _ _ e (nn n))
  | kList e c => exact .kList e c
  | kTuple e c => exact .kTuple e c
  | kDict e c => exact .kDict e c
  | fTuple e => exact .fTuple (s _ _ e (nn n))
  | fDict e => exact .fDict (s _ _ e (nn n))
theorem IntQ.keep {K : PySem.W.Frag} {H H' : Hp} {f : Addr} {x : V} {b : Bool} (h : IntQ K H x b) (s : Keep f H H') (n : x ≠ .ref f) : IntQ K H' x b := let ⟨t, b1, h1, h2⟩ := h; ⟨t, b1, keep_tyX s n h1, h2⟩
theorem not_ite {A B : Prop} (h : B) : if (!true) = true then A else B := iteF h
def t__law_is_integer (K : PySem.W.Frag) : TS := t_is_integer K
theorem pure__law_is_integer {K : PySem.W.Frag} (vs : List V) (H : Hp) (Q : VK) (E : XK) (h : spIsInt K vs H Q E) : t__law_is_integer K { nx := fun _ H' => Q .non H', rt := Q } (start ["_law_value"] vs) H := pure_is_integer vs H Q E h
end MR

set_option Elab.async false
set_option linter.all false
set_option maxRecDepth 100000
set_option maxHeartbeats 4000000
/-! MR: facts of the head, each a Bool of the written part -/
namespace MR
open PySem PySem.Spec PyProof.Rows L2 He
abbrev Fct : Type := PySem.W.Frag → Bool
def asM (g : Addr → Option Obj) : Nat → List Addr
  | 0 => [mainGlobals, cStatics]
  | n + 1 => growD g (asM g n)
abbrev AlM : Type := Bool × List FnW
def obsM (bs : List Fct) (fn : List DefD) (K : PySem.W.Frag) : AlM := ((bs.all fun f => f K) && fn.all fun d => d.ok K, fn.map fun d => fnW K d.at_)
def valM (fn : List DefD) : AlM := (true, fn.map DefD.val)
def SaysM (bs : List Fct) (fn : List DefD) (K : PySem.W.Frag) : Prop := obsM bs fn K = valM fn
def obsMG (n : Nat) (bs : List Fct) (fn : List DefD) (g : Addr → Option Obj) : AlM := obsM bs fn (frG g (asM g n))
def hookM (n : Nat) (bs : List Fct) (fn : List DefD) : PySem.W.Hook where
  α := AlM
  obs := fun s => obsMG n bs fn s.heap.get?
  val := fun _ => valM fn
  says := fun _ h => ∃ K : PySem.W.Frag, K.In h ∧ SaysM bs fn K
  of := fun _ _ e => ⟨_, frG_in, e⟩
  keeps := fun _ _ _ ⟨K, hK, c⟩ k => ⟨K, PySem.W.Frag.In.keeps hK k, c⟩
theorem obsMG_eq {n : Nat} {bs : List Fct} {fn : List DefD} {g : Addr → Option Obj} {s : Shared} (h : ∀ a, g a = s.heap.get? a) : obsMG n bs fn g = (hookM n bs fn).obs s := by
  rw [show g = s.heap.get? from funext h]
  rfl
section
variable {bs : List Fct} {fn : List DefD} {K : PySem.W.Frag}
theorem SaysM.one (c : SaysM bs fn K) : (bs.all fun f => f K) = true ∧ (fn.all fun d => d.ok K) = true := ba (congrArg (fun z : AlM => z.1) c)
theorem SaysM.fact (c : SaysM bs fn K) (i : Nat) {f : Fct} (h : bs[i]? = some f := by rfl) : f K = true := List.all_eq_true.mp c.one.1 f (List.mem_of_getElem? h)
theorem SaysM.def_ (c : SaysM bs fn K) (i : Nat) {d : DefD} (h : fn[i]? = some d := by rfl) : ∃ fd, FunD K d.name d.qual d.params d.body d.scope (d.dvs K) (d.kws K) (fAd K d.at_) fd := by
  have e2 : (fn.map fun d => fnW K d.at_)[i]? = (fn.map DefD.val)[i]? := congrArg (fun z : AlM => z.2[i]?) c
  rw [List.getElem?_map, List.getElem?_map, h] at e2
  exact DefD.funD (Option.some.inj e2) (List.all_eq_true.mp c.one.2 d (List.mem_of_getElem? h))
end
/-! ### checks -/
def optB {α : Type} [DecidableEq α] (a : Option α) (b : α) : Bool := decide (a = some b)
theorem optB_ok {α : Type} [DecidableEq α] {a : Option α} {b : α} (h : optB a b = true) : a = some b := of_decide_eq_true h
def kitF (t c : PySem.W.Frag → Value) (b : Bool) : Fct := fun K => optB (PySem.W.kitOne K (t K) (c K)) b
def own (x : Str) : PySem.W.Frag → Value := fun K => .ref (ga K x)
def typ (n : String) : PySem.W.Frag → Value := fun _ => .type n
/-- an own class without surprises -/
def ownF (x : Str) : Fct := fun K => (Fa.cls x).ok K && (eqO (PySem.W.findIn K (.ref (ga K x)) "__class__") (some (some (.builtin "object.__class__"))) && (eqO (PySem.W.specialIn K (.builtin "object.__class__") "__get__") (some (some (.builtin "getset_descriptor.__get__"))) &&
  (optB (PySem.W.takesIn K (.builtin "object.__class__")) true && (optB (PySem.W.mroIn K (ga K x) (.type "object")) true && optB (PySem.W.kitOne K (.ref (ga K x)) (.type "int")) false))))
theorem ownF_ok {K : PySem.W.Frag} {x : Str} (h : ownF x K = true) : OwnC K (ga K x) := by
  obtain ⟨h1, h⟩ := ba h
  obtain ⟨h2, h⟩ := ba h
  obtain ⟨h3, h⟩ := ba h
  obtain ⟨h4, h⟩ := ba h
  obtain ⟨h5, h6⟩ := ba h
  exact ⟨cls_ok h1, eqO_ok h2, eqO_ok h3, optB_ok h4, optB_ok h5, optB_ok h6⟩
/-- an error class, as isinstance asks it in a suite -/
def excF (x : Str) : Fct := fun K => eqO (PySem.W.findIn K (.ref (ga K x)) "__getattribute__") (some (some (.builtin "BaseException.__getattribute__"))) && (eqO (PySem.W.findIn K (.ref (ga K x)) "__getattr__") (some none) && (optB (PySem.W.subIn K (.ref (ga K x)) (.type "BaseException")) true && (PySem.W.hasDictIn K (ga K x) &&
  (eqO (PySem.W.findIn K (.ref (ga K x)) "__class__") (some (some (.builtin "object.__class__"))) && (eqO (PySem.W.specialIn K (.builtin "object.__class__") "__get__") (some (some (.builtin "getset_descriptor.__get__"))) && (optB (PySem.W.takesIn K (.builtin "object.__class__")) true && optB (PySem.W.mroIn K (ga K x) (.type "object")) true))))))
theorem excF_ok {K : PySem.W.Frag} {x : Str} (h : excF x K = true) : ExcC K (ga K x) := by
  obtain ⟨h1, h⟩ := ba h
  obtain ⟨h2, h⟩ := ba h
  obtain ⟨h3, h⟩ := ba h
  obtain ⟨h4, h⟩ := ba h
  obtain ⟨h5, h⟩ := ba h
  obtain ⟨h6, h⟩ := ba h
  obtain ⟨h7, h8⟩ := ba h
  exact ⟨eqO_ok h1, eqO_ok h2, optB_ok h3, h4, eqO_ok h5, eqO_ok h6, optB_ok h7, optB_ok h8⟩
def xfF (x : Str) : Fct := fun K => xfB K (ga K x)
/-! ### an error whose __init__ says super().__init__(p); self.p = p -/
def bodyB (p : Str) : FuncBody → Bool
  | .stmts [.Expr (.Call (.Attribute (.Call (.Name s _) [] [] _) i q3) [.Name a _] [] q5) _, .Assign [.Attribute (.Name sf _) b _] (.Name c _) _] =>
    decide (s = "super") && (decide (i = "__init__") && (decide (a = p) && (decide (sf = "self") && (decide (b = p) && (decide (c = p) && (q3.endLine == q5.line))))))
  | _ => false
theorem bodyB_ok {p : Str} {b : FuncBody} (h : bodyB p b = true) : ∃ q1 q2 q3 q4 q5 q6 q7 q8 q9 q10 : Pos, b = .stmts [.Expr (.Call (.Attribute (.Call (.Name "super" q1) [] [] q2) "__init__" q3) [.Name p q4] [] q5) q6, .Assign [.Attribute (.Name "self" q7) p q8] (.Name p q9) q10] ∧ (q3.endLine == q5.line) = true := by
  unfold bodyB at h
  split at h
  · obtain ⟨h1, h⟩ := ba h
    obtain ⟨h2, h⟩ := ba h
    obtain ⟨h3, h⟩ := ba h
    obtain ⟨h4, h⟩ := ba h
    obtain ⟨h5, h⟩ := ba h
    obtain ⟨h6, h7⟩ := ba h
    have e1 := of_decide_eq_true h1
    have e2 := of_decide_eq_true h2
    have e3 := of_decide_eq_true h3
    have e4 := of_decide_eq_true h4
    have e5 := of_decide_eq_true h5
    have e6 := of_decide_eq_true h6
    subst e1 e2 e4
    rw [e3, e5, e6]
    exact ⟨_, _, _, _, _, _, _, _, _, _, rfl, h7⟩
  · cases h
def parB (p : Str) : Arguments → Bool
  | ⟨[], [a1, a2], none, [], [], none, []⟩ => decide (a1.arg = "self") && decide (a2.arg = p)
  | _ => false
theorem parB_ok {p : Str} {a : Arguments} (h : parB p a = true) : ∃ a1 a2 : Arg, a = { posonlyargs := [], args := [a1, a2], vararg := none, kwonlyargs := [], kw_defaults := [], kwarg := none, defaults := [] } ∧ a1.arg = "self" ∧ a2.arg = p := by
  unfold parB at h
  split at h
  · obtain ⟨h1, h2⟩ := ba h
    exact ⟨_, _, rfl, of_decide_eq_true h1, of_decide_eq_true h2⟩
  · cases h
def scB (p : Str) : Scope → Bool
  | ⟨.function, [(x1, .local), (x2, .local), (x3, .free), (x4, .globalImplicit)], false, false, []⟩ => decide (x1 = "self") && (decide (x2 = p) && (decide (x3 = "__class__") && decide (x4 = "super")))
  | _ => false
theorem scB_ok {p : Str} {s : Scope} (h : scB p s = true) : s = { kind := .function, names := [("self", .local), (p, .local), ("__class__", .free), ("super", .globalImplicit)], isGenerator := false, isCoroutine := false, more := [] } := by
  unfold scB at h
  split at h
  · obtain ⟨h1, h⟩ := ba h
    obtain ⟨h2, h⟩ := ba h
    obtain ⟨h3, h4⟩ := ba h
    rw [of_decide_eq_true h1, of_decide_eq_true h2, of_decide_eq_true h3, of_decide_eq_true h4]
  · cases h
/-- the function object of such an __init__ -/
def supFn (prog : Program) (p : Str) (K : PySem.W.Frag) (C f : Addr) : Bool := match K.lookup f with
  | some ⟨_, _, .func fd, _⟩ => PySem.W.codeIn K fd.code fd.qualname && (parB p fd.params && (bodyB p fd.body && (scB p fd.scope && (decide (fd.globals = mainGlobals) && (decide (fd.builtins = builtinsNs) && (decide (fd.defaults = .none) && (match fd.closure, fd.code with
    | [(n, cc)], .ref cda => decide (n = "__class__") && ((match K.lookup cda with
      | some ⟨_, _, .fields vs, _⟩ => (match (vs[2]? : Option Value) with
        | some (.str file _) => (prog.main.file : Str) == file
        | _ => false)
      | _ => false) && (match K.lookup cc with
      | some ⟨_, _, .cell (some (.ref D)), _⟩ => decide (D = C)
      | _ => false))
    | _, _ => false)))))))
  | _ => false
theorem supFn_ok {prog : Program} {p : Str} {K : PySem.W.Frag} {C f : Addr} (h : supFn prog p K C f = true) :
    ∃ (oc : Value) (od : Option Addr) (osl : Array (Option Value)) (fd : FuncData) (a1 a2 : Arg) (q1 q2 q3 q4 q5 q6 q7 q8 q9 q10 : Pos) (cda cc : Addr) (ccl : Value) (cdd : Option Addr) (vs : Array Value) (ccs : Array (Option Value)) (file : Str) (tf : Tok) (cl : Value) (cld : Option Addr) (csl : Array (Option Value)),
    K.lookup f = some ⟨oc, od, .func fd, osl⟩ ∧ PySem.W.codeIn K fd.code fd.qualname = true ∧
    fd.params = { posonlyargs := [], args := [a1, a2], vararg := none, kwonlyargs := [], kw_defaults := [], kwarg := none, defaults := [] } ∧ a1.arg = "self" ∧ a2.arg = p ∧
    fd.body = .stmts [.Expr (.Call (.Attribute (.Call (.Name "super" q1) [] [] q2) "__init__" q3) [.Name p q4] [] q5) q6, .Assign [.Attribute (.Name "self" q7) p q8] (.Name p q9) q10] ∧
    fd.scope = { kind := .function, names := [("self", .local), (p, .local), ("__class__", .free), ("super", .globalImplicit)], isGenerator := false, isCoroutine := false, more := [] } ∧
    fd.globals = mainGlobals ∧ fd.builtins = builtinsNs ∧ fd.closure = [(("__class__" : Str), cc)] ∧ fd.defaults = .none ∧ fd.code = .ref cda ∧
    K.lookup cda = some ⟨ccl, cdd, .fields vs, ccs⟩ ∧ vs[2]? = some (.str file tf) ∧ ((prog.main.file : Str) == file) = true ∧
    K.lookup cc = some ⟨cl, cld, .cell (some (.ref C)), csl⟩ ∧ (q3.endLine == q5.line) = true := by
  unfold supFn at h
  split at h
  · rename_i oc od fd osl hf
    obtain ⟨h1, h⟩ := ba h
    obtain ⟨h2, h⟩ := ba h
    obtain ⟨h3, h⟩ := ba h
    obtain ⟨h4, h⟩ := ba h
    obtain ⟨h5, h⟩ := ba h
    obtain ⟨h6, h⟩ := ba h
    obtain ⟨h7, h⟩ := ba h
    obtain ⟨a1, a2, e2, e2a, e2b⟩ := parB_ok h2
    obtain ⟨q1, q2, q3, q4, q5, q6, q7, q8, q9, q10, e3, e3b⟩ := bodyB_ok h3
    split at h
    · rename_i n cc cda hclo hcode
      obtain ⟨h8, h⟩ := ba h
      obtain ⟨h9, h10⟩ := ba h
      have e8 := of_decide_eq_true h8
      subst e8
      split at h9
      · rename_i ccl cdd vs ccs hcda
        split at h9
        · rename_i file tf hvs
          split at h10
          · rename_i cl cld D csl hcell
            have e10 := of_decide_eq_true h10
            subst e10
            exact ⟨oc, od, osl, fd, a1, a2, q1, q2, q3, q4, q5, q6, q7, q8, q9, q10, cda, cc, ccl, cdd, vs, ccs, file, tf, cl, cld, csl, hf, h1, e2, e2a, e2b, e3, scB_ok h4, of_decide_eq_true h5, of_decide_eq_true h6, hclo, of_decide_eq_true h7, hcode, hcda, hvs, h9, hcell, e3b⟩
          · cases h10
        · cases h9
      · cases h9
    · cases h
  · cases h
def supCls (K : PySem.W.Frag) (C : Addr) : Bool := match K.lookup C with
  | some ⟨.type t, _, .cls cd, sl⟩ => decide (t = "type") && (match cd.mro, sl.toList with
    | .ref D :: bm, [_, _, _, _, some (.builtin n), _] => decide (D = C) && (decide (n = "ValueError.__new__") && (!cd.hasDel && (cd.hasDict && (HandSPX.refsVE bm && eqO (PySem.W.alongIn K "__init__" bm) (some (some (.builtin "ValueError.__init__")))))))
    | _, _ => false)
  | _ => false
theorem supCls_ok {K : PySem.W.Frag} {C : Addr} (h : supCls K C = true) : ∃ nm q N bs bm sn sub ab col dd k0 k1 k2 k3 k5, K.lookup C = some (excClassObj nm q C N bs bm true sn sub ab col dd k0 k1 k2 k3 k5 "ValueError.__new__") ∧ HandSPX.refsVE bm = true ∧
    PySem.W.alongIn K "__init__" bm = some (some (.builtin "ValueError.__init__")) := by
  unfold supCls at h
  split at h
  · rename_i t dd cd sl ho
    obtain ⟨h0, hh⟩ := ba h
    clear h
    have e0 := of_decide_eq_true h0
    subst e0
    split at hh
    · rename_i D bm k0 k1 k2 k3 n k5 hm hs
      obtain ⟨h1, h⟩ := ba hh
      obtain ⟨h2, h⟩ := ba h
      obtain ⟨h3, h⟩ := ba h
      obtain ⟨h4, h⟩ := ba h
      obtain ⟨h5, h6⟩ := ba h
      have e1 := of_decide_eq_true h1
      have e2 := of_decide_eq_true h2
      subst e1 e2
      obtain ⟨nm, bs, mro, ns, qn, hd, sn, sb, ab, col, del⟩ := cd
      dsimp only at hm h3 h4
      subst hm h4
      have e3 : del = false := by simpa using h3
      subst e3
      refine ⟨nm, qn, ns, bs, bm, sn, sb, ab, col, dd, k0, k1, k2, k3, k5, ?_, h5, eqO_ok h6⟩
      rw [ho]
      have e : sl = #[k0, k1, k2, k3, some (.builtin "ValueError.__new__"), k5] := by
        rw [← Array.toArray_toList (xs := sl), hs]
      rw [e]
    · cases hh
  · cases h
/-- all that SupC asks -/
def supF (prog : Program) (x p : Str) : Fct := fun K => supCls K (ga K x) && (supFn prog p K (ga K x) (ma K (ga K x) "__init__") && (eqO (PySem.W.findIn K (.ref (ga K x)) "__setattr__") (some (some (.builtin "object.__setattr__"))) && (eqO (PySem.W.findIn K (.ref (ga K x)) p) (some none) &&
  (eqO (PySem.W.findIn K (.ref (ga K x)) "__init__") (some (some (.ref (ma K (ga K x) "__init__")))) && (optB (PySem.W.typeIn K (.ref (ma K (ga K x) "__init__"))) (.type "function") && (PySem.W.keepIn K (.ref (ga K x)) && (optB (PySem.W.subIn K (.ref (ga K x)) (.type "BaseException")) true &&
  (optB (PySem.W.subIn K (.ref (ga K x)) (.type "ValueError")) true && (optB (PySem.W.typeIn K (.ref (ga K x))) (.type "type") && (optB (PySem.W.mroIn K (ga K x) (.ref (ga K x))) true && (eqO (PySem.W.nsIn K cStatics "thirdparty.any") (some none) && (eqO (PySem.W.nsIn K mainGlobals "super") (some none) &&
  !(prog.main.scope.names.lookup ("super" : Str)).isSome))))))))))))
theorem supF_ok {prog : Program} {K : PySem.W.Frag} {x p : Str} (h : supF prog x p K = true) : SupC prog K (ga K x) (ma K (ga K x) "__init__") p := by
  obtain ⟨h1, h⟩ := ba h
  obtain ⟨h2, h⟩ := ba h
  obtain ⟨h3, h⟩ := ba h
  obtain ⟨h4, h⟩ := ba h
  obtain ⟨h5, h⟩ := ba h
  obtain ⟨h6, h⟩ := ba h
  obtain ⟨h7, h⟩ := ba h
  obtain ⟨h8, h⟩ := ba h
  obtain ⟨h9, h⟩ := ba h
  obtain ⟨h10, h⟩ := ba h
  obtain ⟨h11, h⟩ := ba h
  obtain ⟨h12, h⟩ := ba h
  obtain ⟨h13, h14⟩ := ba h
  exact ⟨supCls_ok h1, eqO_ok h3, eqO_ok h4, eqO_ok h5, optB_ok h6, h7, optB_ok h8, optB_ok h9, optB_ok h10, optB_ok h11, eqO_ok h12, eqO_ok h13, by simpa using h14, supFn_ok h2⟩
theorem funD_inj {K : PySem.W.Frag} {x q : Str} {p : Arguments} {b : List Stmt} {sc : Scope} {dvs : List V} {kws : List (Str × V)} {f : Addr} {fd fd' : FuncData} (F : FunD K x q p b sc dvs kws f fd) (F' : FunD K x q p b sc dvs kws f fd') : fd = fd' := by
  obtain ⟨_, _, _, _, _, _, _, _, _, _, _, h, _⟩ := F.ex
  obtain ⟨_, _, _, _, _, _, _, _, _, _, _, h', _⟩ := F'.ex
  have e := h.symm.trans h'
  simp only [Option.some.injEq, Obj.mk.injEq, Data.func.injEq] at e
  exact e.2.2.1
end MR

set_option Elab.async false
set_option linter.all false
set_option maxRecDepth 100000
set_option maxHeartbeats 4000000
/-! MR: operators that an own class defines -/
namespace MR
open PySem PySem.Spec PyProof.Rows PySem.W
/-- the int's own operator hands back NotImplemented for an instance -/
structure IntDecl (name : Str) (id : String) (B : Builtin) : Prop where
  slot : Slot "int" name id
  entry : entryFor table id = some B
  args : ∀ a b, argsOk id ⟨[a, b], []⟩
  dec : ∀ (prog : Program) (w : World) (A : Around) (E : Value → Shared → Prop) (s : Shared) (a : Int) (t : Tok) (x C dx : Addr) (P : Fin → Shared → Prop), s.heap.get? x = some (instObj C dx) → P (.done (.ret .notImplemented)) s → wpAny (model prog w) A (B ⟨[.int a t, .ref x], []⟩) P E s
theorem decl_add : IntDecl (PySem.dunder "add") "int.__add__" Builtin.«int.__add__» := ⟨F.slot_int_add, F.entry_int_add, F.args_int_add_2, fun prog w A E s a t x C dx P hx h => by
  obtain ⟨hp, g, d, tk, os⟩ := s
  wp_walk
  exact h⟩
theorem decl_sub : IntDecl (PySem.dunder "sub") "int.__sub__" Builtin.«int.__sub__» := ⟨F.slot_int_sub, F.entry_int_sub, F.args_int_sub_2, fun prog w A E s a t x C dx P hx h => by
  obtain ⟨hp, g, d, tk, os⟩ := s
  wp_walk
  exact h⟩
theorem decl_mul : IntDecl (PySem.dunder "mul") "int.__mul__" Builtin.«int.__mul__» := ⟨F.slot_int_mul, F.entry_int_mul, F.args_int_mul_2, fun prog w A E s a t x C dx P hx h => by
  obtain ⟨hp, g, d, tk, os⟩ := s
  wp_walk
  exact h⟩
theorem decl_floordiv : IntDecl (PySem.dunder "floordiv") "int.__floordiv__" Builtin.«int.__floordiv__» := ⟨F.slot_int_floordiv, F.entry_int_floordiv, F.args_int_floordiv_2, fun prog w A E s a t x C dx P hx h => by
  obtain ⟨hp, g, d, tk, os⟩ := s
  wp_walk
  exact h⟩
theorem decl_mod : IntDecl (PySem.dunder "mod") "int.__mod__" Builtin.«int.__mod__» := ⟨F.slot_int_mod, F.entry_int_mod, F.args_int_mod_2, fun prog w A E s a t x C dx P hx h => by
  obtain ⟨hp, g, d, tk, os⟩ := s
  wp_walk
  exact h⟩
theorem decl_eq : IntDecl "__eq__" "int.__eq__" Builtin.«int.__eq__» := ⟨F.slot_int_eq, F.entry_int_eq, F.args_int_eq_2, fun prog w A E s a t x C dx P hx h => by
  obtain ⟨hp, g, d, tk, os⟩ := s
  wp_walk
  exact h⟩
theorem decl_ne : IntDecl "__ne__" "int.__ne__" Builtin.«int.__ne__» := ⟨F.slot_int_ne, F.entry_int_ne, F.args_int_ne_2, fun prog w A E s a t x C dx P hx h => by
  obtain ⟨hp, g, d, tk, os⟩ := s
  wp_walk
  exact h⟩
theorem decl_lt : IntDecl "__lt__" "int.__lt__" Builtin.«int.__lt__» := ⟨F.slot_int_lt, F.entry_int_lt, F.args_int_lt_2, fun prog w A E s a t x C dx P hx h => by
  obtain ⟨hp, g, d, tk, os⟩ := s
  wp_walk
  exact h⟩
theorem decl_le : IntDecl "__le__" "int.__le__" Builtin.«int.__le__» := ⟨F.slot_int_le, F.entry_int_le, F.args_int_le_2, fun prog w A E s a t x C dx P hx h => by
  obtain ⟨hp, g, d, tk, os⟩ := s
  wp_walk
  exact h⟩
theorem decl_gt : IntDecl "__gt__" "int.__gt__" Builtin.«int.__gt__» := ⟨F.slot_int_gt, F.entry_int_gt, F.args_int_gt_2, fun prog w A E s a t x C dx P hx h => by
  obtain ⟨hp, g, d, tk, os⟩ := s
  wp_walk
  exact h⟩
theorem decl_ge : IntDecl "__ge__" "int.__ge__" Builtin.«int.__ge__» := ⟨F.slot_int_ge, F.entry_int_ge, F.args_int_ge_2, fun prog w A E s a t x C dx P hx h => by
  obtain ⟨hp, g, d, tk, os⟩ := s
  wp_walk
  exact h⟩
/-- a call of it -/
theorem IntDecl.call {name : Str} {id : String} {B : Builtin} (D : IntDecl name id B) {prog : Program} {w : World} {A : Around} {E : Value → Shared → Prop} {s : Shared} {a : Int} {t : Tok} {x C dx : Addr} {Q : Value → Shared → Prop} (hx : s.heap.get? x = some (instObj C dx)) (h : Q .notImplemented s) :
    wpAny (model prog w) A (PySem.call (.builtin id) [.int a t, .ref x]) Q E s :=
  wpAny_call_entry D.slot (typeIs_int s a t) D.entry (D.dec prog w _ _ s a t x C dx _ hx ⟨_, rfl, h⟩) (D.args _ _)
section
variable {prog : Program} {w : World} {A : Around} {E : Value → Shared → Prop} {s : Shared} {K : Frag} {x C dx f : Addr} {od : Option Obj} {n : Int} {t : Tok}
/-- n op x, the class's own reflected operator is asked -/
theorem refl_own {op : Operator} {nm : String} {id : String} {B : Builtin} {g : Addr} {Q : Value → Shared → Prop} (X : K.In s.heap) (I : InstAt s.heap x (instObj C dx) C od) (hi : op.info.2 = nm) (D : IntDecl (PySem.dunder nm) id B) (hF : fillsNumberSlot (.type "int") nm = pure true) (hc : selfFirst K C = true)
    (hs : findIn K (.ref C) (PySem.dunder nm) = some (some (.ref g))) (hr : findIn K (.ref C) (dunderR nm) = some (some (.ref f))) (hf : isFn K (.ref f) = true) (hsub : subIn K (.ref C) (.type "int") = some false)
    (h : wpAny (model prog w) A (call (.ref f) [.ref x, .int n t]) (W.CmpBack Q) E s) : wpAny (model prog w) A (binaryOp op (.int n t) (.ref x)) Q E s := by
  obtain ⟨cd, rest, hcd, hm⟩ := ksp_first hc
  rcases hi' : op.info with ⟨sym, nm'⟩
  rw [hi'] at hi
  dsimp only at hi
  subst hi
  have one := ksp_try X I hr hf h
  have hx : s.heap.get? x = some (instObj C dx) := I.at_
  have L1 : Looks (model prog w) s.heap (typeOf (.ref x)) (.ref C) := I.type
  have L3 : Looks (model prog w) s.heap (fillsNumberSlot (.ref C) nm') true := fills_K X hcd hm hs
  have L5 : Looks (model prog w) s.heap (isSubtype (.ref C) (.type "int")) false := looks_subIn X hsub
  have hne : (Value.type "int" == Value.ref C) = false := Bool.eq_false_iff.mpr fun q => by cases beq_iff_eq.mp q
  simp only [binaryOp, hi']
  refine wpAny_holding (wpAny_bind ?_)
  unfold binaryOp1
  refine wpAny_bind (wpAny_typeOf (typeIs_int s n t) (wpAny_bind (L1.here (wpAny_bind (wpAny_of_eq hF ?_)))))
  simp only [hne, Bool.false_eq_true, if_false]
  refine wpAny_bind (L3.here ?_)
  simp only [Bool.and_self, if_true]
  refine wpAny_bind (L5.here ?_)
  simp only [Bool.false_eq_true, if_false, Bool.not_false, if_true]
  refine wpAny_bind (wpAny_of_eq (show numberSlotInPython (.type "int") nm' = pure false from rfl) ?_)
  simp only [Bool.false_eq_true, if_false]
  refine wpAny_bind (wpAny_tryMethod_declines (typeIs_int s n t) D.slot (D.call hx ⟨rfl, ?_⟩))
  dsimp only
  refine wpAny_bind (wpAny_mono one (fun r s' z => ?_) fun _ _ e => e)
  obtain ⟨v, rfl, q⟩ := z
  exact wpAny_bind (wpAny_rule (wpAny_pure (wpAny_pure q)))
/-- n < x and its like -/
theorem cmp_refl {op : CmpOp} {id : String} {B : Builtin} {Q : Value → Shared → Prop} (hu : A.units < cLine) (X : K.In s.heap) (I : InstAt s.heap x (instObj C dx) C od) (D : IntDecl (cmpInfo op).2.1 id B) (hsub : subIn K (.ref C) (.type "int") = some false)
    (hr : findIn K (.ref C) (cmpInfo op).2.2 = some (some (.ref f))) (hf : isFn K (.ref f) = true)
    (h : wpAny (model prog w) A (call (.ref f) [.ref x, .int n t]) (W.CmpBack Q) E s) : wpAny (model prog w) A (richCompare op (.int n t) (.ref x)) Q E s := by
  have hx : s.heap.get? x = some (instObj C dx) := I.at_
  have one : wpAny (model prog w) A (tryCompare (.ref x) (cmpInfo op).2.2 (.int n t)) (fun r s' => ∃ v, r = some v ∧ Q v s') E s := by
    unfold tryCompare
    refine wpAny_bind (ifBound_K X I hr hf (wpAny_mono h (fun v s' hv => ?_) fun _ _ e => e))
    cases v <;> first | exact False.elim hv | exact wpAny_pure ⟨_, rfl, hv⟩
  have L1 : Looks (model prog w) s.heap (typeOf (.ref x)) (.ref C) := I.type
  have L5 : Looks (model prog w) s.heap (isSubtype (.ref C) (.type "int")) false := looks_subIn X hsub
  have hne : (Value.type "int" != Value.ref C) = true := by simp
  unfold richCompare
  simp only [(typeIs_int s n t).oneThing_none]
  refine wpAny_holding (wpAny_bind (wpAny_cRoomFor hu ?_))
  refine wpAny_bind (wpAny_typeOf (typeIs_int s n t) (wpAny_bind (L1.here ?_)))
  rw [if_pos hne]
  refine wpAny_bind (L5.here ?_)
  simp only [Bool.false_eq_true, if_false]
  refine wpAny_bind (wpAny_tryCompare_declines (typeIs_int s n t) D.slot (D.call hx ⟨rfl, ?_⟩))
  dsimp only
  simp only [Bool.not_false, if_true]
  refine wpAny_bind (wpAny_mono one (fun r s' z => ?_) fun _ _ e => e)
  obtain ⟨v, rfl, q⟩ := z
  exact wpAny_pure q
end
end MR

set_option Elab.async false
set_option linter.all false
set_option maxRecDepth 100000
set_option maxHeartbeats 4000000
/-! MR: .. as rules of the layer -/
namespace MR
open PySem PySem.Spec PyProof.Rows L2
/-- what the written part says of an own class's operator nm -/
structure OpC (K : PySem.W.Frag) (C : Addr) (nm : String) : Prop where
  sf : PySem.W.selfFirst K C = true
  sub : PySem.W.subIn K (.type "int") (.ref C) = some false
  subR : PySem.W.subIn K (.ref C) (.type "int") = some false
  fo : ∃ fo ro rc, PySem.W.findIn K (.type "int") (PySem.dunder nm) = some fo ∧ PySem.W.findIn K (.type "int") (dunderR nm) = some ro ∧ PySem.W.findIn K (.ref C) (dunderR nm) = some rc ∧ (rc = none ∨ ∃ g : Addr, rc = some (.ref g))
theorem inst_at {X : Cx} {pins : List (Addr × Obj)} {σ : L2.St} {H : Hp} {s : Shared} {p C dx : Addr} {fs : List (Str × V)} (I : Inv X pins σ H s) (e : H p = some (.ins C dx fs)) : ∃ od, PySem.W.InstAt s.heap p (PySem.W.instObj C dx) C (some od) := by
  obtain ⟨mA, O, _⟩ := ins_get I.hok e
  obtain ⟨od, h, _⟩ := O.look
  exact ⟨od, h⟩
theorem back_of {X : Cx} {pins : List (Addr × Obj)} {σ : L2.St} {Q : VK} {v : Value} {s : Shared} (h : EP X pins σ Q v s) : PySem.W.CmpBack (EP X pins σ Q) v s := by
  obtain ⟨x, H, I, r, q⟩ := h
  cases v with
  | notImplemented =>
    cases x <;> first | exact nomatch (show Value.notImplemented = _ from r) | (obtain ⟨_, e⟩ := r; cases e) | cases r
  | _ => exact ⟨x, H, I, r, q⟩
section
variable {X : Cx} {k : Nat} {C : Addr} {sp : Sp} {E : XK}
/-- x op y: x an instance of C, y another or an int -/
def rOwn (C : Addr) (sp : Sp) (E : XK) : R2 := fun x y H Q => ∃ p dx fs, x = .ref p ∧ H p = some (.ins C dx fs) ∧ ((∃ n, y = .int n) ∨ ∃ q dy gs, y = .ref q ∧ H q = some (.ins C dy gs)) ∧ sp [x, y] H Q E
def rRefl (C : Addr) (sp : Sp) (E : XK) : R2 := fun x y H Q => ∃ n p dx fs, x = .int n ∧ y = .ref p ∧ H p = some (.ins C dx fs) ∧ sp [y, x] H Q E
theorem op_own {op : Operator} (nm : String) (D : MethOk X.prog X.w X.K X.mg X.base k C (PySem.dunder nm) [] sp) (O : OpC X.K C nm) (hr : Room k X.A) (hx : Passes (CXX X.prog X.w) X E) (hi : op.info.2 = nm := by rfl) : OpR X (binaryOp op) (rOwn C sp E) := by
  subst hi
  obtain ⟨f, fd, ps, ds, h1, h2, h3, h4, h5⟩ := D
  intro pins s σ H x y v u Q I rx ry h
  obtain ⟨p, dx, fs, rfl, e, hy, q⟩ := h
  cases rx
  cases h5
  obtain ⟨od, J⟩ := inst_at I e
  obtain ⟨m, Fm⟩ := I.fr
  have run : wpAny (model X.prog X.w) X.A (call (.ref f) [.ref p, u]) (PySem.W.CmpBack (EP X pins σ Q)) X.xe s :=
    thn (run_fn (us := [.ref p, u]) (vs := [.ref p, y]) h3 hr h4 .nil hx I (.cons rfl (.cons ry .nil)) q) fun _ _ z => back_of z
  rcases hy with ⟨n, rfl⟩ | ⟨r, dy, gs, rfl, ey⟩
  · obtain ⟨t, rfl⟩ := ry
    obtain ⟨fo, ro, rc, g1, g2, g3, g4⟩ := O.fo
    exact PySem.W.ksp_binT Fm I.mod.kin J (T := "int") rfl O.sf h2.at_ h2.fn g3 g4 g1 g2 O.sub run
  · cases ry
    obtain ⟨od2, J2⟩ := inst_at I ey
    exact PySem.W.binop_K Fm I.mod.kin J J2.type O.sf h2.at_ h2.fn run
theorem op_refl {op : Operator} (nm : String) {id : String} {B : Builtin} {k' : Nat} {sp' : Sp} (D : MethOk X.prog X.w X.K X.mg X.base k C (dunderR nm) [] sp) (D' : MethOk X.prog X.w X.K X.mg X.base k' C (PySem.dunder nm) [] sp') (O : OpC X.K C nm) (N : IntDecl (PySem.dunder nm) id B) (hF : fillsNumberSlot (.type "int") nm = pure true) (hr : Room k X.A) (hx : Passes (CXX X.prog X.w) X E) (hi : op.info.2 = nm := by rfl) : OpR X (binaryOp op) (rRefl C sp E) := by
  obtain ⟨f, fd, ps, ds, h1, h2, h3, h4, h5⟩ := D
  obtain ⟨f', _, _, _, _, h2', _⟩ := D'
  intro pins s σ H x y v u Q I rx ry h
  obtain ⟨n, p, dx, fs, rfl, rfl, e, q⟩ := h
  obtain ⟨t, rfl⟩ := rx
  cases ry
  cases h5
  obtain ⟨od, J⟩ := inst_at I e
  have run : wpAny (model X.prog X.w) X.A (call (.ref f) [.ref p, .int n t]) (PySem.W.CmpBack (EP X pins σ Q)) X.xe s :=
    thn (run_fn (us := [.ref p, .int n t]) (vs := [.ref p, .int n]) h3 hr h4 .nil hx I (.cons rfl (.cons ⟨t, rfl⟩ .nil)) q) fun _ _ z => back_of z
  exact refl_own I.kIn J hi N hF O.sf h2'.at_ h2.at_ h2.fn O.subR run
theorem cmp_own {op : CmpOp} (D : MethOk X.prog X.w X.K X.mg X.base k C (cmpInfo op).2.1 [] sp) (O : OpC X.K C "add") (hr : Room k X.A) (hx : Passes (CXX X.prog X.w) X E) (ho : compareOp op = richCompare op := by rfl) : OpR X (compareOp op) (rOwn C sp E) := by
  rw [ho]
  obtain ⟨f, fd, ps, ds, h1, h2, h3, h4, h5⟩ := D
  intro pins s σ H x y v u Q I rx ry h
  obtain ⟨p, dx, fs, rfl, e, hy, q⟩ := h
  cases rx
  cases h5
  obtain ⟨od, J⟩ := inst_at I e
  obtain ⟨m, Fm⟩ := I.fr
  have run : wpAny (model X.prog X.w) X.A (call (.ref f) [.ref p, u]) (PySem.W.CmpBack (EP X pins σ Q)) X.xe s :=
    thn (run_fn (us := [.ref p, u]) (vs := [.ref p, y]) h3 hr h4 .nil hx I (.cons rfl (.cons ry .nil)) q) fun _ _ z => back_of z
  rcases hy with ⟨n, rfl⟩ | ⟨r, dy, gs, rfl, ey⟩
  · obtain ⟨t, rfl⟩ := ry
    have nf : PySem.W.notFirst X.K C (.type "int") = true := by
      unfold PySem.W.notFirst
      rw [O.sub]
      simp
    exact PySem.W.cmp_K hr.units0 Fm I.mod.kin J (PySem.W.Looks.of_pure (show typeOf (.int n t) = pure (.type "int") from rfl)) nf h2.at_ h2.fn run
  · cases ry
    obtain ⟨od2, J2⟩ := inst_at I ey
    have nf : PySem.W.notFirst X.K C (.ref C) = true := by
      unfold PySem.W.notFirst
      simp
    exact PySem.W.cmp_K hr.units0 Fm I.mod.kin J J2.type nf h2.at_ h2.fn run
theorem cmp_reflR {op : CmpOp} {id : String} {B : Builtin} (D : MethOk X.prog X.w X.K X.mg X.base k C (cmpInfo op).2.2 [] sp) (O : OpC X.K C "add") (N : IntDecl (cmpInfo op).2.1 id B) (hr : Room k X.A) (hx : Passes (CXX X.prog X.w) X E) (ho : compareOp op = richCompare op := by rfl) : OpR X (compareOp op) (rRefl C sp E) := by
  rw [ho]
  obtain ⟨f, fd, ps, ds, h1, h2, h3, h4, h5⟩ := D
  intro pins s σ H x y v u Q I rx ry h
  obtain ⟨n, p, dx, fs, rfl, rfl, e, q⟩ := h
  obtain ⟨t, rfl⟩ := rx
  cases ry
  cases h5
  obtain ⟨od, J⟩ := inst_at I e
  have run : wpAny (model X.prog X.w) X.A (call (.ref f) [.ref p, .int n t]) (PySem.W.CmpBack (EP X pins σ Q)) X.xe s :=
    thn (run_fn (us := [.ref p, .int n t]) (vs := [.ref p, .int n]) h3 hr h4 .nil hx I (.cons rfl (.cons ⟨t, rfl⟩ .nil)) q) fun _ _ z => back_of z
  exact cmp_refl hr.units0 I.kIn J N O.subR h2.at_ h2.fn run
/-- -x -/
def rNegO (C : Addr) (sp : Sp) (E : XK) : V → Hp → VK → Prop := fun x H Q => ∃ p dx fs, x = .ref p ∧ H p = some (.ins C dx fs) ∧ sp [x] H Q E
theorem un_own (D : MethOk X.prog X.w X.K X.mg X.base k C "__neg__" [] sp) (hr : Room k X.A) (hx : Passes (CXX X.prog X.w) X E) : UnR X (unaryOp .USub) (rNegO C sp E) := by
  obtain ⟨f, fd, ps, ds, h1, h2, h3, h4, h5⟩ := D
  intro pins s σ H x v Q I rx h
  obtain ⟨p, dx, fs, rfl, e, q⟩ := h
  cases rx
  cases h5
  obtain ⟨od, J⟩ := inst_at I e
  obtain ⟨m, Fm⟩ := I.fr
  exact PySem.W.ksp_neg Fm I.mod.kin J h2.at_ h2.fn (run_fn (us := [.ref p]) (vs := [.ref p]) h3 hr h4 .nil hx I (.cons rfl .nil) q)
/-- the callee runs below a built-in -/
theorem run_fn1 {f : Addr} {fd : FuncData} {ps : List Str} {pins : List (Addr × Obj)} {σ : L2.St} {H : Hp} {s : Shared} {Q : VK} {us : List Value} {vs : List V} (F : FnOk X.prog X.w X.K X.mg X.base (CXX X.prog X.w) k f fd ps sp) (hr : Room (k + 1) X.A) (hb : Binds X.K fd ps []) (hx : Passes (CXX X.prog X.w) X E)
    (I : Inv X pins σ H s) (r : Vals vs us) (h : sp vs H Q E) : wpAny (model X.prog X.w) X.A.in1 (call (.ref f) us) (EP X pins σ Q) X.xe s := by
  have len : (us ++ []).length = ps.length := by
    rw [List.append_nil, ← r.length]
    exact F.len _ _ _ _ h
  have b := hb s us I.kIn len
  rw [List.append_nil] at b
  refine wpAny_call (codeAny_mono (F.run X.A.in1 X.stack s H ⟨us, []⟩ us vs Q E hr.in1 I.env0.in1 b r h) fun res s' z => ?_)
  match res, z with
  | .error er, z => exact hx pins σ H s er s' I z
  | .ok (.ret u), z => exact I.after z
  | .ok .next, z => exact False.elim z
  | .ok .brk, z => exact False.elim z
  | .ok .cont, z => exact False.elim z
def rAbsO (C : Addr) (sp : Sp) (E : XK) : List V → Hp → VK → Prop := fun xs H Q => ∃ p dx fs, xs = [.ref p] ∧ H p = some (.ins C dx fs) ∧ sp xs H Q E
theorem call_absO (D : MethOk X.prog X.w X.K X.mg X.base k C "__abs__" [] sp) (hr : Room (k + 1) X.A) (hx : Passes (CXX X.prog X.w) X E) : CallR X (.builtin "abs") (rAbsO C sp E) := by
  obtain ⟨f, fd, ps, ds, h1, h2, h3, h4, h5⟩ := D
  intro pins s σ H xs us Q I r h
  obtain ⟨p, dx, fs, rfl, e, q⟩ := h
  obtain ⟨u, rfl, ru⟩ := vals1 r
  cases ru
  cases h5
  obtain ⟨od, J⟩ := inst_at I e
  refine PySem.Calls.call_function_entry kind_abs plain_abs entry_abs (args_abs _) ?_
  unfold Builtin.«abs»
  refine wpAny_bind (m := oneArg "abs" _) (wpAny_pure ?_)
  refine wpAny_bind (PySem.W.special_fn I.kIn J h2.at_ (beq_iff_eq.mp h2.fn) (thn (run_fn1 (us := [.ref p]) (vs := [.ref p]) h3 hr h4 hx I (.cons rfl .nil) q) fun v s' z => ?_))
  exact wpAny_pure ⟨_, rfl, z⟩
end
end MR

set_option Elab.async false
set_option linter.all false
set_option maxRecDepth 100000
set_option maxHeartbeats 4000000
/-! MR: facts of own operators -/
namespace MR
open PySem PySem.Spec PyProof.Rows L2 He
def opF (x : Str) (nm : String) : Fct := fun K => PySem.W.selfFirst K (ga K x) && (optB (PySem.W.subIn K (.type "int") (.ref (ga K x))) false && (optB (PySem.W.subIn K (.ref (ga K x)) (.type "int")) false && ((PySem.W.findIn K (.type "int") (PySem.dunder nm)).isSome && ((PySem.W.findIn K (.type "int") (dunderR nm)).isSome &&
  (match PySem.W.findIn K (.ref (ga K x)) (dunderR nm) with
    | some none => true
    | some (some (.ref _)) => true
    | _ => false)))))
theorem opF_ok {K : PySem.W.Frag} {x : Str} {nm : String} (h : opF x nm K = true) : OpC K (ga K x) nm := by
  obtain ⟨h1, h⟩ := ba h
  obtain ⟨h2, h⟩ := ba h
  obtain ⟨h3, h⟩ := ba h
  obtain ⟨h4, h⟩ := ba h
  obtain ⟨h5, h6⟩ := ba h
  obtain ⟨fo, e4⟩ := Option.isSome_iff_exists.mp h4
  obtain ⟨ro, e5⟩ := Option.isSome_iff_exists.mp h5
  refine ⟨h1, optB_ok h2, optB_ok h3, fo, ro, ?_⟩
  split at h6
  · rename_i e
    exact ⟨none, e4, e5, e, .inl rfl⟩
  · rename_i g e
    exact ⟨some (.ref g), e4, e5, e, .inr ⟨g, rfl⟩⟩
  · cases h6
end MR

set_option exponentiation.threshold 20000
/-! MR: the mathematics of fractions: operators, sizes -/
namespace MR
def rabs (a : Rat) : Rat := if a < 0 then -a else a
theorem den_ne (q : Rat) : ((q.den : Int) : Rat) ≠ 0 := by
  rw [Rat.intCast_natCast]
  exact fun h => q.den_nz (Rat.natCast_eq_zero_iff.mp h)
theorem num_den (q : Rat) : ((q.num : Int) : Rat) / ((q.den : Int) : Rat) = q := by
  rw [← Rat.divInt_eq_div, Rat.num_divInt_den]
theorem di_add (a b : Rat) : Rat.divInt (a.num * b.den + b.num * a.den) (a.den * b.den) = a + b := by
  have h1 := den_ne a
  have h2 := den_ne b
  have e1 := num_den a
  have e2 := num_den b
  rw [Rat.divInt_eq_div, Rat.intCast_add, Rat.intCast_mul, Rat.intCast_mul, Rat.intCast_mul]
  grind
theorem di_sub (a b : Rat) : Rat.divInt (a.num * b.den - b.num * a.den) (a.den * b.den) = a - b := by
  have h1 := den_ne a
  have h2 := den_ne b
  have e1 := num_den a
  have e2 := num_den b
  rw [Rat.divInt_eq_div, Rat.intCast_sub, Rat.intCast_mul, Rat.intCast_mul, Rat.intCast_mul]
  grind
theorem di_mul (a b : Rat) : Rat.divInt (a.num * b.num) (a.den * b.den) = a * b := by
  have h1 := den_ne a
  have h2 := den_ne b
  have e1 := num_den a
  have e2 := num_den b
  rw [Rat.divInt_eq_div, Rat.intCast_mul, Rat.intCast_mul]
  grind
theorem di_addI (a : Rat) (n : Int) : Rat.divInt (a.num + n * a.den) a.den = a + (n : Rat) := by
  have h1 := den_ne a
  have e1 := num_den a
  rw [Rat.divInt_eq_div, Rat.intCast_add, Rat.intCast_mul]
  grind
theorem di_raddI (a : Rat) (n : Int) : Rat.divInt (n * a.den + a.num) a.den = (n : Rat) + a := by
  rw [Int.add_comm, di_addI, Rat.add_comm]
theorem di_subI (a : Rat) (n : Int) : Rat.divInt (a.num - n * a.den) a.den = a - (n : Rat) := by
  have h1 := den_ne a
  have e1 := num_den a
  rw [Rat.divInt_eq_div, Rat.intCast_sub, Rat.intCast_mul]
  grind
theorem di_rsubI (a : Rat) (n : Int) : Rat.divInt (n * a.den - a.num) a.den = (n : Rat) - a := by
  have h1 := den_ne a
  have e1 := num_den a
  rw [Rat.divInt_eq_div, Rat.intCast_sub, Rat.intCast_mul]
  grind
theorem di_mulI (a : Rat) (n : Int) : Rat.divInt (a.num * n) a.den = a * (n : Rat) := by
  have h1 := den_ne a
  have e1 := num_den a
  rw [Rat.divInt_eq_div, Rat.intCast_mul]
  grind
theorem di_neg (a : Rat) : Rat.divInt (-a.num) a.den = -a := by
  rw [← Rat.neg_divInt, Rat.num_divInt_den]
theorem di_abs (a : Rat) : Rat.divInt (if a.num < 0 then -a.num else a.num) a.den = rabs a := by
  unfold rabs
  have hi : a < 0 ↔ a.num < 0 := by
    have := Rat.num_nonneg (q := a)
    constructor
    · intro h
      rcases Int.lt_or_le a.num 0 with z | z
      · exact z
      · exact absurd (this.mp z) (Rat.not_le.mpr h)
    · intro h
      exact Rat.not_le.mp fun z => absurd (this.mpr z) (by omega)
  by_cases h : a.num < 0
  · rw [if_pos h, if_pos (hi.mpr h), di_neg]
  · rw [if_neg h, if_neg (fun z => h (hi.mp z)), Rat.num_divInt_den]
theorem den_pos (a : Rat) : (0 : Int) < a.den := by
  have := a.den_nz
  omega
/-! ### sizes: below 2 ^ n above and below the bar -/
structure Sz (n : Nat) (q : Rat) : Prop where
  num : q.num.natAbs < 2 ^ n
  den : q.den < 2 ^ n
theorem Sz.mono {n m : Nat} {q : Rat} (h : Sz n q) (hn : n ≤ m) : Sz m q := ⟨Nat.lt_of_lt_of_le h.num (Nat.pow_le_pow_right (by decide) hn), Nat.lt_of_lt_of_le h.den (Nat.pow_le_pow_right (by decide) hn)⟩
theorem Sz.pos {n : Nat} {q : Rat} (h : Sz n q) : 0 < n := by
  rcases Nat.eq_zero_or_pos n with e | e
  · have := h.den
    rw [e] at this
    have := q.den_nz
    omega
  · exact e
theorem sz_div {a b : Int} {n : Nat} (hb : b ≠ 0) (h1 : a.natAbs < 2 ^ n) (h2 : b.natAbs < 2 ^ n) : Sz n (Rat.divInt a b) := ⟨Nat.lt_of_le_of_lt (num_le hb) h1, Nat.lt_of_le_of_lt (den_le hb) h2⟩
theorem sz_int {a : Int} {n : Nat} (hn : 0 < n) (h1 : a.natAbs < 2 ^ n) : Sz n (a : Rat) := ⟨by rw [Rat.num_intCast]; exact h1, by rw [Rat.den_intCast]; exact Nat.one_lt_two_pow (by omega)⟩
theorem lt_mul_pow {x y a b : Nat} (h1 : x < 2 ^ a) (h2 : y < 2 ^ b) : x * y < 2 ^ (a + b) := by
  rw [Nat.pow_add]
  exact Nat.mul_lt_mul'' h1 h2
theorem absmul {x : Int} {y a b : Nat} (h1 : x.natAbs < 2 ^ a) (h2 : y < 2 ^ b) : (x * (y : Int)).natAbs < 2 ^ (a + b) := by
  rw [Int.natAbs_mul, Int.natAbs_natCast]
  exact lt_mul_pow h1 h2
theorem absadd {x y : Int} {n : Nat} (h1 : x.natAbs < 2 ^ n) (h2 : y.natAbs < 2 ^ n) : (x + y).natAbs < 2 ^ (n + 1) := by
  rw [Nat.pow_succ]
  omega
theorem abssub {x y : Int} {n : Nat} (h1 : x.natAbs < 2 ^ n) (h2 : y.natAbs < 2 ^ n) : (x - y).natAbs < 2 ^ (n + 1) := by
  rw [Nat.pow_succ]
  omega
theorem Sz.add {n m : Nat} {a b : Rat} (h1 : Sz n a) (h2 : Sz m b) : Sz (n + m + 1) (a + b) := by
  rw [← di_add]
  refine sz_div (Int.ne_of_gt (Int.mul_pos (den_pos a) (den_pos b))) (absadd (absmul h1.num h2.den) ?_) ?_
  · have := absmul h2.num h1.den
    rw [Nat.add_comm m n] at this
    exact this
  · have := absmul (x := (a.den : Int)) (by rw [Int.natAbs_natCast]; exact h1.den) h2.den
    exact Nat.lt_of_lt_of_le this (Nat.pow_le_pow_right (by decide) (by omega))
theorem Sz.neg {n : Nat} {a : Rat} (h : Sz n a) : Sz n (-a) := ⟨by rw [Rat.neg_num, Int.natAbs_neg]; exact h.num, by rw [Rat.neg_den]; exact h.den⟩
theorem Sz.sub {n m : Nat} {a b : Rat} (h1 : Sz n a) (h2 : Sz m b) : Sz (n + m + 1) (a - b) := by
  rw [Rat.sub_eq_add_neg]
  exact h1.add h2.neg
theorem Sz.mul {n m : Nat} {a b : Rat} (h1 : Sz n a) (h2 : Sz m b) : Sz (n + m) (a * b) := by
  rw [← di_mul]
  refine sz_div (Int.ne_of_gt (Int.mul_pos (den_pos a) (den_pos b))) ?_ ?_
  · rw [Int.natAbs_mul]
    exact lt_mul_pow h1.num h2.num
  · exact absmul (x := (a.den : Int)) (by rw [Int.natAbs_natCast]; exact h1.den) h2.den
theorem lt_intR (a : Rat) (k : Int) : a < (k : Rat) ↔ a.num < k * a.den := by rw [Rat.lt_iff, Rat.num_intCast, Rat.den_intCast, Int.natCast_one, Int.mul_one]
theorem le_intR (a : Rat) (k : Int) : a ≤ (k : Rat) ↔ a.num ≤ k * a.den := by rw [Rat.le_iff, Rat.num_intCast, Rat.den_intCast, Int.natCast_one, Int.mul_one]
theorem lt_intL (k : Int) (a : Rat) : (k : Rat) < a ↔ k * a.den < a.num := by rw [Rat.lt_iff, Rat.num_intCast, Rat.den_intCast, Int.natCast_one, Int.mul_one]
theorem le_intL (k : Int) (a : Rat) : (k : Rat) ≤ a ↔ k * a.den ≤ a.num := by rw [Rat.le_iff, Rat.num_intCast, Rat.den_intCast, Int.natCast_one, Int.mul_one]
end MR

set_option Elab.async false
set_option linter.all false
set_option maxRecDepth 100000
set_option maxHeartbeats 4000000
set_option exponentiation.threshold 20000
/-! MR: arithmetic and order of Ratio -/
namespace MR
open PySem PySem.Spec PyProof.Rows L2
/-- x is the number q: a Ratio or an int -/
def Num (K : PySem.W.Frag) (H : Hp) (x : V) (q : Rat) : Prop := (∃ p, x = .ref p ∧ IsRat K H p q) ∨ ∃ n : Int, x = .int n ∧ q = (n : Rat)
theorem Num.same {K : PySem.W.Frag} {H H' : Hp} {x : V} {q : Rat} (h : Num K H x q) (s : Same H H') : Num K H' x q := by
  rcases h with ⟨p, e, r⟩ | h
  · exact .inl ⟨p, e, r.same s⟩
  · exact .inr h
theorem num_rat {K : PySem.W.Frag} {H : Hp} {p : Addr} {q : Rat} (h : IsRat K H p q) : Num K H (.ref p) q := .inl ⟨p, rfl, h⟩
theorem num_int {K : PySem.W.Frag} {H : Hp} {n : Int} : Num K H (.int n) (n : Rat) := .inr ⟨n, rfl, rfl⟩
/-- what the methods ask of the classes -/
structure RTxt2 (K : PySem.W.Frag) : Prop extends RTxt K where
  kI : PySem.W.kitOne K (.type "int") (.ref (CR K)) = some false
/-- isinstance(x, Ratio) -/
theorem isi_rat {K : PySem.W.Frag} (T : RTxt2 K) {H : Hp} {p : Addr} {q : Rat} {R : Bool → Prop} (h : IsRat K H p q) (k : R true) : ∃ (x c : V) (t u : Value) (b : Bool), [V.ref p, V.ref (He.ga K "Ratio")] = [x, c] ∧ ClsV c u ∧ TyX K H x t ∧ PySem.W.kitOne K t u = some b ∧ R b := by
  obtain ⟨dx, e⟩ := h
  refine ⟨_, _, _, _, true, rfl, .own _, T.own.ty e, ?_, k⟩
  unfold PySem.W.kitOne
  rw [if_pos (by simp)]
theorem isi_int {K : PySem.W.Frag} (T : RTxt2 K) {H : Hp} {n : Int} {R : Bool → Prop} (k : R false) : ∃ (x c : V) (t u : Value) (b : Bool), [V.int n, V.ref (He.ga K "Ratio")] = [x, c] ∧ ClsV c u ∧ TyX K H x t ∧ PySem.W.kitOne K t u = some b ∧ R b :=
  ⟨_, _, _, _, false, rfl, .own _, .base (.int n), T.kI, k⟩
def spR2 (K : PySem.W.Frag) (f : Rat → Rat → Rat) : Sp := fun vs H Q _ => ∃ (p : Addr) (x : V) (a b : Rat) (n m : Nat), vs = [.ref p, x] ∧ IsRat K H p a ∧ Num K H x b ∧ Sz n a ∧ Sz m b ∧ n + m ≤ 9000 ∧ ∀ r H', Same H H' → IsRat K H' r (f a b) → Q (.ref r) H'
def spRI (K : PySem.W.Frag) (f : Rat → Rat → Rat) : Sp := fun vs H Q _ => ∃ (p : Addr) (k : Int) (a : Rat) (n m : Nat), vs = [.ref p, .int k] ∧ IsRat K H p a ∧ Sz n a ∧ Sz m (k : Rat) ∧ n + m ≤ 9000 ∧ ∀ r H', Same H H' → IsRat K H' r (f a (k : Rat)) → Q (.ref r) H'
def spR1 (K : PySem.W.Frag) (f : Rat → Rat) : Sp := fun vs H Q _ => ∃ (p : Addr) (a : Rat) (n : Nat), vs = [.ref p] ∧ IsRat K H p a ∧ Sz n a ∧ n ≤ 9000 ∧ ∀ r H', Same H H' → IsRat K H' r (f a) → Q (.ref r) H'
def spRB (K : PySem.W.Frag) (f : Rat → Rat → Bool) : Sp := fun vs H Q _ => ∃ (p : Addr) (x : V) (a b : Rat) (n m : Nat), vs = [.ref p, x] ∧ IsRat K H p a ∧ Num K H x b ∧ Sz n a ∧ Sz m b ∧ n + m ≤ 9000 ∧ Q (.bl (f a b)) H
theorem szI {m : Nat} {k : Int} (h : Sz m (k : Rat)) : k.natAbs < 2 ^ m := h.num
theorem dsz {n : Nat} {a : Rat} (h : Sz n a) : ((a.den : Nat) : Int).natAbs < 2 ^ n := by rw [Int.natAbs_natCast]; exact h.den
theorem mokA {i j : Int} {n m : Nat} {a b : Rat} (h1 : Sz n a) (h2 : Sz m b) (hs : n + m ≤ 9000) (hi : i.natAbs < 2 ^ n) (hj : j.natAbs < 2 ^ m) : IntMulOk i j := mul_ok hi hj h1.pos h2.pos (by omega)
theorem mokB {i j : Int} {n m : Nat} {a b : Rat} (h1 : Sz n a) (h2 : Sz m b) (hs : n + m ≤ 9000) (hi : i.natAbs < 2 ^ m) (hj : j.natAbs < 2 ^ n) : IntMulOk i j := mul_ok hi hj h2.pos h1.pos (by omega)
theorem dd_ne (a b : Rat) : ((a.den : Nat) : Int) * ((b.den : Nat) : Int) ≠ 0 := Int.ne_of_gt (Int.mul_pos (den_pos a) (den_pos b))
theorem d_ne (a : Rat) : ((a.den : Nat) : Int) ≠ 0 := Int.ne_of_gt (den_pos a)
theorem dd_sz {n m : Nat} {a b : Rat} (h1 : Sz n a) (h2 : Sz m b) (hs : n + m ≤ 9000) : (((a.den : Nat) : Int) * ((b.den : Nat) : Int)).natAbs < 2 ^ 9000 := Nat.lt_of_lt_of_le (absmul (dsz h1) h2.den) (Nat.pow_le_pow_right (by decide) hs)
theorem d_sz {n m : Nat} {a : Rat} (h1 : Sz n a) (hs : n + m ≤ 9000) : ((a.den : Nat) : Int).natAbs < 2 ^ 9000 := Nat.lt_of_lt_of_le (dsz h1) (Nat.pow_le_pow_right (by decide) (by omega))
def t_Ratio_add (K : PySem.W.Frag) : TS :=
  (tSeq (tIfS (tB (tCB (rIsi K) (tCons (tVar 1) (tCons (tC (.ref (He.ga K "Ratio"))) tNil)))) (tRet (tMake (He.ga K "Ratio") (spRInit K) [] E0 (tCons (tOp rAdd0 (tOp rMulI (tFld K (tVar 0) "top") (tFld K (tVar 1) "bottom")) (tOp rMulI (tFld K (tVar 1) "top") (tFld K (tVar 0) "bottom"))) (tCons (tOp rMulI (tFld K (tVar 0) "bottom") (tFld K (tVar 1) "bottom")) tNil)))) tNext)
  (tSeq (tIfS (tB (tCall (spIsInt K) [] E0 (tCons (tVar 1) tNil))) (tRet (tMake (He.ga K "Ratio") (spRInit K) [] E0 (tCons (tOp rAdd0 (tFld K (tVar 0) "top") (tOp rMulI (tVar 1) (tFld K (tVar 0) "bottom"))) (tCons (tFld K (tVar 0) "bottom") tNil)))) tNext)
  tNever))
theorem pure_Ratio_add {K : PySem.W.Frag} (T : RTxt2 K) (vs : List V) (H : Hp) (Q : VK) (E : XK) (h : spR2 K (fun a b => a + b) vs H Q E) : t_Ratio_add K { nx := fun _ H' => Q .non H', rt := Q } (start ["self", "other"] vs) H := by
  obtain ⟨p, x, a, b, n, m, rfl, Ra, Nb, ha, hb, hs, q⟩ := h
  have TT := T.toRTxt
  rcases Nb with ⟨pb, rfl, Rb⟩ | ⟨k, rfl, rfl⟩
  · refine ⟨_, rfl, isi_rat T Rb ⟨_, rfl, ?_⟩⟩
    refine iteT ?_
    refine ⟨_, rfl, rd_top TT Ra ⟨_, rfl, rd_bot TT Rb ⟨_, _, rfl, rfl, mokA ha hb hs ha.num (dsz hb), _, rfl, rd_top TT Rb ⟨_, rfl, rd_bot TT Ra ⟨_, _, rfl, rfl, mokB ha hb hs hb.num (dsz ha), _, _, rfl, rfl, ?_⟩⟩⟩⟩⟩
    refine ⟨_, rfl, rd_bot TT Ra ⟨_, rfl, rd_bot TT Rb ⟨_, _, rfl, rfl, mokA ha hb hs (dsz ha) (dsz hb), ?_⟩⟩⟩
    intro r dr nr ndr _
    refine mk_rat (a := a.num * b.den + b.num * a.den) (b := a.den * b.den) nr ndr (dd_ne a b) (dd_sz ha hb hs) fun H' s' R' => ?_
    rw [di_add] at R'
    exact q r H' s' R'
  · refine ⟨_, rfl, isi_int T ⟨_, rfl, ?_⟩⟩
    refine iteF ?_
    refine ⟨_, rfl, _, true, rfl, intQ_int, _, rfl, ?_⟩
    refine iteT ?_
    refine ⟨_, rfl, rd_top TT Ra ⟨_, rfl, _, rfl, rd_bot TT Ra ⟨_, _, rfl, rfl, mokB ha hb hs (szI hb) (dsz ha), _, _, rfl, rfl, ?_⟩⟩⟩
    refine ⟨_, rfl, rd_bot TT Ra ?_⟩
    intro r dr nr ndr _
    refine mk_rat (a := a.num + k * a.den) (b := a.den) nr ndr (d_ne a) (d_sz ha hs) fun H' s' R' => ?_
    rw [di_addI] at R'
    exact q r H' s' R'
def t_Ratio_sub (K : PySem.W.Frag) : TS :=
  (tSeq (tIfS (tB (tCB (rIsi K) (tCons (tVar 1) (tCons (tC (.ref (He.ga K "Ratio"))) tNil)))) (tRet (tMake (He.ga K "Ratio") (spRInit K) [] E0 (tCons (tOp rSub0 (tOp rMulI (tFld K (tVar 0) "top") (tFld K (tVar 1) "bottom")) (tOp rMulI (tFld K (tVar 1) "top") (tFld K (tVar 0) "bottom"))) (tCons (tOp rMulI (tFld K (tVar 0) "bottom") (tFld K (tVar 1) "bottom")) tNil)))) tNext)
  (tSeq (tIfS (tB (tCall (spIsInt K) [] E0 (tCons (tVar 1) tNil))) (tRet (tMake (He.ga K "Ratio") (spRInit K) [] E0 (tCons (tOp rSub0 (tFld K (tVar 0) "top") (tOp rMulI (tVar 1) (tFld K (tVar 0) "bottom"))) (tCons (tFld K (tVar 0) "bottom") tNil)))) tNext)
  tNever))
theorem pure_Ratio_sub {K : PySem.W.Frag} (T : RTxt2 K) (vs : List V) (H : Hp) (Q : VK) (E : XK) (h : spR2 K (fun a b => a - b) vs H Q E) : t_Ratio_sub K { nx := fun _ H' => Q .non H', rt := Q } (start ["self", "other"] vs) H := by
  obtain ⟨p, x, a, b, n, m, rfl, Ra, Nb, ha, hb, hs, q⟩ := h
  have TT := T.toRTxt
  rcases Nb with ⟨pb, rfl, Rb⟩ | ⟨k, rfl, rfl⟩
  · refine ⟨_, rfl, isi_rat T Rb ⟨_, rfl, ?_⟩⟩
    refine iteT ?_
    refine ⟨_, rfl, rd_top TT Ra ⟨_, rfl, rd_bot TT Rb ⟨_, _, rfl, rfl, mokA ha hb hs ha.num (dsz hb), _, rfl, rd_top TT Rb ⟨_, rfl, rd_bot TT Ra ⟨_, _, rfl, rfl, mokB ha hb hs hb.num (dsz ha), _, _, rfl, rfl, ?_⟩⟩⟩⟩⟩
    refine ⟨_, rfl, rd_bot TT Ra ⟨_, rfl, rd_bot TT Rb ⟨_, _, rfl, rfl, mokA ha hb hs (dsz ha) (dsz hb), ?_⟩⟩⟩
    intro r dr nr ndr _
    refine mk_rat (a := a.num * b.den - b.num * a.den) (b := a.den * b.den) nr ndr (dd_ne a b) (dd_sz ha hb hs) fun H' s' R' => ?_
    rw [di_sub] at R'
    exact q r H' s' R'
  · refine ⟨_, rfl, isi_int T ⟨_, rfl, ?_⟩⟩
    refine iteF ?_
    refine ⟨_, rfl, _, true, rfl, intQ_int, _, rfl, ?_⟩
    refine iteT ?_
    refine ⟨_, rfl, rd_top TT Ra ⟨_, rfl, _, rfl, rd_bot TT Ra ⟨_, _, rfl, rfl, mokB ha hb hs (szI hb) (dsz ha), _, _, rfl, rfl, ?_⟩⟩⟩
    refine ⟨_, rfl, rd_bot TT Ra ?_⟩
    intro r dr nr ndr _
    refine mk_rat (a := a.num - k * a.den) (b := a.den) nr ndr (d_ne a) (d_sz ha hs) fun H' s' R' => ?_
    rw [di_subI] at R'
    exact q r H' s' R'
def t_Ratio_mul (K : PySem.W.Frag) : TS :=
  (tSeq (tIfS (tB (tCB (rIsi K) (tCons (tVar 1) (tCons (tC (.ref (He.ga K "Ratio"))) tNil)))) (tRet (tMake (He.ga K "Ratio") (spRInit K) [] E0 (tCons (tOp rMulI (tFld K (tVar 0) "top") (tFld K (tVar 1) "top")) (tCons (tOp rMulI (tFld K (tVar 0) "bottom") (tFld K (tVar 1) "bottom")) tNil)))) tNext)
  (tSeq (tIfS (tB (tCall (spIsInt K) [] E0 (tCons (tVar 1) tNil))) (tRet (tMake (He.ga K "Ratio") (spRInit K) [] E0 (tCons (tOp rMulI (tFld K (tVar 0) "top") (tVar 1)) (tCons (tFld K (tVar 0) "bottom") tNil)))) tNext)
  tNever))
theorem pure_Ratio_mul {K : PySem.W.Frag} (T : RTxt2 K) (vs : List V) (H : Hp) (Q : VK) (E : XK) (h : spR2 K (fun a b => a * b) vs H Q E) : t_Ratio_mul K { nx := fun _ H' => Q .non H', rt := Q } (start ["self", "other"] vs) H := by
  obtain ⟨p, x, a, b, n, m, rfl, Ra, Nb, ha, hb, hs, q⟩ := h
  have TT := T.toRTxt
  rcases Nb with ⟨pb, rfl, Rb⟩ | ⟨k, rfl, rfl⟩
  · refine ⟨_, rfl, isi_rat T Rb ⟨_, rfl, ?_⟩⟩
    refine iteT ?_
    refine ⟨_, rfl, rd_top TT Ra ⟨_, rfl, rd_top TT Rb ⟨_, _, rfl, rfl, mokA ha hb hs ha.num hb.num, ?_⟩⟩⟩
    refine ⟨_, rfl, rd_bot TT Ra ⟨_, rfl, rd_bot TT Rb ⟨_, _, rfl, rfl, mokA ha hb hs (dsz ha) (dsz hb), ?_⟩⟩⟩
    intro r dr nr ndr _
    refine mk_rat (a := a.num * b.num) (b := a.den * b.den) nr ndr (dd_ne a b) (dd_sz ha hb hs) fun H' s' R' => ?_
    rw [di_mul] at R'
    exact q r H' s' R'
  · refine ⟨_, rfl, isi_int T ⟨_, rfl, ?_⟩⟩
    refine iteF ?_
    refine ⟨_, rfl, _, true, rfl, intQ_int, _, rfl, ?_⟩
    refine iteT ?_
    refine ⟨_, rfl, rd_top TT Ra ⟨_, rfl, _, _, rfl, rfl, mokA ha hb hs ha.num (szI hb), ?_⟩⟩
    refine ⟨_, rfl, rd_bot TT Ra ?_⟩
    intro r dr nr ndr _
    refine mk_rat (a := a.num * k) (b := a.den) nr ndr (d_ne a) (d_sz ha hs) fun H' s' R' => ?_
    rw [di_mulI] at R'
    exact q r H' s' R'
def t_Ratio_radd (K : PySem.W.Frag) : TS :=
  (tSeq (tIfS (tB (tCall (spIsInt K) [] E0 (tCons (tVar 1) tNil))) (tRet (tMake (He.ga K "Ratio") (spRInit K) [] E0 (tCons (tOp rAdd0 (tOp rMulI (tVar 1) (tFld K (tVar 0) "bottom")) (tFld K (tVar 0) "top")) (tCons (tFld K (tVar 0) "bottom") tNil)))) tNext)
  tNever)
theorem pure_Ratio_radd {K : PySem.W.Frag} (T : RTxt2 K) (vs : List V) (H : Hp) (Q : VK) (E : XK) (h : spRI K (fun a b => b + a) vs H Q E) : t_Ratio_radd K { nx := fun _ H' => Q .non H', rt := Q } (start ["self", "other"] vs) H := by
  obtain ⟨p, k, a, n, m, rfl, Ra, ha, hb, hs, q⟩ := h
  have TT := T.toRTxt
  refine ⟨_, rfl, _, true, rfl, intQ_int, _, rfl, ?_⟩
  refine iteT ?_
  refine ⟨_, rfl, _, rfl, rd_bot TT Ra ⟨_, _, rfl, rfl, mokB ha hb hs (szI hb) (dsz ha), _, rfl, rd_top TT Ra ⟨_, _, rfl, rfl, ?_⟩⟩⟩
  refine ⟨_, rfl, rd_bot TT Ra ?_⟩
  intro r dr nr ndr _
  refine mk_rat (a := k * a.den + a.num) (b := a.den) nr ndr (d_ne a) (d_sz ha hs) fun H' s' R' => ?_
  rw [di_raddI] at R'
  exact q r H' s' R'
def t_Ratio_rsub (K : PySem.W.Frag) : TS :=
  (tSeq (tIfS (tB (tCall (spIsInt K) [] E0 (tCons (tVar 1) tNil))) (tRet (tMake (He.ga K "Ratio") (spRInit K) [] E0 (tCons (tOp rSub0 (tOp rMulI (tVar 1) (tFld K (tVar 0) "bottom")) (tFld K (tVar 0) "top")) (tCons (tFld K (tVar 0) "bottom") tNil)))) tNext)
  tNever)
theorem pure_Ratio_rsub {K : PySem.W.Frag} (T : RTxt2 K) (vs : List V) (H : Hp) (Q : VK) (E : XK) (h : spRI K (fun a b => b - a) vs H Q E) : t_Ratio_rsub K { nx := fun _ H' => Q .non H', rt := Q } (start ["self", "other"] vs) H := by
  obtain ⟨p, k, a, n, m, rfl, Ra, ha, hb, hs, q⟩ := h
  have TT := T.toRTxt
  refine ⟨_, rfl, _, true, rfl, intQ_int, _, rfl, ?_⟩
  refine iteT ?_
  refine ⟨_, rfl, _, rfl, rd_bot TT Ra ⟨_, _, rfl, rfl, mokB ha hb hs (szI hb) (dsz ha), _, rfl, rd_top TT Ra ⟨_, _, rfl, rfl, ?_⟩⟩⟩
  refine ⟨_, rfl, rd_bot TT Ra ?_⟩
  intro r dr nr ndr _
  refine mk_rat (a := k * a.den - a.num) (b := a.den) nr ndr (d_ne a) (d_sz ha hs) fun H' s' R' => ?_
  rw [di_rsubI] at R'
  exact q r H' s' R'
def t_Ratio_rmul (K : PySem.W.Frag) : TS :=
  (tSeq (tIfS (tB (tCall (spIsInt K) [] E0 (tCons (tVar 1) tNil))) (tRet (tMake (He.ga K "Ratio") (spRInit K) [] E0 (tCons (tOp rMulI (tFld K (tVar 0) "top") (tVar 1)) (tCons (tFld K (tVar 0) "bottom") tNil)))) tNext)
  tNever)
theorem pure_Ratio_rmul {K : PySem.W.Frag} (T : RTxt2 K) (vs : List V) (H : Hp) (Q : VK) (E : XK) (h : spRI K (fun a b => b * a) vs H Q E) : t_Ratio_rmul K { nx := fun _ H' => Q .non H', rt := Q } (start ["self", "other"] vs) H := by
  obtain ⟨p, k, a, n, m, rfl, Ra, ha, hb, hs, q⟩ := h
  have TT := T.toRTxt
  refine ⟨_, rfl, _, true, rfl, intQ_int, _, rfl, ?_⟩
  refine iteT ?_
  refine ⟨_, rfl, rd_top TT Ra ⟨_, rfl, _, _, rfl, rfl, mokA ha hb hs ha.num (szI hb), ?_⟩⟩
  refine ⟨_, rfl, rd_bot TT Ra ?_⟩
  intro r dr nr ndr _
  refine mk_rat (a := a.num * k) (b := a.den) nr ndr (d_ne a) (d_sz ha hs) fun H' s' R' => ?_
  rw [di_mulI, Rat.mul_comm] at R'
  exact q r H' s' R'
def t_Ratio_neg (K : PySem.W.Frag) : TS :=
  (tRet (tMake (He.ga K "Ratio") (spRInit K) [] E0 (tCons (tUn rNeg0 (tFld K (tVar 0) "top")) (tCons (tFld K (tVar 0) "bottom") tNil))))
theorem pure_Ratio_neg {K : PySem.W.Frag} (T : RTxt2 K) (vs : List V) (H : Hp) (Q : VK) (E : XK) (h : spR1 K (fun a => -a) vs H Q E) : t_Ratio_neg K { nx := fun _ H' => Q .non H', rt := Q } (start ["self"] vs) H := by
  obtain ⟨p, a, n, rfl, Ra, ha, hs, q⟩ := h
  refine ⟨_, rfl, rd_top T.toRTxt Ra ⟨_, rfl, _, rfl, rd_bot T.toRTxt Ra ?_⟩⟩
  intro r dr nr ndr _
  refine mk_rat (a := -a.num) (b := a.den) nr ndr (d_ne a) (d_sz (m := 0) ha hs) fun H' s' R' => ?_
  rw [di_neg] at R'
  exact q r H' s' R'
def t_Ratio_abs (K : PySem.W.Frag) : TS :=
  (tRet (tMake (He.ga K "Ratio") (spRInit K) [] E0 (tCons (tCB rAbs0 (tCons (tFld K (tVar 0) "top") tNil)) (tCons (tFld K (tVar 0) "bottom") tNil))))
theorem pure_Ratio_abs {K : PySem.W.Frag} (T : RTxt2 K) (vs : List V) (H : Hp) (Q : VK) (E : XK) (h : spR1 K (fun a => rabs a) vs H Q E) : t_Ratio_abs K { nx := fun _ H' => Q .non H', rt := Q } (start ["self"] vs) H := by
  obtain ⟨p, a, n, rfl, Ra, ha, hs, q⟩ := h
  refine ⟨_, rfl, rd_top T.toRTxt Ra ⟨_, rfl, _, rfl, rd_bot T.toRTxt Ra ?_⟩⟩
  intro r dr nr ndr _
  refine mk_rat (a := if a.num < 0 then -a.num else a.num) (b := a.den) nr ndr (d_ne a) (d_sz (m := 0) ha hs) fun H' s' R' => ?_
  rw [di_abs] at R'
  exact q r H' s' R'
theorem vint {i j : Int} : (V.int i = V.int j) ↔ i = j := ⟨fun h => by injection h, fun h => by rw [h]⟩
theorem rat_eq_iff (a b : Rat) : a = b ↔ a.num = b.num ∧ a.den = b.den := ⟨fun h => by rw [h]; exact ⟨rfl, rfl⟩, fun h => Rat.ext h.1 h.2⟩
theorem eq_rat (a b : Rat) : decide (a = b) = (decide (a.num = b.num) && decide (a.den = b.den)) := by
  rw [← Bool.decide_and]
  exact decide_eq_decide.mpr (rat_eq_iff a b)
theorem eq_int (a : Rat) (k : Int) : decide (a = (k : Rat)) = (decide (a.den = 1) && decide (a.num = k)) := by
  rw [← Bool.decide_and]
  refine decide_eq_decide.mpr ((rat_eq_iff a k).trans ?_)
  rw [Rat.num_intCast, Rat.den_intCast]
  exact And.comm
def t_Ratio_eq (K : PySem.W.Frag) : TS :=
  (tSeq (tIfS (tB (tCB (rIsi K) (tCons (tVar 1) (tCons (tC (.ref (He.ga K "Ratio"))) tNil)))) (tRet (tAndV (tOp rEq (tFld K (tVar 0) "top") (tFld K (tVar 1) "top")) (tOp rEq (tFld K (tVar 0) "bottom") (tFld K (tVar 1) "bottom")))) tNext)
  (tSeq (tIfS (tB (tCall (spIsInt K) [] E0 (tCons (tVar 1) tNil))) (tRet (tAndV (tOp rEq (tFld K (tVar 0) "bottom") (tC (.int 1))) (tOp rEq (tFld K (tVar 0) "top") (tVar 1)))) tNext)
  (tRet (tC (.bl false)))))
theorem pure_Ratio_eq {K : PySem.W.Frag} (T : RTxt2 K) (vs : List V) (H : Hp) (Q : VK) (E : XK) (h : spRB K (fun a b => decide (a = b)) vs H Q E) : t_Ratio_eq K { nx := fun _ H' => Q .non H', rt := Q } (start ["self", "other"] vs) H := by
  obtain ⟨p, x, a, b, n, m, rfl, Ra, Nb, ha, hb, hs, q⟩ := h
  have TT := T.toRTxt
  rcases Nb with ⟨pb, rfl, Rb⟩ | ⟨k, rfl, rfl⟩
  · refine ⟨_, rfl, isi_rat T Rb ⟨_, rfl, ?_⟩⟩
    refine iteT ?_
    refine ⟨_, rfl, rd_top TT Ra ⟨_, rfl, rd_top TT Rb ⟨rfl, _, rfl, ?_⟩⟩⟩
    dsimp only at q
    rw [eq_rat] at q
    refine ite2 (fun c => ?_) (fun c => ?_)
    · have e : a.num = b.num := vint.mp (of_decide_eq_true c)
      refine ⟨_, rfl, rd_bot TT Ra ⟨_, rfl, rd_bot TT Rb ⟨rfl, ?_⟩⟩⟩
      rw [decide_eq_true e, Bool.true_and] at q
      have e2 : decide (V.int ((a.den : Nat) : Int) = V.int ((b.den : Nat) : Int)) = decide (a.den = b.den) := decide_eq_decide.mpr (vint.trans (by omega))
      rw [e2]
      exact q
    · have e : ¬ a.num = b.num := fun z => c (decide_eq_true (vint.mpr z))
      rw [decide_eq_false e, Bool.false_and] at q
      exact q
  · refine ⟨_, rfl, isi_int T ⟨_, rfl, ?_⟩⟩
    refine iteF ?_
    refine ⟨_, rfl, _, true, rfl, intQ_int, _, rfl, ?_⟩
    refine iteT ?_
    dsimp only at q
    rw [eq_int] at q
    refine ⟨_, rfl, rd_bot TT Ra ⟨rfl, _, rfl, ?_⟩⟩
    refine ite2 (fun c => ?_) (fun c => ?_)
    · have e : a.den = 1 := by
        have := vint.mp (of_decide_eq_true c)
        omega
      refine ⟨_, rfl, rd_top TT Ra ⟨_, rfl, rfl, ?_⟩⟩
      rw [decide_eq_true e, Bool.true_and] at q
      have e2 : decide (V.int a.num = V.int k) = decide (a.num = k) := decide_eq_decide.mpr vint
      rw [e2]
      exact q
    · have e : ¬ a.den = 1 := fun z => c (decide_eq_true (vint.mpr (by rw [z]; rfl)))
      rw [decide_eq_false e, Bool.false_and] at q
      exact q
def t_Ratio_ne (K : PySem.W.Frag) : TS :=
  (tSeq (tIfS (tB (tCB (rIsi K) (tCons (tVar 1) (tCons (tC (.ref (He.ga K "Ratio"))) tNil)))) (tRet (tOrV (tOp rNe (tFld K (tVar 0) "top") (tFld K (tVar 1) "top")) (tOp rNe (tFld K (tVar 0) "bottom") (tFld K (tVar 1) "bottom")))) tNext)
  (tSeq (tIfS (tB (tCall (spIsInt K) [] E0 (tCons (tVar 1) tNil))) (tRet (tOrV (tOp rNe (tFld K (tVar 0) "bottom") (tC (.int 1))) (tOp rNe (tFld K (tVar 0) "top") (tVar 1)))) tNext)
  (tRet (tC (.bl true)))))
theorem pure_Ratio_ne {K : PySem.W.Frag} (T : RTxt2 K) (vs : List V) (H : Hp) (Q : VK) (E : XK) (h : spRB K (fun a b => !decide (a = b)) vs H Q E) : t_Ratio_ne K { nx := fun _ H' => Q .non H', rt := Q } (start ["self", "other"] vs) H := by
  obtain ⟨p, x, a, b, n, m, rfl, Ra, Nb, ha, hb, hs, q⟩ := h
  have TT := T.toRTxt
  rcases Nb with ⟨pb, rfl, Rb⟩ | ⟨k, rfl, rfl⟩
  · refine ⟨_, rfl, isi_rat T Rb ⟨_, rfl, ?_⟩⟩
    refine iteT ?_
    refine ⟨_, rfl, rd_top TT Ra ⟨_, rfl, rd_top TT Rb ⟨rfl, _, rfl, ?_⟩⟩⟩
    dsimp only at q
    rw [eq_rat] at q
    refine ite2 (fun c => ?_) (fun c => ?_)
    · have e : ¬ a.num = b.num := fun z => by rw [decide_eq_true (vint.mpr z)] at c; cases c
      rw [decide_eq_false e, Bool.false_and] at q
      exact q
    · have e : a.num = b.num := by
        rcases Decidable.em (a.num = b.num) with z | z
        · exact z
        · exact absurd (by rw [decide_eq_false (fun y => z (vint.mp y))]; rfl) c
      refine ⟨_, rfl, rd_bot TT Ra ⟨_, rfl, rd_bot TT Rb ⟨rfl, ?_⟩⟩⟩
      rw [decide_eq_true e, Bool.true_and] at q
      have e2 : decide (V.int ((a.den : Nat) : Int) = V.int ((b.den : Nat) : Int)) = decide (a.den = b.den) := decide_eq_decide.mpr (vint.trans (by omega))
      rw [e2]
      exact q
  · refine ⟨_, rfl, isi_int T ⟨_, rfl, ?_⟩⟩
    refine iteF ?_
    refine ⟨_, rfl, _, true, rfl, intQ_int, _, rfl, ?_⟩
    refine iteT ?_
    dsimp only at q
    rw [eq_int] at q
    refine ⟨_, rfl, rd_bot TT Ra ⟨rfl, _, rfl, ?_⟩⟩
    refine ite2 (fun c => ?_) (fun c => ?_)
    · have e : ¬ a.den = 1 := fun z => by rw [decide_eq_true (vint.mpr (show ((a.den : Nat) : Int) = 1 by omega))] at c; cases c
      rw [decide_eq_false e, Bool.false_and] at q
      exact q
    · have e : a.den = 1 := by
        rcases Decidable.em (a.den = 1) with z | z
        · exact z
        · exact absurd (by rw [decide_eq_false (fun y => z (by have := vint.mp y; omega))]; rfl) c
      refine ⟨_, rfl, rd_top TT Ra ⟨_, rfl, rfl, ?_⟩⟩
      rw [decide_eq_true e, Bool.true_and] at q
      have e2 : decide (V.int a.num = V.int k) = decide (a.num = k) := decide_eq_decide.mpr vint
      rw [e2]
      exact q
def t_Ratio_lt (K : PySem.W.Frag) : TS :=
  (tSeq (tIfS (tB (tCB (rIsi K) (tCons (tVar 1) (tCons (tC (.ref (He.ga K "Ratio"))) tNil)))) (tRet (tOp rLt0 (tOp rMulI (tFld K (tVar 0) "top") (tFld K (tVar 1) "bottom")) (tOp rMulI (tFld K (tVar 1) "top") (tFld K (tVar 0) "bottom")))) tNext)
  (tSeq (tIfS (tB (tCall (spIsInt K) [] E0 (tCons (tVar 1) tNil))) (tRet (tOp rLt0 (tFld K (tVar 0) "top") (tOp rMulI (tVar 1) (tFld K (tVar 0) "bottom")))) tNext)
  tNever))
theorem pure_Ratio_lt {K : PySem.W.Frag} (T : RTxt2 K) (vs : List V) (H : Hp) (Q : VK) (E : XK) (h : spRB K (fun a b => decide (a < b)) vs H Q E) : t_Ratio_lt K { nx := fun _ H' => Q .non H', rt := Q } (start ["self", "other"] vs) H := by
  obtain ⟨p, x, a, b, n, m, rfl, Ra, Nb, ha, hb, hs, q⟩ := h
  have TT := T.toRTxt
  rcases Nb with ⟨pb, rfl, Rb⟩ | ⟨k, rfl, rfl⟩
  · refine ⟨_, rfl, isi_rat T Rb ⟨_, rfl, ?_⟩⟩
    refine iteT ?_
    refine ⟨_, rfl, rd_top TT Ra ⟨_, rfl, rd_bot TT Rb ⟨_, _, rfl, rfl, mokA ha hb hs ha.num (dsz hb), _, rfl, rd_top TT Rb ⟨_, rfl, rd_bot TT Ra ⟨_, _, rfl, rfl, mokB ha hb hs hb.num (dsz ha), _, _, rfl, rfl, ?_⟩⟩⟩⟩⟩
    dsimp only at q ⊢
    rw [decide_eq_decide.mpr (Rat.lt_iff a b)] at q
    exact q
  · refine ⟨_, rfl, isi_int T ⟨_, rfl, ?_⟩⟩
    refine iteF ?_
    refine ⟨_, rfl, _, true, rfl, intQ_int, _, rfl, ?_⟩
    refine iteT ?_
    refine ⟨_, rfl, rd_top TT Ra ⟨_, rfl, _, rfl, rd_bot TT Ra ⟨_, _, rfl, rfl, mokB ha hb hs (szI hb) (dsz ha), _, _, rfl, rfl, ?_⟩⟩⟩
    dsimp only at q ⊢
    rw [decide_eq_decide.mpr (lt_intR a k)] at q
    exact q
def t_Ratio_le (K : PySem.W.Frag) : TS :=
  (tSeq (tIfS (tB (tCB (rIsi K) (tCons (tVar 1) (tCons (tC (.ref (He.ga K "Ratio"))) tNil)))) (tRet (tOp rLe0 (tOp rMulI (tFld K (tVar 0) "top") (tFld K (tVar 1) "bottom")) (tOp rMulI (tFld K (tVar 1) "top") (tFld K (tVar 0) "bottom")))) tNext)
  (tSeq (tIfS (tB (tCall (spIsInt K) [] E0 (tCons (tVar 1) tNil))) (tRet (tOp rLe0 (tFld K (tVar 0) "top") (tOp rMulI (tVar 1) (tFld K (tVar 0) "bottom")))) tNext)
  tNever))
theorem pure_Ratio_le {K : PySem.W.Frag} (T : RTxt2 K) (vs : List V) (H : Hp) (Q : VK) (E : XK) (h : spRB K (fun a b => decide (a ≤ b)) vs H Q E) : t_Ratio_le K { nx := fun _ H' => Q .non H', rt := Q } (start ["self", "other"] vs) H := by
  obtain ⟨p, x, a, b, n, m, rfl, Ra, Nb, ha, hb, hs, q⟩ := h
  have TT := T.toRTxt
  rcases Nb with ⟨pb, rfl, Rb⟩ | ⟨k, rfl, rfl⟩
  · refine ⟨_, rfl, isi_rat T Rb ⟨_, rfl, ?_⟩⟩
    refine iteT ?_
    refine ⟨_, rfl, rd_top TT Ra ⟨_, rfl, rd_bot TT Rb ⟨_, _, rfl, rfl, mokA ha hb hs ha.num (dsz hb), _, rfl, rd_top TT Rb ⟨_, rfl, rd_bot TT Ra ⟨_, _, rfl, rfl, mokB ha hb hs hb.num (dsz ha), _, _, rfl, rfl, ?_⟩⟩⟩⟩⟩
    dsimp only at q ⊢
    rw [decide_eq_decide.mpr (Rat.le_iff a b)] at q
    exact q
  · refine ⟨_, rfl, isi_int T ⟨_, rfl, ?_⟩⟩
    refine iteF ?_
    refine ⟨_, rfl, _, true, rfl, intQ_int, _, rfl, ?_⟩
    refine iteT ?_
    refine ⟨_, rfl, rd_top TT Ra ⟨_, rfl, _, rfl, rd_bot TT Ra ⟨_, _, rfl, rfl, mokB ha hb hs (szI hb) (dsz ha), _, _, rfl, rfl, ?_⟩⟩⟩
    dsimp only at q ⊢
    rw [decide_eq_decide.mpr (le_intR a k)] at q
    exact q
def t_Ratio_gt (K : PySem.W.Frag) : TS :=
  (tSeq (tIfS (tB (tCB (rIsi K) (tCons (tVar 1) (tCons (tC (.ref (He.ga K "Ratio"))) tNil)))) (tRet (tOp rGt0 (tOp rMulI (tFld K (tVar 0) "top") (tFld K (tVar 1) "bottom")) (tOp rMulI (tFld K (tVar 1) "top") (tFld K (tVar 0) "bottom")))) tNext)
  (tSeq (tIfS (tB (tCall (spIsInt K) [] E0 (tCons (tVar 1) tNil))) (tRet (tOp rGt0 (tFld K (tVar 0) "top") (tOp rMulI (tVar 1) (tFld K (tVar 0) "bottom")))) tNext)
  tNever))
theorem pure_Ratio_gt {K : PySem.W.Frag} (T : RTxt2 K) (vs : List V) (H : Hp) (Q : VK) (E : XK) (h : spRB K (fun a b => decide (b < a)) vs H Q E) : t_Ratio_gt K { nx := fun _ H' => Q .non H', rt := Q } (start ["self", "other"] vs) H := by
  obtain ⟨p, x, a, b, n, m, rfl, Ra, Nb, ha, hb, hs, q⟩ := h
  have TT := T.toRTxt
  rcases Nb with ⟨pb, rfl, Rb⟩ | ⟨k, rfl, rfl⟩
  · refine ⟨_, rfl, isi_rat T Rb ⟨_, rfl, ?_⟩⟩
    refine iteT ?_
    refine ⟨_, rfl, rd_top TT Ra ⟨_, rfl, rd_bot TT Rb ⟨_, _, rfl, rfl, mokA ha hb hs ha.num (dsz hb), _, rfl, rd_top TT Rb ⟨_, rfl, rd_bot TT Ra ⟨_, _, rfl, rfl, mokB ha hb hs hb.num (dsz ha), _, _, rfl, rfl, ?_⟩⟩⟩⟩⟩
    dsimp only at q ⊢
    rw [decide_eq_decide.mpr (Rat.lt_iff b a)] at q
    exact q
  · refine ⟨_, rfl, isi_int T ⟨_, rfl, ?_⟩⟩
    refine iteF ?_
    refine ⟨_, rfl, _, true, rfl, intQ_int, _, rfl, ?_⟩
    refine iteT ?_
    refine ⟨_, rfl, rd_top TT Ra ⟨_, rfl, _, rfl, rd_bot TT Ra ⟨_, _, rfl, rfl, mokB ha hb hs (szI hb) (dsz ha), _, _, rfl, rfl, ?_⟩⟩⟩
    dsimp only at q ⊢
    rw [decide_eq_decide.mpr (lt_intL k a)] at q
    exact q
def t_Ratio_ge (K : PySem.W.Frag) : TS :=
  (tSeq (tIfS (tB (tCB (rIsi K) (tCons (tVar 1) (tCons (tC (.ref (He.ga K "Ratio"))) tNil)))) (tRet (tOp rGe0 (tOp rMulI (tFld K (tVar 0) "top") (tFld K (tVar 1) "bottom")) (tOp rMulI (tFld K (tVar 1) "top") (tFld K (tVar 0) "bottom")))) tNext)
  (tSeq (tIfS (tB (tCall (spIsInt K) [] E0 (tCons (tVar 1) tNil))) (tRet (tOp rGe0 (tFld K (tVar 0) "top") (tOp rMulI (tVar 1) (tFld K (tVar 0) "bottom")))) tNext)
  tNever))
theorem pure_Ratio_ge {K : PySem.W.Frag} (T : RTxt2 K) (vs : List V) (H : Hp) (Q : VK) (E : XK) (h : spRB K (fun a b => decide (b ≤ a)) vs H Q E) : t_Ratio_ge K { nx := fun _ H' => Q .non H', rt := Q } (start ["self", "other"] vs) H := by
  obtain ⟨p, x, a, b, n, m, rfl, Ra, Nb, ha, hb, hs, q⟩ := h
  have TT := T.toRTxt
  rcases Nb with ⟨pb, rfl, Rb⟩ | ⟨k, rfl, rfl⟩
  · refine ⟨_, rfl, isi_rat T Rb ⟨_, rfl, ?_⟩⟩
    refine iteT ?_
    refine ⟨_, rfl, rd_top TT Ra ⟨_, rfl, rd_bot TT Rb ⟨_, _, rfl, rfl, mokA ha hb hs ha.num (dsz hb), _, rfl, rd_top TT Rb ⟨_, rfl, rd_bot TT Ra ⟨_, _, rfl, rfl, mokB ha hb hs hb.num (dsz ha), _, _, rfl, rfl, ?_⟩⟩⟩⟩⟩
    dsimp only at q ⊢
    rw [decide_eq_decide.mpr (Rat.le_iff b a)] at q
    exact q
  · refine ⟨_, rfl, isi_int T ⟨_, rfl, ?_⟩⟩
    refine iteF ?_
    refine ⟨_, rfl, _, true, rfl, intQ_int, _, rfl, ?_⟩
    refine iteT ?_
    refine ⟨_, rfl, rd_top TT Ra ⟨_, rfl, _, rfl, rd_bot TT Ra ⟨_, _, rfl, rfl, mokB ha hb hs (szI hb) (dsz ha), _, _, rfl, rfl, ?_⟩⟩⟩
    dsimp only at q ⊢
    rw [decide_eq_decide.mpr (le_intL k a)] at q
    exact q
end MR

set_option Elab.async false
set_option linter.all false
set_option maxRecDepth 100000
set_option maxHeartbeats 4000000
/-! MR: the draws that the laws make of their script -/
namespace MR
open PySem PySem.Spec PyProof.Rows L2
/-- the list at f is the law's feed: cells at c, place, rest, left, count, sum -/
structure FeedAt (K : PySem.W.Frag) (H : Hp) (f c : Addr) (ns : List Int) (p b l n s : Int) : Prop where
  ob : H f = some (.lst [.ref c, .int p, .int b, .int l, .int n, .int s])
  cs : SqL K H c (ns.map V.int)
  ne : c ≠ f
  nn : ∀ x ∈ ns, 0 ≤ x
  p0 : 0 ≤ p
  b0 : 0 ≤ b
  l0 : 0 ≤ l
  n0 : 0 ≤ n
  s0 : 0 ≤ s
def Feed (K : PySem.W.Frag) (H : Hp) (f : Addr) : Prop := ∃ c ns p b l n s, FeedAt K H f c ns p b l n s
theorem sq_keep {K : PySem.W.Frag} {H H' : Hp} {f a : Addr} {xs : List V} (k : Keep f H H') (ne : a ≠ f) (h : SqL K H a xs) : SqL K H' a xs := by
  rcases h with (h | ⟨o, h⟩) | h
  · exact .inl (.inl (k _ _ h ne))
  · exact .inl (.inr ⟨o, k _ _ h ne⟩)
  · exact .inr h
theorem FeedAt.upd {K : PySem.W.Frag} {H : Hp} {f c : Addr} {ns : List Int} {p b l n s p' b' l' n' s' : Int} (F : FeedAt K H f c ns p b l n s) (h1 : 0 ≤ p') (h2 : 0 ≤ b') (h3 : 0 ≤ l') (h4 : 0 ≤ n') (h5 : 0 ≤ s') :
    FeedAt K (upd H f (.lst [.ref c, .int p', .int b', .int l', .int n', .int s'])) f c ns p' b' l' n' s' := ⟨upd_same, sq_keep keep_upd F.ne F.cs, F.ne, F.nn, h1, h2, h3, h4, h5⟩
theorem FeedAt.same {K : PySem.W.Frag} {H H' : Hp} {f c : Addr} {ns : List Int} {p b l n s : Int} (F : FeedAt K H f c ns p b l n s) (h : Same H H') : FeedAt K H' f c ns p b l n s := ⟨h _ _ F.ob, h.seq F.cs, F.ne, F.nn, F.p0, F.b0, F.l0, F.n0, F.s0⟩
theorem Feed.same {K : PySem.W.Frag} {H H' : Hp} {f : Addr} (F : Feed K H f) (h : Same H H') : Feed K H' f := let ⟨c, ns, p, b, l, n, s, G⟩ := F; ⟨c, ns, p, b, l, n, s, G.same h⟩
/-- _law_take(feed, size) -/
def spTake (K : PySem.W.Frag) : Sp := fun vs H Q _ => ∃ (f : Addr) (z : Int), vs = [.ref f, .int z] ∧ Feed K H f ∧ 0 < z ∧ z.natAbs < 2 ^ 9000 ∧ ∀ (d : Int) (H' : Hp), 0 ≤ d → d < z → Feed K H' f → Keep f H H' → Q (.int d) H'
def t_take2 (K : PySem.W.Frag) : TS :=
  (tSeq (tIfS (tTest (tOp rGt0 (tOp (rIxL K) (tVar 0) (tC (.int 2))) (tC (.int 0)))) (tSeq (tAsg (tOp rModN (tCB rInt0 (tCons (tOp (rIxL K) (tVar 0) (tC (.int 2))) tNil)) (tVar 1)) (gName 4))
  (tSeq (tAsg (tOp rDivZ (tOp (rIxL K) (tVar 0) (tC (.int 2))) (tVar 1)) (gSub (tVar 0) (tC (.int 2)) rSetL))
  (tRet (tVar 4)))) tNext)
  (tSeq (tAsg (tCB rMax0 (tCons (tC (.int 0)) (tCons (tOp rSub0 (tOp (rIxL K) (tVar 0) (tC (.int 3))) (tC (.int 1))) tNil))) (gSub (tVar 0) (tC (.int 3)) rSetL))
  (tSeq (tAsg (tOp rModN (tCB rInt0 (tCons (tOp rMulI (tOp rAdd0 (tOp rAdd0 (tOp (rIxL K) (tVar 0) (tC (.int 5))) (tOp rMulI (tC (.int 7919)) (tOp (rIxL K) (tVar 0) (tC (.int 4))))) (tC (.int 1))) (tC (.int 48271))) tNil)) (tC (.int 2147483647))) (gName 2))
  (tSeq (tAsg (tOp rModN (tCB rInt0 (tCons (tOp rMulI (tVar 2) (tOp rAdd0 (tOp rDivZ (tVar 2) (tC (.int 1009))) (tC (.int 69621)))) tNil)) (tC (.int 2147483647))) (gName 2))
  (tSeq (tAsg (tOp rModN (tCB rInt0 (tCons (tOp rMulI (tVar 2) (tOp rAdd0 (tOp rDivZ (tVar 2) (tC (.int 2003))) (tC (.int 40692)))) tNil)) (tC (.int 2147483399))) (gName 2))
  (tRet (tOp rModN (tVar 2) (tVar 1))))))))
def t__law_take (K : PySem.W.Frag) : TS :=
  (tSeq (tAugS (tVar 0) (tC (.int 4)) (tC (.int 1)) (rGetL K) (ipI fun i j => i + j) rSetL)
  (tSeq (tIfS (tAnd (tTest (tOp rEq (tOp (rIxL K) (tVar 0) (tC (.int 2))) (tC (.int 0)))) (tAnd (tTest (tOp rEq (tOp (rIxL K) (tVar 0) (tC (.int 3))) (tC (.int 0)))) (tTest (tOp rLt0 (tOp (rIxL K) (tVar 0) (tC (.int 1))) (tCB (rLenA K) (tCons (tOp (rIxL K) (tVar 0) (tC (.int 0))) tNil)))))) (tSeq (tAsg (tOp (rIxL K) (tOp (rIxL K) (tVar 0) (tC (.int 0))) (tOp (rIxL K) (tVar 0) (tC (.int 1)))) (gName 3))
  (tSeq (tAugS (tVar 0) (tC (.int 1)) (tC (.int 1)) (rGetL K) (ipI fun i j => i + j) rSetL)
  (tIfS (tTest (tOp rGe0 (tVar 3) (tOp rPow0 (tC (.int 10)) (tC (.int 18))))) (tAsg (tVar 3) (gSub (tVar 0) (tC (.int 2)) rSetL)) (tSeq (tAsg (tC (.int 7)) (gSub (tVar 0) (tC (.int 3)) rSetL))
  (tAsg (tOp rAdd0 (tOp (rIxL K) (tVar 0) (tC (.int 5))) (tVar 3)) (gSub (tVar 0) (tC (.int 5)) rSetL)))))) tNext)
  (t_take2 K)))
theorem fmod_lt {a z : Int} (h : 0 < z) : 0 ≤ a.fmod z ∧ a.fmod z < z := by
  rw [Int.fmod_eq_emod_of_nonneg _ (by omega)]
  exact ⟨Int.emod_nonneg _ (by omega), Int.emod_lt_of_pos _ h⟩
theorem take2_ok {K : PySem.W.Frag} {H H0 : Hp} {f c : Addr} {ns : List Int} {p b l n s z : Int} {v2 v3 v4 : Option V} {D : L2.Ends} (F : FeedAt K H f c ns p b l n s) (hz : 0 < z) (hz9 : z.natAbs < 2 ^ 9000) (kp : Keep f H0 H)
    (k : ∀ (d : Int) (H' : Hp), 0 ≤ d → d < z → Feed K H' f → Keep f H0 H' → D.rt (.int d) H') : t_take2 K D [some (.ref f), some (.int z), v2, v3, v4] H := by
  have ob := F.ob
  refine ⟨_, rfl, f, _, _, _, rfl, rfl, SqL.of ob, rfl, _, _, rfl, rfl, _, rfl, ?_⟩
  refine ite2 (fun c1 => ?_) (fun c1 => ?_)
  · refine ⟨_, rfl, f, _, _, _, rfl, rfl, SqL.of ob, rfl, .inl ⟨_, rfl, _, rfl, _, _, rfl, rfl, (by omega), ?_⟩⟩
    refine ⟨_, rfl, f, _, _, _, rfl, rfl, SqL.of ob, rfl, _, rfl, _, _, rfl, rfl, div_ok (by omega) hz9 (by decide) (by decide), _, rfl, f, _, _, 2, rfl, rfl, ob, rfl, ?_⟩
    refine ⟨_, rfl, ?_⟩
    have hq : 0 ≤ b.fdiv z := Int.fdiv_nonneg F.b0 (by omega)
    exact k _ _ (fmod_lt hz).1 (fmod_lt hz).2 ⟨c, ns, p, b.fdiv z, l, n, s, F.upd F.p0 hq F.l0 F.n0 F.s0⟩ (kp.trans keep_upd)
  · refine ⟨_, rfl, f, _, _, _, rfl, rfl, SqL.of ob, rfl, _, _, rfl, rfl, _, _, rfl, _, rfl, f, _, _, 3, rfl, rfl, ob, rfl, ?_⟩
    have hl : 0 ≤ (if l - 1 > 0 then l - 1 else 0) := by omega
    have F1 := F.upd F.p0 F.b0 hl F.n0 F.s0
    have k1 : Keep f H0 _ := kp.trans (keep_upd (f := f) (H := H) (o := .lst [.ref c, .int p, .int b, .int (if l - 1 > 0 then l - 1 else 0), .int n, .int s]))
    have ob1 := F1.ob
    have m7 : ∀ x : Int, IntMulOk 7919 x := fun x => mul_okL (by decide)
    have m4 : ∀ x : Int, IntMulOk x 48271 := fun x => mul_okR (by decide)
    refine ⟨_, rfl, f, _, _, _, rfl, rfl, SqL.of ob1, rfl, _, rfl, f, _, _, _, rfl, rfl, SqL.of ob1, rfl, _, _, rfl, rfl, m7 _, _, _, rfl, rfl, _, _, rfl, rfl, _, _, rfl, rfl, m4 _, .inl ⟨_, rfl, _, _, rfl, rfl, (by decide : (2147483647 : Int) ≠ 0), ?_⟩⟩
    have step : ∀ (y m1 m2 m3 : Int), 0 ≤ y → y < 2147483647 → 0 < m1 → 0 < m2 → 0 ≤ y.fdiv m1 + m2 ∧ IntMulOk y (y.fdiv m1 + m2) := fun y m1 m2 m3 h0 h1 h2 h3 => by
      have hq : 0 ≤ y.fdiv m1 := Int.fdiv_nonneg h0 (by omega)
      exact ⟨by omega, mul_okL (by omega)⟩
    have hy2 := fmod_lt (a := (s + 7919 * n + 1) * 48271) (z := 2147483647) (by decide)
    refine ⟨_, rfl, _, rfl, _, _, rfl, rfl, div_ok (b := 30) (by decide) (by decide) (by decide) (by decide), _, _, rfl, rfl, _, _, rfl, rfl, (step _ 1009 69621 0 hy2.1 hy2.2 (by decide) (by decide)).2, .inl ⟨_, rfl, _, _, rfl, rfl, (by decide : (2147483647 : Int) ≠ 0), ?_⟩⟩
    have hu2 := fmod_lt (a := ((s + 7919 * n + 1) * 48271).fmod 2147483647 * ((((s + 7919 * n + 1) * 48271).fmod 2147483647).fdiv 1009 + 69621)) (z := 2147483647) (by decide)
    refine ⟨_, rfl, _, rfl, _, _, rfl, rfl, div_ok (b := 30) (by decide) (by decide) (by decide) (by decide), _, _, rfl, rfl, _, _, rfl, rfl, (step _ 2003 40692 0 hu2.1 hu2.2 (by decide) (by decide)).2, .inl ⟨_, rfl, _, _, rfl, rfl, (by decide : (2147483399 : Int) ≠ 0), ?_⟩⟩
    refine ⟨_, rfl, _, rfl, _, _, rfl, rfl, (by omega), ?_⟩
    exact k _ _ (fmod_lt hz).1 (fmod_lt hz).2 ⟨c, ns, _, _, _, _, _, F1⟩ k1
theorem pure__law_take {K : PySem.W.Frag} (vs : List V) (H : Hp) (Q : VK) (E : XK) (h : spTake K vs H Q E) : t__law_take K { nx := fun _ H' => Q .non H', rt := Q } (start ["_law_feed_here", "_law_size_here", "_law_number_here", "_law_cell", "_law_digit"] vs) H := by
  obtain ⟨f, z, rfl, ⟨c, ns, p, b, l, n, s, F⟩, hz, hz9, k⟩ := h
  refine ⟨_, rfl, f, _, _, _, rfl, rfl, (by decide), SqL.of F.ob, rfl, _, _, rfl, rfl, f, _, _, 4, rfl, rfl, F.ob, rfl, ?_⟩
  have F1 := F.upd F.p0 F.b0 F.l0 (n' := n + 1) (by have := F.n0; omega) F.s0
  have k1 : Keep f H _ := keep_upd (f := f) (H := H) (o := .lst [.ref c, .int p, .int b, .int l, .int (n + 1), .int s])
  have ob := F1.ob
  refine ⟨_, rfl, f, _, _, _, rfl, rfl, SqL.of ob, rfl, rfl, _, rfl, ?_⟩
  refine ite2 (fun _ => ?_) (fun _ => iteF (take2_ok F1 hz hz9 k1 k))
  refine ⟨_, rfl, f, _, _, _, rfl, rfl, SqL.of ob, rfl, rfl, _, rfl, ?_⟩
  refine ite2 (fun _ => ?_) (fun _ => iteF (take2_ok F1 hz hz9 k1 k))
  refine ⟨_, rfl, f, _, _, _, rfl, rfl, SqL.of ob, rfl, _, rfl, f, _, _, _, rfl, rfl, SqL.of ob, rfl, .ref c, (ns.map V.int).length, rfl, .inl ⟨_, F1.cs, rfl⟩, _, _, rfl, rfl, _, rfl, ?_⟩
  refine ite2 (fun c3 => ?_) (fun _ => take2_ok F1 hz hz9 k1 k)
  have hlt : p < ns.length := by
    have e := of_decide_eq_true c3
    rw [List.length_map] at e
    exact e
  have p0 := F.p0
  obtain ⟨x, hx⟩ : ∃ x, ns[p.toNat]? = some x := ⟨_, List.getElem?_eq_getElem (by omega)⟩
  have hx0 : 0 ≤ x := F.nn x (List.mem_of_getElem? hx)
  have hat : atI (ns.map V.int) p = some (.int x) := by
    have e : p = ((p.toNat : Nat) : Int) := by omega
    rw [e]
    exact atI_nat (by rw [List.getElem?_map, hx]; rfl)
  refine ⟨_, rfl, f, _, _, _, rfl, rfl, SqL.of ob, rfl, _, rfl, f, _, _, _, rfl, rfl, SqL.of ob, rfl, c, _, p, _, rfl, rfl, F1.cs, hat, ?_⟩
  refine ⟨_, rfl, f, _, _, _, rfl, rfl, (by decide), SqL.of ob, rfl, _, _, rfl, rfl, f, _, _, 1, rfl, rfl, ob, rfl, ?_⟩
  have F2 := F1.upd (p' := p + 1) (by omega) F.b0 F.l0 F1.n0 F.s0
  have k2 := k1.trans (keep_upd (f := f) (H := _) (o := .lst [.ref c, .int (p + 1), .int b, .int l, .int (n + 1), .int s]))
  have ob2 := F2.ob
  refine ⟨_, rfl, _, _, rfl, rfl, ⟨by decide, by decide, by decide⟩, _, _, rfl, rfl, _, rfl, ?_⟩
  refine ite2 (fun _ => ?_) (fun _ => ?_)
  · refine ⟨_, rfl, _, rfl, f, _, _, 2, rfl, rfl, ob2, rfl, ?_⟩
    exact take2_ok (F2.upd F2.p0 hx0 F.l0 F1.n0 F.s0) hz hz9 (k2.trans keep_upd) k
  · refine ⟨_, rfl, f, _, _, 3, rfl, rfl, ob2, rfl, ?_⟩
    have F3 := F2.upd F2.p0 F.b0 (l' := 7) (by decide) F1.n0 F.s0
    refine ⟨_, rfl, f, _, _, _, rfl, rfl, SqL.of F3.ob, rfl, _, rfl, _, _, rfl, rfl, _, rfl, f, _, _, 5, rfl, rfl, F3.ob, rfl, ?_⟩
    exact take2_ok (F3.upd F2.p0 F.b0 F3.l0 F1.n0 (s' := s + x) (by have := F.s0; omega)) hz hz9 ((k2.trans keep_upd).trans keep_upd) k
/-- _law_number(feed, size) -/
def spNumber (K : PySem.W.Frag) : Sp := fun vs H Q _ => ∃ (f : Addr) (z : Int), vs = [.ref f, .int z] ∧ Feed K H f ∧ 0 < z ∧ z.natAbs < 2 ^ 9000 ∧ ∀ (d : Int) (H' : Hp), -z < d → d < z → Feed K H' f → Keep f H H' → Q (.int d) H'
def t__law_number (K : PySem.W.Frag) : TS :=
  (tSeq (tAsg (tOp rSub0 (tC (.int 1)) (tOp rMulI (tC (.int 2)) (tCall (spTake K) [] E0 (tCons (tVar 0) (tCons (tC (.int 2)) tNil))))) (gName 2))
  (tRet (tOp rMulI (tVar 2) (tCall (spTake K) [] E0 (tCons (tVar 0) (tCons (tVar 1) tNil))))))
theorem pure__law_number {K : PySem.W.Frag} (vs : List V) (H : Hp) (Q : VK) (E : XK) (h : spNumber K vs H Q E) : t__law_number K { nx := fun _ H' => Q .non H', rt := Q } (start ["_law_feed_here", "_law_size_here", "_law_sign"] vs) H := by
  obtain ⟨f, z, rfl, F, hz, hz9, k⟩ := h
  refine ⟨_, rfl, f, 2, rfl, F, by decide, by decide, fun d H1 d0 d1 F1 k1 => ?_⟩
  refine ⟨_, _, rfl, rfl, mul_okL (by decide), _, _, rfl, rfl, ?_⟩
  refine ⟨_, rfl, _, rfl, _, rfl, f, z, rfl, F1, hz, hz9, fun u H2 u0 u1 F2 k2 => ?_⟩
  refine ⟨_, _, rfl, rfl, mul_okL (by omega), ?_⟩
  have e : d = 0 ∨ d = 1 := by omega
  rcases e with rfl | rfl
  · exact k _ H2 (by omega) (by omega) F2 (k1.trans k2)
  · exact k _ H2 (by omega) (by omega) F2 (k1.trans k2)
/-! ### _law_feed(script) -/
def spFeed (K : PySem.W.Frag) : Sp := fun vs H Q _ => ∃ (a : Addr) (ns : List Int), vs = [.ref a] ∧ SqL K H a (ns.map V.int) ∧ ns.length ≤ 63 ∧ ∀ (f : Addr) (H' : Hp), H f = none → Same H H' → Feed K H' f → Q (.ref f) H'
def t__law_feed (K : PySem.W.Frag) : TS :=
  (tRet (tLst (tCons (tLc (iList K (tSl (rSlL K) (tVar 0) tNoPart (tPart (tC (.int 63))))) (gName 1) tYes (tCB rAbs0 (tCons (tCB rInt0 (tCons (tVar 1) tNil)) tNil)) [1]) (tCons (tC (.int 0)) (tCons (tC (.int 0)) (tCons (tC (.int 0)) (tCons (tC (.int 0)) (tCons (tC (.int 0)) tNil))))))))
theorem cut_ints (ns : List Int) (lo hi : Option Int) : ∃ ms : List Int, cutV (ns.map V.int) lo hi = ms.map V.int ∧ ms.length ≤ ns.length := by
  unfold cutV
  refine ⟨(ns.drop (HT.sIx (ns.map V.int).length 0 lo)).take (HT.sIx (ns.map V.int).length (ns.map V.int).length hi - HT.sIx (ns.map V.int).length 0 lo), ?_, ?_⟩
  · rw [List.map_take, List.map_drop]
  · rw [List.length_take, List.length_drop]
    omega
theorem map_get {ms : List Int} {i : Nat} {x : V} (h : (ms.map V.int)[i]? = some x) : ∃ z, ms[i]? = some z ∧ x = .int z := by
  rw [List.getElem?_map] at h
  cases e : ms[i]? with
  | none =>
    rw [e] at h
    cases h
  | some z =>
    rw [e] at h
    exact ⟨z, rfl, (Option.some.inj h).symm⟩
theorem take_succ_get {α : Type} {l : List α} {i : Nat} {x : α} (h : l[i]? = some x) : l.take (i + 1) = l.take i ++ [x] := by
  rw [List.take_add_one, h]
  rfl
theorem pure__law_feed {K : PySem.W.Frag} (vs : List V) (H : Hp) (Q : VK) (E : XK) (h : spFeed K vs H Q E) : t__law_feed K { nx := fun _ H' => Q .non H', rt := Q } (start ["_law_script", "_law_cell"] vs) H := by
  obtain ⟨a, ns, rfl, hS, hl, k⟩ := h
  refine ⟨_, rfl, _, rfl, a, _, rfl, hS, fun p0 np => ?_⟩
  obtain ⟨ms, em, hm⟩ := cut_ints ns none (some 63)
  rw [em]
  have s0 : Same H (upd H p0 (.lst (ms.map V.int))) := same_new np
  refine ⟨p0, rfl, ⟨_, SqL.of upd_same⟩, fun D hD => ?_⟩
  have nD : H D = none := s0.free hD
  have ne : D ≠ p0 := fun e => by rw [e, upd_same] at hD; cases hD
  refine lc_list (K := K) (a := p0) (xs := ms.map V.int) (fun i H' => Same H H' ∧ H' p0 = some (.lst (ms.map V.int)) ∧ H' D = some (.lst ((ms.take i).map fun z => V.int (z.natAbs : Nat))))
    ⟨fun b o e => ?_, ?_, upd_same⟩ (fun i H' _ q => SqL.of q.2.1) ?_ ?_
  · rw [upd_ne (ne_of_none e nD)]
    exact s0 b o e
  · rw [upd_ne (Ne.symm ne), upd_same]
  · rintro i x H' hx ⟨s1, q1, q2⟩
    obtain ⟨z, hz, rfl⟩ := map_get hx
    have hi : i < ms.length := (List.getElem?_eq_some_iff.mp hz).1
    refine ⟨rfl, _, rfl, .inl ⟨_, rfl, _, rfl, _, q2, ?_, ?_, ?_, ?_⟩⟩
    · rw [List.length_map, List.length_take]
      exact small1000 (by omega)
    · intro b o e
      rw [upd_ne (ne_of_none e nD)]
      exact s1 b o e
    · rw [upd_ne (Ne.symm ne)]
      exact q1
    · rw [upd_same, take_succ_get hz, List.map_append, abs_if]
      rfl
  · rintro H' ⟨s1, q1, q2⟩
    rw [List.length_map, List.take_length] at q2
    refine ⟨(by show 6 ≤ sizeLine; decide), fun f nf => ?_⟩
    have s2 : Same H' _ := same_new (o := .lst [.ref D, .int 0, .int 0, .int 0, .int 0, .int 0]) nf
    refine k f _ (s1.free nf) (s1.trans s2) ⟨D, ms.map fun z => ((z.natAbs : Nat) : Int), 0, 0, 0, 0, 0, upd_same, ?_, ne_of_none q2 nf, ?_, by decide, by decide, by decide, by decide, by decide⟩
    · rw [List.map_map]
      exact SqL.of (s2 _ _ q2)
    · intro x hx
      obtain ⟨z, _, rfl⟩ := List.mem_map.mp hx
      omega
/-! ### _law_divisor(a, b): four hundred turns are enough -/
def spLDiv : Sp := fun vs H Q _ => ∃ a b : Int, vs = [.int a, .int b] ∧ a.natAbs * b.natAbs < 2 ^ 399 ∧ Q (.int (a.gcd b : Nat)) H
def t__law_divisor (K : PySem.W.Frag) : TS :=
  (tSeq (tAsg (tCB rAbs0 (tCons (tVar 0) tNil)) (gName 0))
  (tSeq (tAsg (tCB rAbs0 (tCons (tVar 1) tNil)) (gName 1))
  (tSeq (tFor (iRng1 (tCons (tC (.int 400)) tNil)) (gName 2) (tSeq (tIfS (tTest (tOp rEq (tVar 1) (tC (.int 0)))) tBreak tNext)
  (tSeq (tAsg (tOp rModN (tCB rInt0 (tCons (tVar 0) tNil)) (tVar 1)) (gName 3))
  (tSeq (tAsg (tVar 1) (gName 0))
  (tAsg (tVar 3) (gName 1))))))
  (tRet (tVar 0)))))
theorem euclid_half {x y : Nat} (hy : 0 < y) (h : y ≤ x) : y * (x % y) * 2 ≤ x * y := by
  have h1 := Nat.mod_add_div x y
  have h2 := Nat.mod_lt x hy
  have h3 : 0 < x / y := Nat.div_pos h hy
  have h4 : y * 1 ≤ y * (x / y) := Nat.mul_le_mul_left y h3
  have h5 : (x % y) * 2 ≤ x := by omega
  calc y * (x % y) * 2 = y * (x % y * 2) := Nat.mul_assoc ..
    _ ≤ y * x := Nat.mul_le_mul_left y h5
    _ = x * y := Nat.mul_comm ..
/-- behind i turns -/
structure Eu (g P i x y : Nat) : Prop where
  gc : x.gcd y = g
  lt : 1 ≤ i → y < x ∨ y = 0
  pr : x * y * 2 ^ (i - 1) ≤ P
theorem Eu.turn {g P i x y : Nat} (h : Eu g P i x y) (hy : 0 < y) : Eu g P (i + 1) y (x % y) := by
  refine ⟨by rw [← h.gc, Nat.gcd_comm x y, Nat.gcd_rec y x, Nat.gcd_comm], fun _ => .inl (Nat.mod_lt x hy), ?_⟩
  by_cases hi : 1 ≤ i
  · have hlt : y ≤ x := by
      rcases h.lt hi with z | z <;> omega
    have e : 2 ^ (i + 1 - 1) = 2 * 2 ^ (i - 1) := by
      rw [show i + 1 - 1 = (i - 1) + 1 by omega, Nat.pow_succ, Nat.mul_comm]
    rw [e, ← Nat.mul_assoc]
    exact Nat.le_trans (Nat.mul_le_mul_right _ (euclid_half hy hlt)) h.pr
  · have e : i = 0 := by omega
    subst e
    have h3 := h.pr
    simp only [Nat.zero_sub, Nat.pow_zero, Nat.mul_one, Nat.zero_add, Nat.sub_self] at h3 ⊢
    have h5 : y * (x % y) ≤ y * x := Nat.mul_le_mul_left y (Nat.mod_le x y)
    rw [Nat.mul_comm y x] at h5
    omega
theorem Eu.fin {g P x y : Nat} (h : Eu g P 400 x y) (hP : P < 2 ^ 399) : y = 0 := by
  rcases Nat.eq_zero_or_pos y with e | hy
  · exact e
  · exfalso
    have hx : 0 < x := by
      rcases h.lt (by decide) with z | z <;> omega
    have h1 : 1 ≤ x * y := Nat.mul_pos hx hy
    have h2 := h.pr
    have h3 : 1 * 2 ^ (400 - 1) ≤ x * y * 2 ^ (400 - 1) := Nat.mul_le_mul_right _ h1
    rw [Nat.one_mul, show 400 - 1 = 399 by decide] at h3
    rw [show 400 - 1 = 399 by decide] at h2
    exact absurd (Nat.lt_of_le_of_lt (Nat.le_trans h3 h2) hP) (Nat.lt_irrefl _)
theorem pure__law_divisor {K : PySem.W.Frag} (vs : List V) (H : Hp) (Q : VK) (E : XK) (h : spLDiv vs H Q E) : t__law_divisor K { nx := fun _ H' => Q .non H', rt := Q } (start ["_law_a", "_law_b", "_law_k", "_law_rest"] vs) H := by
  obtain ⟨a, b, rfl, hP, q⟩ := h
  refine ⟨_, rfl, _, rfl, _, rfl, _, rfl, 400, rfl, by decide, by decide, ?_⟩
  refine for_range (lo := 0) (n := 400) (fun i σ H' => H' = H ∧ ∃ (x y : Nat) (v w : Option V), σ = [some (.int x), some (.int y), v, w] ∧ Eu (a.gcd b) (a.natAbs * b.natAbs) i x y) ⟨rfl, a.natAbs, b.natAbs, none, none, ?_, rfl, fun z => absurd z (by decide), by simp⟩ ?_ ?_
  · rw [abs_if, abs_if]
    rfl
  · rintro i σ H' hi ⟨rfl, x, y, v, w, rfl, I⟩
    refine ⟨_, rfl, rfl, _, rfl, ?_⟩
    refine ite2 (fun c => ?_) (fun c => ?_)
    · have hy : y = 0 := by
        have e := of_decide_eq_true c
        injection e with e
        omega
      subst hy
      have e := I.gc
      rw [Nat.gcd_zero_right] at e
      refine ⟨_, rfl, ?_⟩
      rw [e]
      exact q
    · have hy : 0 < y := by
        rcases Nat.eq_zero_or_pos y with e | e
        · exact absurd (by rw [e]; exact decide_eq_true rfl) c
        · exact e
      refine ⟨_, rfl, .inl ⟨_, rfl, _, rfl, _, _, rfl, rfl, (by omega), _, rfl, _, rfl, rfl, y, x % y, some (.int (0 + (i : Nat))), some (.int ((x % y : Nat) : Int)), ?_, I.turn hy⟩⟩
      show [some (V.int y), some (V.int ((x : Int).fmod y)), some (V.int (0 + (i : Nat))), some (V.int ((x : Int).fmod y))] = _
      rw [Int.fmod_eq_emod_of_nonneg _ (by omega)]
      rfl
  · rintro σ H' ⟨rfl, x, y, v, w, rfl, I⟩
    have hy := I.fin hP
    subst hy
    have e := I.gc
    rw [Nat.gcd_zero_right] at e
    refine ⟨_, rfl, ?_⟩
    rw [e]
    exact q
end MR

set_option Elab.async false
set_option linter.all false
set_option maxRecDepth 100000
set_option maxHeartbeats 4000000
set_option exponentiation.threshold 20000
/-! MR: a reading, step by step: one lemma a word -/
namespace MR
open PySem PySem.Spec PyProof.Rows L2
section
variable {K : PySem.W.Frag} {D : L2.Ends} {σ : L2.St} {H H0 : Hp} {Q : VK} {v : V} {i j : Int}
theorem i_seq {t u : TS} (h : t { D with nx := u D } σ H) : tSeq t u D σ H := h
theorem i_next (h : D.nx σ H) : tNext D σ H := h
theorem i_asg {te : TE} {g : TG} (h : te σ H fun x H1 => g x σ H1 D.nx) : tAsg te g D σ H := h
theorem i_name {k : Nat} {R : L2.St → Hp → Prop} (h : R (σ.set k (some v)) H) : gName k v σ H R := h
theorem i_ret {te : TE} (h : te σ H D.rt) : tRet te D σ H := h
theorem i_drop {te : TE} (h : te σ H fun _ H1 => D.nx σ H1) : tDrop te D σ H := h
theorem i_if {c : TT} {t u : TS} (h : c σ H fun b H1 => if b = true then t D σ H1 else u D σ H1) : tIfS c t u D σ H := h
theorem i_var {k : Nat} (e : σ[k]? = some (some v)) (h : Q v H) : tVar k σ H Q := ⟨v, e, h⟩
theorem i_c (h : Q v H) : tC v σ H Q := h
theorem i_op {r : R2} {ta tb : TE} (h : ta σ H fun x H1 => tb σ H1 fun y H2 => r x y H2 Q) : tOp r ta tb σ H Q := h
theorem i_un {r : V → Hp → VK → Prop} {ta : TE} (h : ta σ H fun x H1 => r x H1 Q) : tUn r ta σ H Q := h
theorem i_cons {ta : TE} {tr : TA} {R : List V → Hp → Prop} (h : ta σ H fun x H1 => tr σ H1 fun xs H2 => R (x :: xs) H2) : tCons ta tr σ H R := h
theorem i_nil {R : List V → Hp → Prop} (h : R [] H) : tNil σ H R := h
theorem i_call {sp : Sp} {dvs : List V} {E : XK} {t : TA} (h : t σ H fun vs H1 => sp (vs ++ dvs) H1 Q E) : tCall sp dvs E t σ H Q := h
theorem i_cb {r : List V → Hp → VK → Prop} {t : TA} (h : t σ H fun vs H1 => r vs H1 Q) : tCB r t σ H Q := h
theorem i_make {C : Addr} {sp : Sp} {dvs : List V} {E : XK} {t : TA} (h : t σ H fun vs H1 => ∀ x dx, H1 x = none → H1 dx = none → dx ≠ x → sp (.ref x :: (vs ++ dvs)) (upd (upd H1 dx (.own x)) x (.ins C dx [])) (fun v H2 => v = .non ∧ Q (.ref x) H2) E) : tMake C sp dvs E t σ H Q := h
theorem i_fld {ta : TE} {f : Str} (h : ta σ H fun x H1 => ∃ a C dx fs v, x = .ref a ∧ H1 a = some (.ins C dx fs) ∧ Cls K C ∧ NoAttr K C f ∧ fs.lookup f = some v ∧ Q v H1) : tFld K ta f σ H Q := h
theorem i_not {t : TT} {R : Bool → Hp → Prop} (h : t σ H fun c H1 => R (!c) H1) : tNot t σ H R := h
theorem i_notV {t : TE} (h : t σ H fun x H1 => ∃ c, x = .bl c ∧ Q (.bl (!c)) H1) : tNotV t σ H Q := h
theorem i_or {t u : TT} {R : Bool → Hp → Prop} (h : t σ H fun c H1 => if c = true then R true H1 else u σ H1 R) : tOr t u σ H R := h
theorem i_and {t u : TT} {R : Bool → Hp → Prop} (h : t σ H fun c H1 => if c = true then u σ H1 R else R false H1) : tAnd t u σ H R := h
theorem i_orV {t u : TE} (h : t σ H fun x H1 => ∃ c, x = .bl c ∧ if c = true then Q (.bl true) H1 else u σ H1 Q) : tOrV t u σ H Q := h
theorem i_andV {t u : TE} (h : t σ H fun x H1 => ∃ c, x = .bl c ∧ if c = true then u σ H1 Q else Q (.bl false) H1) : tAndV t u σ H Q := h
theorem i_b {t : TE} {R : Bool → Hp → Prop} (h : t σ H fun x H1 => ∃ c, x = .bl c ∧ R c H1) : tB t σ H R := h
theorem i_test {t : TE} {R : Bool → Hp → Prop} (h : t σ H fun x H1 => ∃ c, x = .bl c ∧ R c H1) : tTest t σ H R := h
theorem i_bl {b : Bool} {R : Bool → Prop} (h : R b) : ∃ c, V.bl b = .bl c ∧ R c := ⟨b, rfl, h⟩
theorem i_lst {t : TA} (h : t σ H fun xs H1 => xs.length ≤ sizeLine ∧ ∀ p, H1 p = none → Q (.ref p) (upd H1 p (.lst xs))) : tLst t σ H Q := h
theorem i_tup {t : TA} (h : t σ H fun xs H1 => xs.length ≤ sizeLine ∧ ∀ p, H1 p = none → Q (.ref p) (upd H1 p (.tup xs))) : tTup t σ H Q := h
theorem i_add (h : Q (.int (i + j)) H) : rAdd0 (.int i) (.int j) H Q := ⟨i, j, rfl, rfl, h⟩
theorem i_sub (h : Q (.int (i - j)) H) : rSub0 (.int i) (.int j) H Q := ⟨i, j, rfl, rfl, h⟩
theorem i_mul (hm : IntMulOk i j) (h : Q (.int (i * j)) H) : rMulI (.int i) (.int j) H Q := ⟨i, j, rfl, rfl, hm, h⟩
theorem i_mod (hm : j ≠ 0) (h : Q (.int (i.fmod j)) H) : rModN (.int i) (.int j) H Q := ⟨i, j, rfl, rfl, hm, h⟩
theorem i_div (hm : CDivZ i j) (h : Q (.int (i.fdiv j)) H) : rDivZ (.int i) (.int j) H Q := ⟨i, j, rfl, rfl, hm, h⟩
theorem i_pow (hm : CPow i j) (h : Q (.int (i ^ j.toNat)) H) : rPow0 (.int i) (.int j) H Q := ⟨i, j, rfl, rfl, hm, h⟩
theorem i_lt (h : Q (.bl (decide (i < j))) H) : rLt0 (.int i) (.int j) H Q := ⟨i, j, rfl, rfl, h⟩
theorem i_le (h : Q (.bl (decide (i ≤ j))) H) : rLe0 (.int i) (.int j) H Q := ⟨i, j, rfl, rfl, h⟩
theorem i_gt (h : Q (.bl (decide (j < i))) H) : rGt0 (.int i) (.int j) H Q := ⟨i, j, rfl, rfl, h⟩
theorem i_ge (h : Q (.bl (decide (j ≤ i))) H) : rGe0 (.int i) (.int j) H Q := ⟨i, j, rfl, rfl, h⟩
theorem dec_vint : decide (V.int i = V.int j) = decide (i = j) := decide_eq_decide.mpr vint
theorem i_eq (h : Q (.bl (decide (i = j))) H) : rEq (.int i) (.int j) H Q := ⟨rfl, by rw [dec_vint]; exact h⟩
theorem i_ne (h : Q (.bl (!decide (i = j))) H) : rNe (.int i) (.int j) H Q := ⟨rfl, by rw [dec_vint]; exact h⟩
theorem i_neg (h : Q (.int (-i)) H) : rNeg0 (.int i) H Q := ⟨i, rfl, h⟩
theorem i_abs (h : Q (.int (if i < 0 then -i else i)) H) : rAbs0 [.int i] H Q := ⟨i, rfl, h⟩
theorem i_int (h : Q (.int i) H) : rInt0 [.int i] H Q := .inl ⟨i, rfl, h⟩
theorem i_ixL {p : Addr} {xs : List V} (e : H p = some (.lst xs)) (he : atI xs i = some v) (h : Q v H) : rIxL K (.ref p) (.int i) H Q := ⟨p, xs, i, v, rfl, rfl, SqL.of e, he, h⟩
theorem i_ixT {p : Addr} {xs : List V} (e : H p = some (.tup xs)) (he : atI xs i = some v) (h : Q v H) : rIxT K (.ref p) (.int i) H Q := ⟨p, xs, i, v, rfl, rfl, SqT.of e, he, h⟩
theorem i_isR (T : RTxt2 K) {p : Addr} {q : Rat} (R : IsRat K H p q) (h : Q (.bl true) H) : rIsi K [.ref p, .ref (He.ga K "Ratio")] H Q := by
  obtain ⟨dx, e⟩ := R
  refine ⟨_, _, _, _, true, rfl, .own _, T.own.ty e, ?_, h⟩
  unfold PySem.W.kitOne
  rw [if_pos (by simp)]
theorem i_isRi (T : RTxt2 K) (h : Q (.bl false) H) : rIsi K [.int i, .ref (He.ga K "Ratio")] H Q := ⟨_, _, _, _, false, rfl, .own _, .base (.int i), T.kI, h⟩
theorem i_isInt {E : XK} (h : Q (.bl true) H) : spIsInt K [.int i] H Q E := ⟨_, true, rfl, intQ_int, h⟩
theorem i_own2 {f : Rat → Rat → Rat} {E : XK} {p q : Addr} {a b : Rat} {n m : Nat} (Ra : IsRat K H p a) (Rb : IsRat K H q b) (ha : Sz n a) (hb : Sz m b) (hs : n + m ≤ 9000) (h : ∀ r H', Same H H' → IsRat K H' r (f a b) → Q (.ref r) H') :
    rOwn (He.ga K "Ratio") (spR2 K f) E (.ref p) (.ref q) H Q := by
  obtain ⟨dx, e⟩ := id Ra
  obtain ⟨dy, e2⟩ := id Rb
  exact ⟨p, dx, _, rfl, e, .inr ⟨q, dy, _, rfl, e2⟩, p, _, a, b, n, m, rfl, Ra, num_rat Rb, ha, hb, hs, h⟩
theorem i_ownI {f : Rat → Rat → Rat} {E : XK} {p : Addr} {a : Rat} {n m : Nat} (Ra : IsRat K H p a) (ha : Sz n a) (hb : Sz m (i : Rat)) (hs : n + m ≤ 9000) (h : ∀ r H', Same H H' → IsRat K H' r (f a (i : Rat)) → Q (.ref r) H') :
    rOwn (He.ga K "Ratio") (spR2 K f) E (.ref p) (.int i) H Q := by
  obtain ⟨dx, e⟩ := id Ra
  exact ⟨p, dx, _, rfl, e, .inl ⟨i, rfl⟩, p, _, a, _, n, m, rfl, Ra, num_int, ha, hb, hs, h⟩
theorem i_refl {f : Rat → Rat → Rat} {E : XK} {p : Addr} {a : Rat} {n m : Nat} (Ra : IsRat K H p a) (ha : Sz n a) (hb : Sz m (i : Rat)) (hs : n + m ≤ 9000) (h : ∀ r H', Same H H' → IsRat K H' r (f a (i : Rat)) → Q (.ref r) H') :
    rRefl (He.ga K "Ratio") (spRI K f) E (.int i) (.ref p) H Q := by
  obtain ⟨dx, e⟩ := id Ra
  exact ⟨i, p, dx, _, rfl, rfl, e, p, i, a, n, m, rfl, Ra, ha, hb, hs, h⟩
theorem i_negO {f : Rat → Rat} {E : XK} {p : Addr} {a : Rat} {n : Nat} (Ra : IsRat K H p a) (ha : Sz n a) (hs : n ≤ 9000) (h : ∀ r H', Same H H' → IsRat K H' r (f a) → Q (.ref r) H') : rNegO (He.ga K "Ratio") (spR1 K f) E (.ref p) H Q := by
  obtain ⟨dx, e⟩ := id Ra
  exact ⟨p, dx, _, rfl, e, p, a, n, rfl, Ra, ha, hs, h⟩
theorem i_absO {f : Rat → Rat} {E : XK} {p : Addr} {a : Rat} {n : Nat} (Ra : IsRat K H p a) (ha : Sz n a) (hs : n ≤ 9000) (h : ∀ r H', Same H H' → IsRat K H' r (f a) → Q (.ref r) H') : rAbsO (He.ga K "Ratio") (spR1 K f) E [.ref p] H Q := by
  obtain ⟨dx, e⟩ := id Ra
  exact ⟨p, dx, _, rfl, e, p, a, n, rfl, Ra, ha, hs, h⟩
theorem i_eqO {f : Rat → Rat → Bool} {E : XK} {p q : Addr} {a b : Rat} {n m : Nat} (Ra : IsRat K H p a) (Rb : IsRat K H q b) (ha : Sz n a) (hb : Sz m b) (hs : n + m ≤ 9000) (h : Q (.bl (f a b)) H) : rOwn (He.ga K "Ratio") (spRB K f) E (.ref p) (.ref q) H Q := by
  obtain ⟨dx, e⟩ := id Ra
  obtain ⟨dy, e2⟩ := id Rb
  exact ⟨p, dx, _, rfl, e, .inr ⟨q, dy, _, rfl, e2⟩, p, _, a, b, n, m, rfl, Ra, num_rat Rb, ha, hb, hs, h⟩
theorem i_eqI {f : Rat → Rat → Bool} {E : XK} {p : Addr} {a : Rat} {n m : Nat} (Ra : IsRat K H p a) (ha : Sz n a) (hb : Sz m (i : Rat)) (hs : n + m ≤ 9000) (h : Q (.bl (f a (i : Rat))) H) : rOwn (He.ga K "Ratio") (spRB K f) E (.ref p) (.int i) H Q := by
  obtain ⟨dx, e⟩ := id Ra
  exact ⟨p, dx, _, rfl, e, .inl ⟨i, rfl⟩, p, _, a, _, n, m, rfl, Ra, num_int, ha, hb, hs, h⟩
theorem i_eqR {f : Rat → Rat → Bool} {E : XK} {p : Addr} {a : Rat} {n m : Nat} (Ra : IsRat K H p a) (ha : Sz n a) (hb : Sz m (i : Rat)) (hs : n + m ≤ 9000) (h : Q (.bl (f a (i : Rat))) H) : rRefl (He.ga K "Ratio") (spRB K f) E (.int i) (.ref p) H Q := by
  obtain ⟨dx, e⟩ := id Ra
  exact ⟨i, p, dx, _, rfl, rfl, e, p, _, a, _, n, m, rfl, Ra, num_int, ha, hb, hs, h⟩
theorem if_b {b : Bool} {A B : Prop} (hb : b = true) (h : A) : if b = true then A else B := by rw [if_pos hb]; exact h
theorem if_n {b : Bool} {A B : Prop} (hb : b = false) (h : B) : if b = true then A else B := by rw [hb, if_neg Bool.false_ne_true]; exact h
end
end MR

set_option Elab.async false
set_option linter.all false
set_option maxRecDepth 100000
set_option maxHeartbeats 4000000
set_option exponentiation.threshold 20000
/-! MR: pairs that the laws draw, small numbers -/
namespace MR
open PySem PySem.Spec PyProof.Rows L2
/-- _law_pair(feed, size) -/
def spPair (K : PySem.W.Frag) : Sp := fun vs H Q _ => ∃ (f : Addr) (z : Int), vs = [.ref f, .int z] ∧ Feed K H f ∧ 0 < z ∧ z.natAbs < 2 ^ 9000 ∧ ∀ (p : Addr) (a b : Int) (H' : Hp), -z < a → a < z → 1 ≤ b → b ≤ z → H p = none → p ≠ f → H' p = some (.lst [.int a, .int b]) → Feed K H' f → Keep f H H' → Q (.ref p) H'
def t__law_pair (K : PySem.W.Frag) : TS :=
  (tRet (tLst (tCons (tCall (spNumber K) [] E0 (tCons (tVar 0) (tCons (tVar 1) tNil))) (tCons (tOp rAdd0 (tC (.int 1)) (tCall (spTake K) [] E0 (tCons (tVar 0) (tCons (tVar 1) tNil)))) tNil))))
theorem Feed.some {K : PySem.W.Frag} {H : Hp} {f : Addr} (F : Feed K H f) : ∃ o, H f = some o := by
  obtain ⟨_, _, _, _, _, _, _, G⟩ := F
  exact ⟨_, G.ob⟩
theorem Keep.free {f : Addr} {H H' : Hp} (k : Keep f H H') (F : ∃ o, H' f = some o) {p : Addr} (h : H' p = none) : H p = none ∧ p ≠ f := by
  have ne : p ≠ f := fun e => by
    obtain ⟨o, q⟩ := F
    rw [e, q] at h
    cases h
  refine ⟨?_, ne⟩
  cases q : H p with
  | none => rfl
  | some o =>
    rw [k _ _ q ne] at h
    cases h
theorem pure__law_pair {K : PySem.W.Frag} (vs : List V) (H : Hp) (Q : VK) (E : XK) (h : spPair K vs H Q E) : t__law_pair K { nx := fun _ H' => Q .non H', rt := Q } (start ["_law_feed_here", "_law_size"] vs) H := by
  obtain ⟨f, z, rfl, F, hz, hz9, k⟩ := h
  refine ⟨_, rfl, _, rfl, f, z, rfl, F, hz, hz9, fun a H1 a0 a1 F1 k1 => ?_⟩
  refine ⟨_, rfl, _, rfl, f, z, rfl, F1, hz, hz9, fun b H2 b0 b1 F2 k2 => ?_⟩
  refine ⟨_, _, rfl, rfl, (by show 2 ≤ sizeLine; decide), fun p np => ?_⟩
  have s3 : Same H2 _ := same_new (o := .lst [.int a, .int (1 + b)]) np
  have kk := k1.trans k2
  obtain ⟨n1, n2⟩ := kk.free F2.some np
  exact k p a (1 + b) _ a0 a1 (by omega) (by omega) n1 n2 upd_same (F2.same s3) (kk.trans (Same.keep s3))
theorem p20 {i : Int} (h : i.natAbs ≤ 10 ^ 20) : i.natAbs < 2 ^ 70 := Nat.lt_of_le_of_lt h (by decide)
theorem mulS {i j : Int} (hi : i.natAbs ≤ 10 ^ 20) (hj : j.natAbs ≤ 10 ^ 20) : IntMulOk i j := mul_ok (p20 hi) (p20 hj) (by decide) (by decide) (by decide)
theorem mulZ {i j : Int} (hi : i.natAbs ≤ 10 ^ 20) (hj : j.natAbs ≤ 10 ^ 20) : (i * j).natAbs < 2 ^ 140 := by
  rw [Int.natAbs_mul]
  exact lt_mul_pow (a := 70) (b := 70) (p20 hi) (p20 hj)
theorem dI_add {a b n : Int} (hb : b ≠ 0) : Rat.divInt a b + (n : Rat) = Rat.divInt (a + n * b) b := by
  have hb' : (b : Rat) ≠ 0 := fun h => hb (Rat.intCast_eq_zero_iff.mp h)
  rw [Rat.divInt_eq_div, Rat.divInt_eq_div, Rat.intCast_add, Rat.intCast_mul]
  grind
theorem dI_sub {a b n : Int} (hb : b ≠ 0) : Rat.divInt a b - (n : Rat) = Rat.divInt (a - n * b) b := by
  have hb' : (b : Rat) ≠ 0 := fun h => hb (Rat.intCast_eq_zero_iff.mp h)
  rw [Rat.divInt_eq_div, Rat.divInt_eq_div, Rat.intCast_sub, Rat.intCast_mul]
  grind
theorem dI_rsub {a b n : Int} (hb : b ≠ 0) : (n : Rat) - Rat.divInt a b = Rat.divInt (n * b - a) b := by
  have hb' : (b : Rat) ≠ 0 := fun h => hb (Rat.intCast_eq_zero_iff.mp h)
  rw [Rat.divInt_eq_div, Rat.divInt_eq_div, Rat.intCast_sub, Rat.intCast_mul]
  grind
theorem dI_mul {a b n : Int} (hb : b ≠ 0) : Rat.divInt a b * (n : Rat) = Rat.divInt (a * n) b := by
  have hb' : (b : Rat) ≠ 0 := fun h => hb (Rat.intCast_eq_zero_iff.mp h)
  rw [Rat.divInt_eq_div, Rat.divInt_eq_div, Rat.intCast_mul]
  grind
theorem dI_abs {a b : Int} (hb : 0 < b) : rabs (Rat.divInt a b) = Rat.divInt (if a < 0 then -a else a) b := by
  unfold rabs
  have hi : Rat.divInt a b < 0 ↔ a < 0 := by
    have h := Rat.divInt_nonneg_iff_of_pos_right (a := a) hb
    constructor
    · intro z
      rcases Int.lt_or_le a 0 with y | y
      · exact y
      · exact absurd (h.mpr y) (Rat.not_le.mpr z)
    · intro z
      exact Rat.not_le.mp fun y => absurd (h.mp y) (by omega)
  by_cases h : a < 0
  · rw [if_pos h, if_pos (hi.mpr h), Rat.neg_divInt]
  · rw [if_neg h, if_neg (fun z => h (hi.mp z))]
theorem p140 {i : Int} (h : i.natAbs < 2 ^ 140) : i.natAbs < 2 ^ 141 := Nat.lt_trans h (by decide)
end MR

set_option Elab.async false
set_option linter.all false
set_option maxRecDepth 100000
set_option maxHeartbeats 4000000
set_option exponentiation.threshold 20000
/-! MR: quotients and powers of a Ratio -/
namespace MR
open PySem PySem.Spec PyProof.Rows L2
local macro_rules | `(tactic| walk_at "m1") => `(tactic| first
  | with_reducible refine i_seq ?_ | with_reducible refine i_asg ?_ | with_reducible refine i_op ?_ | with_reducible refine i_cons ?_ | with_reducible refine i_nil ?_ | with_reducible refine i_c ?_
  | ((with_reducible refine' i_var ?e1 ?_); (case e1 => rfl)) | with_reducible refine i_call ?_ | with_reducible refine i_cb ?_ | with_reducible refine i_name ?_
  | with_reducible refine i_if ?_ | with_reducible refine i_not ?_ | with_reducible refine i_b ?_ | with_reducible refine i_test ?_ | with_reducible refine i_or ?_ | with_reducible refine i_and ?_ | with_reducible refine i_andV ?_ | with_reducible refine i_orV ?_ | with_reducible refine i_notV ?_
  | with_reducible refine i_bl ?_ | with_reducible refine i_next ?_ | with_reducible refine i_ret ?_ | with_reducible refine i_fld ?_ | with_reducible refine i_un ?_ | with_reducible refine i_lst ?_ | with_reducible refine i_tup ?_ | with_reducible refine i_make ?_ | with_reducible refine i_drop ?_)
local macro_rules | `(tactic| walk_at "m2") => `(tactic| first
  | with_reducible refine i_add ?_ | with_reducible refine i_sub ?_ | with_reducible refine i_eq ?_ | with_reducible refine i_ne ?_ | with_reducible refine i_lt ?_ | with_reducible refine i_le ?_ | with_reducible refine i_gt ?_ | with_reducible refine i_ge ?_ | with_reducible refine i_neg ?_ | with_reducible refine i_abs ?_ | with_reducible refine i_int ?_
  | with_reducible refine i_isInt ?_ | with_reducible refine not_ite ?_ | with_reducible refine iteT ?_ | with_reducible refine iteF ?_)

theorem i_isIntA {K : PySem.W.Frag} {H : Hp} {Q : VK} {i : Int} {E : XK} (h : Q (.bl true) H) : spIsInt K ([.int i] ++ []) H Q E := ⟨_, true, rfl, intQ_int, h⟩
local macro_rules | `(tactic| walk_at "go") => `(tactic| repeat (first | walk_at "m1" | walk_at "m2" | with_reducible refine i_isIntA ?_))
theorem i_chain {r r' : R2} {ta tb tc : TE} {σ : L2.St} {H : Hp} {Q : VK} (h : ta σ H fun x H1 => tb σ H1 fun y H2 => r x y H2 fun z H3 => ∃ k, z = .bl k ∧ (if k = true then tc σ H3 fun w' H4 => r' y w' H4 Q else Q (.bl false) H3)) : tChain r r' ta tb tc σ H Q := h
theorem i_ifE {c : TT} {ta tb : TE} {σ : L2.St} {H : Hp} {Q : VK} (h : c σ H fun b H1 => if b = true then ta σ H1 Q else tb σ H1 Q) : tIf c ta tb σ H Q := h
theorem int_div1 (n : Int) : (n : Rat) = Rat.divInt n 1 := by
  rw [Rat.divInt_eq_div, show ((1 : Int) : Rat) = 1 from rfl]
  grind
/-! ### the numbers -/
theorem absmulI {i j : Int} {n m : Nat} (h1 : i.natAbs < 2 ^ n) (h2 : j.natAbs < 2 ^ m) : (i * j).natAbs < 2 ^ (n + m) := by
  rw [Int.natAbs_mul]
  exact lt_mul_pow h1 h2
def fl (a b : Rat) : Int := (a.num * b.den).fdiv (a.den * b.num)
theorem fdiv_abs (x y : Int) : (x.fdiv y).natAbs ≤ x.natAbs := by
  have pos : ∀ (x y : Int), 0 ≤ y → (x.fdiv y).natAbs ≤ x.natAbs := fun x y h => by
    rw [Int.fdiv_eq_ediv_of_nonneg _ h]
    exact Int.natAbs_ediv_le_natAbs x y
  rcases Int.le_total 0 y with h | h
  · exact pos x y h
  · have e := pos (-x) (-y) (by omega)
    rw [Int.neg_fdiv_neg, Int.natAbs_neg] at e
    exact e
theorem num_ne {b : Rat} (h : b ≠ 0) : b.num ≠ 0 := fun e => h (Rat.num_eq_zero.mp e)
theorem num_z {b : Rat} (h : b = 0) : b.num = 0 := by rw [h]; rfl
theorem num_div (a : Rat) : (a.num : Rat) / ((a.den : Int) : Rat) = a := by
  rw [← Rat.divInt_eq_div]
  exact Rat.num_divInt_den a
theorem cd_ne (a : Rat) : ((a.den : Int) : Rat) ≠ 0 := fun h => d_ne a (Rat.intCast_eq_zero_iff.mp h)
theorem num_eq (a : Rat) : (a.num : Rat) = a * ((a.den : Int) : Rat) := by
  have h := num_div a
  have h2 := cd_ne a
  grind
theorem di_mod (a b : Rat) (q : Int) : Rat.divInt (a.num * b.den - q * b.num * a.den) (a.den * b.den) = a - b * q := by
  rw [Rat.divInt_eq_div, Rat.intCast_sub, Rat.intCast_mul, Rat.intCast_mul, Rat.intCast_mul, Rat.intCast_mul, num_eq a, num_eq b]
  have h1 := cd_ne a
  have h2 := cd_ne b
  generalize ((a.den : Int) : Rat) = x at *
  generalize ((b.den : Int) : Rat) = y at *
  grind
theorem di_modI (a : Rat) (k q : Int) : Rat.divInt (a.num - q * k * a.den) a.den = a - k * q := by
  rw [Rat.divInt_eq_div, Rat.intCast_sub, Rat.intCast_mul, Rat.intCast_mul, num_eq a]
  have h1 := cd_ne a
  generalize ((a.den : Int) : Rat) = x at *
  grind
theorem di_rmod (a : Rat) (k q : Int) : Rat.divInt (k * a.den - q * a.num) a.den = k - a * q := by
  rw [Rat.divInt_eq_div, Rat.intCast_sub, Rat.intCast_mul, Rat.intCast_mul, num_eq a]
  have h1 := cd_ne a
  generalize ((a.den : Int) : Rat) = x at *
  grind
theorem di_over {a b : Rat} (hb : b ≠ 0) : Rat.divInt (a.num * b.den) (a.den * b.num) = a / b := by
  rw [Rat.divInt_eq_div, Rat.intCast_mul, Rat.intCast_mul, num_eq a, num_eq b]
  have h1 := cd_ne a
  have h2 := cd_ne b
  generalize ((a.den : Int) : Rat) = x at *
  generalize ((b.den : Int) : Rat) = y at *
  grind
def rpow (a : Rat) (k : Int) : Rat := if 0 ≤ k then Rat.divInt (a.num ^ k.toNat) ((a.den : Int) ^ k.toNat) else Rat.divInt ((a.den : Int) ^ (-k).toNat) (a.num ^ (-k).toNat)
theorem pow_abs {b : Int} {n : Nat} (h : b.natAbs < 2 ^ n) (i : Nat) : (b ^ i).natAbs ≤ 2 ^ (n * i) := by
  rw [Int.natAbs_pow, Nat.pow_mul]
  exact Nat.pow_le_pow_left (Nat.le_of_lt h) i
theorem pow_lt {b : Int} {n : Nat} (h : b.natAbs < 2 ^ n) (i : Nat) : (b ^ i).natAbs < 2 ^ (n * i + 1) := Nat.lt_of_le_of_lt (pow_abs h i) (Nat.pow_lt_pow_right (by decide) (by omega))
/-! ### floor_of -/
def spFloorOf (K : PySem.W.Frag) : Sp := fun vs H Q E => ∃ a b : Int, vs = [.int a, .int b] ∧ (b = 0 → Err K "NoRatio" "word" "zero" H E) ∧ (b ≠ 0 → b.natAbs < 2 ^ 9000 ∧ Q (.int (a.fdiv b)) H)
def t_floor_of (K : PySem.W.Frag) (E : XK) : TS :=
  (tSeq (tIfS (tTest (tOp rEq (tVar 1) (tC (.int 0)))) (tRaiseS (He.ga K "NoRatio") "word" (fun cls d _ H => E cls d H) (tCons (tC (.str "zero")) tNil)) tNext)
  (tRet (tOp rDivZ (tVar 0) (tVar 1))))
theorem pure_floor_of {K : PySem.W.Frag} (vs : List V) (H : Hp) (Q : VK) (E : XK) (h : (spFloorOf K) vs H Q E) : t_floor_of K E { nx := fun _ H' => Q .non H', rt := Q } (start ["top", "bottom"] vs) H := by
  obtain ⟨a, b, rfl, e, k⟩ := h
  unfold t_floor_of
  walk_at "go"
  by_cases hb : b = 0
  · rw [if_pos (decide_eq_true hb)]
    exact ⟨_, rfl, e hb⟩
  · rw [if_neg (fun h => hb (of_decide_eq_true h))]
    walk_at "go"
    obtain ⟨h9, k⟩ := k hb
    exact i_div (div_ok hb h9 (by decide) (by decide)) k
/-! ### whole_power -/
def spWhole : Sp := fun vs H Q _ => ∃ (b k : Int) (n : Nat), vs = [.int b, .int k] ∧ 0 ≤ k ∧ k ≤ 20 ∧ b.natAbs < 2 ^ n ∧ 0 < n ∧ n ≤ 9000 ∧ Q (.int (b ^ k.toNat)) H
def t_whole_power (K : PySem.W.Frag) : TS :=
  (tSeq (tAsg (tC (.int 1)) (gName 2))
  (tSeq (tFor (iRng1 (tCons (tVar 1) tNil)) (gName 3) (tAsg (tOp rMulI (tVar 2) (tVar 0)) (gName 2)))
  (tRet (tVar 2))))
theorem pure_whole_power {K : PySem.W.Frag} (vs : List V) (H : Hp) (Q : VK) (E : XK) (h : spWhole vs H Q E) : t_whole_power K { nx := fun _ H' => Q .non H', rt := Q } (start ["base", "k", "product", "_"] vs) H := by
  obtain ⟨b, k, n, rfl, k0, k1, hb, n0, n9, q⟩ := h
  refine ⟨_, rfl, _, rfl, by omega, by omega, ?_⟩
  refine for_range (lo := 0) (n := k.toNat) (fun i σ H' => ∃ v, σ = [some (.int b), some (.int k), some (.int (b ^ i)), v] ∧ H' = H) ⟨_, by rw [Int.pow_zero]; rfl, rfl⟩ ?_ ?_
  · rintro i σ H3 hi ⟨v, rfl, rfl⟩
    refine ⟨_, rfl, _, rfl, _, _, rfl, rfl, mul_ok (pow_lt hb i) hb (by omega) n0 ?_, some (.int (0 + i)), ?_, rfl⟩
    · have h : n * i ≤ 9000 * 20 := Nat.mul_le_mul n9 (by omega)
      omega
    · rw [Int.pow_succ]
      rfl
  · rintro σ H6 ⟨v, rfl, rfl⟩
    exact ⟨_, rfl, q⟩
/-! ### power_of -/
def spPowerOf (K : PySem.W.Frag) : Sp := fun vs H Q E => ∃ (p : Addr) (x : V) (a : Rat) (n : Nat) (bx : Bool), vs = [.ref p, x] ∧ IsRat K H p a ∧ Sz n a ∧ n * 20 < 9000 ∧ IntQ K H x bx ∧ (bx = false → Err K "NoRatio" "word" "power" H E) ∧
  (bx = true → ∃ k : Int, x = .int k ∧ (¬ (-20 ≤ k ∧ k ≤ 20) → Err K "NoRatio" "word" "power" H E) ∧ (-20 ≤ k → k ≤ 20 → (k < 0 → a = 0 → Err K "NoRatio" "word" "zero" H E) ∧ ((0 ≤ k ∨ a ≠ 0) → ∀ r H', Same H H' → IsRat K H' r (rpow a k) → Q (.ref r) H')))
def t_power_of (K : PySem.W.Frag) (E : XK) : TS :=
  (tSeq (tIfS (tOr (tNot (tB (tCall (spIsInt K) [] E0 (tCons (tVar 1) tNil)))) (tNot (tTest (tChain rLe0 rLe0 (tUn rNeg0 (tC (.int 20))) (tVar 1) (tC (.int 20)))))) (tRaiseS (He.ga K "NoRatio") "word" (fun cls d _ H => E cls d H) (tCons (tC (.str "power")) tNil)) tNext)
  (tSeq (tIfS (tTest (tOp rGe0 (tVar 1) (tC (.int 0)))) (tRet (tMake (He.ga K "Ratio") (spRInit K) [] E (tCons (tCall spWhole [] E0 (tCons (tFld K (tVar 0) "top") (tCons (tVar 1) tNil))) (tCons (tCall spWhole [] E0 (tCons (tFld K (tVar 0) "bottom") (tCons (tVar 1) tNil))) tNil)))) tNext)
  (tSeq (tIfS (tTest (tOp rEq (tFld K (tVar 0) "top") (tC (.int 0)))) (tRaiseS (He.ga K "NoRatio") "word" (fun cls d _ H => E cls d H) (tCons (tC (.str "zero")) tNil)) tNext)
  (tRet (tMake (He.ga K "Ratio") (spRInit K) [] E (tCons (tCall spWhole [] E0 (tCons (tFld K (tVar 0) "bottom") (tCons (tUn rNeg0 (tVar 1)) tNil))) (tCons (tCall spWhole [] E0 (tCons (tFld K (tVar 0) "top") (tCons (tUn rNeg0 (tVar 1)) tNil))) tNil)))))))
theorem pow_sz {b : Int} {n i : Nat} (h : b.natAbs < 2 ^ n) (hn : n * 20 < 9000) (hi : i ≤ 20) : (b ^ i).natAbs < 2 ^ 9000 := Nat.lt_of_le_of_lt (pow_abs h i) (Nat.pow_lt_pow_right (by decide) (Nat.lt_of_le_of_lt (Nat.mul_le_mul_left n hi) hn))
theorem pure_power_of {K : PySem.W.Frag} (T : RTxt2 K) (vs : List V) (H : Hp) (Q : VK) (E : XK) (h : (spPowerOf K) vs H Q E) : t_power_of K E { nx := fun _ H' => Q .non H', rt := Q } (start ["ratio", "k"] vs) H := by
  obtain ⟨p, x, a, n, bx, rfl, Ra, ha, hn, ix, e1, k1⟩ := h
  have TT := T.toRTxt
  unfold t_power_of
  walk_at "go"
  refine ⟨x, bx, rfl, ix, ?_⟩
  walk_at "go"
  cases bx with
  | false => exact iteT (iteT ⟨_, rfl, e1 rfl⟩)
  | true =>
    obtain ⟨k, rfl, e2, k2⟩ := k1 rfl
    refine iteF ?_
    refine i_not (i_test (i_chain ?_))
    walk_at "go"
    have bad : ¬ (-20 ≤ k ∧ k ≤ 20) → ∀ D : L2.Ends, tRaiseS (He.ga K "NoRatio") "word" (fun cls d _ H => E cls d H) (tCons (tC (.str "power")) tNil) D [some (.ref p), some (.int k)] H := fun h D => ⟨_, rfl, e2 h⟩
    by_cases h1 : -20 ≤ k
    · rw [if_pos (decide_eq_true h1)]
      walk_at "go"
      by_cases h2 : k ≤ 20
      · rw [decide_eq_true h2]
        refine iteF ?_
        obtain ⟨e3, k3⟩ := k2 h1 h2
        walk_at "go"
        by_cases h3 : 0 ≤ k
        · rw [if_pos (decide_eq_true h3)]
          walk_at "go"
          refine rd_top TT Ra ?_
          walk_at "go"
          refine ⟨a.num, k, n, rfl, h3, h2, ha.num, ha.pos, by omega, ?_⟩
          walk_at "go"
          refine rd_bot TT Ra ?_
          walk_at "go"
          refine ⟨a.den, k, n, rfl, h3, h2, dsz ha, ha.pos, by omega, ?_⟩
          walk_at "go"
          intro r dr nr ndr _
          refine mk_rat (a := a.num ^ k.toNat) (b := (a.den : Int) ^ k.toNat) nr ndr (Int.pow_ne_zero (d_ne a)) (pow_sz (dsz ha) hn (by omega)) fun H' s' R' => ?_
          refine k3 (.inl h3) r H' s' ?_
          unfold rpow
          rw [if_pos h3]
          exact R'
        · rw [if_neg (fun h => h3 (of_decide_eq_true h))]
          walk_at "go"
          refine rd_top TT Ra ?_
          walk_at "go"
          by_cases h4 : a.num = 0
          · rw [if_pos (decide_eq_true h4)]
            exact ⟨_, rfl, e3 (by omega) (Rat.num_eq_zero.mp h4)⟩
          · rw [if_neg (fun h => h4 (of_decide_eq_true h))]
            walk_at "go"
            refine rd_bot TT Ra ?_
            walk_at "go"
            refine ⟨a.den, -k, n, rfl, by omega, by omega, dsz ha, ha.pos, by omega, ?_⟩
            walk_at "go"
            refine rd_top TT Ra ?_
            walk_at "go"
            refine ⟨a.num, -k, n, rfl, by omega, by omega, ha.num, ha.pos, by omega, ?_⟩
            walk_at "go"
            intro r dr nr ndr _
            refine mk_rat (a := (a.den : Int) ^ (-k).toNat) (b := a.num ^ (-k).toNat) nr ndr (Int.pow_ne_zero h4) (pow_sz ha.num hn (by omega)) fun H' s' R' => ?_
            refine k3 (.inr fun z => h4 (num_z z)) r H' s' ?_
            unfold rpow
            rw [if_neg h3]
            exact R'
      · rw [decide_eq_false h2]
        exact iteT (bad (fun z => h2 z.2) _)
    · rw [if_neg (fun h => h1 (of_decide_eq_true h))]
      exact i_bl (iteT (bad (fun z => h1 z.1) _))
/-! ### // and % -/
def spRFloordiv (K : PySem.W.Frag) : Sp := fun vs H Q E => ∃ (p : Addr) (x : V) (a b : Rat) (n m : Nat), vs = [.ref p, x] ∧ IsRat K H p a ∧ Num K H x b ∧ Sz n a ∧ Sz m b ∧ n + m ≤ 9000 ∧ (b = 0 → Err K "NoRatio" "word" "zero" H E) ∧ (b ≠ 0 → Q (.int (fl a b)) H)
def spRMod (K : PySem.W.Frag) : Sp := fun vs H Q E => ∃ (p : Addr) (x : V) (a b : Rat) (n m : Nat), vs = [.ref p, x] ∧ IsRat K H p a ∧ Num K H x b ∧ Sz n a ∧ Sz m b ∧ n + m ≤ 9000 ∧ (b = 0 → Err K "NoRatio" "word" "zero" H E) ∧ (b ≠ 0 → ∀ r H', Same H H' → IsRat K H' r (a - b * fl a b) → Q (.ref r) H')
def spRRfloordiv (K : PySem.W.Frag) : Sp := fun vs H Q E => ∃ (p : Addr) (k : Int) (a : Rat) (n m : Nat), vs = [.ref p, .int k] ∧ IsRat K H p a ∧ Sz n a ∧ Sz m (k : Rat) ∧ n + m ≤ 9000 ∧ (a = 0 → Err K "NoRatio" "word" "zero" H E) ∧ (a ≠ 0 → Q (.int (fl k a)) H)
def spRRmod (K : PySem.W.Frag) : Sp := fun vs H Q E => ∃ (p : Addr) (k : Int) (a : Rat) (n m : Nat), vs = [.ref p, .int k] ∧ IsRat K H p a ∧ Sz n a ∧ Sz m (k : Rat) ∧ n + m ≤ 9000 ∧ (a = 0 → Err K "NoRatio" "word" "zero" H E) ∧ (a ≠ 0 → ∀ r H', Same H H' → IsRat K H' r ((k : Rat) - a * fl k a) → Q (.ref r) H')
def spOver (K : PySem.W.Frag) : Sp := fun vs H Q E => ∃ (p : Addr) (x : V) (a b : Rat) (n m : Nat), vs = [.ref p, x] ∧ IsRat K H p a ∧ Num K H x b ∧ Sz n a ∧ Sz m b ∧ n + m ≤ 9000 ∧ (b = 0 → ∀ H', Same H H' → Err K "NoRatio" "word" "zero" H' E) ∧ (b ≠ 0 → ∀ r H', Same H H' → IsRat K H' r (a / b) → Q (.ref r) H')
theorem mul0 {a b : Rat} (h : ((a.den : Nat) : Int) * b.num = 0) : b = 0 := by
  rcases Int.mul_eq_zero.mp h with z | z
  · exact absurd z (d_ne a)
  · exact Rat.num_eq_zero.mp z
theorem mul0' {a b : Rat} (h : b ≠ 0) : ((a.den : Nat) : Int) * b.num ≠ 0 := fun z => h (mul0 z)
theorem fl_int (a : Rat) (k : Int) : a.num.fdiv (a.den * k) = fl a (k : Rat) := by
  unfold fl
  rw [Rat.num_intCast, Rat.den_intCast, Int.natCast_one, Int.mul_one]
theorem fl_rint (a : Rat) (k : Int) : (k * a.den).fdiv a.num = fl (k : Rat) a := by
  unfold fl
  rw [Rat.num_intCast, Rat.den_intCast, Int.natCast_one, Int.one_mul]
theorem dn_sz {n m : Nat} {a b : Rat} (h1 : Sz n a) (h2 : Sz m b) (hs : n + m ≤ 9000) : (((a.den : Nat) : Int) * b.num).natAbs < 2 ^ 9000 := Nat.lt_of_lt_of_le (absmulI (dsz h1) h2.num) (Nat.pow_le_pow_right (by decide) hs)
theorem nd_sz {n m : Nat} {a b : Rat} (h1 : Sz n a) (h2 : Sz m b) : (a.num * ((b.den : Nat) : Int)).natAbs < 2 ^ (n + m) := absmulI h1.num (dsz h2)
theorem fl_sz {n m : Nat} {a b : Rat} (h1 : Sz n a) (h2 : Sz m b) : (fl a b).natAbs < 2 ^ (n + m) := Nat.lt_of_le_of_lt (fdiv_abs _ _) (nd_sz h1 h2)
theorem z_int {k : Int} (h : (k : Rat) = 0) : k = 0 := Rat.intCast_eq_zero_iff.mp h
def t_Ratio_floordiv (K : PySem.W.Frag) (E : XK) : TS :=
  (tSeq (tIfS (tB (tCB (rIsi K) (tCons (tVar 1) (tCons (tC (.ref (He.ga K "Ratio"))) tNil)))) (tRet (tCall (spFloorOf K) [] E (tCons (tOp rMulI (tFld K (tVar 0) "top") (tFld K (tVar 1) "bottom")) (tCons (tOp rMulI (tFld K (tVar 0) "bottom") (tFld K (tVar 1) "top")) tNil)))) tNext)
  (tSeq (tIfS (tB (tCall (spIsInt K) [] E0 (tCons (tVar 1) tNil))) (tRet (tCall (spFloorOf K) [] E (tCons (tFld K (tVar 0) "top") (tCons (tOp rMulI (tFld K (tVar 0) "bottom") (tVar 1)) tNil)))) tNext)
  tNever))
theorem pure_Ratio_floordiv {K : PySem.W.Frag} (T : RTxt2 K) (vs : List V) (H : Hp) (Q : VK) (E : XK) (h : (spRFloordiv K) vs H Q E) : t_Ratio_floordiv K E { nx := fun _ H' => Q .non H', rt := Q } (start ["self", "other"] vs) H := by
  obtain ⟨p, x, a, b, n, m, rfl, Ra, Nb, ha, hb, hs, e, q⟩ := h
  have TT := T.toRTxt
  unfold t_Ratio_floordiv
  walk_at "go"
  rcases Nb with ⟨pb, rfl, Rb⟩ | ⟨k, rfl, rfl⟩
  · refine isi_rat T Rb ?_
    walk_at "go"
    refine rd_top TT Ra ?_
    walk_at "go"
    refine rd_bot TT Rb ?_
    refine i_mul (mokA ha hb hs ha.num (dsz hb)) ?_
    walk_at "go"
    refine rd_bot TT Ra ?_
    walk_at "go"
    refine rd_top TT Rb ?_
    refine i_mul (mokA ha hb hs (dsz ha) hb.num) ?_
    walk_at "go"
    exact ⟨_, _, rfl, fun z => e (mul0 z), fun z => ⟨dn_sz ha hb hs, q fun y => z (by rw [num_z y, Int.mul_zero])⟩⟩
  · refine isi_int T ?_
    walk_at "go"
    refine rd_top TT Ra ?_
    walk_at "go"
    refine rd_bot TT Ra ?_
    walk_at "go"
    refine i_mul (mokA ha hb hs (dsz ha) (szI hb)) ?_
    walk_at "go"
    refine ⟨_, _, rfl, fun z => e ?_, fun z => ⟨Nat.lt_of_lt_of_le (absmulI (dsz ha) (szI hb)) (Nat.pow_le_pow_right (by decide) hs), ?_⟩⟩
    · rcases Int.mul_eq_zero.mp z with y | y
      · exact absurd y (d_ne a)
      · rw [y]
        rfl
    · rw [fl_int]
      exact q fun y => z (by rw [z_int y, Int.mul_zero])
def t_Ratio_mod (K : PySem.W.Frag) (E : XK) : TS :=
  (tSeq (tIfS (tB (tCB (rIsi K) (tCons (tVar 1) (tCons (tC (.ref (He.ga K "Ratio"))) tNil)))) (tSeq (tAsg (tCall (spFloorOf K) [] E (tCons (tOp rMulI (tFld K (tVar 0) "top") (tFld K (tVar 1) "bottom")) (tCons (tOp rMulI (tFld K (tVar 0) "bottom") (tFld K (tVar 1) "top")) tNil))) (gName 2))
  (tRet (tMake (He.ga K "Ratio") (spRInit K) [] E (tCons (tOp rSub0 (tOp rMulI (tFld K (tVar 0) "top") (tFld K (tVar 1) "bottom")) (tOp rMulI (tOp rMulI (tVar 2) (tFld K (tVar 1) "top")) (tFld K (tVar 0) "bottom"))) (tCons (tOp rMulI (tFld K (tVar 0) "bottom") (tFld K (tVar 1) "bottom")) tNil))))) tNext)
  (tSeq (tIfS (tB (tCall (spIsInt K) [] E0 (tCons (tVar 1) tNil))) (tSeq (tAsg (tCall (spFloorOf K) [] E (tCons (tFld K (tVar 0) "top") (tCons (tOp rMulI (tFld K (tVar 0) "bottom") (tVar 1)) tNil))) (gName 2))
  (tRet (tMake (He.ga K "Ratio") (spRInit K) [] E (tCons (tOp rSub0 (tFld K (tVar 0) "top") (tOp rMulI (tOp rMulI (tVar 2) (tVar 1)) (tFld K (tVar 0) "bottom"))) (tCons (tFld K (tVar 0) "bottom") tNil))))) tNext)
  tNever))
theorem pure_Ratio_mod {K : PySem.W.Frag} (T : RTxt2 K) (vs : List V) (H : Hp) (Q : VK) (E : XK) (h : (spRMod K) vs H Q E) : t_Ratio_mod K E { nx := fun _ H' => Q .non H', rt := Q } (start ["self", "other", "many"] vs) H := by
  obtain ⟨p, x, a, b, n, m, rfl, Ra, Nb, ha, hb, hs, e, q⟩ := h
  have TT := T.toRTxt
  unfold t_Ratio_mod
  walk_at "go"
  rcases Nb with ⟨pb, rfl, Rb⟩ | ⟨k, rfl, rfl⟩
  · refine isi_rat T Rb ?_
    walk_at "go"
    refine rd_top TT Ra ?_
    walk_at "go"
    refine rd_bot TT Rb ?_
    refine i_mul (mokA ha hb hs ha.num (dsz hb)) ?_
    walk_at "go"
    refine rd_bot TT Ra ?_
    walk_at "go"
    refine rd_top TT Rb ?_
    refine i_mul (mokA ha hb hs (dsz ha) hb.num) ?_
    walk_at "go"
    refine ⟨_, _, rfl, fun z => e (mul0 z), fun z => ⟨dn_sz ha hb hs, ?_⟩⟩
    have nb : b ≠ 0 := fun y => z (by rw [num_z y, Int.mul_zero])
    have fz := fl_sz ha hb
    change (fl a b).natAbs < _ at fz
    change gName 2 (.int (fl a b)) _ _ _
    walk_at "go"
    refine rd_top TT Ra ?_
    walk_at "go"
    refine rd_bot TT Rb ?_
    refine i_mul (mokA ha hb hs ha.num (dsz hb)) ?_
    walk_at "go"
    refine rd_top TT Rb ?_
    refine i_mul (mul_ok fz hb.num (by have := ha.pos; omega) hb.pos (by omega)) ?_
    walk_at "go"
    refine rd_bot TT Ra ?_
    refine i_mul (mul_ok (absmulI fz hb.num) (dsz ha) (by have := ha.pos; omega) ha.pos (by omega)) ?_
    walk_at "go"
    refine rd_bot TT Ra ?_
    walk_at "go"
    refine rd_bot TT Rb ?_
    refine i_mul (mokA ha hb hs (dsz ha) (dsz hb)) ?_
    walk_at "go"
    intro r dr nr ndr _
    refine mk_rat (a := a.num * b.den - fl a b * b.num * a.den) (b := a.den * b.den) nr ndr (dd_ne a b) (dd_sz ha hb hs) fun H' s' R' => ?_
    rw [di_mod] at R'
    exact q nb r H' s' R'
  · refine isi_int T ?_
    walk_at "go"
    refine rd_top TT Ra ?_
    walk_at "go"
    refine rd_bot TT Ra ?_
    walk_at "go"
    refine i_mul (mokA ha hb hs (dsz ha) (szI hb)) ?_
    walk_at "go"
    refine ⟨_, _, rfl, fun z => e ?_, fun z => ⟨Nat.lt_of_lt_of_le (absmulI (dsz ha) (szI hb)) (Nat.pow_le_pow_right (by decide) hs), ?_⟩⟩
    · rcases Int.mul_eq_zero.mp z with y | y
      · exact absurd y (d_ne a)
      · rw [y]
        rfl
    · rw [fl_int]
      have nb : (k : Rat) ≠ 0 := fun y => z (by rw [z_int y, Int.mul_zero])
      have fz := fl_sz ha hb
      walk_at "go"
      refine rd_top TT Ra ?_
      walk_at "go"
      refine i_mul (mul_ok fz (szI hb) (by have := ha.pos; omega) hb.pos (by omega)) ?_
      walk_at "go"
      refine rd_bot TT Ra ?_
      refine i_mul (mul_ok (absmulI fz (szI hb)) (dsz ha) (by have := ha.pos; omega) ha.pos (by omega)) ?_
      walk_at "go"
      refine rd_bot TT Ra ?_
      walk_at "go"
      intro r dr nr ndr _
      refine mk_rat (a := a.num - fl a k * k * a.den) (b := a.den) nr ndr (d_ne a) (d_sz ha hs) fun H' s' R' => ?_
      rw [di_modI] at R'
      exact q nb r H' s' R'
def t_Ratio_rfloordiv (K : PySem.W.Frag) (E : XK) : TS :=
  (tSeq (tIfS (tB (tCall (spIsInt K) [] E0 (tCons (tVar 1) tNil))) (tRet (tCall (spFloorOf K) [] E (tCons (tOp rMulI (tVar 1) (tFld K (tVar 0) "bottom")) (tCons (tFld K (tVar 0) "top") tNil)))) tNext)
  tNever)
theorem pure_Ratio_rfloordiv {K : PySem.W.Frag} (T : RTxt2 K) (vs : List V) (H : Hp) (Q : VK) (E : XK) (h : (spRRfloordiv K) vs H Q E) : t_Ratio_rfloordiv K E { nx := fun _ H' => Q .non H', rt := Q } (start ["self", "other"] vs) H := by
  obtain ⟨p, k, a, n, m, rfl, Ra, ha, hb, hs, e, q⟩ := h
  have TT := T.toRTxt
  unfold t_Ratio_rfloordiv
  walk_at "go"
  refine rd_bot TT Ra ?_
  refine i_mul (mokB ha hb hs (szI hb) (dsz ha)) ?_
  walk_at "go"
  refine rd_top TT Ra ?_
  walk_at "go"
  refine ⟨_, _, rfl, fun z => e (Rat.num_eq_zero.mp z), fun z => ⟨Nat.lt_of_lt_of_le ha.num (Nat.pow_le_pow_right (by decide) (by omega)), ?_⟩⟩
  rw [fl_rint]
  exact q fun y => z (num_z y)
def t_Ratio_rmod (K : PySem.W.Frag) (E : XK) : TS :=
  (tSeq (tIfS (tB (tCall (spIsInt K) [] E0 (tCons (tVar 1) tNil))) (tSeq (tAsg (tCall (spFloorOf K) [] E (tCons (tOp rMulI (tVar 1) (tFld K (tVar 0) "bottom")) (tCons (tFld K (tVar 0) "top") tNil))) (gName 2))
  (tRet (tMake (He.ga K "Ratio") (spRInit K) [] E (tCons (tOp rSub0 (tOp rMulI (tVar 1) (tFld K (tVar 0) "bottom")) (tOp rMulI (tVar 2) (tFld K (tVar 0) "top"))) (tCons (tFld K (tVar 0) "bottom") tNil))))) tNext)
  tNever)
theorem pure_Ratio_rmod {K : PySem.W.Frag} (T : RTxt2 K) (vs : List V) (H : Hp) (Q : VK) (E : XK) (h : (spRRmod K) vs H Q E) : t_Ratio_rmod K E { nx := fun _ H' => Q .non H', rt := Q } (start ["self", "other", "many"] vs) H := by
  obtain ⟨p, k, a, n, m, rfl, Ra, ha, hb, hs, e, q⟩ := h
  have TT := T.toRTxt
  unfold t_Ratio_rmod
  walk_at "go"
  refine rd_bot TT Ra ?_
  refine i_mul (mokB ha hb hs (szI hb) (dsz ha)) ?_
  walk_at "go"
  refine rd_top TT Ra ?_
  walk_at "go"
  refine ⟨_, _, rfl, fun z => e (Rat.num_eq_zero.mp z), fun z => ⟨Nat.lt_of_lt_of_le ha.num (Nat.pow_le_pow_right (by decide) (by omega)), ?_⟩⟩
  rw [fl_rint]
  have na : a ≠ 0 := fun y => z (num_z y)
  have fz := fl_sz hb ha
  walk_at "go"
  refine rd_bot TT Ra ?_
  refine i_mul (mokB ha hb hs (szI hb) (dsz ha)) ?_
  walk_at "go"
  refine rd_top TT Ra ?_
  refine i_mul (mul_ok fz ha.num (by have := ha.pos; omega) ha.pos (by omega)) ?_
  walk_at "go"
  refine rd_bot TT Ra ?_
  walk_at "go"
  intro r dr nr ndr _
  refine mk_rat (a := k * a.den - fl k a * a.num) (b := a.den) nr ndr (d_ne a) (d_sz ha hs) fun H' s' R' => ?_
  rw [di_rmod] at R'
  exact q na r H' s' R'
def t_Ratio_pow (K : PySem.W.Frag) (E : XK) : TS :=
  (tRet (tCall (spPowerOf K) [] E (tCons (tVar 0) (tCons (tVar 1) tNil))))
theorem pure_Ratio_pow {K : PySem.W.Frag} (T : RTxt2 K) (vs : List V) (H : Hp) (Q : VK) (E : XK) (h : (spPowerOf K) vs H Q E) : t_Ratio_pow K E { nx := fun _ H' => Q .non H', rt := Q } (start ["self", "k"] vs) H := by
  obtain ⟨p, x, a, n, bx, rfl, r⟩ := h
  exact ⟨_, rfl, _, rfl, p, x, a, n, bx, rfl, r⟩
def t_Ratio_power (K : PySem.W.Frag) (E : XK) : TS :=
  (tRet (tCall (spPowerOf K) [] E (tCons (tVar 0) (tCons (tVar 1) tNil))))
theorem pure_Ratio_power {K : PySem.W.Frag} (T : RTxt2 K) (vs : List V) (H : Hp) (Q : VK) (E : XK) (h : (spPowerOf K) vs H Q E) : t_Ratio_power K E { nx := fun _ H' => Q .non H', rt := Q } (start ["self", "k"] vs) H := by
  obtain ⟨p, x, a, n, bx, rfl, r⟩ := h
  exact ⟨_, rfl, _, rfl, p, x, a, n, bx, rfl, r⟩
def t_Ratio_over (K : PySem.W.Frag) (E : XK) : TS :=
  (tSeq (tAsg (tIf (tB (tCB (rIsi K) (tCons (tVar 1) (tCons (tC (.ref (He.ga K "Ratio"))) tNil)))) (tVar 1) (tMake (He.ga K "Ratio") (spRInit K) [.int 1] E (tCons (tVar 1) tNil))) (gName 2))
  (tSeq (tIfS (tTest (tOp rEq (tFld K (tVar 2) "top") (tC (.int 0)))) (tRaiseS (He.ga K "NoRatio") "word" (fun cls d _ H => E cls d H) (tCons (tC (.str "zero")) tNil)) tNext)
  (tRet (tMake (He.ga K "Ratio") (spRInit K) [] E (tCons (tOp rMulI (tFld K (tVar 0) "top") (tFld K (tVar 2) "bottom")) (tCons (tOp rMulI (tFld K (tVar 0) "bottom") (tFld K (tVar 2) "top")) tNil))))))
theorem pure_Ratio_over {K : PySem.W.Frag} (T : RTxt2 K) (vs : List V) (H : Hp) (Q : VK) (E : XK) (h : (spOver K) vs H Q E) : t_Ratio_over K E { nx := fun _ H' => Q .non H', rt := Q } (start ["self", "other", "divisor"] vs) H := by
  obtain ⟨p, x, a, b, n, m, rfl, Ra, Nb, ha, hb, hs, e, q⟩ := h
  have TT := T.toRTxt
  have main : ∀ (pb : Addr) (H1 : Hp), Same H H1 → IsRat K H1 pb b → (tSeq (tIfS (tTest (tOp rEq (tFld K (tVar 2) "top") (tC (.int 0)))) (tRaiseS (He.ga K "NoRatio") "word" (fun cls d _ H => E cls d H) (tCons (tC (.str "zero")) tNil)) tNext)
      (tRet (tMake (He.ga K "Ratio") (spRInit K) [] E (tCons (tOp rMulI (tFld K (tVar 0) "top") (tFld K (tVar 2) "bottom")) (tCons (tOp rMulI (tFld K (tVar 0) "bottom") (tFld K (tVar 2) "top")) tNil))))) { nx := fun _ H' => Q .non H', rt := Q } [some (.ref p), some x, some (.ref pb)] H1 := by
    intro pb H1 s1 Rb
    have Ra := Ra.same s1
    walk_at "go"
    refine rd_top TT Rb ?_
    walk_at "go"
    by_cases h4 : b.num = 0
    · rw [if_pos (decide_eq_true h4)]
      exact ⟨_, rfl, e (Rat.num_eq_zero.mp h4) H1 s1⟩
    · rw [if_neg (fun h => h4 (of_decide_eq_true h))]
      have nb : b ≠ 0 := fun y => h4 (num_z y)
      walk_at "go"
      refine rd_top TT Ra ?_
      walk_at "go"
      refine rd_bot TT Rb ?_
      refine i_mul (mokA ha hb hs ha.num (dsz hb)) ?_
      walk_at "go"
      refine rd_bot TT Ra ?_
      walk_at "go"
      refine rd_top TT Rb ?_
      refine i_mul (mokA ha hb hs (dsz ha) hb.num) ?_
      walk_at "go"
      intro r dr nr ndr _
      refine mk_rat (a := a.num * b.den) (b := a.den * b.num) nr ndr (mul0' nb) (dn_sz ha hb hs) fun H' s' R' => ?_
      rw [di_over nb] at R'
      exact q nb r H' (s1.trans s') R'
  unfold t_Ratio_over
  rcases Nb with ⟨pb, rfl, Rb⟩ | ⟨k, rfl, rfl⟩
  · refine i_seq (i_asg (i_ifE ?_))
    walk_at "go"
    exact isi_rat T Rb (i_bl (iteT ⟨_, rfl, main pb H (Same.refl _) Rb⟩))
  · refine i_seq (i_asg (i_ifE ?_))
    walk_at "go"
    refine isi_int T ?_
    walk_at "go"
    intro r dr nr ndr _
    refine mk_rat (a := k) (b := 1) nr ndr (by decide) (by decide) fun H1 s1 R1 => ?_
    rw [← int_div1] at R1
    exact main r H1 s1 R1
end MR

set_option Elab.async false
set_option linter.all false
set_option maxRecDepth 100000
set_option maxHeartbeats 4000000
/-! MR: a lambda handed to a def of the law, which catches what it raises -/
namespace MR
open PySem PySem.Spec PyProof.Rows L2 LamX
section
variable {X : Cx} {pins : List (Addr × Obj)} {σ σ0 : L2.St} {H HZ : Hp} {s s1 : Shared}
/-- x(), at the slots σ0 of the def that got the lambda; what is raised is wished for there -/
theorem pe_actS {CXg : CXT} {Eg : XK} {Ng : List Str} {qg : Str} {sg : Scope} {g f c' : Addr} {cdg pm ctv : Value} {params : Arguments} {body : Expr} {scope : Scope} {k i : Nat} {a : Str} {pn : List (Addr × Obj)} {xe : Value → Shared → Prop} {E : XK} {tb : TE} {p1 p2 : Pos}
    (I : Inv X pins σ H s) (L : LamS X.env.scope scope) (hf : s.heap.get? f = some (PySem.W.kla_obj "<lambda>" (X.env.qual ++ "<lambda>") params body scope (cloFrom X.env.cells scope.names []) pm c' ctv)) (hfn : H f = none) (hfr : f ∉ frs X.stack)
    (hbind : bindArgs (PySem.W.kla_fn "<lambda>" (X.env.qual ++ "<lambda>") params body scope (cloFrom X.env.cells scope.names []) pm (.ref c') ctv) ⟨[], []⟩ = pure [])
    (hx : PassesAt (L2.CX X.prog X.w) ((cxOf CXg X.prog X.w X.K X.mg X.base Ng qg sg g cdg X.A X.stack s H Eg).tr pn xe) σ0 E) (hr : Room (k + 1) (X.A.deeper (envOfC qg sg s.heap.objs.size g cdg)))
    (hbody : ∀ (A : Around) (outer : List Env) (s : Shared) (H : Hp), Room k (A.deeper (lamEnv X scope s.heap.objs.size f c')) → PE (lamCx X A outer s H E scope f c') body tb)
    (hN : Ng[i]? = some a) (hv : Vis sg a) (hd : (a == ("__debug__" : Str)) = false := by decide) (hcd : (a == ("__classdict__" : Str)) = false := by decide) :
    PE ((cxOf CXg X.prog X.w X.K X.mg X.base Ng qg sg g cdg X.A X.stack s H Eg).tr pn xe) (.Call (.Name a p1) [] [] p2)
      (fun σZ HZ Q => σZ = σ0 ∧ σZ[i]? = some (some (.ref f)) ∧ HZ c' = some (CodeO c' (X.env.qual ++ "<lambda>")) ∧ tb σ HZ Q) := by
  refine ⟨fun pinsZ sZ σZ HZ Q IZ h => ?_⟩
  obtain ⟨e0, hs, hc, ht⟩ := h
  subst e0
  refine wpAny_Call_Name_kw (thn ((pe_var (pos := p1) (i := i) hN hv hd hcd).run pinsZ sZ σZ HZ (fun v H1 => v = .ref f ∧ H1 = HZ) IZ ⟨.ref f, hs, rfl, rfl⟩) fun u s1 ⟨v, H1, I1, r1, q1⟩ => ?_)
  obtain ⟨ev, eH⟩ := q1
  subst ev
  rw [eH] at I1
  obtain rfl : u = Value.ref f := r1
  have of1 : s1.heap.get? f = some (PySem.W.kla_obj "<lambda>" (X.env.qual ++ "<lambda>") params body scope (cloFrom X.env.cells scope.names []) pm c' ctv) := I1.base.keep f _ hf hfn hfr (fun z => nomatch (show f ∈ ([] : List Addr) from z))
  refine PySem.W.callWith_F0 ⟨_, _, _, _, of1⟩ ?_
  have un : Un (frs X.stack) [] H HZ s.heap s1.heap := I1.base
  obtain ⟨⟨oc, vs, t, hoc, hdc, hvc⟩, _, _⟩ := I1.hok c' _ hc
  have rc : codeAny (model X.prog X.w) (X.A.deeper (envOfC qg sg s.heap.objs.size g cdg)) (.call (.ref f) ⟨[], []⟩) (L2.CR (L2.CX X.prog X.w) (envOfC qg sg s.heap.objs.size g cdg :: X.stack) X.prog X.w HZ s1 Q E) s1 := by
    refine PySem.W.kla_callFunE hr.depth of1 rfl L.co L.gen rfl ⟨c', oc, vs, t, rfl, hoc, hdc, hvc⟩ ?_
    rw [hbind]
    refine wpAny_pure (wpAny_newFunctionEnv (fun y hy => (L.own y hy).2) (fun y hy => absurd hy (by simp)) (fun h₁ hns hsb => ⟨I1.nolimit.fresh _ hsb, ?_⟩) L.kind)
    show codeAny _ _ (.expr body (lamEnv X scope s1.heap.objs.size f c')) _ _
    have kp : ∀ b o, s1.heap.get? b = some o → h₁.get? b = some o := fun b o e => hsb.extBut b o (Nat.ne_of_lt (Heap.lt_size e)) (Heap.get?_push_of_some _ e)
    have J : Inv (lamCx X (X.A.deeper (envOfC qg sg s.heap.objs.size g cdg)) (envOfC qg sg s.heap.objs.size g cdg :: X.stack) s1 HZ E scope f c') [] σ HZ { s1 with heap := h₁, toks := s1.toks + ([] : List (Str × Value)).length } :=
      lam_start2 I L I1.env0 hr.hd un hns kp
    refine PySem.W.kla_codeExpr (wpAny_mono ((hbody _ _ s1 HZ (hr.deeper _)).run [] _ _ HZ Q J ht) (fun v s' hq => ?_) fun e s' hq => hq)
    obtain ⟨w', H', J', rv, q⟩ := hq
    exact ⟨w', H', J'.os, J'.bare, J'.base, J'.hok, rv, q⟩
  refine wpAny_call (codeAny_mono rc fun r s' hq => ?_)
  cases r with
  | error e => exact hx pinsZ HZ s1 e s' I1 hq
  | ok fl =>
    cases fl with
    | ret u => exact I1.after hq
    | next => exact False.elim hq
    | brk => exact False.elim hq
    | cont => exact False.elim hq
end
/-- the def that calls what it got -/
def GivesS (X : Cx) (Ng : List Str) (x : Str) (sg : Scope) (g : Addr) (bg : List Stmt) (a : Str) (TT : (XK → Hp → VK → Prop) → Hp → VK → Prop) : Prop :=
  ∀ (cdg : Value) (q : Str) (f c' : Addr) (s : Shared) (H : Hp) (Q : VK) (tl : XK → Hp → VK → Prop), Room 0 (X.A.deeper (envOfC x sg s.heap.objs.size g cdg)) →
    (∀ (W : WX) (pn : List (Addr × Obj)) (xe : Value → Shared → Prop) (E : XK) (σ0 : L2.St) (p1 p2 : Pos), Takes ((cxOf C8.CX0 X.prog X.w X.K X.mg X.base Ng x sg g cdg X.A X.stack s H C8.E0).tr pn xe) W → (∀ cls d H', E cls d H' → W cls d σ0 H') →
      PE ((cxOf C8.CX0 X.prog X.w X.K X.mg X.base Ng x sg g cdg X.A X.stack s H C8.E0).tr pn xe) (.Call (.Name a p1) [] [] p2) (fun σZ HZ Q => σZ = σ0 ∧ σZ[0]? = some (some (.ref f)) ∧ HZ c' = some (CodeO c' q) ∧ tl E HZ Q)) →
    H c' = some (CodeO c' q) → TT tl H Q →
    ∃ t, PSs (cxOf C8.CX0 X.prog X.w X.K X.mg X.base Ng x sg g cdg X.A X.stack s H C8.E0) bg t ∧ t { nx := fun _ H' => Q .non H', rt := Q } (L2.start Ng [.ref f]) H
section
variable {X : Cx}
theorem pe_lamS {T : List (Addr × Str)} {TT : (XK → Hp → VK → Prop) → Hp → VK → Prop} {x a : Str} {g c P : Addr} {k : Nat} {pg : Arguments} {bg : List Stmt} {sg : Scope} {fd : FuncData} {Ng : List Str}
    {params : Arguments} {body : Expr} {scope : Scope} {t : XK → TE} {p lpos pos : Pos} (F : FunD X.K x x pg bg sg [] [] g fd) (hm : X.mg x = some (.ref g)) (hb : L2.Binds X.K fd [a] []) (Sg : FnScope Ng [a] sg) (hNg : Ng[0]? = some a) (hva : Vis sg a)
    (hG : GivesS X Ng x sg g bg a TT)
    (TB : TabB X.base X.mg c P) (hcode : X.env.code = .ref c) (hmT : (P, X.env.qual ++ "<lambda>") ∈ T) (hu : ∀ p ∈ T, p.1 = P → p.2 = X.env.qual ++ "<lambda>") (hr : Room (k + 2) X.A) (L : LamS X.env.scope scope)
    (hbody : ∀ (A : Around) (outer : List Env) (s : Shared) (H : Hp) (E : XK) (f c' : Addr), Room k (A.deeper (lamEnv X scope s.heap.objs.size f c')) → PE (lamCx X A outer s H E scope f c') body (t E)) (hg : Gl X x := by rfl) (hdef : defaultsOf params X.env = ([], []) := by rfl)
    (hbind : ∀ (q : Str) (cl : List (Str × Addr)) (pm cv ctv : Value), bindArgs (PySem.W.kla_fn "<lambda>" q params body scope cl pm cv ctv) ⟨[], []⟩ = pure [] := by intros; rfl)
    (hdb : (x == ("__debug__" : Str)) = false := by decide) (hd : (a == ("__debug__" : Str)) = false := by decide) (hcd : (a == ("__classdict__" : Str)) = false := by decide) :
    PE X (.Call (.Name x p) [.Lambda params body scope lpos] [] pos) (tLam T TT t) := by
  obtain ⟨oc, od, dV, kV, doc, pm, an, cdv, ct, osl, rfl, lk, hcg, _, _⟩ := F.ex
  refine ⟨fun pins s σ H Q I h => ?_⟩
  obtain ⟨hT, h⟩ := h
  refine wpAny_Call_Name_kw (ld_glob I hg hm ?_ hdb)
  refine PySem.W.callWith_K (h₀ := X.base) I.ok.mod.kin F.kp ?_ (by rfl) (by rfl)
  show wpAny _ _ (spliced ((false, eval (.Lambda params body scope lpos) X.env) :: backTo pos (starEach [] X.env))) _ _ s
  refine Calls.spliced_cons (lam_make2 I TB hcode hmT hu hT hdef (L.has I.ok) fun f c' pm' ctv H1 s' I1 eN T1 hf hfn hfr hco => ?_)
  refine Calls.spliced_nil ⟨I1.kIn, ?_⟩
  have rc : codeAny (model X.prog X.w) X.A (.call (.ref g) ⟨[.ref f], []⟩) (L2.CR C8.CX0 X.stack X.prog X.w H1 s' Q C8.E0) s' := by
    refine run_ofS (N := Ng) (ps := [a]) (us := [.ref f]) (vs := [.ref f]) lk hcg Sg hr I1.env0 (hb s' [.ref f] I1.kIn rfl) (.cons rfl .nil) rfl fun hr' => ?_
    obtain ⟨t', ht', hq'⟩ := hG cdv (X.env.qual ++ "<lambda>") f c' s' H1 Q (fun E H' Q' => t E σ H' Q') (hr'.mono (by omega)) (fun W pn xe E σ0 p1 p2 tk hW => pe_actS (i := 0) I1 L hf hfn hfr (hbind _ _ _ _ _) (fun _ _ _ e s' J c => tk e s' (XE.of_call J (fun cls d H' h => hW cls d H' h) c)) hr' (fun A outer s H hr2 => hbody A outer s H E f c' hr2) hNg hva hd hcd) hco (h H1 eN T1)
    exact ⟨t', ht', hq'⟩
  refine wpAny_call (codeAny_mono rc fun r s2 hq => ?_)
  cases r with
  | error e => exact (show False from hq).elim
  | ok fl =>
    cases fl with
    | ret u => exact I1.after hq
    | next => exact False.elim hq
    | brk => exact False.elim hq
    | cont => exact False.elim hq
end
/-! ### what the def makes of it: the word of the error, or an empty one -/
/-- an error of the class at C: its fields -/
def XdW (C : Addr) (p : Str) (v : V) (cls : Value) (d : Option Addr) (H : Hp) : Prop := ∃ (dd : Addr) (fs : List (Str × V)), cls = .ref C ∧ d = some dd ∧ H dd = some (.xd fs) ∧ fs.lookup p = some v
def TWord (C : Addr) : (XK → Hp → VK → Prop) → Hp → VK → Prop := fun tl H Q => tl (fun cls d H' => ∃ w, XdW C "word" (.str w) cls d H' ∧ Q (.str w) H') H (fun _ H' => Q (.str "") H')
theorem word_gives {X : Cx} {sg : Scope} {g CA : Addr} {C : Str} {j : Nat} {q1 q2 q3 p1 p2 p3 p4 p5 p6 p7 p8 p9 p10 p11 p12 : Pos} (sc : FnScope ["_law_deed", "_law_word_here", "e"] ["_law_deed"] sg) (l1 : sg.names.lookup ("_law_word_here" : Str) = some .local) (l2 : sg.names.lookup ("e" : Str) = some .local)
    (hge : sg.names.lookup C = some .globalImplicit) (hme : X.mg C = some (.ref CA)) (hde : (C == ("__debug__" : Str)) = false) (te : PySem.W.exmOne X.K (.ref CA) (.ref CA) = some true) (xf : XfC X.K CA) (no : PySem.W.findIn X.K (.ref CA) "word" = some none) :
    GivesS X ["_law_deed", "_law_word_here", "e"] "_law_word" sg g [.Assign [.Name "_law_word_here" q1] (.Constant (.str "") j q2) q3, .Try [.Expr (.Call (.Name "_law_deed" p1) [] [] p2) p3] [.ExceptHandler (some (.Name C p4)) (some "e") [.Assign [.Name "_law_word_here" p5] (.Attribute (.Name "e" p6) "word" p7) p8] p9] [] [] p10, .Return (some (.Name "_law_word_here" p11)) p12] "_law_deed" (TWord CA) := by
  intro cdg q f c' s H Q tl hr act hc h
  have nd := sc.nd
  have hgl : Gl (cxOf C8.CX0 X.prog X.w X.K X.mg X.base ["_law_deed", "_law_word_here", "e"] "_law_word" sg g cdg X.A X.stack s H C8.E0) C := hge
  refine ⟨tSeq (tAsg (tC (.str "")) (gName 1)) (tSeq (fun D => (fun W (D : L2.Ends) σ H => ∃ Ech : XK, (∀ cls d H', Ech cls d H' → W cls d [some (.ref f), some (.str ""), none] H') ∧ σ = [some (.ref f), some (.str ""), none] ∧ H c' = some (CodeO c' q) ∧ tl Ech H (fun _ H1 => D.nx σ H1)) (wAs X.K (.ref CA) 2 (fun a cls d => tAsg (tXf a cls d CA "word" (tVar 2)) (gName 1)) (fun _ _ _ _ => False) D) D) (tRet (tVar 1))), ?_, ?_⟩
  · refine pss_cons (ps_set (i := 1) nd rfl (.inl l1) pe_str) (pss_cons (ps_try_as (X := cxOf C8.CX0 X.prog X.w X.K X.mg X.base ["_law_deed", "_law_word_here", "e"] "_law_word" sg g cdg X.A X.stack s H C8.E0) (tb := fun W (D : L2.Ends) σ H => ∃ Ech : XK, (∀ cls d H', Ech cls d H' → W cls d [some (.ref f), some (.str ""), none] H') ∧ σ = [some (.ref f), some (.str ""), none] ∧ H c' = some (CodeO c' q) ∧ tl Ech H (fun _ H1 => D.nx σ H1)) (i := 2) rfl rfl nd rfl l2 ⟨hgl, hde, .inl hme⟩ L2.takes0 (fun W pn xe tk _ => pss_one ⟨fun pins s' σ H' D I h' => ?_⟩) (fun a oe cls d pn hz hf => pss_one (ps_set (i := 1) nd rfl (.inl l1) (pe_xf xf no hz hf (pe_var (i := 2) rfl (.inl l2) (by decide) (by decide)))))) (pss_one (ps_ret (pe_var (i := 1) rfl (.inl l1) (by decide) (by decide)))))
    obtain ⟨Ech, hW, e1, h2, h3⟩ := h'
    exact (ps_expr (act W pn xe Ech _ p1 p2 tk hW)).run pins s' σ H' D I ⟨e1, by rw [e1]; rfl, h2, h3⟩
  · refine ⟨fun cls d H' => ∃ w, XdW CA "word" (.str w) cls d H' ∧ Q (.str w) H', fun cls d H' hh => ?_, rfl, hc, ?_⟩
    · obtain ⟨w, ⟨dd, fs, rfl, rfl, hd, hl⟩, hq⟩ := hh
      exact ⟨true, te, fun _ a ha => ⟨_, rfl, rfl, rfl, dd, fs, _, rfl, hd, hl, _, rfl, hq⟩, fun z => by cases z⟩
    · have e : (fun (_ : V) (H1 : Hp) => (tRet (tVar 1)) { nx := fun _ H' => Q .non H', rt := Q } ((start ["_law_deed", "_law_word_here", "e"] [V.ref f]).set 1 (some (.str ""))) H1) = fun _ H1 => Q (.str "") H1 := by
        funext x H1
        refine propext ⟨fun hz => ?_, fun hz => ⟨_, rfl, hz⟩⟩
        obtain ⟨v, e, hq⟩ := hz
        cases e
        exact hq
      show tl _ H (fun (_ : V) (H1 : Hp) => (tRet (tVar 1)) { nx := fun _ H' => Q .non H', rt := Q } ((start ["_law_deed", "_law_word_here", "e"] [V.ref f]).set 1 (some (.str ""))) H1)
      rw [e]
      exact h
/-! ### the code objects and their tables -/
def tabP (K : PySem.W.Frag) (x : Str) : Addr × Addr := match K.lookup (He.ga K x) with
  | some ⟨_, _, .func fd, _⟩ => match fd.code with
    | .ref c => match K.lookup c with
      | some ⟨_, _, .fields vs, _⟩ => match (vs[11]? : Option Value) with
        | some (.ref P) => (c, P)
        | _ => (0, 0)
      | _ => (0, 0)
    | _ => (0, 0)
  | _ => (0, 0)
def codeF (x : Str) : Fct := fun K => match K.lookup (He.ga K x) with
  | some ⟨_, _, .func fd, _⟩ => match fd.code with
    | .ref c => match K.lookup c with
      | some ⟨.type t, _, .fields vs, _⟩ => decide (t = "code") && (match (vs[11]? : Option Value), vs.getD 11 .none, vs.getD 18 .none, vs.getD 7 .none, vs.getD 9 .none, vs.getD 10 .none with
        | some (.ref P), .ref P', .str _ _, .int _ _, .bool _, .int _ _ => decide (P = P') && (decide (c ≠ P) && (K.lookup P).isNone)
        | _, _, _, _, _, _ => false)
      | _ => false
    | _ => false
  | _ => false
theorem codeF_ok {K : PySem.W.Frag} {x : Str} (h : codeF x K = true) : ∃ (oc : Value) (od : Option Addr) (fd : FuncData) (osl : Array (Option Value)), K.lookup (He.ga K x) = some ⟨oc, od, .func fd, osl⟩ ∧ fd.code = .ref (tabP K x).1 ∧ K.lookup (tabP K x).2 = none ∧ ∀ hp : Heap, K.In hp → PySem.W.CodeHd hp (tabP K x).1 (tabP K x).2 := by
  unfold codeF at h
  split at h
  · rename_i oc od fd osl hf
    split at h
    · rename_i c hc
      split at h
      · rename_i t od' vs sl hcd
        obtain ⟨h1, hh⟩ := He.ba h
        clear h
        have e1 := of_decide_eq_true h1
        subst e1
        split at hh
        · rename_i P P' st tt it it2 bb i2 it3 e11 e11' e18 e7 e9 e10
          obtain ⟨h2, h⟩ := He.ba hh
          obtain ⟨h3, h4⟩ := He.ba h
          have e2 := of_decide_eq_true h2
          subst e2
          have et : tabP K x = (c, P) := by
            unfold tabP
            rw [hf]
            dsimp only
            rw [hc]
            dsimp only
            rw [hcd]
            dsimp only
            rw [e11]
          refine ⟨oc, od, fd, osl, hf, by rw [et]; exact hc, by rw [et]; simpa using h4, fun hp hK => ?_⟩
          rw [et]
          exact ⟨_, vs, st, tt, _, _, bb, _, _, hK _ _ hcd, rfl, rfl, e11, e11', e18, e7, e9, e10, of_decide_eq_true h3⟩
        · cases hh
      · cases h
    · cases h
  · cases h
/-- the tables of the defs that make lambdas -/
def lamT (K : PySem.W.Frag) (ts : List Str) : List (Addr × Str) := ts.map fun x => ((tabP K x).2, x ++ ".<locals>." ++ "<lambda>")
def lamC (K : PySem.W.Frag) (ts : List Str) : List (Addr × Addr) := ts.map (tabP K)
def nodF (ts : List Str) : Fct := fun K => decide (ts.map fun x => (tabP K x).2).Nodup
theorem lamT_uniq {K : PySem.W.Frag} {ts : List Str} {x : Str} (h : nodF ts K = true) (hx : x ∈ ts) : ∀ p ∈ lamT K ts, p.1 = (tabP K x).2 → p.2 = x ++ ".<locals>." ++ "<lambda>" := by
  intro p hp e
  obtain ⟨y, hy, rfl⟩ := List.mem_map.mp hp
  have hn : (ts.map fun x => (tabP K x).2).Nodup := of_decide_eq_true h
  have key : ∀ (l : List Str), (l.map fun x => (tabP K x).2).Nodup → ∀ a ∈ l, ∀ b ∈ l, (tabP K a).2 = (tabP K b).2 → a = b := by
    intro l
    induction l with
    | nil => intro _ a ha
             cases ha
    | cons c r ih =>
      intro hn a ha b hb e
      obtain ⟨h1, h2⟩ := List.nodup_cons.mp hn
      rcases List.mem_cons.mp ha with ea | ha'
      · rcases List.mem_cons.mp hb with eb | hb'
        · rw [ea, eb]
        · exact absurd (List.mem_map.mpr ⟨b, hb', by rw [← e, ea]⟩ : (tabP K c).2 ∈ r.map fun x => (tabP K x).2) h1
      · rcases List.mem_cons.mp hb with eb | hb'
        · exact absurd (List.mem_map.mpr ⟨a, ha', by rw [e, eb]⟩ : (tabP K c).2 ∈ r.map fun x => (tabP K x).2) h1
        · exact ih h2 a ha' b hb' e
  rw [key ts hn y hy x hx e]
theorem lamT_mem {K : PySem.W.Frag} {ts : List Str} {x : Str} (hx : x ∈ ts) : ((tabP K x).2, x ++ ".<locals>." ++ "<lambda>") ∈ lamT K ts := List.mem_map.mpr ⟨x, hx, rfl⟩
theorem lamC_mem {K : PySem.W.Frag} {ts : List Str} {x : Str} (hx : x ∈ ts) : tabP K x ∈ lamC K ts := List.mem_map.mpr ⟨x, hx, rfl⟩
/-- a def whose code object is known -/
theorem okC {P : Program} {w : World} {K : PySem.W.Frag} {mg : Str → Option Value} {base : Heap} {x qual : Str} {params : Arguments} {body : List Stmt} {scope : Scope} {dvs : List V} {kws : List (Str × V)} {fd : FuncData} {CX : CXT} {N ps : List Str} {k : Nat} {sp : Sp} (F : FunD K x qual params body scope dvs kws (He.ga K x) fd) (hC : codeF x K = true) (S : FnScope N ps scope) (len : ∀ vs H Q E, sp vs H Q E → vs.length = ps.length)
    (hbody : ∀ (A : Around) (outer : List Env) (s : Shared) (H : Hp) (vs : List V) (Q : VK) (E : XK), Room k (A.deeper (envOfC qual scope s.heap.objs.size (He.ga K x) (.ref (tabP K x).1))) → sp vs H Q E →
      ∃ t, PSs (cxOf CX P w K mg base N qual scope (He.ga K x) (.ref (tabP K x).1) A outer s H E) body t ∧ t { nx := fun _ H' => Q .non H', rt := Q } (start N vs) H) : FnOk P w K mg base CX (k + 1) (He.ga K x) fd ps sp := by
  obtain ⟨oc, od, fd', osl, lk', ec, _⟩ := codeF_ok hC
  obtain ⟨oc2, od2, dV, kV, doc, pm, an, cdv, ct, osl2, rfl, lk, hcd, _, _⟩ := F.ex
  rw [lk] at lk'
  cases lk'
  have e : cdv = .ref (tabP K x).1 := ec
  subst e
  exact fn_of lk hcd S len hbody
/-! ### the end of a law with lambdas -/
def emptyT : Option Obj → Bool
  | some ⟨.none, none, .fields vs, sl⟩ => vs.isEmpty && sl.isEmpty
  | _ => false
theorem emptyT_ok {o : Option Obj} (h : emptyT o = true) : o = some { cls := .none, data := .fields #[] } := by
  unfold emptyT at h
  split at h
  · obtain ⟨h1, h2⟩ := He.ba h
    rw [Array.isEmpty_iff.mp h1, Array.isEmpty_iff.mp h2]
  · cases h
abbrev AlT : Type := AlM × List Bool
/-- the written part without the tables -/
def frT (g : Addr → Option Obj) (n : Nat) : PySem.W.Frag := (He.frG g (asM g n)).filter fun p => !emptyT (some p.2)
theorem lk_mem {a : Addr} {o : Obj} : ∀ {l : PySem.W.Frag}, l.lookup a = some o → (a, o) ∈ l
  | [], e => by cases e
  | (b, u) :: r, e => by
    rw [List.lookup_cons] at e
    cases hb : a == b with
    | true =>
      rw [hb] at e
      cases e
      rw [beq_iff_eq.mp hb]
      exact .head _
    | false =>
      rw [hb] at e
      exact .tail _ (lk_mem e)
theorem frT_in {n : Nat} {h : Heap} : (frT h.get? n).In h := fun a o e => by
  have hm0 := lk_mem e
  unfold frT at hm0
  have hm := (List.mem_filter.mp hm0).1
  unfold He.frG at hm
  obtain ⟨b, _, hb⟩ := List.mem_filterMap.mp hm
  cases hg : h.get? b with
  | none =>
    rw [hg] at hb
    cases hb
  | some u =>
    rw [hg] at hb
    cases hb
    exact hg
def obsTG (n : Nat) (bs : List Fct) (fn : List He.DefD) (ts : List Str) (g : Addr → Option Obj) : AlT := (obsM bs fn (frT g n), ts.map fun x => emptyT (g (tabP (frT g n) x).2))
def hookT (n : Nat) (bs : List Fct) (fn : List He.DefD) (ts : List Str) : PySem.W.Hook where
  α := AlT
  obs := fun s => obsTG n bs fn ts s.heap.get?
  val := fun _ => (valM fn, ts.map fun _ => true)
  says := fun _ h => ∃ K : PySem.W.Frag, K.In h ∧ SaysM bs fn K ∧ ∀ x ∈ ts, h.get? (tabP K x).2 = some { cls := .none, data := .fields #[] }
  of := fun _ s e => ⟨_, frT_in, congrArg Prod.fst e, fun x hx => emptyT_ok (List.map_inj_left.mp (congrArg Prod.snd e) x hx)⟩
  keeps := fun _ _ _ ⟨K, hK, c, t⟩ k => ⟨K, PySem.W.Frag.In.keeps hK k, c, fun x hx => k _ _ (t x hx)⟩
theorem obsTG_eq {n : Nat} {bs : List Fct} {fn : List He.DefD} {ts : List Str} {g : Addr → Option Obj} {s : Shared} (h : ∀ a, g a = s.heap.get? a) : obsTG n bs fn ts g = (hookT n bs fn ts).obs s := by
  rw [show g = s.heap.get? from funext h]
  rfl
/-- a law with lambdas -/
theorem walk_ofET {l : PySem.W.OpenLaw} {n k : Nat} {q : Program} {loose : List Str} {XP : (Str → Option Value) → Heap → Prop} {YP : World → Heap → Prop} {d : DefRec} {CX : CXT} {x : Str}
    (hn : l.most = some n) (hn2 : n ≤ sizeLine) (hdf : d.params.defaults = []) (hr : Room k callerA)
    (F : ∀ (w : World) (mg : Str → Option Value) (fa : Addr) (h : Heap), YP w h → h.Ns mainGlobals mg → mg d.name = some (.ref fa) →
      ∃ (K : PySem.W.Frag) (fd : FuncData) (cs : List (Addr × Addr)) (sp : Sp), K.In h ∧ (∀ p ∈ cs, h.get? p.2 = some { cls := .none, data := .fields #[] }) ∧ (∀ p ∈ cs, K.lookup p.2 = none) ∧ (∀ p ∈ cs, PySem.W.CodeHd h p.1 p.2) ∧ (∀ (s : Shared) (u : Value), BindsTo s fd ⟨[u], []⟩ [(x, u)]) ∧
        (∀ (H : Hp) (a : Addr) (ns : List Int), ns.length ≤ n → (∀ p ∈ cs, H p.2 = some (.tbl #[])) → SqL K H a (ns.map V.int) → sp [.ref a] H (fun v _ => v = .bl true) fun _ _ _ => False) ∧
        ∀ base : Heap, K.In base → base.Ns mainGlobals mg → (∀ p ∈ cs, TabB base mg p.1 p.2) → FnOk l.prog w K mg base CX k fa fd [x] sp)
    (hCX : ∀ (H : Hp) (s : Shared) (e : Value) (s' : Shared), CX [] H s (fun _ _ _ => False) e s' → False) :
    PySem.W.WalkO q loose XP YP l.row.toRowW d [] (fun f vs => PySem.call f vs) := by
  refine Att.attach_callB hn hdf fun w s₀ s₁ mg mb fa o pm cd doc a vs ns G Y ho hd hcd hmg hobj hints hlen hbits hg => ?_
  obtain ⟨K, fd, cs, sp, KX, hT, nT, C, hb, hsp, hF⟩ := F w mg fa _ Y G.T.g hmg
  exact law_callTs KX G.T.g G.T.b G.T.builtins G.T.nolimit hg hT nT C G.T.bmain hobj hints (Nat.le_trans hlen hn2) hr hF hb (fun H hH hS => hsp H a ns hlen hH hS) fun H e s' => hCX H s₁ e s'
/-- at the start the tables are empty -/
theorem tabs0 {K : PySem.W.Frag} {ts : List Str} {H : Hp} (h : ∀ p ∈ lamC K ts, H p.2 = some (.tbl #[])) : Tabs (lamT K ts) H := fun p hp => by
  obtain ⟨y, hy, rfl⟩ := List.mem_map.mp hp
  exact TabS.nil (h _ (lamC_mem hy))
end MR

set_option Elab.async false
set_option linter.all false
set_option maxRecDepth 100000
set_option maxHeartbeats 4000000
set_option exponentiation.threshold 20000
/-! K03: what the law's own defs do -/
namespace MR
open PySem PySem.Spec PyProof.Rows L2 LamX
local macro_rules | `(tactic| walk_at "m1") => `(tactic| first
  | with_reducible refine i_seq ?_ | with_reducible refine i_asg ?_ | with_reducible refine i_op ?_ | with_reducible refine i_cons ?_ | with_reducible refine i_nil ?_ | with_reducible refine i_c ?_
  | ((with_reducible refine' i_var ?e1 ?_); (case e1 => rfl)) | with_reducible refine i_call ?_ | with_reducible refine i_cb ?_ | with_reducible refine i_name ?_
  | with_reducible refine i_if ?_ | with_reducible refine i_not ?_ | with_reducible refine i_b ?_ | with_reducible refine i_test ?_ | with_reducible refine i_or ?_ | with_reducible refine i_and ?_ | with_reducible refine i_andV ?_ | with_reducible refine i_orV ?_ | with_reducible refine i_notV ?_
  | with_reducible refine i_bl ?_ | with_reducible refine i_next ?_ | with_reducible refine i_ret ?_ | with_reducible refine i_fld ?_ | with_reducible refine i_un ?_ | with_reducible refine i_lst ?_ | with_reducible refine i_tup ?_ | with_reducible refine i_make ?_ | with_reducible refine i_drop ?_)
local macro_rules | `(tactic| walk_at "m2") => `(tactic| first
  | with_reducible refine i_add ?_ | with_reducible refine i_sub ?_ | with_reducible refine i_eq ?_ | with_reducible refine i_ne ?_ | with_reducible refine i_lt ?_ | with_reducible refine i_le ?_ | with_reducible refine i_gt ?_ | with_reducible refine i_ge ?_ | with_reducible refine i_neg ?_ | with_reducible refine i_abs ?_ | with_reducible refine i_int ?_
  | with_reducible refine i_isInt ?_ | with_reducible refine not_ite ?_ | with_reducible refine iteT ?_ | with_reducible refine iteF ?_)

local macro_rules | `(tactic| walk_at "go") => `(tactic| repeat (first | walk_at "m1" | walk_at "m2" | with_reducible refine i_isIntA ?_))
/-- _law_is(value, top, bottom) -/
def spIs (K : PySem.W.Frag) : Sp := fun vs H Q _ => ∃ (p : Addr) (q : Rat) (a b : Int) (n : Nat), vs = [.ref p, .int a, .int b] ∧ IsRat K H p q ∧ b ≠ 0 ∧ q = Rat.divInt a b ∧ a.natAbs < 2 ^ n ∧ b.natAbs < 2 ^ n ∧ 0 < n ∧ n ≤ 4000 ∧ Q (.bl true) H
def t__law_is (K : PySem.W.Frag) : TS :=
  (tSeq (tIfS (tOr (tNot (tB (tCB (rIsi K) (tCons (tVar 0) (tCons (tC (.ref (He.ga K "Ratio"))) tNil))))) (tOr (tNot (tB (tCall (spIsInt K) [] E0 (tCons (tFld K (tVar 0) "top") tNil)))) (tNot (tB (tCall (spIsInt K) [] E0 (tCons (tFld K (tVar 0) "bottom") tNil)))))) (tRet (tC (.bl false))) tNext)
  (tRet (tAndV (tOp rGe0 (tFld K (tVar 0) "bottom") (tC (.int 1))) (tOp rEq (tOp rMulI (tFld K (tVar 0) "top") (tVar 2)) (tOp rMulI (tVar 1) (tFld K (tVar 0) "bottom"))))))
theorem pure__law_is {K : PySem.W.Frag} (T : RTxt2 K) (vs : List V) (H : Hp) (Q : VK) (E : XK) (h : spIs K vs H Q E) : t__law_is K { nx := fun _ H' => Q .non H', rt := Q } (start ["_law_value", "_law_top", "_law_bottom"] vs) H := by
  obtain ⟨p, q, a, b, n, rfl, R, hb, rfl, ha1, hb1, n0, n4, k⟩ := h
  have TT := T.toRTxt
  have n1 := num_le (a := a) hb
  have n2 := den_le (a := a) hb
  have hc := divInt_cross (a := a) hb
  generalize hq : Rat.divInt a b = q at R n1 n2 hc
  have dn : q.den ≠ 0 := q.den_nz
  refine i_seq (i_if (i_or (i_not (i_b (i_cb (i_cons (i_var rfl (i_cons (i_c (i_nil (i_isR T R (i_bl (not_ite ?_)))))))))))))
  refine i_or (i_not (i_b (i_call (i_cons (i_fld (i_var rfl (rd_top TT R (i_nil (i_isInt (i_bl (not_ite ?_)))))))))))
  refine i_not (i_b (i_call (i_cons (i_fld (i_var rfl (rd_bot TT R (i_nil (i_isInt (i_bl (not_ite ?_))))))))))
  refine i_next (i_ret (i_andV (i_op (i_fld (i_var rfl (rd_bot TT R (i_c (i_ge (i_bl (if_b (decide_eq_true (by omega)) ?_))))))))))
  have m1 : IntMulOk q.num b := mul_ok (a := n) (b := n) (by omega) hb1 n0 n0 (by omega)
  have m2 : IntMulOk a ((q.den : Nat) : Int) := mul_ok (a := n) (b := n) ha1 (by omega) n0 n0 (by omega)
  refine i_op (i_op (i_fld (i_var rfl (rd_top TT R (i_var rfl (i_mul m1 (i_op (i_var rfl (i_fld (i_var rfl (rd_bot TT R (i_mul m2 (i_eq ?_)))))))))))))
  rw [hc, decide_eq_true rfl]
  exact k
theorem fdiv_scale {t x y : Int} (ht : t ≠ 0) : (t * x).fdiv (t * y) = x.fdiv y := by
  rcases Int.lt_or_gt_of_ne ht with h | h
  · have e := Int.mul_fdiv_mul_of_pos x y (show 0 < -t by omega)
    rw [Int.neg_mul, Int.neg_mul, Int.neg_fdiv_neg] at e
    exact e
  · exact Int.mul_fdiv_mul_of_pos x y h
theorem fdiv_cross {x y u v : Int} (hy : y ≠ 0) (hv : v ≠ 0) (h : x * v = u * y) : x.fdiv y = u.fdiv v := by
  rw [← fdiv_scale (x := x) (y := y) hv, ← fdiv_scale (x := u) (y := v) hy, Int.mul_comm v x, h, Int.mul_comm u y, Int.mul_comm v y]
theorem fl_div {a b c d : Int} (hb : b ≠ 0) (hd : d ≠ 0) (hc : c ≠ 0) : fl (Rat.divInt a b) (Rat.divInt c d) = (a * d).fdiv (b * c) := by
  have h1 := divInt_cross (a := a) hb
  have h2 := divInt_cross (a := c) hd
  unfold fl
  have n0 : (Rat.divInt c d).num ≠ 0 := fun z => by
    rw [z, Int.zero_mul] at h2
    rcases Int.mul_eq_zero.mp h2.symm with y | y
    · exact hc y
    · exact d_ne _ y
  have d1 := d_ne (Rat.divInt a b)
  have d2 := d_ne (Rat.divInt c d)
  generalize (Rat.divInt a b).num = x at *
  generalize (((Rat.divInt a b).den : Nat) : Int) = y at *
  generalize (Rat.divInt c d).num = u at *
  generalize (((Rat.divInt c d).den : Nat) : Int) = v at *
  refine fdiv_cross (Int.mul_ne_zero d1 n0) (Int.mul_ne_zero hb hc) ?_
  have e1 : x * v * (b * c) = (x * b) * (c * v) := by grind
  have e2 : a * d * (y * u) = (a * y) * (u * d) := by grind
  rw [e1, e2, h1, h2]
theorem fdiv_le2 {x y : Int} (h : 0 < y) : x.fdiv y * y ≤ x ∧ x < (x.fdiv y + 1) * y := by
  rw [Int.fdiv_eq_ediv_of_nonneg _ (by omega)]
  refine ⟨Int.ediv_mul_le x (by omega), ?_⟩
  have := Int.lt_ediv_add_one_mul_self x h
  exact this
theorem dI_rest {a b c d q : Int} (hb : b ≠ 0) (hd : d ≠ 0) : Rat.divInt a b - Rat.divInt c d * q = Rat.divInt (a * d - c * q * b) (b * d) := by
  have hb' : (b : Rat) ≠ 0 := fun h => hb (Rat.intCast_eq_zero_iff.mp h)
  have hd' : (d : Rat) ≠ 0 := fun h => hd (Rat.intCast_eq_zero_iff.mp h)
  rw [Rat.divInt_eq_div, Rat.divInt_eq_div, Rat.divInt_eq_div, Rat.intCast_sub, Rat.intCast_mul, Rat.intCast_mul, Rat.intCast_mul, Rat.intCast_mul]
  grind
theorem dI_over {a b c d : Int} (hb : b ≠ 0) (hd : d ≠ 0) (hc : c ≠ 0) : Rat.divInt a b / Rat.divInt c d = Rat.divInt (a * d) (b * c) := by
  have hb' : (b : Rat) ≠ 0 := fun h => hb (Rat.intCast_eq_zero_iff.mp h)
  have hd' : (d : Rat) ≠ 0 := fun h => hd (Rat.intCast_eq_zero_iff.mp h)
  have hc' : (c : Rat) ≠ 0 := fun h => hc (Rat.intCast_eq_zero_iff.mp h)
  rw [Rat.divInt_eq_div, Rat.divInt_eq_div, Rat.divInt_eq_div, Rat.intCast_mul, Rat.intCast_mul]
  grind
theorem dI_zero {c d : Int} (hd : d ≠ 0) : Rat.divInt c d = 0 ↔ c = 0 := by
  constructor
  · intro h
    have h2 := divInt_cross (a := c) hd
    rw [h] at h2
    simpa using h2.symm
  · intro h
    rw [h, Rat.zero_divInt]
theorem dI_pow {a b : Int} (hb : b ≠ 0) {k : Int} (hk : 0 ≤ k ∨ a ≠ 0) : rpow (Rat.divInt a b) k = if 0 ≤ k then Rat.divInt (a ^ k.toNat) (b ^ k.toNat) else Rat.divInt (b ^ (-k).toNat) (a ^ (-k).toNat) := by
  have h1 := divInt_cross (a := a) hb
  have d1 := d_ne (Rat.divInt a b)
  unfold rpow
  split
  · rw [Rat.divInt_eq_divInt_iff (Int.pow_ne_zero d1) (Int.pow_ne_zero hb), ← Int.mul_pow, ← Int.mul_pow, h1]
  · rename_i h
    have ha : a ≠ 0 := hk.resolve_left h
    have n0 : (Rat.divInt a b).num ≠ 0 := fun z => ha ((dI_zero hb).mp (Rat.num_eq_zero.mp z))
    rw [Rat.divInt_eq_divInt_iff (Int.pow_ne_zero n0) (Int.pow_ne_zero ha), ← Int.mul_pow, ← Int.mul_pow, Int.mul_comm b, h1, Int.mul_comm]
/-! ### the law's own defs -/
theorem i_ownR {K : PySem.W.Frag} {H : Hp} {Q : VK} {sp : Sp} {E : XK} {p q : Addr} {a b : Rat} (Ra : IsRat K H p a) (Rb : IsRat K H q b) (h : sp [.ref p, .ref q] H Q E) : rOwn (He.ga K "Ratio") sp E (.ref p) (.ref q) H Q := by
  obtain ⟨dx, e⟩ := id Ra
  obtain ⟨dy, e2⟩ := id Rb
  exact ⟨p, dx, _, rfl, e, .inr ⟨q, dy, _, rfl, e2⟩, h⟩
theorem i_ownN {K : PySem.W.Frag} {H : Hp} {Q : VK} {sp : Sp} {E : XK} {p : Addr} {a : Rat} {i : Int} (Ra : IsRat K H p a) (h : sp [.ref p, .int i] H Q E) : rOwn (He.ga K "Ratio") sp E (.ref p) (.int i) H Q := by
  obtain ⟨dx, e⟩ := id Ra
  exact ⟨p, dx, _, rfl, e, .inl ⟨i, rfl⟩, h⟩
theorem i_reflN {K : PySem.W.Frag} {H : Hp} {Q : VK} {sp : Sp} {E : XK} {p : Addr} {a : Rat} {i : Int} (Ra : IsRat K H p a) (h : sp [.ref p, .int i] H Q E) : rRefl (He.ga K "Ratio") sp E (.int i) (.ref p) H Q := by
  obtain ⟨dx, e⟩ := id Ra
  exact ⟨i, p, dx, _, rfl, rfl, e, h⟩
theorem i_meth {K : PySem.W.Frag} {C : Addr} {m : Str} {sp : Sp} {dvs : List V} {E : XK} {ta : TE} {t : TA} {σ : L2.St} {H : Hp} {Q : VK} (h : ta σ H fun x H1 => ∃ a dx fs, x = .ref a ∧ H1 a = some (.ins C dx fs) ∧ fs.lookup m = none ∧ t σ H1 fun vs H2 => sp (x :: (vs ++ dvs)) H2 Q E) : tMeth C m sp dvs E ta t σ H Q := h
theorem i_on {K : PySem.W.Frag} {H : Hp} {m : Str} {p : Addr} {a : Rat} {R : Prop} (hm : (ratF a).lookup m = none) (Ra : IsRat K H p a) (h : R) : ∃ q dx fs, V.ref p = .ref q ∧ H q = some (.ins (He.ga K "Ratio") dx fs) ∧ fs.lookup m = none ∧ R := by
  obtain ⟨dx, e⟩ := id Ra
  exact ⟨p, dx, _, rfl, e, hm, h⟩
theorem m_power (a : Rat) : (ratF a).lookup ("power" : Str) = none := rfl
theorem m_over (a : Rat) : (ratF a).lookup ("over" : Str) = none := rfl
/-- _law_floor(q, a, b) -/
def spFloor (K : PySem.W.Frag) : Sp := fun vs H Q _ => ∃ (p q : Addr) (a b c d : Int), vs = [.int (fl (Rat.divInt a b) (Rat.divInt c d)), .ref p, .ref q] ∧ H p = some (.lst [.int a, .int b]) ∧ H q = some (.lst [.int c, .int d]) ∧ 0 < b ∧ 0 < d ∧ c ≠ 0 ∧ a.natAbs < 2 ^ 70 ∧ b.natAbs < 2 ^ 70 ∧ c.natAbs < 2 ^ 70 ∧ d.natAbs < 2 ^ 70 ∧ Q (.bl true) H
def t__law_floor (K : PySem.W.Frag) : TS :=
  (tSeq (tIfS (tNot (tB (tCall (spIsInt K) [] E0 (tCons (tVar 0) tNil)))) (tRet (tC (.bl false))) tNext)
  (tSeq (tAsg (tOp rMulI (tOp (rIxL K) (tVar 1) (tC (.int 0))) (tOp (rIxL K) (tVar 2) (tC (.int 1)))) (gName 3))
  (tSeq (tAsg (tOp rMulI (tOp (rIxL K) (tVar 1) (tC (.int 1))) (tOp (rIxL K) (tVar 2) (tC (.int 0)))) (gName 4))
  (tSeq (tIfS (tTest (tOp rLt0 (tVar 4) (tC (.int 0)))) (tSeq (tAsg (tUn rNeg0 (tVar 3)) (gName 3))
  (tAsg (tUn rNeg0 (tVar 4)) (gName 4))) tNext)
  (tRet (tChain rLe0 rLt0 (tOp rMulI (tVar 0) (tVar 4)) (tVar 3) (tOp rMulI (tOp rAdd0 (tVar 0) (tC (.int 1))) (tVar 4))))))))
theorem m70 {i j : Int} (hi : i.natAbs < 2 ^ 70) (hj : j.natAbs < 2 ^ 70) : IntMulOk i j := mul_ok hi hj (by decide) (by decide) (by decide)
theorem pure__law_floor {K : PySem.W.Frag} (vs : List V) (H : Hp) (Q : VK) (E : XK) (h : spFloor K vs H Q E) : t__law_floor K { nx := fun _ H' => Q .non H', rt := Q } (start ["_law_q", "_law_a", "_law_b", "_law_top", "_law_bottom"] vs) H := by
  obtain ⟨p, q, a, b, c, d, rfl, l1, l2, hb, hd, hc, a7, b7, c7, d7, k⟩ := h
  rw [fl_div (by omega) (by omega) hc]
  have z1 := absmulI a7 d7
  have z2 := absmulI b7 c7
  have z3 := Nat.lt_of_le_of_lt (fdiv_abs (a * d) (b * c)) z1
  have nz : b * c ≠ 0 := Int.mul_ne_zero (by omega) hc
  unfold t__law_floor
  walk_at "go"
  refine i_ixL l1 rfl ?_
  walk_at "go"
  refine i_ixL l2 rfl ?_
  refine i_mul (m70 a7 d7) ?_
  walk_at "go"
  refine i_ixL l1 rfl ?_
  walk_at "go"
  refine i_ixL l2 rfl ?_
  refine i_mul (m70 b7 c7) ?_
  walk_at "go"
  have last : ∀ (x y : Int), x.natAbs < 2 ^ 140 → y.natAbs < 2 ^ 140 → 0 < y → x.fdiv y = (a * d).fdiv (b * c) → (tRet (tChain rLe0 rLt0 (tOp rMulI (tVar 0) (tVar 4)) (tVar 3) (tOp rMulI (tOp rAdd0 (tVar 0) (tC (.int 1))) (tVar 4)))) { nx := fun _ H' => Q .non H', rt := Q } [some (.int ((a * d).fdiv (b * c))), some (.ref p), some (.ref q), some (.int x), some (.int y)] H := by
    intro x y hx hy y0 e
    rw [← e]
    have w := Nat.lt_of_le_of_lt (fdiv_abs x y) hx
    obtain ⟨g1, g2⟩ := fdiv_le2 (x := x) y0
    refine i_ret (i_chain ?_)
    walk_at "go"
    refine i_mul (mul_ok w hy (by decide) (by decide) (by decide)) ?_
    walk_at "go"
    rw [if_pos (decide_eq_true g1)]
    walk_at "go"
    refine i_mul (mul_ok (a := 141) (absadd w (by decide)) hy (by decide) (by decide) (by decide)) ?_
    refine i_lt ?_
    rw [decide_eq_true g2]
    exact k
  by_cases hn : b * c < 0
  · rw [if_pos (decide_eq_true hn)]
    with_reducible refine i_seq ?_
    with_reducible refine i_asg ?_
    with_reducible refine i_un ?_
    refine i_var rfl ?_
    refine i_neg ?_
    with_reducible refine i_name ?_
    with_reducible refine i_asg ?_
    with_reducible refine i_un ?_
    refine i_var rfl ?_
    refine i_neg ?_
    with_reducible refine i_name ?_
    exact last _ _ (by rw [Int.natAbs_neg]; exact z1) (by rw [Int.natAbs_neg]; exact z2) (by omega) (Int.neg_fdiv_neg _ _)
  · rw [if_neg (fun h => hn (of_decide_eq_true h))]
    exact last _ _ z1 z2 (by omega) rfl
/-- _law_rest(rest, q, a, b) -/
def spRest (K : PySem.W.Frag) : Sp := fun vs H Q _ => ∃ (r p q : Addr) (a b c d s : Int), vs = [.ref r, .int s, .ref p, .ref q] ∧ IsRat K H r (Rat.divInt a b - Rat.divInt c d * s) ∧ H p = some (.lst [.int a, .int b]) ∧ H q = some (.lst [.int c, .int d]) ∧ 0 < b ∧ 0 < d ∧ a.natAbs < 2 ^ 70 ∧ b.natAbs < 2 ^ 70 ∧ c.natAbs < 2 ^ 70 ∧ d.natAbs < 2 ^ 70 ∧ s.natAbs < 2 ^ 140 ∧ Q (.bl true) H
def t__law_rest (K : PySem.W.Frag) : TS :=
  (tRet (tCall (spIs K) [] E0 (tCons (tVar 0) (tCons (tOp rSub0 (tOp rMulI (tOp (rIxL K) (tVar 2) (tC (.int 0))) (tOp (rIxL K) (tVar 3) (tC (.int 1)))) (tOp rMulI (tOp rMulI (tOp (rIxL K) (tVar 3) (tC (.int 0))) (tVar 1)) (tOp (rIxL K) (tVar 2) (tC (.int 1))))) (tCons (tOp rMulI (tOp (rIxL K) (tVar 2) (tC (.int 1))) (tOp (rIxL K) (tVar 3) (tC (.int 1)))) tNil)))))
theorem pure__law_rest {K : PySem.W.Frag} (vs : List V) (H : Hp) (Q : VK) (E : XK) (h : spRest K vs H Q E) : t__law_rest K { nx := fun _ H' => Q .non H', rt := Q } (start ["_law_rest_here", "_law_q", "_law_a", "_law_b"] vs) H := by
  obtain ⟨r, p, q, a, b, c, d, s, rfl, R, l1, l2, hb, hd, a7, b7, c7, d7, s7, k⟩ := h
  rw [dI_rest (by omega) (by omega)] at R
  unfold t__law_rest
  walk_at "go"
  refine i_ixL l1 rfl ?_
  walk_at "go"
  refine i_ixL l2 rfl ?_
  refine i_mul (m70 a7 d7) ?_
  walk_at "go"
  refine i_ixL l2 rfl ?_
  walk_at "go"
  refine i_mul (mul_ok c7 s7 (by decide) (by decide) (by decide)) ?_
  walk_at "go"
  refine i_ixL l1 rfl ?_
  refine i_mul (mul_ok (absmulI c7 s7) b7 (by decide) (by decide) (by decide)) ?_
  walk_at "go"
  refine i_ixL l1 rfl ?_
  walk_at "go"
  refine i_ixL l2 rfl ?_
  refine i_mul (m70 b7 d7) ?_
  walk_at "go"
  have z1 : (a * d - c * s * b).natAbs < 2 ^ 281 := abssub (n := 280) (Nat.lt_trans (absmulI a7 d7) (by decide)) (absmulI (absmulI c7 s7) b7)
  exact ⟨r, _, _, _, 281, rfl, R, Int.mul_ne_zero (by omega) (by omega), rfl, z1, Nat.lt_trans (absmulI b7 d7) (by decide), by decide, by decide, k⟩
/-- _law_power(value, a, k) -/
def spPower (K : PySem.W.Frag) : Sp := fun vs H Q _ => ∃ (r p : Addr) (a b k : Int), vs = [.ref r, .ref p, .int k] ∧ H p = some (.lst [.int a, .int b]) ∧ 0 < b ∧ a.natAbs < 2 ^ 70 ∧ b.natAbs < 2 ^ 70 ∧ -20 ≤ k ∧ k ≤ 20 ∧ (0 ≤ k ∨ a ≠ 0) ∧ IsRat K H r (rpow (Rat.divInt a b) k) ∧ Q (.bl true) H
def t__law_power (K : PySem.W.Frag) : TS :=
  (tSeq (tAsg (tC (.int 1)) (gName 3))
  (tSeq (tAsg (tC (.int 1)) (gName 4))
  (tSeq (tFor (iRng1 (tCons (tCB rAbs0 (tCons (tVar 2) tNil)) tNil)) (gName 5) (tSeq (tAsg (tOp rMulI (tVar 3) (tOp (rIxL K) (tVar 1) (tC (.int 0)))) (gName 3))
  (tAsg (tOp rMulI (tVar 4) (tOp (rIxL K) (tVar 1) (tC (.int 1)))) (gName 4))))
  (tSeq (tIfS (tTest (tOp rLt0 (tVar 2) (tC (.int 0)))) (tRet (tCall (spIs K) [] E0 (tCons (tVar 0) (tCons (tVar 4) (tCons (tVar 3) tNil))))) tNext)
  (tRet (tCall (spIs K) [] E0 (tCons (tVar 0) (tCons (tVar 3) (tCons (tVar 4) tNil)))))))))
theorem pow_le {i : Nat} {a : Int} (h : a.natAbs < 2 ^ 70) (hi : i ≤ 20) : (a ^ i).natAbs < 2 ^ 1401 := Nat.lt_of_lt_of_le (pow_lt h i) (Nat.pow_le_pow_right (by decide) (by omega))
theorem pure__law_power {K : PySem.W.Frag} (vs : List V) (H : Hp) (Q : VK) (E : XK) (h : spPower K vs H Q E) : t__law_power K { nx := fun _ H' => Q .non H', rt := Q } (start ["_law_value", "_law_a", "_law_k", "_law_top", "_law_bottom", "_law_j"] vs) H := by
  obtain ⟨r, p, a, b, k, rfl, l1, hb, a7, b7, k1, k2, hk, R, q⟩ := h
  rw [dI_pow (by omega) hk] at R
  refine ⟨_, rfl, _, rfl, _, rfl, by split <;> omega, by split <;> omega, ?_⟩
  refine for_range (lo := 0) (n := (if k < 0 then -k else k).toNat) (fun i σ H' => ∃ v, σ = [some (.ref r), some (.ref p), some (.int k), some (.int (a ^ i)), some (.int (b ^ i)), v] ∧ H' = H) ⟨_, by rw [Int.pow_zero, Int.pow_zero]; rfl, rfl⟩ ?_ ?_
  · rintro i σ H3 hi ⟨v, rfl, rfl⟩
    have hi20 : i ≤ 20 := by split at hi <;> omega
    refine ⟨_, rfl, _, rfl, p, _, 0, _, rfl, rfl, SqL.of l1, rfl, _, _, rfl, rfl, mul_ok (pow_le a7 hi20) a7 (by decide) (by decide) (by decide), ?_⟩
    refine ⟨_, rfl, _, rfl, p, _, 1, _, rfl, rfl, SqL.of l1, rfl, _, _, rfl, rfl, mul_ok (pow_le b7 hi20) b7 (by decide) (by decide) (by decide), some (.int (0 + i)), ?_, rfl⟩
    rw [Int.pow_succ, Int.pow_succ]
    rfl
  · rintro σ H6 ⟨v, rfl, rfl⟩
    walk_at "go"
    by_cases hn : k < 0
    · rw [if_pos (decide_eq_true hn), if_pos hn]
      walk_at "go"
      have ha : a ≠ 0 := hk.resolve_left (by omega)
      rw [if_neg (by omega)] at R
      exact ⟨r, _, _, _, 1401, rfl, R, Int.pow_ne_zero ha, rfl, pow_le b7 (by omega), pow_le a7 (by omega), by decide, by decide, q⟩
    · rw [if_neg (fun h => hn (of_decide_eq_true h)), if_neg hn]
      walk_at "go"
      rw [if_pos (by omega)] at R
      exact ⟨r, _, _, _, 1401, rfl, R, Int.pow_ne_zero (by omega), rfl, pow_le a7 (by omega), pow_le b7 (by omega), by decide, by decide, q⟩
/-! ### lambdas -/
def EW (C : Addr) (Q : VK) : XK := fun cls d H' => ∃ w, XdW C "word" (.str w) cls d H' ∧ Q (.str w) H'
theorem err_w {K : PySem.W.Frag} {C w : Str} {H : Hp} {Q : VK} (k : ∀ H', Same H H' → Q (.str w) H') : Err K C "word" w H (EW (He.ga K C) Q) := fun d hd => ⟨w, ⟨d, _, rfl, rfl, upd_same, by simp [List.lookup]⟩, k _ (same_new hd)⟩
theorem i_lam {T : List (Addr × Str)} {C : Addr} {t : XK → TE} {σ : L2.St} {H : Hp} {Q : VK} (hT : Tabs T H) (h : ∀ H1, ExtN H H1 → Tabs T H1 → t (EW C Q) σ H1 (fun _ H' => Q (.str "") H')) : tLam T (TWord C) t σ H Q := ⟨hT, h⟩
theorem IsRat.extN {K : PySem.W.Frag} {H H' : Hp} {p : Addr} {q : Rat} (h : IsRat K H p q) (e : ExtN H H') : IsRat K H' p q := let ⟨dx, z⟩ := h; ⟨dx, e _ _ z (fun ps y => by cases y)⟩
theorem lst_extN {H H' : Hp} {p : Addr} {xs : List V} (h : H p = some (.lst xs)) (e : ExtN H H') : H' p = some (.lst xs) := e _ _ h (fun ps y => by cases y)
theorem Feed.extN {K : PySem.W.Frag} {H H' : Hp} {f : Addr} (F : Feed K H f) (e : ExtN H H') : Feed K H' f := by
  obtain ⟨c, ns, p, b, l, n, s, G⟩ := F
  refine ⟨c, ns, p, b, l, n, s, lst_extN G.ob e, ?_, G.ne, G.nn, G.p0, G.b0, G.l0, G.n0, G.s0⟩
  rcases G.cs with (h | ⟨o, h⟩) | h
  · exact .inl (.inl (lst_extN h e))
  · exact .inl (.inr ⟨o, e _ _ h (fun ps y => by cases y)⟩)
  · exact .inr h
theorem sameN {H H' : Hp} (s : Same H H') : ExtN H H' := ExtN.of s
theorem feed_lst {K : PySem.W.Frag} {H : Hp} {f : Addr} (F : Feed K H f) : ∃ xs, H f = some (.lst xs) := by
  obtain ⟨_, _, _, _, _, _, _, G⟩ := F
  exact ⟨_, G.ob⟩
theorem rat_ne {K : PySem.W.Frag} {H : Hp} {f p : Addr} {q : Rat} (F : Feed K H f) (R : IsRat K H p q) : p ≠ f := fun e => by
  obtain ⟨xs, h⟩ := feed_lst F
  obtain ⟨dx, z⟩ := R
  rw [e, h] at z
  cases z
theorem tabKeep {T : List (Addr × Str)} {K : PySem.W.Frag} {H H' : Hp} {f : Addr} (t : Tabs T H) (F : Feed K H f) (k : Keep f H H') : Tabs T H' := fun p hp => by
  obtain ⟨xs, h⟩ := feed_lst F
  obtain ⟨ps, h1, h2, h3⟩ := t p hp
  have ne : ∀ {b : Addr} {o : HO}, H b = some o → (∀ ys, o ≠ .lst ys) → b ≠ f := fun {b o} e n z => by
    rw [z, h] at e
    exact n xs (Option.some.inj e).symm
  refine ⟨ps, k _ _ h1 (ne h1 fun ys y => by cases y), h2, fun pos cv hc => ?_⟩
  obtain ⟨c, e1, e2⟩ := h3 pos cv hc
  exact ⟨c, e1, k _ _ e2 (ne e2 fun ys y => by unfold CodeO at y; cases y)⟩
theorem tabSame {T : List (Addr × Str)} {H H' : Hp} (t : Tabs T H) (s : Same H H') : Tabs T H' := t.ext s
abbrev LT (K : PySem.W.Frag) : List (Addr × Str) := lamT K ["_law_powers", "_law_zero", "law"]
/-- _law_powers(one, a, k) -/
def spPowers (K : PySem.W.Frag) : Sp := fun vs H Q _ => ∃ (r p : Addr) (a b k : Int), vs = [.ref r, .ref p, .int k] ∧ H p = some (.lst [.int a, .int b]) ∧ 0 < b ∧ a.natAbs < 2 ^ 70 ∧ b.natAbs < 2 ^ 70 ∧ IsRat K H r (Rat.divInt a b) ∧ Tabs (LT K) H ∧ ∀ H', ExtN H H' → Tabs (LT K) H' → Q (.bl true) H'
def t__law_powers (K : PySem.W.Frag) : TS :=
  (tSeq (tIfS (tOr (tTest (tOp rLt0 (tVar 2) (tUn rNeg0 (tC (.int 20))))) (tTest (tOp rGt0 (tVar 2) (tC (.int 20))))) (tRet (tOp rEq (tLam (lamT K ["_law_powers", "_law_zero", "law"]) (TWord (He.ga K "NoRatio")) (fun E => (tMeth (He.ga K "Ratio") "power" (spPowerOf K) [] E (tVar 0) (tCons (tVar 2) tNil)))) (tC (.str "power")))) tNext)
  (tSeq (tIfS (tAnd (tTest (tOp rLt0 (tVar 2) (tC (.int 0)))) (tTest (tOp rEq (tOp (rIxL K) (tVar 1) (tC (.int 0))) (tC (.int 0))))) (tRet (tOp rEq (tLam (lamT K ["_law_powers", "_law_zero", "law"]) (TWord (He.ga K "NoRatio")) (fun E => (tMeth (He.ga K "Ratio") "power" (spPowerOf K) [] E (tVar 0) (tCons (tVar 2) tNil)))) (tC (.str "zero")))) tNext)
  (tRet (tCall (spPower K) [] E0 (tCons (tMeth (He.ga K "Ratio") "power" (spPowerOf K) [] E0 (tVar 0) (tCons (tVar 2) tNil)) (tCons (tVar 1) (tCons (tVar 2) tNil)))))))
theorem str_eq {H : Hp} {Q : VK} {s : Str} (h : Q (.bl true) H) : rEq (.str s) (.str s) H Q := ⟨rfl, by rw [decide_eq_true rfl]; exact h⟩
theorem str_ne {H : Hp} {Q : VK} {s : Str} (h : Q (.bl false) H) : rNe (.str s) (.str s) H Q := ⟨rfl, by rw [decide_eq_true rfl]; exact h⟩
theorem pure__law_powers {K : PySem.W.Frag} (vs : List V) (H : Hp) (Q : VK) (E : XK) (h : spPowers K vs H Q E) : t__law_powers K { nx := fun _ H' => Q .non H', rt := Q } (start ["_law_one", "_law_a", "_law_k"] vs) H := by
  obtain ⟨r, p, a, b, k, rfl, l1, hb, a7, b7, R, Tb, q⟩ := h
  have S1 : Sz 70 (Rat.divInt a b) := sz_div (by omega) a7 b7
  unfold t__law_powers
  walk_at "go"
  have one : ∀ (w : Str), (∀ (H1 : Hp) (Q1 : VK) (E1 : XK), IsRat K H1 r (Rat.divInt a b) → Err K "NoRatio" "word" w H1 E1 → spPowerOf K [.ref r, .int k] H1 Q1 E1) → (tRet (tOp rEq (tLam (lamT K ["_law_powers", "_law_zero", "law"]) (TWord (He.ga K "NoRatio")) (fun E => (tMeth (He.ga K "Ratio") "power" (spPowerOf K) [] E (tVar 0) (tCons (tVar 2) tNil)))) (tC (.str w)))) { nx := fun _ H' => Q .non H', rt := Q } [some (.ref r), some (.ref p), some (.int k)] H := by
    intro w hw
    refine i_ret (i_op (i_lam Tb fun H1 e1 T1 => i_meth (K := K) (i_var rfl (i_on (m_power _) (R.extN e1) (i_cons (i_var rfl (i_nil ?_)))))))
    refine hw H1 _ _ (R.extN e1) (err_w fun H' s' => ?_)
    refine i_c (str_eq (q _ (e1.trans (sameN s')) (tabSame T1 s')))
  by_cases h1 : k < -20
  · rw [if_pos (decide_eq_true h1)]
    refine iteT ?_
    exact one _ fun H1 Q1 E1 R1 e => ⟨r, _, _, 70, true, rfl, R1, S1, by decide, intQ_int, fun z => (by cases z), fun _ => ⟨k, rfl, fun _ => e, fun z => by omega⟩⟩
  · rw [if_neg (fun h => h1 (of_decide_eq_true h))]
    walk_at "go"
    by_cases h2 : 20 < k
    · rw [if_pos (decide_eq_true h2)]
      exact one _ fun H1 Q1 E1 R1 e => ⟨r, _, _, 70, true, rfl, R1, S1, by decide, intQ_int, fun z => (by cases z), fun _ => ⟨k, rfl, fun _ => e, fun _ z => by omega⟩⟩
    · rw [if_neg (fun h => h2 (of_decide_eq_true h))]
      walk_at "go"
      have good : (0 ≤ k ∨ a ≠ 0) → (tRet (tCall (spPower K) [] E0 (tCons (tMeth (He.ga K "Ratio") "power" (spPowerOf K) [] E0 (tVar 0) (tCons (tVar 2) tNil)) (tCons (tVar 1) (tCons (tVar 2) tNil))))) { nx := fun _ H' => Q .non H', rt := Q } [some (.ref r), some (.ref p), some (.int k)] H := by
        intro hk
        refine i_ret (i_call (i_cons (i_meth (K := K) (i_var rfl (i_on (m_power _) R (i_cons (i_var rfl (i_nil ?_))))))))
        refine ⟨r, _, _, 70, true, rfl, R, S1, by decide, intQ_int, fun z => (by cases z), fun _ => ⟨k, rfl, fun z => absurd ⟨by omega, by omega⟩ z, fun _ _ => ⟨fun z1 z2 => ?_, fun _ r' H' s' R' => ?_⟩⟩⟩
        · rcases hk with y | y
          · omega
          · exact absurd ((dI_zero (by omega)).mp z2) y
        · refine i_cons (i_var rfl (i_cons (i_var rfl (i_nil ?_))))
          exact ⟨r', p, a, b, k, rfl, s' _ _ l1, hb, a7, b7, by omega, by omega, hk, R', q _ (sameN s') (tabSame Tb s')⟩
      by_cases h3 : k < 0
      · rw [if_pos (decide_eq_true h3)]
        walk_at "go"
        refine i_ixL l1 rfl ?_
        walk_at "go"
        by_cases h4 : a = 0
        · rw [if_pos (decide_eq_true h4)]
          exact one _ fun H1 Q1 E1 R1 e => ⟨r, _, _, 70, true, rfl, R1, S1, by decide, intQ_int, fun z => (by cases z), fun _ => ⟨k, rfl, fun z => absurd ⟨by omega, by omega⟩ z, fun _ _ => ⟨fun _ _ => e, fun z => by
            rcases z with z | z
            · omega
            · exact absurd ((dI_zero (by omega)).mpr h4) z⟩⟩⟩
        · rw [if_neg (fun h => h4 (of_decide_eq_true h))]
          exact good (.inr h4)
      · rw [if_neg (fun h => h3 (of_decide_eq_true h))]
        exact good (.inl (by omega))
/-- the words so far -/
structure ZS (K : PySem.W.Frag) (H0 H : Hp) (l r1 r2 : Addr) (x : Rat) (n : Nat) : Prop where
  ob : H l = some (.lst (List.replicate n (.str "zero")))
  new : ∀ o, H0 l = some o → ∃ ps, o = .tbl ps
  R1 : IsRat K H r1 x
  R2 : IsRat K H r2 0
  Tb : Tabs (LT K) H
  ex : ExtN H0 H
abbrev LW (K : PySem.W.Frag) (t : XK → TE) : TE := tLam (lamT K ["_law_powers", "_law_zero", "law"]) (TWord (He.ga K "NoRatio")) t
theorem rat_nl {K : PySem.W.Frag} {H : Hp} {l p : Addr} {q : Rat} {xs : List V} (h : H l = some (.lst xs)) (R : IsRat K H p q) : p ≠ l := fun e => by
  obtain ⟨dx, z⟩ := R
  rw [e, h] at z
  cases z
theorem tab_nl {T : List (Addr × Str)} {H : Hp} {l : Addr} {xs : List V} {o : HO} (t : Tabs T H) (h : H l = some (.lst xs)) : Tabs T (upd H l o) := fun p hp => by
  obtain ⟨ps, h1, h2, h3⟩ := t p hp
  have ne : ∀ {b : Addr} {o : HO}, H b = some o → (∀ ys, o ≠ .lst ys) → b ≠ l := fun {b o} e n z => by
    rw [z, h] at e
    exact n xs (Option.some.inj e).symm
  refine ⟨ps, by rw [upd_ne (ne h1 fun ys y => by cases y)]; exact h1, h2, fun pos cv hc => ?_⟩
  obtain ⟨c, e1, e2⟩ := h3 pos cv hc
  exact ⟨c, e1, by rw [upd_ne (ne e2 fun ys y => by unfold CodeO at y; cases y)]; exact e2⟩
theorem ZS.more {K : PySem.W.Frag} {H0 H H1 H2 : Hp} {l r1 r2 : Addr} {x : Rat} {n : Nat} (Z : ZS K H0 H l r1 r2 x n) (e1 : ExtN H H1) (T1 : Tabs (LT K) H1) (s2 : Same H1 H2) : ZS K H0 (upd H2 l (.lst (List.replicate n (.str "zero") ++ [.str "zero"]))) l r1 r2 x (n + 1) := by
  have e := e1.trans (sameN s2)
  have ob := lst_extN Z.ob e
  have R1 := Z.R1.extN e
  have R2 := Z.R2.extN e
  refine ⟨by rw [upd_same, List.replicate_succ'], Z.new, ?_, ?_, tab_nl (tabSame T1 s2) ob, fun b o h n => ?_⟩
  · obtain ⟨dx, z⟩ := R1
    exact ⟨dx, by rw [upd_ne (rat_nl ob ⟨dx, z⟩)]; exact z⟩
  · obtain ⟨dx, z⟩ := R2
    exact ⟨dx, by rw [upd_ne (rat_nl ob ⟨dx, z⟩)]; exact z⟩
  · have nb : b ≠ l := fun z => by
      rw [z] at h
      obtain ⟨ps, y⟩ := Z.new o h
      exact n ps y
    rw [upd_ne nb]
    exact e _ _ (Z.ex b o h n) n
theorem zstep {K : PySem.W.Frag} {H0 H : Hp} {l r1 r2 : Addr} {x : Rat} {n : Nat} {t : XK → TE} {D : L2.Ends} (Z : ZS K H0 H l r1 r2 x n) (hn : n < 100)
    (ht : ∀ (H1 : Hp) (Q : VK), IsRat K H1 r1 x → IsRat K H1 r2 0 → (∀ H', Same H1 H' → Q (.str "zero") H') → t (EW (He.ga K "NoRatio") Q) [some (.ref r1), some (.ref r2), some (.ref l)] H1 (fun _ H' => Q (.str "") H'))
    (k : ∀ H', ZS K H0 H' l r1 r2 x (n + 1) → D.nx [some (.ref r1), some (.ref r2), some (.ref l)] H') :
    tDrop (tBM K "list" rAppend (tVar 2) (tCons (LW K t) tNil)) D [some (.ref r1), some (.ref r2), some (.ref l)] H := by
  refine ⟨_, rfl, .inl ⟨rfl, _, SqL.of Z.ob⟩, ?_⟩
  refine i_cons (i_lam Z.Tb fun H1 e1 T1 => ht H1 _ (Z.R1.extN e1) (Z.R2.extN e1) fun H2 s2 => i_nil ?_)
  have e := e1.trans (sameN s2)
  refine ⟨l, _, _, rfl, rfl, lst_extN Z.ob e, ?_, k _ (Z.more e1 T1 s2)⟩
  rw [List.length_replicate]
  exact Nat.lt_trans hn (by decide)
/-- _law_zero(one, other) -/
def spZero (K : PySem.W.Frag) : Sp := fun vs H Q _ => ∃ (r1 r2 : Addr) (x : Rat), vs = [.ref r1, .ref r2] ∧ IsRat K H r1 x ∧ Sz 70 x ∧ IsRat K H r2 0 ∧ Tabs (LT K) H ∧ ∀ H', ExtN H H' → Tabs (LT K) H' → Q (.bl true) H'
def t__law_zero (K : PySem.W.Frag) : TS :=
  (tSeq (tAsg (tLst (tCons (tLam (lamT K ["_law_powers", "_law_zero", "law"]) (TWord (He.ga K "NoRatio")) (fun E => (tOp (rOwn (He.ga K "Ratio") (spRFloordiv K) E) (tVar 0) (tVar 1)))) tNil)) (gName 2))
  (tSeq (tDrop (tBM K "list" rAppend (tVar 2) (tCons (tLam (lamT K ["_law_powers", "_law_zero", "law"]) (TWord (He.ga K "NoRatio")) (fun E => (tOp (rOwn (He.ga K "Ratio") (spRMod K) E) (tVar 0) (tVar 1)))) tNil)))
  (tSeq (tDrop (tBM K "list" rAppend (tVar 2) (tCons (tLam (lamT K ["_law_powers", "_law_zero", "law"]) (TWord (He.ga K "NoRatio")) (fun E => (tMeth (He.ga K "Ratio") "over" (spOver K) [] E (tVar 0) (tCons (tVar 1) tNil)))) tNil)))
  (tSeq (tDrop (tBM K "list" rAppend (tVar 2) (tCons (tLam (lamT K ["_law_powers", "_law_zero", "law"]) (TWord (He.ga K "NoRatio")) (fun E => (tOp (rOwn (He.ga K "Ratio") (spRFloordiv K) E) (tVar 0) (tC (.int 0))))) tNil)))
  (tSeq (tDrop (tBM K "list" rAppend (tVar 2) (tCons (tLam (lamT K ["_law_powers", "_law_zero", "law"]) (TWord (He.ga K "NoRatio")) (fun E => (tOp (rOwn (He.ga K "Ratio") (spRMod K) E) (tVar 0) (tC (.int 0))))) tNil)))
  (tSeq (tDrop (tBM K "list" rAppend (tVar 2) (tCons (tLam (lamT K ["_law_powers", "_law_zero", "law"]) (TWord (He.ga K "NoRatio")) (fun E => (tMeth (He.ga K "Ratio") "over" (spOver K) [] E (tVar 0) (tCons (tC (.int 0)) tNil)))) tNil)))
  (tSeq (tDrop (tBM K "list" rAppend (tVar 2) (tCons (tLam (lamT K ["_law_powers", "_law_zero", "law"]) (TWord (He.ga K "NoRatio")) (fun E => (tOp (rRefl (He.ga K "Ratio") (spRRfloordiv K) E) (tC (.int 7)) (tVar 1)))) tNil)))
  (tSeq (tDrop (tBM K "list" rAppend (tVar 2) (tCons (tLam (lamT K ["_law_powers", "_law_zero", "law"]) (TWord (He.ga K "NoRatio")) (fun E => (tOp (rRefl (He.ga K "Ratio") (spRRmod K) E) (tC (.int 7)) (tVar 1)))) tNil)))
  (tRet (tOp (rEqV K) (tVar 2) (tOp rRep (tLst (tCons (tC (.str "zero")) tNil)) (tC (.int 8)))))))))))))
theorem sz0 : Sz 70 (0 : Rat) := ⟨by decide, by decide⟩
theorem sz7 : Sz 70 ((7 : Int) : Rat) := ⟨by decide, by decide⟩
theorem szi0 : Sz 70 ((0 : Int) : Rat) := ⟨by decide, by decide⟩
theorem paired_rep {F : V → V → Prop} {v : V} (h : F v v) : ∀ n : Nat, Paired F (List.replicate n v) (List.replicate n v)
  | 0 => .nil
  | n + 1 => .cons h (paired_rep h n)
theorem pure__law_zero {K : PySem.W.Frag} (vs : List V) (H : Hp) (Q : VK) (E : XK) (h : spZero K vs H Q E) : t__law_zero K { nx := fun _ H' => Q .non H', rt := Q } (start ["_law_one", "_law_other", "_law_words"] vs) H := by
  obtain ⟨r1, r2, x, rfl, R1, S1, R2, Tb, q⟩ := h
  unfold t__law_zero
  with_reducible refine i_seq ?_
  with_reducible refine i_asg ?_
  with_reducible refine i_lst ?_
  with_reducible refine i_cons ?_
  refine i_lam Tb fun H1 e1 T1 => ?_
  refine i_op (i_var rfl (i_var rfl (i_ownR (R1.extN e1) (R2.extN e1) ⟨r1, _, _, _, 70, 70, rfl, R1.extN e1, num_rat (R2.extN e1), S1, sz0, by decide, fun _ => err_w fun H2 s2 => ?_, fun z => absurd rfl z⟩)))
  refine i_nil ⟨by show 1 ≤ sizeLine; decide, fun l nl => i_name ?_⟩
  have e := e1.trans (sameN s2)
  have T2 := tabSame T1 s2
  have s3 : Same H2 _ := same_new (o := .lst [.str "zero"]) nl
  have n0 : ∀ o, H l = some o → ∃ ps, o = .tbl ps := fun o z => by
    refine Classical.byContradiction fun ht => ?_
    rw [e _ _ z (fun ps y => ht ⟨ps, y⟩)] at nl
    cases nl
  have Z : ZS K H _ l r1 r2 x 1 := ⟨upd_same, n0, (R1.extN e).same s3, (R2.extN e).same s3, tabSame T2 s3, e.trans (sameN s3)⟩
  with_reducible refine i_seq ?_
  refine zstep Z (by decide) (fun H4 Q4 A1 A2 k => ?_) fun H4 Z => ?_
  · exact i_op (i_var rfl (i_var rfl (i_ownR A1 A2 ⟨r1, _, _, _, 70, 70, rfl, A1, num_rat A2, S1, sz0, by decide, fun _ => err_w k, fun z => absurd rfl z⟩)))
  with_reducible refine i_seq ?_
  refine zstep Z (by decide) (fun H4 Q4 A1 A2 k => ?_) fun H4 Z => ?_
  · exact i_meth (K := K) (i_var rfl (i_on (m_over _) A1 (i_cons (i_var rfl (i_nil ⟨r1, _, _, _, 70, 70, rfl, A1, num_rat A2, S1, sz0, by decide, fun _ H' s' => err_w fun H'' s'' => k _ (s'.trans s''), fun z => absurd rfl z⟩)))))
  with_reducible refine i_seq ?_
  refine zstep Z (by decide) (fun H4 Q4 A1 A2 k => ?_) fun H4 Z => ?_
  · exact i_op (i_var rfl (i_c (i_ownN A1 ⟨r1, _, _, _, 70, 70, rfl, A1, num_int, S1, szi0, by decide, fun _ => err_w k, fun z => absurd rfl z⟩)))
  with_reducible refine i_seq ?_
  refine zstep Z (by decide) (fun H4 Q4 A1 A2 k => ?_) fun H4 Z => ?_
  · exact i_op (i_var rfl (i_c (i_ownN A1 ⟨r1, _, _, _, 70, 70, rfl, A1, num_int, S1, szi0, by decide, fun _ => err_w k, fun z => absurd rfl z⟩)))
  with_reducible refine i_seq ?_
  refine zstep Z (by decide) (fun H4 Q4 A1 A2 k => ?_) fun H4 Z => ?_
  · exact i_meth (K := K) (i_var rfl (i_on (m_over _) A1 (i_cons (i_c (i_nil ⟨r1, _, _, _, 70, 70, rfl, A1, num_int, S1, szi0, by decide, fun _ H' s' => err_w fun H'' s'' => k _ (s'.trans s''), fun z => absurd rfl z⟩)))))
  with_reducible refine i_seq ?_
  refine zstep Z (by decide) (fun H4 Q4 A1 A2 k => ?_) fun H4 Z => ?_
  · exact i_op (i_c (i_var rfl (i_reflN A2 ⟨r2, 7, _, 70, 70, rfl, A2, sz0, sz7, by decide, fun _ => err_w k, fun z => absurd rfl z⟩)))
  with_reducible refine i_seq ?_
  refine zstep Z (by decide) (fun H4 Q4 A1 A2 k => ?_) fun H4 Z => ?_
  · exact i_op (i_c (i_var rfl (i_reflN A2 ⟨r2, 7, _, 70, 70, rfl, A2, sz0, sz7, by decide, fun _ => err_w k, fun z => absurd rfl z⟩)))
  with_reducible refine i_ret ?_
  with_reducible refine i_op ?_
  refine i_var rfl ?_
  with_reducible refine i_op ?_
  with_reducible refine i_lst ?_
  with_reducible refine i_cons ?_
  refine i_c ?_
  refine i_nil ⟨by show 1 ≤ sizeLine; decide, fun m nm => i_c ?_⟩
  refine ⟨m, 8, _, rfl, rfl, upd_same, by decide, by decide, by show 8 ≤ sizeLine; decide, fun m2 nm2 => ?_⟩
  have s5 : Same H4 _ := same_new (o := .lst [.str "zero"]) nm
  have s6 := s5.trans (same_new (o := .lst ((List.replicate 8 [V.str "zero"]).flatten)) nm2)
  refine ⟨2, by decide, .inl ⟨l, m2, _, _, rfl, rfl, SqL.of (s6 _ _ Z.ob), SqL.of upd_same, ?_⟩, q _ (Z.ex.trans (sameN s6)) (tabSame Z.Tb s6)⟩
  exact paired_rep (n := 8) (.inl ⟨rfl, rfl⟩)
structure Mid (K : PySem.W.Frag) (H : Hp) (f p1 p2 r1 r2 : Addr) (a b c d : Int) : Prop where
  l1 : H p1 = some (.lst [.int a, .int b])
  l2 : H p2 = some (.lst [.int c, .int d])
  R1 : IsRat K H r1 (Rat.divInt a b)
  R2 : IsRat K H r2 (Rat.divInt c d)
  F : Feed K H f
  Tb : Tabs (LT K) H
  n1 : p1 ≠ f
  n2 : p2 ≠ f
section
variable {K : PySem.W.Frag} {H H' : Hp} {f p1 p2 r1 r2 z0 : Addr} {a b c d n : Int}
theorem Mid.ext (M : Mid K H f p1 p2 r1 r2 a b c d) (e : ExtN H H') (t : Tabs (LT K) H') : Mid K H' f p1 p2 r1 r2 a b c d := ⟨lst_extN M.l1 e, lst_extN M.l2 e, M.R1.extN e, M.R2.extN e, M.F.extN e, t, M.n1, M.n2⟩
theorem Mid.same (M : Mid K H f p1 p2 r1 r2 a b c d) (s : Same H H') : Mid K H' f p1 p2 r1 r2 a b c d := M.ext (sameN s) (tabSame M.Tb s)
theorem rat_keep {p : Addr} {q : Rat} (F : Feed K H f) (R : IsRat K H p q) (k : Keep f H H') : IsRat K H' p q := by
  have ne := rat_ne F R
  obtain ⟨dx, z⟩ := R
  exact ⟨dx, k _ _ z ne⟩
theorem Mid.keep (M : Mid K H f p1 p2 r1 r2 a b c d) (k : Keep f H H') (F : Feed K H' f) : Mid K H' f p1 p2 r1 r2 a b c d := ⟨k _ _ M.l1 M.n1, k _ _ M.l2 M.n2, rat_keep M.F M.R1 k, rat_keep M.F M.R2 k, F, tabKeep M.Tb M.F k, M.n1, M.n2⟩
abbrev ST (z0 f p1 p2 r1 r2 : Addr) (n : Int) (v2 v3 v9 : Option V) : L2.St := [some (.ref z0), some (.ref f), v2, v3, some (.ref p1), some (.ref p2), some (.int n), some (.ref r1), some (.ref r2), v9]
def t_lawA (K : PySem.W.Frag) : TS :=
  (tIfS (tTest (tOp rEq (tOp (rIxL K) (tVar 5) (tC (.int 0))) (tC (.int 0)))) (tIfS (tNot (tB (tCall (spZero K) [] E0 (tCons (tVar 7) (tCons (tVar 8) tNil))))) (tRet (tC (.bl false))) tNext) (tSeq (tAsg (tOp (rOwn (He.ga K "Ratio") (spRFloordiv K) E0) (tVar 7) (tVar 8)) (gName 9))
  (tSeq (tIfS (tOr (tNot (tB (tCall (spFloor K) [] E0 (tCons (tVar 9) (tCons (tVar 4) (tCons (tVar 5) tNil)))))) (tNot (tB (tCall (spRest K) [] E0 (tCons (tOp (rOwn (He.ga K "Ratio") (spRMod K) E0) (tVar 7) (tVar 8)) (tCons (tVar 9) (tCons (tVar 4) (tCons (tVar 5) tNil)))))))) (tRet (tC (.bl false))) tNext)
  (tSeq (tIfS (tNot (tB (tCall (spIs K) [] E0 (tCons (tMeth (He.ga K "Ratio") "over" (spOver K) [] E0 (tVar 7) (tCons (tVar 8) tNil)) (tCons (tOp rMulI (tOp (rIxL K) (tVar 4) (tC (.int 0))) (tOp (rIxL K) (tVar 5) (tC (.int 1)))) (tCons (tOp rMulI (tOp (rIxL K) (tVar 4) (tC (.int 1))) (tOp (rIxL K) (tVar 5) (tC (.int 0)))) tNil)))))) (tRet (tC (.bl false))) tNext)
  (tSeq (tAsg (tOp (rRefl (He.ga K "Ratio") (spRRfloordiv K) E0) (tVar 6) (tVar 8)) (gName 9))
  (tIfS (tOr (tNot (tB (tCall (spFloor K) [] E0 (tCons (tVar 9) (tCons (tLst (tCons (tVar 6) (tCons (tC (.int 1)) tNil))) (tCons (tVar 5) tNil)))))) (tNot (tB (tCall (spRest K) [] E0 (tCons (tOp (rRefl (He.ga K "Ratio") (spRRmod K) E0) (tVar 6) (tVar 8)) (tCons (tVar 9) (tCons (tLst (tCons (tVar 6) (tCons (tC (.int 1)) tNil))) (tCons (tVar 5) tNil)))))))) (tRet (tC (.bl false))) tNext))))))
def t_lawB (K : PySem.W.Frag) : TS :=
  (tIfS (tTest (tOp rNe (tVar 6) (tC (.int 0)))) (tSeq (tAsg (tOp (rOwn (He.ga K "Ratio") (spRFloordiv K) E0) (tVar 7) (tVar 6)) (gName 9))
  (tSeq (tIfS (tOr (tNot (tB (tCall (spFloor K) [] E0 (tCons (tVar 9) (tCons (tVar 4) (tCons (tLst (tCons (tVar 6) (tCons (tC (.int 1)) tNil))) tNil)))))) (tNot (tB (tCall (spRest K) [] E0 (tCons (tOp (rOwn (He.ga K "Ratio") (spRMod K) E0) (tVar 7) (tVar 6)) (tCons (tVar 9) (tCons (tVar 4) (tCons (tLst (tCons (tVar 6) (tCons (tC (.int 1)) tNil))) tNil)))))))) (tRet (tC (.bl false))) tNext)
  (tIfS (tNot (tB (tCall (spIs K) [] E0 (tCons (tMeth (He.ga K "Ratio") "over" (spOver K) [] E0 (tVar 7) (tCons (tVar 6) tNil)) (tCons (tOp (rIxL K) (tVar 4) (tC (.int 0))) (tCons (tOp rMulI (tOp (rIxL K) (tVar 4) (tC (.int 1))) (tVar 6)) tNil)))))) (tRet (tC (.bl false))) tNext))) tNext)
def t_lawC (K : PySem.W.Frag) : TS :=
  (tSeq (tIfS (tOr (tNot (tB (tCall (spPowers K) [] E0 (tCons (tVar 7) (tCons (tVar 4) (tCons (tOp rSub0 (tCall (spTake K) [] E0 (tCons (tVar 1) (tCons (tC (.int 49)) tNil))) (tC (.int 24))) tNil)))))) (tNot (tB (tCall (spPowers K) [] E0 (tCons (tVar 8) (tCons (tVar 5) (tCons (tOp rSub0 (tCall (spTake K) [] E0 (tCons (tVar 1) (tCons (tC (.int 49)) tNil))) (tC (.int 24))) tNil))))))) (tRet (tC (.bl false))) tNext)
  (tSeq (tIfS (tTest (tOp rNe (tLam (lamT K ["_law_powers", "_law_zero", "law"]) (TWord (He.ga K "NoRatio")) (fun E => (tMeth (He.ga K "Ratio") "power" (spPowerOf K) [] E (tVar 7) (tCons (tC (.bl true)) tNil)))) (tC (.str "power")))) (tRet (tC (.bl false))) tNext)
  (tSeq (tIfS (tTest (tOp rNe (tLam (lamT K ["_law_powers", "_law_zero", "law"]) (TWord (He.ga K "NoRatio")) (fun E => (tMeth (He.ga K "Ratio") "power" (spPowerOf K) [] E (tVar 8) (tCons (tC (.str "2")) tNil)))) (tC (.str "power")))) (tRet (tC (.bl false))) tNext)
  (tIfS (tOr (tNot (tB (tCall (spPower K) [] E0 (tCons (tOp (rOwn (He.ga K "Ratio") (spPowerOf K) E0) (tVar 7) (tC (.int 3))) (tCons (tVar 4) (tCons (tC (.int 3)) tNil)))))) (tNot (tB (tCall (spPower K) [] E0 (tCons (tOp (rOwn (He.ga K "Ratio") (spPowerOf K) E0) (tVar 8) (tC (.int 2))) (tCons (tVar 5) (tCons (tC (.int 2)) tNil))))))) (tRet (tC (.bl false))) tNext))))
theorem int_is {n : Int} : (n : Rat) = Rat.divInt n 1 := int_div1 n
theorem fl_sz140 {x y : Rat} (h1 : Sz 70 x) (h2 : Sz 70 y) : (fl x y).natAbs < 2 ^ 140 := fl_sz (n := 70) (m := 70) h1 h2
theorem lawA_ok {D : L2.Ends} {v2 v3 v9 : Option V} (M : Mid K H f p1 p2 r1 r2 a b c d) (hb : 0 < b) (hd : 0 < d) (a7 : a.natAbs < 2 ^ 70) (b7 : b.natAbs < 2 ^ 70) (c7 : c.natAbs < 2 ^ 70) (d7 : d.natAbs < 2 ^ 70) (n7 : n.natAbs < 2 ^ 70)
    (k : ∀ H' v9, Mid K H' f p1 p2 r1 r2 a b c d → D.nx (ST z0 f p1 p2 r1 r2 n v2 v3 v9) H') : t_lawA K D (ST z0 f p1 p2 r1 r2 n v2 v3 v9) H := by
  have S1 : Sz 70 (Rat.divInt a b) := sz_div (by omega) a7 b7
  have S2 : Sz 70 (Rat.divInt c d) := sz_div (by omega) c7 d7
  have Sn : Sz 70 (n : Rat) := sz_int (by decide) n7
  unfold t_lawA ST
  walk_at "go"
  refine i_ixL M.l2 rfl ?_
  walk_at "go"
  by_cases hc : c = 0
  · rw [if_pos (decide_eq_true hc)]
    walk_at "go"
    have e0 : Rat.divInt c d = 0 := (dI_zero (by omega)).mpr hc
    refine ⟨r1, r2, _, rfl, M.R1, S1, by rw [← e0]; exact M.R2, M.Tb, fun H' e t => ?_⟩
    walk_at "go"
    exact k _ _ (M.ext e t)
  · rw [if_neg (fun h => hc (of_decide_eq_true h))]
    have nz : Rat.divInt c d ≠ 0 := fun z => hc ((dI_zero (by omega)).mp z)
    walk_at "go"
    refine i_ownR M.R1 M.R2 ⟨r1, _, _, _, 70, 70, rfl, M.R1, num_rat M.R2, S1, S2, by decide, fun z => absurd z nz, fun _ => ?_⟩
    walk_at "go"
    refine ⟨p1, p2, a, b, c, d, rfl, M.l1, M.l2, hb, hd, hc, a7, b7, c7, d7, ?_⟩
    walk_at "go"
    refine i_ownR M.R1 M.R2 ⟨r1, _, _, _, 70, 70, rfl, M.R1, num_rat M.R2, S1, S2, by decide, fun z => absurd z nz, fun _ r H1 s1 R => ?_⟩
    have M := M.same s1
    walk_at "go"
    refine ⟨r, p1, p2, a, b, c, d, _, rfl, R, M.l1, M.l2, hb, hd, a7, b7, c7, d7, fl_sz140 S1 S2, ?_⟩
    walk_at "go"
    refine i_meth (K := K) (i_var rfl (i_on (m_over _) M.R1 (i_cons (i_var rfl (i_nil ⟨r1, _, _, _, 70, 70, rfl, M.R1, num_rat M.R2, S1, S2, by decide, fun z => absurd z nz, fun _ r H2 s2 R => ?_⟩)))))
    have M := M.same s2
    rw [dI_over (by omega) (by omega) hc] at R
    walk_at "go"
    refine i_ixL M.l1 rfl ?_
    walk_at "go"
    refine i_ixL M.l2 rfl ?_
    refine i_mul (m70 a7 d7) ?_
    walk_at "go"
    refine i_ixL M.l1 rfl ?_
    walk_at "go"
    refine i_ixL M.l2 rfl ?_
    refine i_mul (m70 b7 c7) ?_
    walk_at "go"
    refine ⟨r, _, _, _, 140, rfl, R, Int.mul_ne_zero (by omega) hc, rfl, absmulI a7 d7, absmulI b7 c7, by decide, by decide, ?_⟩
    walk_at "go"
    refine i_reflN M.R2 ⟨r2, n, _, 70, 70, rfl, M.R2, S2, Sn, by decide, fun z => absurd z nz, fun _ => ?_⟩
    walk_at "go"
    refine ⟨by show 2 ≤ sizeLine; decide, fun p np => ?_⟩
    have s3 : Same H2 _ := same_new (o := .lst [.int n, .int 1]) np
    have M := M.same s3
    walk_at "go"
    refine ⟨p, p2, n, 1, c, d, by rw [← int_div1]; rfl, upd_same, M.l2, by decide, hd, hc, n7, by decide, c7, d7, ?_⟩
    walk_at "go"
    refine i_reflN M.R2 ⟨r2, n, _, 70, 70, rfl, M.R2, S2, Sn, by decide, fun z => absurd z nz, fun _ r H4 s4 R => ?_⟩
    have M := M.same s4
    walk_at "go"
    refine ⟨by show 2 ≤ sizeLine; decide, fun p np => ?_⟩
    have s5 : Same H4 _ := same_new (o := .lst [.int n, .int 1]) np
    have M := M.same s5
    walk_at "go"
    refine ⟨r, p, p2, n, 1, c, d, _, rfl, by rw [← int_div1]; exact R.same s5, upd_same, M.l2, by decide, hd, n7, by decide, c7, d7, fl_sz140 Sn S2, ?_⟩
    walk_at "go"
    exact k _ _ M
theorem lawB_ok {D : L2.Ends} {v2 v3 v9 : Option V} (M : Mid K H f p1 p2 r1 r2 a b c d) (hb : 0 < b) (a7 : a.natAbs < 2 ^ 70) (b7 : b.natAbs < 2 ^ 70) (n7 : n.natAbs < 2 ^ 70)
    (k : ∀ H' v9, Mid K H' f p1 p2 r1 r2 a b c d → D.nx (ST z0 f p1 p2 r1 r2 n v2 v3 v9) H') : t_lawB K D (ST z0 f p1 p2 r1 r2 n v2 v3 v9) H := by
  have S1 : Sz 70 (Rat.divInt a b) := sz_div (by omega) a7 b7
  have Sn : Sz 70 (n : Rat) := sz_int (by decide) n7
  unfold t_lawB ST
  walk_at "go"
  by_cases hn : n = 0
  · rw [decide_eq_true hn]
    walk_at "go"
    exact k _ _ M
  · rw [decide_eq_false hn]
    have nz : (n : Rat) ≠ 0 := fun z => hn (z_int z)
    refine iteT ?_
    walk_at "go"
    refine i_ownN M.R1 ⟨r1, _, _, _, 70, 70, rfl, M.R1, num_int, S1, Sn, by decide, fun z => absurd z nz, fun _ => ?_⟩
    walk_at "go"
    refine ⟨by show 2 ≤ sizeLine; decide, fun p np => ?_⟩
    have s3 : Same H _ := same_new (o := .lst [.int n, .int 1]) np
    have M := M.same s3
    walk_at "go"
    refine ⟨p1, p, a, b, n, 1, by rw [← int_div1]; rfl, M.l1, upd_same, hb, by decide, hn, a7, b7, n7, by decide, ?_⟩
    walk_at "go"
    refine i_ownN M.R1 ⟨r1, _, _, _, 70, 70, rfl, M.R1, num_int, S1, Sn, by decide, fun z => absurd z nz, fun _ r H4 s4 R => ?_⟩
    have M := M.same s4
    walk_at "go"
    refine ⟨by show 2 ≤ sizeLine; decide, fun p np => ?_⟩
    have s5 : Same H4 _ := same_new (o := .lst [.int n, .int 1]) np
    have M := M.same s5
    walk_at "go"
    refine ⟨r, p1, p, a, b, n, 1, _, rfl, by rw [← int_div1]; exact R.same s5, M.l1, upd_same, hb, by decide, a7, b7, n7, by decide, fl_sz140 S1 Sn, ?_⟩
    walk_at "go"
    refine i_meth (K := K) (i_var rfl (i_on (m_over _) M.R1 (i_cons (i_var rfl (i_nil ⟨r1, _, _, _, 70, 70, rfl, M.R1, num_int, S1, Sn, by decide, fun z => absurd z nz, fun _ r H6 s6 R => ?_⟩)))))
    have M := M.same s6
    rw [int_div1, dI_over (by omega) (by decide) hn, Int.mul_one] at R
    walk_at "go"
    refine i_ixL M.l1 rfl ?_
    walk_at "go"
    refine i_ixL M.l1 rfl ?_
    walk_at "go"
    refine i_mul (m70 b7 n7) ?_
    walk_at "go"
    refine ⟨r, _, _, _, 140, rfl, R, Int.mul_ne_zero (by omega) hn, rfl, Nat.lt_trans a7 (by decide), absmulI b7 n7, by decide, by decide, ?_⟩
    walk_at "go"
    exact k _ _ M
theorem lawC_ok {D : L2.Ends} {v2 v3 v9 : Option V} (M : Mid K H f p1 p2 r1 r2 a b c d) (hb : 0 < b) (hd : 0 < d) (a7 : a.natAbs < 2 ^ 70) (b7 : b.natAbs < 2 ^ 70) (c7 : c.natAbs < 2 ^ 70) (d7 : d.natAbs < 2 ^ 70)
    (k : ∀ H', Mid K H' f p1 p2 r1 r2 a b c d → D.nx (ST z0 f p1 p2 r1 r2 n v2 v3 v9) H') : t_lawC K D (ST z0 f p1 p2 r1 r2 n v2 v3 v9) H := by
  have S1 : Sz 70 (Rat.divInt a b) := sz_div (by omega) a7 b7
  have S2 : Sz 70 (Rat.divInt c d) := sz_div (by omega) c7 d7
  unfold t_lawC ST
  walk_at "go"
  refine ⟨f, 49, rfl, M.F, by decide, by decide, fun t H1 t0 t1 F1 k1 => ?_⟩
  have M := M.keep k1 F1
  walk_at "go"
  refine ⟨r1, p1, a, b, _, rfl, M.l1, hb, a7, b7, M.R1, M.Tb, fun H2 e2 T2 => ?_⟩
  have M := M.ext e2 T2
  walk_at "go"
  refine ⟨f, 49, rfl, M.F, by decide, by decide, fun t' H3 t0' t1' F3 k3 => ?_⟩
  have M := M.keep k3 F3
  walk_at "go"
  refine ⟨r2, p2, c, d, _, rfl, M.l2, hd, c7, d7, M.R2, M.Tb, fun H4 e4 T4 => ?_⟩
  have M := M.ext e4 T4
  walk_at "go"
  refine i_lam M.Tb fun H5 e5 T5 => i_meth (K := K) (i_var rfl (i_on (m_power _) (M.R1.extN e5) (i_cons (i_c (i_nil ?_)))))
  have M := M.ext e5 T5
  refine ⟨r1, _, _, 70, false, rfl, M.R1, S1, by decide, intQ_bl, fun _ => err_w fun H6 s6 => ?_, fun z => (by cases z)⟩
  have M := M.same s6
  walk_at "go"
  refine str_ne ?_
  walk_at "go"
  refine i_lam M.Tb fun H7 e7 T7 => i_meth (K := K) (i_var rfl (i_on (m_power _) (M.R2.extN e7) (i_cons (i_c (i_nil ?_)))))
  have M := M.ext e7 T7
  refine ⟨r2, _, _, 70, false, rfl, M.R2, S2, by decide, intQ_str, fun _ => err_w fun H8 s8 => ?_, fun z => (by cases z)⟩
  have M := M.same s8
  walk_at "go"
  refine str_ne ?_
  walk_at "go"
  refine i_ownN M.R1 ⟨r1, _, _, 70, true, rfl, M.R1, S1, by decide, intQ_int, fun z => (by cases z), fun _ => ⟨3, rfl, fun z => absurd ⟨by decide, by decide⟩ z, fun _ _ => ⟨fun z => absurd z (by decide), fun _ r H9 s9 R => ?_⟩⟩⟩
  have M := M.same s9
  walk_at "go"
  refine ⟨r, p1, a, b, 3, rfl, M.l1, hb, a7, b7, by decide, by decide, .inl (by decide), R, ?_⟩
  walk_at "go"
  refine i_ownN M.R2 ⟨r2, _, _, 70, true, rfl, M.R2, S2, by decide, intQ_int, fun z => (by cases z), fun _ => ⟨2, rfl, fun z => absurd ⟨by decide, by decide⟩ z, fun _ _ => ⟨fun z => absurd z (by decide), fun _ r H10 s10 R => ?_⟩⟩⟩
  have M := M.same s10
  walk_at "go"
  refine ⟨r, p2, c, d, 2, rfl, M.l2, hd, c7, d7, by decide, by decide, .inl (by decide), R, ?_⟩
  walk_at "go"
  exact k _ M
end
def spLaw (K : PySem.W.Frag) : Sp := fun vs H Q _ => ∃ (a : Addr) (ns : List Int), vs = [.ref a] ∧ SqL K H a (ns.map V.int) ∧ ns.length ≤ 63 ∧ Tabs (LT K) H ∧ ∀ H', Q (.bl true) H'
def t_law (K : PySem.W.Frag) : TS :=
  (tSeq (tAsg (tCall (spFeed K) [] E0 (tCons (tVar 0) tNil)) (gName 1))
  (tSeq (tFor (iRng1 (tCons (tOp rAdd0 (tC (.int 2)) (tCall (spTake K) [] E0 (tCons (tVar 1) (tCons (tC (.int 9)) tNil)))) tNil)) (gName 2) (tSeq (tAsg (tOp (rIxL K) (tLst (tCons (tC (.int 13)) (tCons (tOp rPow0 (tC (.int 10)) (tC (.int 6))) (tCons (tOp rPow0 (tC (.int 10)) (tC (.int 20))) tNil)))) (tCall (spTake K) [] E0 (tCons (tVar 1) (tCons (tC (.int 3)) tNil)))) (gName 3))
  (tSeq (tAsg (tCall (spPair K) [] E0 (tCons (tVar 1) (tCons (tVar 3) tNil))) (gName 4))
  (tSeq (tAsg (tCall (spPair K) [] E0 (tCons (tVar 1) (tCons (tVar 3) tNil))) (gName 5))
  (tSeq (tIfS (tTest (tOp rEq (tCall (spTake K) [] E0 (tCons (tVar 1) (tCons (tC (.int 4)) tNil))) (tC (.int 0)))) (tAsg (tLst (tCons (tC (.int 0)) (tCons (tC (.int 1)) tNil))) (gName 5)) tNext)
  (tSeq (tAsg (tCall (spNumber K) [] E0 (tCons (tVar 1) (tCons (tVar 3) tNil))) (gName 6))
  (tSeq (tAsg (tMake (He.ga K "Ratio") (spRInit K) [] E0 (tCons (tOp (rIxL K) (tVar 4) (tC (.int 0))) (tCons (tOp (rIxL K) (tVar 4) (tC (.int 1))) tNil))) (gName 7))
  (tSeq (tAsg (tMake (He.ga K "Ratio") (spRInit K) [] E0 (tCons (tOp (rIxL K) (tVar 5) (tC (.int 0))) (tCons (tOp (rIxL K) (tVar 5) (tC (.int 1))) tNil))) (gName 8))
  (tSeq (t_lawA K)
  (tSeq (t_lawB K)
  (t_lawC K)))))))))))
  (tRet (tC (.bl true)))))
theorem lt70 {z a : Int} (hz : z ≤ 10 ^ 20) (h1 : -z < a) (h2 : a < z) : a.natAbs < 2 ^ 70 := Nat.lt_of_le_of_lt (show a.natAbs ≤ 10 ^ 20 by omega) (by decide)
theorem lt70' {z a : Int} (hz : z ≤ 10 ^ 20) (h1 : 1 ≤ a) (h2 : a ≤ z) : a.natAbs < 2 ^ 70 := Nat.lt_of_le_of_lt (show a.natAbs ≤ 10 ^ 20 by omega) (by decide)
theorem pure_law {K : PySem.W.Frag} (vs : List V) (H : Hp) (Q : VK) (E : XK) (h : spLaw K vs H Q E) : t_law K { nx := fun _ H' => Q .non H', rt := Q } (start ["_law_script", "_law_feed_here", "_law_k", "_law_size", "_law_a", "_law_b", "_law_n", "_law_one", "_law_other", "_law_q"] vs) H := by
  obtain ⟨z0, ns, rfl, hS, hl, Tb0, k⟩ := h
  refine ⟨_, rfl, z0, ns, rfl, hS, hl, fun f H1 nf s1 F1 => ?_⟩
  have T1 := tabSame Tb0 s1
  refine ⟨_, rfl, f, 9, rfl, F1, by decide, by decide, fun e H2 e0 e1 F2 k2 => ?_⟩
  have T2 := tabKeep T1 F1 k2
  refine ⟨_, _, rfl, rfl, _, rfl, by omega, by omega, ?_⟩
  refine for_range (lo := 0) (n := (2 + e).toNat) (fun _ σ H' => ∃ v2 v3 v4 v5 v6 v7 v8 v9, σ = [some (.ref z0), some (.ref f), v2, v3, v4, v5, v6, v7, v8, v9] ∧ Feed K H' f ∧ Tabs (LT K) H') ⟨_, _, _, _, _, _, _, _, rfl, F2, T2⟩ ?_ ?_
  · rintro i σ H3 hi ⟨v2, v3, v4, v5, v6, v7, v8, v9, rfl, F3, T3⟩
    refine ⟨_, _, rfl, rfl, ⟨by decide, by decide, by decide⟩, _, _, rfl, rfl, ⟨by decide, by decide, by decide⟩, (by show 3 ≤ sizeLine; decide), fun p np => ?_⟩
    have s4 : Same H3 _ := same_new (o := .lst [.int 13, .int (10 ^ 6), .int (10 ^ 20)]) np
    refine ⟨_, rfl, f, 3, rfl, F3.same s4, by decide, by decide, fun d H5 d0 d1 F5 k5 => ?_⟩
    have T5 := tabKeep (tabSame T3 s4) (F3.same s4) k5
    have nf : p ≠ f := fun e => by
      obtain ⟨o, q⟩ := F3.some
      rw [← e, np] at q
      cases q
    have hp : H5 p = some (.lst [.int 13, .int (10 ^ 6), .int (10 ^ 20)]) := k5 p _ upd_same nf
    obtain ⟨z, z1, z2, hat⟩ : ∃ z : Int, 0 < z ∧ z ≤ 10 ^ 20 ∧ atI ([.int 13, .int (10 ^ 6), .int (10 ^ 20)] : List V) d = some (.int z) := by
      have e : d = 0 ∨ d = 1 ∨ d = 2 := by omega
      rcases e with rfl | rfl | rfl
      · exact ⟨13, by decide, by decide, rfl⟩
      · exact ⟨10 ^ 6, by decide, by decide, rfl⟩
      · exact ⟨10 ^ 20, by decide, by decide, rfl⟩
    refine ⟨p, _, d, _, rfl, rfl, SqL.of hp, hat, ?_⟩
    have z9 : z.natAbs < 2 ^ 9000 := Nat.lt_of_le_of_lt (show z.natAbs ≤ 10 ^ 20 by omega) (by decide)
    refine ⟨_, rfl, _, rfl, f, z, rfl, F5, z1, z9, fun p1 a b H6 a1 a2 b1 b2 n1 n1f l1 F6 k6 => ?_⟩
    refine ⟨_, rfl, _, rfl, f, z, rfl, F6, z1, z9, fun p2 c d H7 c1 c2 d1 d2 n2 n2f l2 F7 k7 => ?_⟩
    have l1 := k7 _ _ l1 n1f
    have T7 := tabKeep (tabKeep T5 F5 k6) F6 k7
    have a70 := lt70 z2 a1 a2
    have b70 := lt70' z2 b1 b2
    have c70 := lt70 z2 c1 c2
    have d70 := lt70' z2 d1 d2
    -- behind the divisor
    have rest : ∀ (p2 : Addr) (c d : Int) (H8 : Hp), H8 p1 = some (.lst [.int a, .int b]) → H8 p2 = some (.lst [.int c, .int d]) → p2 ≠ f → 0 < d → c.natAbs < 2 ^ 70 → d.natAbs < 2 ^ 70 → Feed K H8 f → Tabs (LT K) H8 → ∀ D : L2.Ends, (∀ H' v6 v7 v8 v9, Feed K H' f → Tabs (LT K) H' → D.nx [some (.ref z0), some (.ref f), some (.int (0 + i)), some (.int z), some (.ref p1), some (.ref p2), v6, v7, v8, v9] H') →
        (tSeq (tAsg (tCall (spNumber K) [] E0 (tCons (tVar 1) (tCons (tVar 3) tNil))) (gName 6))
        (tSeq (tAsg (tMake (He.ga K "Ratio") (spRInit K) [] E0 (tCons (tOp (rIxL K) (tVar 4) (tC (.int 0))) (tCons (tOp (rIxL K) (tVar 4) (tC (.int 1))) tNil))) (gName 7))
        (tSeq (tAsg (tMake (He.ga K "Ratio") (spRInit K) [] E0 (tCons (tOp (rIxL K) (tVar 5) (tC (.int 0))) (tCons (tOp (rIxL K) (tVar 5) (tC (.int 1))) tNil))) (gName 8))
        (tSeq (t_lawA K) (tSeq (t_lawB K) (t_lawC K)))))) D [some (.ref z0), some (.ref f), some (.int (0 + i)), some (.int z), some (.ref p1), some (.ref p2), v6, v7, v8, v9] H8 := by
      intro p2 c d H8 l1 l2 n2f d0 c70 d70 F8 T8 D kk
      with_reducible refine i_seq ?_
      with_reducible refine i_asg ?_
      walk_at "go"
      refine ⟨f, z, rfl, F8, z1, z9, fun n H9 n1 n2 F9 k9 => ?_⟩
      have n70 := lt70 z2 n1 n2
      have l1 := k9 _ _ l1 n1f
      have l2 := k9 _ _ l2 n2f
      have T9 := tabKeep T8 F8 k9
      walk_at "go"
      refine i_ixL l1 rfl ?_
      walk_at "go"
      refine i_ixL l1 rfl ?_
      walk_at "go"
      intro r1 dr1 nr1 ndr1 _
      refine mk_rat (a := a) (b := b) nr1 ndr1 (by omega) (Nat.lt_trans b70 (by decide)) fun H10 s10 R1 => ?_
      have l1 := s10 _ _ l1
      have l2 := s10 _ _ l2
      walk_at "go"
      refine i_ixL l2 rfl ?_
      walk_at "go"
      refine i_ixL l2 rfl ?_
      walk_at "go"
      intro r2 dr2 nr2 ndr2 _
      refine mk_rat (a := c) (b := d) nr2 ndr2 (by omega) (Nat.lt_trans d70 (by decide)) fun H11 s11 R2 => ?_
      have ss := s10.trans s11
      walk_at "go"
      refine lawA_ok (n := n) ⟨s11 _ _ l1, s11 _ _ l2, R1.same s11, R2, F9.same ss, tabSame T9 ss, n1f, n2f⟩ (by omega) d0 a70 b70 c70 d70 n70 fun H12 v9 M => ?_
      with_reducible refine i_seq ?_
      refine lawB_ok (n := n) M (by omega) a70 b70 n70 fun H13 v9 M => ?_
      refine lawC_ok (n := n) M (by omega) d0 a70 b70 c70 d70 fun H14 M => ?_
      exact kk _ _ _ _ _ M.F M.Tb
    repeat walk_at "m1"
    refine ⟨f, 4, rfl, F7, by decide, by decide, fun t H8 t0 t1 F8 k8 => ?_⟩
    have l1 := k8 _ _ l1 n1f
    have l2 := k8 _ _ l2 n2f
    have T8 := tabKeep T7 F7 k8
    with_reducible refine i_c ?_
    with_reducible refine i_eq ?_
    with_reducible refine i_bl ?_
    by_cases ht : t = 0
    · rw [if_pos (decide_eq_true ht)]
      with_reducible refine i_asg ?_
      with_reducible refine i_lst ?_
      with_reducible refine i_cons ?_
      with_reducible refine i_c ?_
      with_reducible refine i_cons ?_
      with_reducible refine i_c ?_
      with_reducible refine i_nil ?_
      refine ⟨by show 2 ≤ sizeLine; decide, fun q nq => ?_⟩
      with_reducible refine i_name ?_
      have s9 : Same H8 _ := same_new (o := .lst [.int 0, .int 1]) nq
      have nqf : q ≠ f := fun e => by
        obtain ⟨o, q⟩ := F8.some
        rw [← e, nq] at q
        cases q
      exact rest q 0 1 _ (s9 _ _ l1) upd_same nqf (by decide) (by decide) (by decide) (F8.same s9) (tabSame T8 s9) _ fun H' v6 v7 v8 v9 F' T' => ⟨_, _, _, _, _, _, _, _, rfl, F', T'⟩
    · rw [if_neg (fun h => ht (of_decide_eq_true h))]
      exact rest p2 c d _ l1 l2 n2f (by omega) c70 d70 F8 T8 _ fun H' v6 v7 v8 v9 F' T' => ⟨_, _, _, _, _, _, _, _, rfl, F', T'⟩
  · rintro σ H6 ⟨v2, v3, v4, v5, v6, v7, v8, v9, rfl, F, T⟩
    exact k H6
end MR

set_option Elab.async false
set_option linter.all false
set_option maxRecDepth 100000
set_option maxHeartbeats 4000000
set_option exponentiation.threshold 20000
namespace MR
open PySem PySem.Spec PyProof.Rows L2
def top (i : Nat) : Stmt := PySem.Challenge.pw_momentrows_k03_ratio_quotients_and_power.main.body.getD i (.Pass ⟨0, 0, 0, 0⟩)
abbrev s_is_integer : Stmt := top 5
abbrev s_common_part : Stmt := top 6
abbrev s_Ratio_init : Stmt := inClass (top 7) 0
abbrev s_floor_of : Stmt := top 9
abbrev s_whole_power : Stmt := top 11
abbrev s_power_of : Stmt := top 10
abbrev s_Ratio_floordiv : Stmt := inClass (top 7) 13
abbrev s_Ratio_mod : Stmt := inClass (top 7) 15
abbrev s_Ratio_rfloordiv : Stmt := inClass (top 7) 14
abbrev s_Ratio_rmod : Stmt := inClass (top 7) 16
abbrev s_Ratio_pow : Stmt := inClass (top 7) 17
abbrev s_Ratio_power : Stmt := inClass (top 7) 18
abbrev s_Ratio_over : Stmt := inClass (top 7) 21
abbrev s__law_is_integer : Stmt := top 13
abbrev s__law_feed : Stmt := top 14
abbrev s__law_take : Stmt := top 15
abbrev s__law_number : Stmt := top 16
abbrev s__law_pair : Stmt := top 17
abbrev s__law_is : Stmt := top 18
abbrev s__law_word : Stmt := top 19
abbrev s__law_floor : Stmt := top 20
abbrev s__law_rest : Stmt := top 21
abbrev s__law_power : Stmt := top 22
abbrev s__law_powers : Stmt := top 23
abbrev s__law_zero : Stmt := top 24
abbrev s_law : Stmt := top 25
theorem sc_is_integer : FnScope ["value"] ["value"] (defScope s_is_integer) := ⟨rfl, rfl, rfl, by decide +kernel, rfl, by decide +kernel, by decide +kernel⟩
theorem sc_common_part : FnScope ["one", "other"] ["one", "other"] (defScope s_common_part) := ⟨rfl, rfl, rfl, by decide +kernel, rfl, by decide +kernel, by decide +kernel⟩
theorem sc_Ratio_init : FnScope ["self", "top", "bottom", "divisor"] ["self", "top", "bottom"] (defScope s_Ratio_init) := ⟨rfl, rfl, rfl, by decide +kernel, rfl, by decide +kernel, by decide +kernel⟩
theorem sc_floor_of : FnScope ["top", "bottom"] ["top", "bottom"] (defScope s_floor_of) := ⟨rfl, rfl, rfl, by decide +kernel, rfl, by decide +kernel, by decide +kernel⟩
theorem sc_whole_power : FnScope ["base", "k", "product", "_"] ["base", "k"] (defScope s_whole_power) := ⟨rfl, rfl, rfl, by decide +kernel, rfl, by decide +kernel, by decide +kernel⟩
theorem sc_power_of : FnScope ["ratio", "k"] ["ratio", "k"] (defScope s_power_of) := ⟨rfl, rfl, rfl, by decide +kernel, rfl, by decide +kernel, by decide +kernel⟩
theorem sc_Ratio_floordiv : FnScope ["self", "other"] ["self", "other"] (defScope s_Ratio_floordiv) := ⟨rfl, rfl, rfl, by decide +kernel, rfl, by decide +kernel, by decide +kernel⟩
theorem sc_Ratio_mod : FnScope ["self", "other", "many"] ["self", "other"] (defScope s_Ratio_mod) := ⟨rfl, rfl, rfl, by decide +kernel, rfl, by decide +kernel, by decide +kernel⟩
theorem sc_Ratio_rfloordiv : FnScope ["self", "other"] ["self", "other"] (defScope s_Ratio_rfloordiv) := ⟨rfl, rfl, rfl, by decide +kernel, rfl, by decide +kernel, by decide +kernel⟩
theorem sc_Ratio_rmod : FnScope ["self", "other", "many"] ["self", "other"] (defScope s_Ratio_rmod) := ⟨rfl, rfl, rfl, by decide +kernel, rfl, by decide +kernel, by decide +kernel⟩
theorem sc_Ratio_pow : FnScope ["self", "k"] ["self", "k"] (defScope s_Ratio_pow) := ⟨rfl, rfl, rfl, by decide +kernel, rfl, by decide +kernel, by decide +kernel⟩
theorem sc_Ratio_power : FnScope ["self", "k"] ["self", "k"] (defScope s_Ratio_power) := ⟨rfl, rfl, rfl, by decide +kernel, rfl, by decide +kernel, by decide +kernel⟩
theorem sc_Ratio_over : FnScope ["self", "other", "divisor"] ["self", "other"] (defScope s_Ratio_over) := ⟨rfl, rfl, rfl, by decide +kernel, rfl, by decide +kernel, by decide +kernel⟩
theorem sc__law_is_integer : FnScope ["_law_value"] ["_law_value"] (defScope s__law_is_integer) := ⟨rfl, rfl, rfl, by decide +kernel, rfl, by decide +kernel, by decide +kernel⟩
theorem sc__law_feed : FnScope ["_law_script", "_law_cell"] ["_law_script"] (defScope s__law_feed) := ⟨rfl, rfl, rfl, by decide +kernel, rfl, by decide +kernel, by decide +kernel⟩
theorem sc__law_take : FnScope ["_law_feed_here", "_law_size", "_law_number_here", "_law_cell", "_law_digit"] ["_law_feed_here", "_law_size"] (defScope s__law_take) := ⟨rfl, rfl, rfl, by decide +kernel, rfl, by decide +kernel, by decide +kernel⟩
theorem sc__law_number : FnScope ["_law_feed_here", "_law_size", "_law_sign"] ["_law_feed_here", "_law_size"] (defScope s__law_number) := ⟨rfl, rfl, rfl, by decide +kernel, rfl, by decide +kernel, by decide +kernel⟩
theorem sc__law_pair : FnScope ["_law_feed_here", "_law_size"] ["_law_feed_here", "_law_size"] (defScope s__law_pair) := ⟨rfl, rfl, rfl, by decide +kernel, rfl, by decide +kernel, by decide +kernel⟩
theorem sc__law_is : FnScope ["_law_value", "_law_top", "_law_bottom"] ["_law_value", "_law_top", "_law_bottom"] (defScope s__law_is) := ⟨rfl, rfl, rfl, by decide +kernel, rfl, by decide +kernel, by decide +kernel⟩
theorem sc__law_word : FnScope ["_law_deed", "_law_word_here", "e"] ["_law_deed"] (defScope s__law_word) := ⟨rfl, rfl, rfl, by decide +kernel, rfl, by decide +kernel, by decide +kernel⟩
theorem sc__law_floor : FnScope ["_law_q", "_law_a", "_law_b", "_law_top", "_law_bottom"] ["_law_q", "_law_a", "_law_b"] (defScope s__law_floor) := ⟨rfl, rfl, rfl, by decide +kernel, rfl, by decide +kernel, by decide +kernel⟩
theorem sc__law_rest : FnScope ["_law_rest_here", "_law_q", "_law_a", "_law_b"] ["_law_rest_here", "_law_q", "_law_a", "_law_b"] (defScope s__law_rest) := ⟨rfl, rfl, rfl, by decide +kernel, rfl, by decide +kernel, by decide +kernel⟩
theorem sc__law_power : FnScope ["_law_value", "_law_a", "_law_k", "_law_top", "_law_bottom", "_law_j"] ["_law_value", "_law_a", "_law_k"] (defScope s__law_power) := ⟨rfl, rfl, rfl, by decide +kernel, rfl, by decide +kernel, by decide +kernel⟩
theorem sc__law_powers : FnScope ["_law_one", "_law_a", "_law_k"] ["_law_one", "_law_a", "_law_k"] (defScope s__law_powers) := ⟨rfl, rfl, rfl, by decide +kernel, rfl, by decide +kernel, by decide +kernel⟩
theorem sc__law_zero : FnScope ["_law_one", "_law_other", "_law_words"] ["_law_one", "_law_other"] (defScope s__law_zero) := ⟨rfl, rfl, rfl, by decide +kernel, rfl, by decide +kernel, by decide +kernel⟩
theorem sc_law : FnScope ["_law_script", "_law_feed_here", "_law_k", "_law_size", "_law_a", "_law_b", "_law_n", "_law_one", "_law_other", "_law_q"] ["_law_script"] (defScope s_law) := ⟨rfl, rfl, rfl, by decide +kernel, rfl, by decide +kernel, by decide +kernel⟩
def dd_is_integer : He.DefD := ⟨("is_integer", none), "is_integer", "is_integer", defArgs s_is_integer, defBody s_is_integer, defScope s_is_integer, [], []⟩
def dd_common_part : He.DefD := ⟨("common_part", none), "common_part", "common_part", defArgs s_common_part, defBody s_common_part, defScope s_common_part, [], []⟩
def dd_Ratio_init : He.DefD := ⟨("Ratio", some "__init__"), "__init__", "Ratio.__init__", defArgs s_Ratio_init, defBody s_Ratio_init, defScope s_Ratio_init, [.int 1], []⟩
def dd_floor_of : He.DefD := ⟨("floor_of", none), "floor_of", "floor_of", defArgs s_floor_of, defBody s_floor_of, defScope s_floor_of, [], []⟩
def dd_whole_power : He.DefD := ⟨("whole_power", none), "whole_power", "whole_power", defArgs s_whole_power, defBody s_whole_power, defScope s_whole_power, [], []⟩
def dd_power_of : He.DefD := ⟨("power_of", none), "power_of", "power_of", defArgs s_power_of, defBody s_power_of, defScope s_power_of, [], []⟩
def dd_Ratio_floordiv : He.DefD := ⟨("Ratio", some "__floordiv__"), "__floordiv__", "Ratio.__floordiv__", defArgs s_Ratio_floordiv, defBody s_Ratio_floordiv, defScope s_Ratio_floordiv, [], []⟩
def dd_Ratio_mod : He.DefD := ⟨("Ratio", some "__mod__"), "__mod__", "Ratio.__mod__", defArgs s_Ratio_mod, defBody s_Ratio_mod, defScope s_Ratio_mod, [], []⟩
def dd_Ratio_rfloordiv : He.DefD := ⟨("Ratio", some "__rfloordiv__"), "__rfloordiv__", "Ratio.__rfloordiv__", defArgs s_Ratio_rfloordiv, defBody s_Ratio_rfloordiv, defScope s_Ratio_rfloordiv, [], []⟩
def dd_Ratio_rmod : He.DefD := ⟨("Ratio", some "__rmod__"), "__rmod__", "Ratio.__rmod__", defArgs s_Ratio_rmod, defBody s_Ratio_rmod, defScope s_Ratio_rmod, [], []⟩
def dd_Ratio_pow : He.DefD := ⟨("Ratio", some "__pow__"), "__pow__", "Ratio.__pow__", defArgs s_Ratio_pow, defBody s_Ratio_pow, defScope s_Ratio_pow, [], []⟩
def dd_Ratio_power : He.DefD := ⟨("Ratio", some "power"), "power", "Ratio.power", defArgs s_Ratio_power, defBody s_Ratio_power, defScope s_Ratio_power, [], []⟩
def dd_Ratio_over : He.DefD := ⟨("Ratio", some "over"), "over", "Ratio.over", defArgs s_Ratio_over, defBody s_Ratio_over, defScope s_Ratio_over, [], []⟩
def dd__law_is_integer : He.DefD := ⟨("_law_is_integer", none), "_law_is_integer", "_law_is_integer", defArgs s__law_is_integer, defBody s__law_is_integer, defScope s__law_is_integer, [], []⟩
def dd__law_feed : He.DefD := ⟨("_law_feed", none), "_law_feed", "_law_feed", defArgs s__law_feed, defBody s__law_feed, defScope s__law_feed, [], []⟩
def dd__law_take : He.DefD := ⟨("_law_take", none), "_law_take", "_law_take", defArgs s__law_take, defBody s__law_take, defScope s__law_take, [], []⟩
def dd__law_number : He.DefD := ⟨("_law_number", none), "_law_number", "_law_number", defArgs s__law_number, defBody s__law_number, defScope s__law_number, [], []⟩
def dd__law_pair : He.DefD := ⟨("_law_pair", none), "_law_pair", "_law_pair", defArgs s__law_pair, defBody s__law_pair, defScope s__law_pair, [], []⟩
def dd__law_is : He.DefD := ⟨("_law_is", none), "_law_is", "_law_is", defArgs s__law_is, defBody s__law_is, defScope s__law_is, [], []⟩
def dd__law_word : He.DefD := ⟨("_law_word", none), "_law_word", "_law_word", defArgs s__law_word, defBody s__law_word, defScope s__law_word, [], []⟩
def dd__law_floor : He.DefD := ⟨("_law_floor", none), "_law_floor", "_law_floor", defArgs s__law_floor, defBody s__law_floor, defScope s__law_floor, [], []⟩
def dd__law_rest : He.DefD := ⟨("_law_rest", none), "_law_rest", "_law_rest", defArgs s__law_rest, defBody s__law_rest, defScope s__law_rest, [], []⟩
def dd__law_power : He.DefD := ⟨("_law_power", none), "_law_power", "_law_power", defArgs s__law_power, defBody s__law_power, defScope s__law_power, [], []⟩
def dd__law_powers : He.DefD := ⟨("_law_powers", none), "_law_powers", "_law_powers", defArgs s__law_powers, defBody s__law_powers, defScope s__law_powers, [], []⟩
def dd__law_zero : He.DefD := ⟨("_law_zero", none), "_law_zero", "_law_zero", defArgs s__law_zero, defBody s__law_zero, defScope s__law_zero, [], []⟩
def dd_law : He.DefD := ⟨("law", none), "law", "law", defArgs s_law, defBody s_law, defScope s_law, [], []⟩
def fnL : List He.DefD := [dd_is_integer, dd_common_part, dd_Ratio_init, dd_floor_of, dd_whole_power, dd_power_of, dd_Ratio_floordiv, dd_Ratio_mod, dd_Ratio_rfloordiv, dd_Ratio_rmod, dd_Ratio_pow, dd_Ratio_power, dd_Ratio_over, dd__law_is_integer, dd__law_feed, dd__law_take, dd__law_number, dd__law_pair, dd__law_is, dd__law_word, dd__law_floor, dd__law_rest, dd__law_power, dd__law_powers, dd__law_zero, dd_law]
def lamTs : List Str := ["_law_powers", "_law_zero", "law"]
def bsL : List Fct := [(fun K => (He.Fa.free "isinstance").ok K),
  (fun K => (He.Fa.free "int").ok K),
  (fun K => (He.Fa.free "bool").ok K),
  (fun K => (He.Fa.free "abs").ok K),
  (fun K => (He.Fa.free "range").ok K),
  (fun K => (He.Fa.free "len").ok K),
  (fun K => (He.Fa.free "max").ok K),
  (fun K => (He.Fa.glo "is_integer").ok K),
  (fun K => (He.Fa.glo "common_part").ok K),
  (fun K => (He.Fa.glo "NoRatio").ok K),
  (fun K => (He.Fa.glo "Ratio").ok K),
  (fun K => (He.Fa.glo "floor_of").ok K),
  (fun K => (He.Fa.glo "whole_power").ok K),
  (fun K => (He.Fa.glo "power_of").ok K),
  (fun K => (He.Fa.glo "_law_is_integer").ok K),
  (fun K => (He.Fa.glo "_law_feed").ok K),
  (fun K => (He.Fa.glo "_law_take").ok K),
  (fun K => (He.Fa.glo "_law_number").ok K),
  (fun K => (He.Fa.glo "_law_pair").ok K),
  (fun K => (He.Fa.glo "_law_is").ok K),
  (fun K => (He.Fa.glo "_law_word").ok K),
  (fun K => (He.Fa.glo "_law_floor").ok K),
  (fun K => (He.Fa.glo "_law_rest").ok K),
  (fun K => (He.Fa.glo "_law_power").ok K),
  (fun K => (He.Fa.glo "_law_powers").ok K),
  (fun K => (He.Fa.glo "_law_zero").ok K),
  (fun K => (He.Fa.glo "law").ok K),
  (supF PySem.Challenge.pw_momentrows_k03_ratio_quotients_and_power "NoRatio" "word"),
  (xfF "NoRatio"),
  (fun K => (He.Fa.mkr "Ratio").ok K),
  (fun K => (He.Fa.meth "Ratio" "__floordiv__").ok K),
  (fun K => (He.Fa.meth "Ratio" "__mod__").ok K),
  (fun K => (He.Fa.meth "Ratio" "__rfloordiv__").ok K),
  (fun K => (He.Fa.meth "Ratio" "__rmod__").ok K),
  (fun K => (He.Fa.meth "Ratio" "__pow__").ok K),
  (fun K => (He.Fa.meth "Ratio" "power").ok K),
  (fun K => (He.Fa.meth "Ratio" "over").ok K),
  (nodF lamTs),
  (codeF "_law_powers"),
  (codeF "_law_zero"),
  (codeF "law"),
  (fun K => (He.Fa.exm "NoRatio" "NoRatio" true).ok K),
  (ownF "Ratio"),
  (fun K => (He.Fa.noat "Ratio" "top").ok K),
  (fun K => (He.Fa.noat "Ratio" "bottom").ok K),
  (kitF (typ "int") (own "Ratio") false),
  (opF "Ratio" "floordiv"),
  (opF "Ratio" "mod"),
  (opF "Ratio" "pow")]
structure Bd (K : PySem.W.Frag) (mg : Str → Option Value) : Prop where
  st : ∃ h : Heap, K.In h ∧ h.Ns mainGlobals mg
  says : SaysM bsL fnL K
section
variable {K : PySem.W.Frag} {mg : Str → Option Value}
theorem fr_isinstance (B : Bd K mg) : mg "isinstance" = none := let ⟨_, X, G⟩ := B.st; He.free_ok X G (B.says.fact 0 rfl)
theorem fr_int (B : Bd K mg) : mg "int" = none := let ⟨_, X, G⟩ := B.st; He.free_ok X G (B.says.fact 1 rfl)
theorem fr_bool (B : Bd K mg) : mg "bool" = none := let ⟨_, X, G⟩ := B.st; He.free_ok X G (B.says.fact 2 rfl)
theorem fr_abs (B : Bd K mg) : mg "abs" = none := let ⟨_, X, G⟩ := B.st; He.free_ok X G (B.says.fact 3 rfl)
theorem fr_range (B : Bd K mg) : mg "range" = none := let ⟨_, X, G⟩ := B.st; He.free_ok X G (B.says.fact 4 rfl)
theorem fr_len (B : Bd K mg) : mg "len" = none := let ⟨_, X, G⟩ := B.st; He.free_ok X G (B.says.fact 5 rfl)
theorem fr_max (B : Bd K mg) : mg "max" = none := let ⟨_, X, G⟩ := B.st; He.free_ok X G (B.says.fact 6 rfl)
theorem gl_is_integer (B : Bd K mg) : mg "is_integer" = some (.ref (He.ga K "is_integer")) := let ⟨_, X, G⟩ := B.st; He.glo_ok X G (B.says.fact 7 rfl)
theorem gl_common_part (B : Bd K mg) : mg "common_part" = some (.ref (He.ga K "common_part")) := let ⟨_, X, G⟩ := B.st; He.glo_ok X G (B.says.fact 8 rfl)
theorem gl_NoRatio (B : Bd K mg) : mg "NoRatio" = some (.ref (He.ga K "NoRatio")) := let ⟨_, X, G⟩ := B.st; He.glo_ok X G (B.says.fact 9 rfl)
theorem gl_Ratio (B : Bd K mg) : mg "Ratio" = some (.ref (He.ga K "Ratio")) := let ⟨_, X, G⟩ := B.st; He.glo_ok X G (B.says.fact 10 rfl)
theorem gl_floor_of (B : Bd K mg) : mg "floor_of" = some (.ref (He.ga K "floor_of")) := let ⟨_, X, G⟩ := B.st; He.glo_ok X G (B.says.fact 11 rfl)
theorem gl_whole_power (B : Bd K mg) : mg "whole_power" = some (.ref (He.ga K "whole_power")) := let ⟨_, X, G⟩ := B.st; He.glo_ok X G (B.says.fact 12 rfl)
theorem gl_power_of (B : Bd K mg) : mg "power_of" = some (.ref (He.ga K "power_of")) := let ⟨_, X, G⟩ := B.st; He.glo_ok X G (B.says.fact 13 rfl)
theorem gl__law_is_integer (B : Bd K mg) : mg "_law_is_integer" = some (.ref (He.ga K "_law_is_integer")) := let ⟨_, X, G⟩ := B.st; He.glo_ok X G (B.says.fact 14 rfl)
theorem gl__law_feed (B : Bd K mg) : mg "_law_feed" = some (.ref (He.ga K "_law_feed")) := let ⟨_, X, G⟩ := B.st; He.glo_ok X G (B.says.fact 15 rfl)
theorem gl__law_take (B : Bd K mg) : mg "_law_take" = some (.ref (He.ga K "_law_take")) := let ⟨_, X, G⟩ := B.st; He.glo_ok X G (B.says.fact 16 rfl)
theorem gl__law_number (B : Bd K mg) : mg "_law_number" = some (.ref (He.ga K "_law_number")) := let ⟨_, X, G⟩ := B.st; He.glo_ok X G (B.says.fact 17 rfl)
theorem gl__law_pair (B : Bd K mg) : mg "_law_pair" = some (.ref (He.ga K "_law_pair")) := let ⟨_, X, G⟩ := B.st; He.glo_ok X G (B.says.fact 18 rfl)
theorem gl__law_is (B : Bd K mg) : mg "_law_is" = some (.ref (He.ga K "_law_is")) := let ⟨_, X, G⟩ := B.st; He.glo_ok X G (B.says.fact 19 rfl)
theorem gl__law_word (B : Bd K mg) : mg "_law_word" = some (.ref (He.ga K "_law_word")) := let ⟨_, X, G⟩ := B.st; He.glo_ok X G (B.says.fact 20 rfl)
theorem gl__law_floor (B : Bd K mg) : mg "_law_floor" = some (.ref (He.ga K "_law_floor")) := let ⟨_, X, G⟩ := B.st; He.glo_ok X G (B.says.fact 21 rfl)
theorem gl__law_rest (B : Bd K mg) : mg "_law_rest" = some (.ref (He.ga K "_law_rest")) := let ⟨_, X, G⟩ := B.st; He.glo_ok X G (B.says.fact 22 rfl)
theorem gl__law_power (B : Bd K mg) : mg "_law_power" = some (.ref (He.ga K "_law_power")) := let ⟨_, X, G⟩ := B.st; He.glo_ok X G (B.says.fact 23 rfl)
theorem gl__law_powers (B : Bd K mg) : mg "_law_powers" = some (.ref (He.ga K "_law_powers")) := let ⟨_, X, G⟩ := B.st; He.glo_ok X G (B.says.fact 24 rfl)
theorem gl__law_zero (B : Bd K mg) : mg "_law_zero" = some (.ref (He.ga K "_law_zero")) := let ⟨_, X, G⟩ := B.st; He.glo_ok X G (B.says.fact 25 rfl)
theorem gl_law (B : Bd K mg) : mg "law" = some (.ref (He.ga K "law")) := let ⟨_, X, G⟩ := B.st; He.glo_ok X G (B.says.fact 26 rfl)
theorem sup_NoRatio (B : Bd K mg) : SupC PySem.Challenge.pw_momentrows_k03_ratio_quotients_and_power K (He.ga K "NoRatio") (He.ma K (He.ga K "NoRatio") "__init__") "word" := supF_ok (B.says.fact 27 rfl)
theorem xf_NoRatio (B : Bd K mg) : XfC K (He.ga K "NoRatio") := xfB_ok (B.says.fact 28 rfl)
theorem own_Ratio (B : Bd K mg) : OwnC K (He.ga K "Ratio") := ownF_ok (B.says.fact 42 rfl)
theorem RT (B : Bd K mg) : RTxt K := ⟨own_Ratio B, He.noat_ok (B.says.fact 43 rfl), He.noat_ok (B.says.fact 44 rfl)⟩
theorem RT2 (B : Bd K mg) : RTxt2 K := ⟨RT B, optB_ok (B.says.fact 45 rfl)⟩
theorem oc_Ratio_floordiv (B : Bd K mg) : OpC K (He.ga K "Ratio") "floordiv" := opF_ok (B.says.fact 46 rfl)
theorem oc_Ratio_mod (B : Bd K mg) : OpC K (He.ga K "Ratio") "mod" := opF_ok (B.says.fact 47 rfl)
theorem oc_Ratio_pow (B : Bd K mg) : OpC K (He.ga K "Ratio") "pow" := opF_ok (B.says.fact 48 rfl)
end
section
variable {w : World} {K : PySem.W.Frag} {mg : Str → Option Value} {base : Heap}
theorem pw__law_word (B : Bd K mg) (TB : ∀ p ∈ lamC K lamTs, LamX.TabB base mg p.1 p.2) {x0 : Str} (hx : x0 ∈ lamTs) {X : Cx} {k : Nat} {params : Arguments} {body : Expr} {scope : Scope} {t : XK → TE} {p lpos pos : Pos} (hK : X.K = K) (hm : X.mg = mg) (hbs : X.base = base) (hcode : X.env.code = .ref (tabP K x0).1) (hq : X.env.qual = x0 ++ ".<locals>.") (hr : Room (k + 2) X.A) (Ls : LamX.LamS X.env.scope scope)
    (hbody : ∀ (A : Around) (outer : List Env) (s : Shared) (H : Hp) (E : XK) (f c' : Addr), Room k (A.deeper (LamX.lamEnv X scope s.heap.objs.size f c')) → PE (LamX.lamCx X A outer s H E scope f c') body (t E)) (hg : Gl X "_law_word") (hdef : defaultsOf params X.env = ([], []) := by rfl)
    (hbind : ∀ (q : Str) (cl : List (Str × Addr)) (pm cv ctv : Value), bindArgs (PySem.W.kla_fn "<lambda>" q params body scope cl pm cv ctv) ⟨[], []⟩ = pure [] := by intros; rfl) :
    PE X (.Call (.Name "_law_word" p) [.Lambda params body scope lpos] [] pos) (LamX.tLam (lamT K lamTs) (TWord (He.ga K "NoRatio")) t) := by
  subst hK hm hbs
  obtain ⟨fd, F0⟩ := B.says.def_ 19 (d := dd__law_word) rfl
  have F : FunD X.K "_law_word" "_law_word" (defArgs s__law_word) (defBody s__law_word) (defScope s__law_word) [] [] (He.ga X.K "_law_word") fd := F0
  refine pe_lamS (a := "_law_deed") F (gl__law_word B) (F.bindsN fun _ _ _ _ _ _ us hl => match us, hl with | [_], _ => rfl) sc__law_word rfl (.inl rfl) (word_gives sc__law_word rfl rfl rfl (gl_NoRatio B) (by decide) (He.exm_ok (B.says.fact 41 rfl)) (xf_NoRatio B) (sup_NoRatio B).no) (TB _ (lamC_mem hx)) hcode ?_ ?_ hr Ls hbody hg hdef hbind
  · rw [hq]
    exact lamT_mem hx
  · rw [hq]
    exact lamT_uniq (B.says.fact 37 rfl) hx
theorem fo_is_integer (B : Bd K mg) : ∃ fd, FunD K "is_integer" "is_integer" (defArgs s_is_integer) (defBody s_is_integer) (defScope s_is_integer) [] [] (He.ga K "is_integer") fd ∧ FnOk PySem.Challenge.pw_momentrows_k03_ratio_quotients_and_power w K mg base (CXX PySem.Challenge.pw_momentrows_k03_ratio_quotients_and_power w) 1 (He.ga K "is_integer") fd ["value"] (spIsInt K) := by
  obtain ⟨fd, F0⟩ := B.says.def_ 0 (d := dd_is_integer) rfl
  have F : FunD K "is_integer" "is_integer" (defArgs s_is_integer) (defBody s_is_integer) (defScope s_is_integer) [] [] (He.ga K "is_integer") fd := F0
  refine ⟨fd, F, F.ok sc_is_integer (fun vs H Q E h => ?_) (fun cdv A outer s H vs Q E hr h => ⟨t_is_integer K, ?_, pure_is_integer vs H Q E h⟩)⟩
  · first | (obtain ⟨_, rfl, _⟩ := h; rfl) | (obtain ⟨_, _, rfl, _⟩ := h; rfl) | (obtain ⟨_, _, _, rfl, _⟩ := h; rfl) | (obtain ⟨_, _, _, _, rfl, _⟩ := h; rfl) | (obtain ⟨_, _, _, _, _, rfl, _⟩ := h; rfl) | (obtain ⟨_, _, _, _, _, _, rfl, _⟩ := h; rfl) | (obtain ⟨_, _, _, _, _, _, _, rfl, _⟩ := h; rfl) | (obtain ⟨_, _, _, _, _, _, _, _, rfl, _⟩ := h; rfl) | (obtain ⟨_, _, _, _, _, _, _, _, _, rfl, _⟩ := h; rfl) | (obtain ⟨_, _, _, _, _, _, _, _, _, _, rfl, _⟩ := h; rfl) | (obtain ⟨_, _, _, _, _, _, _, _, _, _, _, rfl, _⟩ := h; rfl) | (obtain ⟨_, _, _, _, _, _, _, _, _, _, _, _, rfl, _⟩ := h; rfl)
  · exact (pss_one (ps_ret (pe_and (pe_callB call_isi (by rfl) (fr_isinstance B) (by decide +kernel) (pa_cons (pv 0) (pa_cons (pe_bltn (v := .ty "int") (by rfl) (fr_int B) (by decide +kernel) rfl) pa_nil))) (pe_one (pe_not (pe_callB call_isi (by rfl) (fr_isinstance B) (by decide +kernel) (pa_cons (pv 0) (pa_cons (pe_bltn (v := .ty "bool") (by rfl) (fr_bool B) (by decide +kernel) rfl) pa_nil))))))))
theorem d_is_integer (B : Bd K mg) : DefOk PySem.Challenge.pw_momentrows_k03_ratio_quotients_and_power w K mg base 1 "is_integer" [] (spIsInt K) := by
  obtain ⟨fd, F, G⟩ := fo_is_integer (w := w) (base := base) B
  exact ⟨_, fd, ["value"], [], gl_is_integer B, F.kp, G, F.bindsN fun _ _ _ _ _ _ us hl => match us, hl with | [_], _ => rfl, .nil⟩
theorem fo_common_part (B : Bd K mg) : ∃ fd, FunD K "common_part" "common_part" (defArgs s_common_part) (defBody s_common_part) (defScope s_common_part) [] [] (He.ga K "common_part") fd ∧ FnOk PySem.Challenge.pw_momentrows_k03_ratio_quotients_and_power w K mg base (CXX PySem.Challenge.pw_momentrows_k03_ratio_quotients_and_power w) 1 (He.ga K "common_part") fd ["one", "other"] spGcd := by
  obtain ⟨fd, F0⟩ := B.says.def_ 1 (d := dd_common_part) rfl
  have F : FunD K "common_part" "common_part" (defArgs s_common_part) (defBody s_common_part) (defScope s_common_part) [] [] (He.ga K "common_part") fd := F0
  refine ⟨fd, F, F.ok sc_common_part (fun vs H Q E h => ?_) (fun cdv A outer s H vs Q E hr h => ⟨t_common_part K, ?_, pure_common_part vs H Q E h⟩)⟩
  · first | (obtain ⟨_, rfl, _⟩ := h; rfl) | (obtain ⟨_, _, rfl, _⟩ := h; rfl) | (obtain ⟨_, _, _, rfl, _⟩ := h; rfl) | (obtain ⟨_, _, _, _, rfl, _⟩ := h; rfl) | (obtain ⟨_, _, _, _, _, rfl, _⟩ := h; rfl) | (obtain ⟨_, _, _, _, _, _, rfl, _⟩ := h; rfl) | (obtain ⟨_, _, _, _, _, _, _, rfl, _⟩ := h; rfl) | (obtain ⟨_, _, _, _, _, _, _, _, rfl, _⟩ := h; rfl) | (obtain ⟨_, _, _, _, _, _, _, _, _, rfl, _⟩ := h; rfl) | (obtain ⟨_, _, _, _, _, _, _, _, _, _, rfl, _⟩ := h; rfl) | (obtain ⟨_, _, _, _, _, _, _, _, _, _, _, rfl, _⟩ := h; rfl) | (obtain ⟨_, _, _, _, _, _, _, _, _, _, _, _, rfl, _⟩ := h; rfl)
  · exact (pss_cons (ps_par (by rfl) sc_common_part.nd rfl rfl (by decide) rfl rfl (pa_cons (pe_callB call_abs (by rfl) (fr_abs B) (by decide +kernel) (pa_cons (pv 0) pa_nil)) (pa_cons (pe_callB call_abs (by rfl) (fr_abs B) (by decide +kernel) (pa_cons (pv 1) pa_nil)) pa_nil)) (by rfl))
  (pss_cons (ps_while (passes_of rfl) (pt_cmpR op_gt (pv 1) pe_int (nomark _)) (pss_one (ps_par (by rfl) sc_common_part.nd rfl rfl (by decide) rfl rfl (pa_cons (pv 1) (pa_cons (pe_op op_modN (pv 0) (pv 1)) pa_nil)) (by rfl))))
  (pss_one (ps_ret (pv 0)))))
theorem d_common_part (B : Bd K mg) : DefOk PySem.Challenge.pw_momentrows_k03_ratio_quotients_and_power w K mg base 1 "common_part" [] spGcd := by
  obtain ⟨fd, F, G⟩ := fo_common_part (w := w) (base := base) B
  exact ⟨_, fd, ["one", "other"], [], gl_common_part B, F.kp, G, F.bindsN fun _ _ _ _ _ _ us hl => match us, hl with | [_, _], _ => rfl, .nil⟩
theorem fo_floor_of (B : Bd K mg) : ∃ fd, FunD K "floor_of" "floor_of" (defArgs s_floor_of) (defBody s_floor_of) (defScope s_floor_of) [] [] (He.ga K "floor_of") fd ∧ FnOk PySem.Challenge.pw_momentrows_k03_ratio_quotients_and_power w K mg base (CXX PySem.Challenge.pw_momentrows_k03_ratio_quotients_and_power w) 1 (He.ga K "floor_of") fd ["top", "bottom"] (spFloorOf K) := by
  obtain ⟨fd, F0⟩ := B.says.def_ 3 (d := dd_floor_of) rfl
  have F : FunD K "floor_of" "floor_of" (defArgs s_floor_of) (defBody s_floor_of) (defScope s_floor_of) [] [] (He.ga K "floor_of") fd := F0
  refine ⟨fd, F, F.ok sc_floor_of (fun vs H Q E h => ?_) (fun cdv A outer s H vs Q E hr h => ⟨t_floor_of K E, ?_, pure_floor_of vs H Q E h⟩)⟩
  · first | (obtain ⟨_, rfl, _⟩ := h; rfl) | (obtain ⟨_, _, rfl, _⟩ := h; rfl) | (obtain ⟨_, _, _, rfl, _⟩ := h; rfl) | (obtain ⟨_, _, _, _, rfl, _⟩ := h; rfl) | (obtain ⟨_, _, _, _, _, rfl, _⟩ := h; rfl) | (obtain ⟨_, _, _, _, _, _, rfl, _⟩ := h; rfl) | (obtain ⟨_, _, _, _, _, _, _, rfl, _⟩ := h; rfl) | (obtain ⟨_, _, _, _, _, _, _, _, rfl, _⟩ := h; rfl) | (obtain ⟨_, _, _, _, _, _, _, _, _, rfl, _⟩ := h; rfl) | (obtain ⟨_, _, _, _, _, _, _, _, _, _, rfl, _⟩ := h; rfl) | (obtain ⟨_, _, _, _, _, _, _, _, _, _, _, rfl, _⟩ := h; rfl) | (obtain ⟨_, _, _, _, _, _, _, _, _, _, _, _, rfl, _⟩ := h; rfl)
  · exact (pss_cons (ps_if (pt_cmpR op_eq (pv 1) pe_int (nomark _)) (pss_one (ps_raiseS rfl (sup_NoRatio B) pn_word (gl_NoRatio B) hr (takes_of rfl rfl rfl rfl) (pa_cons pe_str pa_nil))) pss_nil)
  (pss_one (ps_ret (pe_op op_fdivZ (pv 0) (pv 1)))))
theorem d_floor_of (B : Bd K mg) : DefOk PySem.Challenge.pw_momentrows_k03_ratio_quotients_and_power w K mg base 1 "floor_of" [] (spFloorOf K) := by
  obtain ⟨fd, F, G⟩ := fo_floor_of (w := w) (base := base) B
  exact ⟨_, fd, ["top", "bottom"], [], gl_floor_of B, F.kp, G, F.bindsN fun _ _ _ _ _ _ us hl => match us, hl with | [_, _], _ => rfl, .nil⟩
theorem fo_whole_power (B : Bd K mg) : ∃ fd, FunD K "whole_power" "whole_power" (defArgs s_whole_power) (defBody s_whole_power) (defScope s_whole_power) [] [] (He.ga K "whole_power") fd ∧ FnOk PySem.Challenge.pw_momentrows_k03_ratio_quotients_and_power w K mg base (CXX PySem.Challenge.pw_momentrows_k03_ratio_quotients_and_power w) 1 (He.ga K "whole_power") fd ["base", "k"] spWhole := by
  obtain ⟨fd, F0⟩ := B.says.def_ 4 (d := dd_whole_power) rfl
  have F : FunD K "whole_power" "whole_power" (defArgs s_whole_power) (defBody s_whole_power) (defScope s_whole_power) [] [] (He.ga K "whole_power") fd := F0
  refine ⟨fd, F, F.ok sc_whole_power (fun vs H Q E h => ?_) (fun cdv A outer s H vs Q E hr h => ⟨t_whole_power K, ?_, pure_whole_power vs H Q E h⟩)⟩
  · first | (obtain ⟨_, rfl, _⟩ := h; rfl) | (obtain ⟨_, _, rfl, _⟩ := h; rfl) | (obtain ⟨_, _, _, rfl, _⟩ := h; rfl) | (obtain ⟨_, _, _, _, rfl, _⟩ := h; rfl) | (obtain ⟨_, _, _, _, _, rfl, _⟩ := h; rfl) | (obtain ⟨_, _, _, _, _, _, rfl, _⟩ := h; rfl) | (obtain ⟨_, _, _, _, _, _, _, rfl, _⟩ := h; rfl) | (obtain ⟨_, _, _, _, _, _, _, _, rfl, _⟩ := h; rfl) | (obtain ⟨_, _, _, _, _, _, _, _, _, rfl, _⟩ := h; rfl) | (obtain ⟨_, _, _, _, _, _, _, _, _, _, rfl, _⟩ := h; rfl) | (obtain ⟨_, _, _, _, _, _, _, _, _, _, _, rfl, _⟩ := h; rfl) | (obtain ⟨_, _, _, _, _, _, _, _, _, _, _, _, rfl, _⟩ := h; rfl)
  · exact (pss_cons (ps_set (i := 2) sc_whole_power.nd rfl (Or.inl rfl) pe_int)
  (pss_cons (ps_for (passes_of rfl) rfl (pi_range1 (by rfl) (fr_range B) (pa_cons (pv 1) pa_nil)) (pg_name (i := 3) sc_whole_power.nd rfl (Or.inl rfl)) (pss_one (ps_set (i := 2) sc_whole_power.nd rfl (Or.inl rfl) (pe_op op_mulI (pv 2) (pv 0)))))
  (pss_one (ps_ret (pv 2)))))
theorem d_whole_power (B : Bd K mg) : DefOk PySem.Challenge.pw_momentrows_k03_ratio_quotients_and_power w K mg base 1 "whole_power" [] spWhole := by
  obtain ⟨fd, F, G⟩ := fo_whole_power (w := w) (base := base) B
  exact ⟨_, fd, ["base", "k"], [], gl_whole_power B, F.kp, G, F.bindsN fun _ _ _ _ _ _ us hl => match us, hl with | [_, _], _ => rfl, .nil⟩
theorem fo__law_is_integer (B : Bd K mg) : ∃ fd, FunD K "_law_is_integer" "_law_is_integer" (defArgs s__law_is_integer) (defBody s__law_is_integer) (defScope s__law_is_integer) [] [] (He.ga K "_law_is_integer") fd ∧ FnOk PySem.Challenge.pw_momentrows_k03_ratio_quotients_and_power w K mg base (CXX PySem.Challenge.pw_momentrows_k03_ratio_quotients_and_power w) 1 (He.ga K "_law_is_integer") fd ["_law_value"] (spIsInt K) := by
  obtain ⟨fd, F0⟩ := B.says.def_ 13 (d := dd__law_is_integer) rfl
  have F : FunD K "_law_is_integer" "_law_is_integer" (defArgs s__law_is_integer) (defBody s__law_is_integer) (defScope s__law_is_integer) [] [] (He.ga K "_law_is_integer") fd := F0
  refine ⟨fd, F, F.ok sc__law_is_integer (fun vs H Q E h => ?_) (fun cdv A outer s H vs Q E hr h => ⟨t__law_is_integer K, ?_, pure__law_is_integer vs H Q E h⟩)⟩
  · first | (obtain ⟨_, rfl, _⟩ := h; rfl) | (obtain ⟨_, _, rfl, _⟩ := h; rfl) | (obtain ⟨_, _, _, rfl, _⟩ := h; rfl) | (obtain ⟨_, _, _, _, rfl, _⟩ := h; rfl) | (obtain ⟨_, _, _, _, _, rfl, _⟩ := h; rfl) | (obtain ⟨_, _, _, _, _, _, rfl, _⟩ := h; rfl) | (obtain ⟨_, _, _, _, _, _, _, rfl, _⟩ := h; rfl) | (obtain ⟨_, _, _, _, _, _, _, _, rfl, _⟩ := h; rfl) | (obtain ⟨_, _, _, _, _, _, _, _, _, rfl, _⟩ := h; rfl) | (obtain ⟨_, _, _, _, _, _, _, _, _, _, rfl, _⟩ := h; rfl) | (obtain ⟨_, _, _, _, _, _, _, _, _, _, _, rfl, _⟩ := h; rfl) | (obtain ⟨_, _, _, _, _, _, _, _, _, _, _, _, rfl, _⟩ := h; rfl)
  · exact (pss_one (ps_ret (pe_and (pe_callB call_isi (by rfl) (fr_isinstance B) (by decide +kernel) (pa_cons (pv 0) (pa_cons (pe_bltn (v := .ty "int") (by rfl) (fr_int B) (by decide +kernel) rfl) pa_nil))) (pe_one (pe_not (pe_callB call_isi (by rfl) (fr_isinstance B) (by decide +kernel) (pa_cons (pv 0) (pa_cons (pe_bltn (v := .ty "bool") (by rfl) (fr_bool B) (by decide +kernel) rfl) pa_nil))))))))
theorem d__law_is_integer (B : Bd K mg) : DefOk PySem.Challenge.pw_momentrows_k03_ratio_quotients_and_power w K mg base 1 "_law_is_integer" [] (spIsInt K) := by
  obtain ⟨fd, F, G⟩ := fo__law_is_integer (w := w) (base := base) B
  exact ⟨_, fd, ["_law_value"], [], gl__law_is_integer B, F.kp, G, F.bindsN fun _ _ _ _ _ _ us hl => match us, hl with | [_], _ => rfl, .nil⟩
theorem fo__law_feed (B : Bd K mg) : ∃ fd, FunD K "_law_feed" "_law_feed" (defArgs s__law_feed) (defBody s__law_feed) (defScope s__law_feed) [] [] (He.ga K "_law_feed") fd ∧ FnOk PySem.Challenge.pw_momentrows_k03_ratio_quotients_and_power w K mg base (CXX PySem.Challenge.pw_momentrows_k03_ratio_quotients_and_power w) 1 (He.ga K "_law_feed") fd ["_law_script"] (spFeed K) := by
  obtain ⟨fd, F0⟩ := B.says.def_ 14 (d := dd__law_feed) rfl
  have F : FunD K "_law_feed" "_law_feed" (defArgs s__law_feed) (defBody s__law_feed) (defScope s__law_feed) [] [] (He.ga K "_law_feed") fd := F0
  refine ⟨fd, F, F.ok sc__law_feed (fun vs H Q E h => ?_) (fun cdv A outer s H vs Q E hr h => ⟨t__law_feed K, ?_, pure__law_feed vs H Q E h⟩)⟩
  · first | (obtain ⟨_, rfl, _⟩ := h; rfl) | (obtain ⟨_, _, rfl, _⟩ := h; rfl) | (obtain ⟨_, _, _, rfl, _⟩ := h; rfl) | (obtain ⟨_, _, _, _, rfl, _⟩ := h; rfl) | (obtain ⟨_, _, _, _, _, rfl, _⟩ := h; rfl) | (obtain ⟨_, _, _, _, _, _, rfl, _⟩ := h; rfl) | (obtain ⟨_, _, _, _, _, _, _, rfl, _⟩ := h; rfl) | (obtain ⟨_, _, _, _, _, _, _, _, rfl, _⟩ := h; rfl) | (obtain ⟨_, _, _, _, _, _, _, _, _, rfl, _⟩ := h; rfl) | (obtain ⟨_, _, _, _, _, _, _, _, _, _, rfl, _⟩ := h; rfl) | (obtain ⟨_, _, _, _, _, _, _, _, _, _, _, rfl, _⟩ := h; rfl) | (obtain ⟨_, _, _, _, _, _, _, _, _, _, _, _, rfl, _⟩ := h; rfl)
  · exact (pss_one (ps_ret (pe_lst (pa_cons (pe_lc (own := [("_law_cell", 1)]) (g := (gName 1)) (tt := tYes) rfl sc__law_feed.nd (pi_list (pe_slice sl_list (pv 0) po_none (po_some pe_int))) (blkOk_by (N := ["_law_script", "_law_cell"]) (sc := defScope s__law_feed) (own := [("_law_cell", 1)]) (by decide +kernel)) (fun _ _ _ _ _ => pg_name (i := 1) sc__law_feed.nd rfl (Or.inl rfl)) (fun _ _ _ _ _ => pts_nil) (fun _ _ _ _ _ => (pe_callB call_abs (by rfl) (fr_abs B) (by decide +kernel) (pa_cons (pe_callTy call_int1 (by rfl) (fr_int B) (by decide +kernel) (pa_cons (pv 1) pa_nil)) pa_nil)))) (pa_cons pe_int (pa_cons pe_int (pa_cons pe_int (pa_cons pe_int (pa_cons pe_int pa_nil)))))))))
theorem d__law_feed (B : Bd K mg) : DefOk PySem.Challenge.pw_momentrows_k03_ratio_quotients_and_power w K mg base 1 "_law_feed" [] (spFeed K) := by
  obtain ⟨fd, F, G⟩ := fo__law_feed (w := w) (base := base) B
  exact ⟨_, fd, ["_law_script"], [], gl__law_feed B, F.kp, G, F.bindsN fun _ _ _ _ _ _ us hl => match us, hl with | [_], _ => rfl, .nil⟩
theorem fo__law_take (B : Bd K mg) : ∃ fd, FunD K "_law_take" "_law_take" (defArgs s__law_take) (defBody s__law_take) (defScope s__law_take) [] [] (He.ga K "_law_take") fd ∧ FnOk PySem.Challenge.pw_momentrows_k03_ratio_quotients_and_power w K mg base (CXX PySem.Challenge.pw_momentrows_k03_ratio_quotients_and_power w) 1 (He.ga K "_law_take") fd ["_law_feed_here", "_law_size"] (spTake K) := by
  obtain ⟨fd, F0⟩ := B.says.def_ 15 (d := dd__law_take) rfl
  have F : FunD K "_law_take" "_law_take" (defArgs s__law_take) (defBody s__law_take) (defScope s__law_take) [] [] (He.ga K "_law_take") fd := F0
  refine ⟨fd, F, F.ok sc__law_take (fun vs H Q E h => ?_) (fun cdv A outer s H vs Q E hr h => ⟨t__law_take K, ?_, pure__law_take vs H Q E h⟩)⟩
  · first | (obtain ⟨_, rfl, _⟩ := h; rfl) | (obtain ⟨_, _, rfl, _⟩ := h; rfl) | (obtain ⟨_, _, _, rfl, _⟩ := h; rfl) | (obtain ⟨_, _, _, _, rfl, _⟩ := h; rfl) | (obtain ⟨_, _, _, _, _, rfl, _⟩ := h; rfl) | (obtain ⟨_, _, _, _, _, _, rfl, _⟩ := h; rfl) | (obtain ⟨_, _, _, _, _, _, _, rfl, _⟩ := h; rfl) | (obtain ⟨_, _, _, _, _, _, _, _, rfl, _⟩ := h; rfl) | (obtain ⟨_, _, _, _, _, _, _, _, _, rfl, _⟩ := h; rfl) | (obtain ⟨_, _, _, _, _, _, _, _, _, _, rfl, _⟩ := h; rfl) | (obtain ⟨_, _, _, _, _, _, _, _, _, _, _, rfl, _⟩ := h; rfl) | (obtain ⟨_, _, _, _, _, _, _, _, _, _, _, _, rfl, _⟩ := h; rfl)
  · exact (pss_cons (ps_augS (pv 0) pe_int get_list pe_int ip_add set_list)
  (pss_cons (ps_if (PW.pt (pw_and (pt_cmpR op_eq (pe_ix ix_list (pv 0) pe_int (fun _ _ => rfl)) pe_int (nomark _)) (pw_and (pt_cmpR op_eq (pe_ix ix_list (pv 0) pe_int (fun _ _ => rfl)) pe_int (nomark _)) (pw_and1 (pt_cmpR op_lt (pe_ix ix_list (pv 0) pe_int (fun _ _ => rfl)) (pe_callB call_len (by rfl) (fr_len B) (by decide +kernel) (pa_cons (pe_ix ix_list (pv 0) pe_int (fun _ _ => rfl)) pa_nil)) (nomark _)))))) (pss_cons (ps_set (i := 3) sc__law_take.nd rfl (Or.inl rfl) (pe_ix ix_list (pe_ix ix_list (pv 0) pe_int (fun _ _ => rfl)) (pe_ix ix_list (pv 0) pe_int (fun _ _ => rfl)) (fun _ _ => rfl)))
  (pss_cons (ps_augS (pv 0) pe_int get_list pe_int ip_add set_list)
  (pss_one (ps_if (pt_cmpR op_ge (pv 3) (pe_op op_pow pe_int pe_int) (nomark _)) (pss_one (ps_asg (pv 3) (pg_sub (pv 0) pe_int set_list))) (pss_cons (ps_asg pe_int (pg_sub (pv 0) pe_int set_list))
  (pss_one (ps_asg (pe_op op_add (pe_ix ix_list (pv 0) pe_int (fun _ _ => rfl)) (pv 3)) (pg_sub (pv 0) pe_int set_list)))))))) pss_nil)
  (pss_cons (ps_if (pt_cmpR op_gt (pe_ix ix_list (pv 0) pe_int (fun _ _ => rfl)) pe_int (nomark _)) (pss_cons (ps_set (i := 4) sc__law_take.nd rfl (Or.inl rfl) (pe_op op_modN (pe_callTy call_int1 (by rfl) (fr_int B) (by decide +kernel) (pa_cons (pe_ix ix_list (pv 0) pe_int (fun _ _ => rfl)) pa_nil)) (pv 1)))
  (pss_cons (ps_asg (pe_op op_fdivZ (pe_ix ix_list (pv 0) pe_int (fun _ _ => rfl)) (pv 1)) (pg_sub (pv 0) pe_int set_list))
  (pss_one (ps_ret (pv 4))))) pss_nil)
  (pss_cons (ps_asg (pe_callB (call_max2 rfl) (by rfl) (fr_max B) (by decide +kernel) (pa_cons pe_int (pa_cons (pe_op op_sub (pe_ix ix_list (pv 0) pe_int (fun _ _ => rfl)) pe_int) pa_nil))) (pg_sub (pv 0) pe_int set_list))
  (pss_cons (ps_set (i := 2) sc__law_take.nd rfl (Or.inl rfl) (pe_op op_modN (pe_callTy call_int1 (by rfl) (fr_int B) (by decide +kernel) (pa_cons (pe_op op_mulI (pe_op op_add (pe_op op_add (pe_ix ix_list (pv 0) pe_int (fun _ _ => rfl)) (pe_op op_mulI pe_int (pe_ix ix_list (pv 0) pe_int (fun _ _ => rfl)))) pe_int) pe_int) pa_nil)) pe_int))
  (pss_cons (ps_set (i := 2) sc__law_take.nd rfl (Or.inl rfl) (pe_op op_modN (pe_callTy call_int1 (by rfl) (fr_int B) (by decide +kernel) (pa_cons (pe_op op_mulI (pv 2) (pe_op op_add (pe_op op_fdivZ (pv 2) pe_int) pe_int)) pa_nil)) pe_int))
  (pss_cons (ps_set (i := 2) sc__law_take.nd rfl (Or.inl rfl) (pe_op op_modN (pe_callTy call_int1 (by rfl) (fr_int B) (by decide +kernel) (pa_cons (pe_op op_mulI (pv 2) (pe_op op_add (pe_op op_fdivZ (pv 2) pe_int) pe_int)) pa_nil)) pe_int))
  (pss_one (ps_ret (pe_op op_modN (pv 2) (pv 1)))))))))))
theorem d__law_take (B : Bd K mg) : DefOk PySem.Challenge.pw_momentrows_k03_ratio_quotients_and_power w K mg base 1 "_law_take" [] (spTake K) := by
  obtain ⟨fd, F, G⟩ := fo__law_take (w := w) (base := base) B
  exact ⟨_, fd, ["_law_feed_here", "_law_size"], [], gl__law_take B, F.kp, G, F.bindsN fun _ _ _ _ _ _ us hl => match us, hl with | [_, _], _ => rfl, .nil⟩
theorem fo_Ratio_init (B : Bd K mg) : ∃ fd, FunD K "__init__" "Ratio.__init__" (defArgs s_Ratio_init) (defBody s_Ratio_init) (defScope s_Ratio_init) [.int 1] [] (He.ma K (He.ga K "Ratio") "__init__") fd ∧ FnOk PySem.Challenge.pw_momentrows_k03_ratio_quotients_and_power w K mg base (CXX PySem.Challenge.pw_momentrows_k03_ratio_quotients_and_power w) 2 (He.ma K (He.ga K "Ratio") "__init__") fd ["self", "top", "bottom"] (spRInit K) := by
  obtain ⟨fd, F0⟩ := B.says.def_ 2 (d := dd_Ratio_init) rfl
  have F : FunD K "__init__" "Ratio.__init__" (defArgs s_Ratio_init) (defBody s_Ratio_init) (defScope s_Ratio_init) [.int 1] [] (He.ma K (He.ga K "Ratio") "__init__") fd := F0
  refine ⟨fd, F, F.ok sc_Ratio_init (fun vs H Q E h => ?_) (fun cdv A outer s H vs Q E hr h => ⟨t_Ratio_init K E, ?_, pure_Ratio_init (RT B) vs H Q E h⟩)⟩
  · first | (obtain ⟨_, rfl, _⟩ := h; rfl) | (obtain ⟨_, _, rfl, _⟩ := h; rfl) | (obtain ⟨_, _, _, rfl, _⟩ := h; rfl) | (obtain ⟨_, _, _, _, rfl, _⟩ := h; rfl) | (obtain ⟨_, _, _, _, _, rfl, _⟩ := h; rfl) | (obtain ⟨_, _, _, _, _, _, rfl, _⟩ := h; rfl) | (obtain ⟨_, _, _, _, _, _, _, rfl, _⟩ := h; rfl) | (obtain ⟨_, _, _, _, _, _, _, _, rfl, _⟩ := h; rfl) | (obtain ⟨_, _, _, _, _, _, _, _, _, rfl, _⟩ := h; rfl) | (obtain ⟨_, _, _, _, _, _, _, _, _, _, rfl, _⟩ := h; rfl) | (obtain ⟨_, _, _, _, _, _, _, _, _, _, _, rfl, _⟩ := h; rfl) | (obtain ⟨_, _, _, _, _, _, _, _, _, _, _, _, rfl, _⟩ := h; rfl)
  · exact (pss_cons (ps_if (pt_not (pt_val (pe_callD (dvs := []) (d_is_integer B) (hr.mono (by decide)) rfl passL (pa_cons (pv 1) pa_nil)))) (pss_one (ps_raiseS rfl (sup_NoRatio B) pn_word (gl_NoRatio B) hr (takes_of rfl rfl rfl rfl) (pa_cons pe_str pa_nil))) pss_nil)
  (pss_cons (ps_if (pt_not (pt_val (pe_callD (dvs := []) (d_is_integer B) (hr.mono (by decide)) rfl passL (pa_cons (pv 2) pa_nil)))) (pss_one (ps_raiseS rfl (sup_NoRatio B) pn_word (gl_NoRatio B) hr (takes_of rfl rfl rfl rfl) (pa_cons pe_str pa_nil))) pss_nil)
  (pss_cons (ps_if (pt_cmpR op_eq (pv 2) pe_int (nomark _)) (pss_one (ps_raiseS rfl (sup_NoRatio B) pn_word (gl_NoRatio B) hr (takes_of rfl rfl rfl rfl) (pa_cons pe_str pa_nil))) pss_nil)
  (pss_cons (ps_set (i := 3) sc_Ratio_init.nd rfl (Or.inl rfl) (pe_callD (dvs := []) (d_common_part B) (hr.mono (by decide)) rfl passL (pa_cons (pv 1) (pa_cons (pv 2) pa_nil))))
  (pss_cons (ps_if (pt_cmpR op_lt (pv 2) pe_int (nomark _)) (pss_one (ps_set (i := 3) sc_Ratio_init.nd rfl (Or.inl rfl) (pe_un un_neg (pv 3)))) pss_nil)
  (pss_cons (ps_fld (pv 0) (pe_op op_fdivZ (pv 1) (pv 3)) rfl)
  (pss_one (ps_fld (pv 0) (pe_op op_fdivZ (pv 2) (pv 3)) rfl))))))))
theorem d_Ratio_init_0 (B : Bd K mg) : MakeOk PySem.Challenge.pw_momentrows_k03_ratio_quotients_and_power w K mg base 2 "Ratio" (He.ga K "Ratio") [] (spRInit K) := by
  obtain ⟨fd, F, G⟩ := fo_Ratio_init (w := w) (base := base) B
  obtain ⟨ds, v, b⟩ := F.binds1 (ps := ["self", "top", "bottom"]) 3 1 (by simp) rfl fun T kV doc pm an cdv ct us its hu hi => match us, hu, its, hi with | [_, _, _], _, [_], _ => ⟨_, rfl, rfl⟩
  exact ⟨_, fd, ["self", "top", "bottom"], ds, gl_Ratio B, He.mkr_ok (B.says.fact 29 rfl), G, b, v⟩
theorem d_Ratio_init_1 (B : Bd K mg) : MakeOk PySem.Challenge.pw_momentrows_k03_ratio_quotients_and_power w K mg base 2 "Ratio" (He.ga K "Ratio") [.int 1] (spRInit K) := by
  obtain ⟨fd, F, G⟩ := fo_Ratio_init (w := w) (base := base) B
  obtain ⟨ds, v, b⟩ := F.binds1 (ps := ["self", "top", "bottom"]) 2 0 (by simp) rfl fun T kV doc pm an cdv ct us its hu hi => match us, hu, its, hi with | [_, _], _, [_], _ => ⟨_, rfl, rfl⟩
  exact ⟨_, fd, ["self", "top", "bottom"], ds, gl_Ratio B, He.mkr_ok (B.says.fact 29 rfl), G, b, v⟩
theorem fo_Ratio_floordiv (B : Bd K mg) : ∃ fd, FunD K "__floordiv__" "Ratio.__floordiv__" (defArgs s_Ratio_floordiv) (defBody s_Ratio_floordiv) (defScope s_Ratio_floordiv) [] [] (He.ma K (He.ga K "Ratio") "__floordiv__") fd ∧ FnOk PySem.Challenge.pw_momentrows_k03_ratio_quotients_and_power w K mg base (CXX PySem.Challenge.pw_momentrows_k03_ratio_quotients_and_power w) 2 (He.ma K (He.ga K "Ratio") "__floordiv__") fd ["self", "other"] (spRFloordiv K) := by
  obtain ⟨fd, F0⟩ := B.says.def_ 6 (d := dd_Ratio_floordiv) rfl
  have F : FunD K "__floordiv__" "Ratio.__floordiv__" (defArgs s_Ratio_floordiv) (defBody s_Ratio_floordiv) (defScope s_Ratio_floordiv) [] [] (He.ma K (He.ga K "Ratio") "__floordiv__") fd := F0
  refine ⟨fd, F, F.ok sc_Ratio_floordiv (fun vs H Q E h => ?_) (fun cdv A outer s H vs Q E hr h => ⟨t_Ratio_floordiv K E, ?_, pure_Ratio_floordiv (RT2 B) vs H Q E h⟩)⟩
  · first | (obtain ⟨_, rfl, _⟩ := h; rfl) | (obtain ⟨_, _, rfl, _⟩ := h; rfl) | (obtain ⟨_, _, _, rfl, _⟩ := h; rfl) | (obtain ⟨_, _, _, _, rfl, _⟩ := h; rfl) | (obtain ⟨_, _, _, _, _, rfl, _⟩ := h; rfl) | (obtain ⟨_, _, _, _, _, _, rfl, _⟩ := h; rfl) | (obtain ⟨_, _, _, _, _, _, _, rfl, _⟩ := h; rfl) | (obtain ⟨_, _, _, _, _, _, _, _, rfl, _⟩ := h; rfl) | (obtain ⟨_, _, _, _, _, _, _, _, _, rfl, _⟩ := h; rfl) | (obtain ⟨_, _, _, _, _, _, _, _, _, _, rfl, _⟩ := h; rfl) | (obtain ⟨_, _, _, _, _, _, _, _, _, _, _, rfl, _⟩ := h; rfl) | (obtain ⟨_, _, _, _, _, _, _, _, _, _, _, _, rfl, _⟩ := h; rfl)
  · exact (pss_cons (ps_if (pt_val (pe_callB call_isi (by rfl) (fr_isinstance B) (by decide +kernel) (pa_cons (pv 1) (pa_cons (pe_glob (v := .ref (He.ga K "Ratio")) (by rfl) (gl_Ratio B) rfl) pa_nil)))) (pss_one (ps_ret (pe_callD (dvs := []) (d_floor_of B) (hr.mono (by decide)) rfl (pass_on (takes_of rfl rfl rfl rfl) fun _ _ _ _ z => z) (pa_cons (pe_op op_mulI (pe_fld (pv 0) rfl) (pe_fld (pv 1) rfl)) (pa_cons (pe_op op_mulI (pe_fld (pv 0) rfl) (pe_fld (pv 1) rfl)) pa_nil))))) pss_nil)
  (pss_cons (ps_if (pt_val (pe_callD (dvs := []) (d_is_integer B) (hr.mono (by decide)) rfl passL (pa_cons (pv 1) pa_nil))) (pss_one (ps_ret (pe_callD (dvs := []) (d_floor_of B) (hr.mono (by decide)) rfl (pass_on (takes_of rfl rfl rfl rfl) fun _ _ _ _ z => z) (pa_cons (pe_fld (pv 0) rfl) (pa_cons (pe_op op_mulI (pe_fld (pv 0) rfl) (pv 1)) pa_nil))))) pss_nil)
  (pss_one ps_never)))
theorem d_Ratio_floordiv (B : Bd K mg) : MethOk PySem.Challenge.pw_momentrows_k03_ratio_quotients_and_power w K mg base 2 (He.ga K "Ratio") "__floordiv__" [] (spRFloordiv K) := by
  obtain ⟨fd, F, G⟩ := fo_Ratio_floordiv (w := w) (base := base) B
  exact ⟨_, fd, ["self", "other"], [], (own_Ratio B).cl, He.meth_ok (B.says.fact 30 rfl), G, F.bindsN fun _ _ _ _ _ _ us hl => match us, hl with | [_, _], _ => rfl, .nil⟩
theorem fo_Ratio_rfloordiv (B : Bd K mg) : ∃ fd, FunD K "__rfloordiv__" "Ratio.__rfloordiv__" (defArgs s_Ratio_rfloordiv) (defBody s_Ratio_rfloordiv) (defScope s_Ratio_rfloordiv) [] [] (He.ma K (He.ga K "Ratio") "__rfloordiv__") fd ∧ FnOk PySem.Challenge.pw_momentrows_k03_ratio_quotients_and_power w K mg base (CXX PySem.Challenge.pw_momentrows_k03_ratio_quotients_and_power w) 2 (He.ma K (He.ga K "Ratio") "__rfloordiv__") fd ["self", "other"] (spRRfloordiv K) := by
  obtain ⟨fd, F0⟩ := B.says.def_ 8 (d := dd_Ratio_rfloordiv) rfl
  have F : FunD K "__rfloordiv__" "Ratio.__rfloordiv__" (defArgs s_Ratio_rfloordiv) (defBody s_Ratio_rfloordiv) (defScope s_Ratio_rfloordiv) [] [] (He.ma K (He.ga K "Ratio") "__rfloordiv__") fd := F0
  refine ⟨fd, F, F.ok sc_Ratio_rfloordiv (fun vs H Q E h => ?_) (fun cdv A outer s H vs Q E hr h => ⟨t_Ratio_rfloordiv K E, ?_, pure_Ratio_rfloordiv (RT2 B) vs H Q E h⟩)⟩
  · first | (obtain ⟨_, rfl, _⟩ := h; rfl) | (obtain ⟨_, _, rfl, _⟩ := h; rfl) | (obtain ⟨_, _, _, rfl, _⟩ := h; rfl) | (obtain ⟨_, _, _, _, rfl, _⟩ := h; rfl) | (obtain ⟨_, _, _, _, _, rfl, _⟩ := h; rfl) | (obtain ⟨_, _, _, _, _, _, rfl, _⟩ := h; rfl) | (obtain ⟨_, _, _, _, _, _, _, rfl, _⟩ := h; rfl) | (obtain ⟨_, _, _, _, _, _, _, _, rfl, _⟩ := h; rfl) | (obtain ⟨_, _, _, _, _, _, _, _, _, rfl, _⟩ := h; rfl) | (obtain ⟨_, _, _, _, _, _, _, _, _, _, rfl, _⟩ := h; rfl) | (obtain ⟨_, _, _, _, _, _, _, _, _, _, _, rfl, _⟩ := h; rfl) | (obtain ⟨_, _, _, _, _, _, _, _, _, _, _, _, rfl, _⟩ := h; rfl)
  · exact (pss_cons (ps_if (pt_val (pe_callD (dvs := []) (d_is_integer B) (hr.mono (by decide)) rfl passL (pa_cons (pv 1) pa_nil))) (pss_one (ps_ret (pe_callD (dvs := []) (d_floor_of B) (hr.mono (by decide)) rfl (pass_on (takes_of rfl rfl rfl rfl) fun _ _ _ _ z => z) (pa_cons (pe_op op_mulI (pv 1) (pe_fld (pv 0) rfl)) (pa_cons (pe_fld (pv 0) rfl) pa_nil))))) pss_nil)
  (pss_one ps_never))
theorem d_Ratio_rfloordiv (B : Bd K mg) : MethOk PySem.Challenge.pw_momentrows_k03_ratio_quotients_and_power w K mg base 2 (He.ga K "Ratio") "__rfloordiv__" [] (spRRfloordiv K) := by
  obtain ⟨fd, F, G⟩ := fo_Ratio_rfloordiv (w := w) (base := base) B
  exact ⟨_, fd, ["self", "other"], [], (own_Ratio B).cl, He.meth_ok (B.says.fact 32 rfl), G, F.bindsN fun _ _ _ _ _ _ us hl => match us, hl with | [_, _], _ => rfl, .nil⟩
theorem fo__law_number (B : Bd K mg) : ∃ fd, FunD K "_law_number" "_law_number" (defArgs s__law_number) (defBody s__law_number) (defScope s__law_number) [] [] (He.ga K "_law_number") fd ∧ FnOk PySem.Challenge.pw_momentrows_k03_ratio_quotients_and_power w K mg base (CXX PySem.Challenge.pw_momentrows_k03_ratio_quotients_and_power w) 2 (He.ga K "_law_number") fd ["_law_feed_here", "_law_size"] (spNumber K) := by
  obtain ⟨fd, F0⟩ := B.says.def_ 16 (d := dd__law_number) rfl
  have F : FunD K "_law_number" "_law_number" (defArgs s__law_number) (defBody s__law_number) (defScope s__law_number) [] [] (He.ga K "_law_number") fd := F0
  refine ⟨fd, F, F.ok sc__law_number (fun vs H Q E h => ?_) (fun cdv A outer s H vs Q E hr h => ⟨t__law_number K, ?_, pure__law_number vs H Q E h⟩)⟩
  · first | (obtain ⟨_, rfl, _⟩ := h; rfl) | (obtain ⟨_, _, rfl, _⟩ := h; rfl) | (obtain ⟨_, _, _, rfl, _⟩ := h; rfl) | (obtain ⟨_, _, _, _, rfl, _⟩ := h; rfl) | (obtain ⟨_, _, _, _, _, rfl, _⟩ := h; rfl) | (obtain ⟨_, _, _, _, _, _, rfl, _⟩ := h; rfl) | (obtain ⟨_, _, _, _, _, _, _, rfl, _⟩ := h; rfl) | (obtain ⟨_, _, _, _, _, _, _, _, rfl, _⟩ := h; rfl) | (obtain ⟨_, _, _, _, _, _, _, _, _, rfl, _⟩ := h; rfl) | (obtain ⟨_, _, _, _, _, _, _, _, _, _, rfl, _⟩ := h; rfl) | (obtain ⟨_, _, _, _, _, _, _, _, _, _, _, rfl, _⟩ := h; rfl) | (obtain ⟨_, _, _, _, _, _, _, _, _, _, _, _, rfl, _⟩ := h; rfl)
  · exact (pss_cons (ps_set (i := 2) sc__law_number.nd rfl (Or.inl rfl) (pe_op op_sub pe_int (pe_op op_mulI pe_int (pe_callD (dvs := []) (d__law_take B) (hr.mono (by decide)) rfl passL (pa_cons (pv 0) (pa_cons pe_int pa_nil))))))
  (pss_one (ps_ret (pe_op op_mulI (pv 2) (pe_callD (dvs := []) (d__law_take B) (hr.mono (by decide)) rfl passL (pa_cons (pv 0) (pa_cons (pv 1) pa_nil)))))))
theorem d__law_number (B : Bd K mg) : DefOk PySem.Challenge.pw_momentrows_k03_ratio_quotients_and_power w K mg base 2 "_law_number" [] (spNumber K) := by
  obtain ⟨fd, F, G⟩ := fo__law_number (w := w) (base := base) B
  exact ⟨_, fd, ["_law_feed_here", "_law_size"], [], gl__law_number B, F.kp, G, F.bindsN fun _ _ _ _ _ _ us hl => match us, hl with | [_, _], _ => rfl, .nil⟩
theorem fo__law_is (B : Bd K mg) : ∃ fd, FunD K "_law_is" "_law_is" (defArgs s__law_is) (defBody s__law_is) (defScope s__law_is) [] [] (He.ga K "_law_is") fd ∧ FnOk PySem.Challenge.pw_momentrows_k03_ratio_quotients_and_power w K mg base (CXX PySem.Challenge.pw_momentrows_k03_ratio_quotients_and_power w) 2 (He.ga K "_law_is") fd ["_law_value", "_law_top", "_law_bottom"] (spIs K) := by
  obtain ⟨fd, F0⟩ := B.says.def_ 18 (d := dd__law_is) rfl
  have F : FunD K "_law_is" "_law_is" (defArgs s__law_is) (defBody s__law_is) (defScope s__law_is) [] [] (He.ga K "_law_is") fd := F0
  refine ⟨fd, F, F.ok sc__law_is (fun vs H Q E h => ?_) (fun cdv A outer s H vs Q E hr h => ⟨t__law_is K, ?_, pure__law_is (RT2 B) vs H Q E h⟩)⟩
  · first | (obtain ⟨_, rfl, _⟩ := h; rfl) | (obtain ⟨_, _, rfl, _⟩ := h; rfl) | (obtain ⟨_, _, _, rfl, _⟩ := h; rfl) | (obtain ⟨_, _, _, _, rfl, _⟩ := h; rfl) | (obtain ⟨_, _, _, _, _, rfl, _⟩ := h; rfl) | (obtain ⟨_, _, _, _, _, _, rfl, _⟩ := h; rfl) | (obtain ⟨_, _, _, _, _, _, _, rfl, _⟩ := h; rfl) | (obtain ⟨_, _, _, _, _, _, _, _, rfl, _⟩ := h; rfl) | (obtain ⟨_, _, _, _, _, _, _, _, _, rfl, _⟩ := h; rfl) | (obtain ⟨_, _, _, _, _, _, _, _, _, _, rfl, _⟩ := h; rfl) | (obtain ⟨_, _, _, _, _, _, _, _, _, _, _, rfl, _⟩ := h; rfl) | (obtain ⟨_, _, _, _, _, _, _, _, _, _, _, _, rfl, _⟩ := h; rfl)
  · exact (pss_cons (ps_if (PW.pt (pw_or (pt_not (pt_val (pe_callB call_isi (by rfl) (fr_isinstance B) (by decide +kernel) (pa_cons (pv 0) (pa_cons (pe_glob (v := .ref (He.ga K "Ratio")) (by rfl) (gl_Ratio B) rfl) pa_nil))))) (pw_or (pt_not (pt_val (pe_callD (dvs := []) (d__law_is_integer B) (hr.mono (by decide)) rfl passL (pa_cons (pe_fld (pv 0) rfl) pa_nil)))) (pw_or1 (pt_not (pt_val (pe_callD (dvs := []) (d__law_is_integer B) (hr.mono (by decide)) rfl passL (pa_cons (pe_fld (pv 0) rfl) pa_nil)))))))) (pss_one (ps_ret pe_bl)) pss_nil)
  (pss_one (ps_ret (pe_and (pe_cmpR op_ge (pe_fld (pv 0) rfl) pe_int (nomark _)) (pe_one (pe_cmpR op_eq (pe_op op_mulI (pe_fld (pv 0) rfl) (pv 2)) (pe_op op_mulI (pv 1) (pe_fld (pv 0) rfl)) (nomark _)))))))
theorem d__law_is (B : Bd K mg) : DefOk PySem.Challenge.pw_momentrows_k03_ratio_quotients_and_power w K mg base 2 "_law_is" [] (spIs K) := by
  obtain ⟨fd, F, G⟩ := fo__law_is (w := w) (base := base) B
  exact ⟨_, fd, ["_law_value", "_law_top", "_law_bottom"], [], gl__law_is B, F.kp, G, F.bindsN fun _ _ _ _ _ _ us hl => match us, hl with | [_, _, _], _ => rfl, .nil⟩
theorem fo__law_floor (B : Bd K mg) : ∃ fd, FunD K "_law_floor" "_law_floor" (defArgs s__law_floor) (defBody s__law_floor) (defScope s__law_floor) [] [] (He.ga K "_law_floor") fd ∧ FnOk PySem.Challenge.pw_momentrows_k03_ratio_quotients_and_power w K mg base (CXX PySem.Challenge.pw_momentrows_k03_ratio_quotients_and_power w) 2 (He.ga K "_law_floor") fd ["_law_q", "_law_a", "_law_b"] (spFloor K) := by
  obtain ⟨fd, F0⟩ := B.says.def_ 20 (d := dd__law_floor) rfl
  have F : FunD K "_law_floor" "_law_floor" (defArgs s__law_floor) (defBody s__law_floor) (defScope s__law_floor) [] [] (He.ga K "_law_floor") fd := F0
  refine ⟨fd, F, F.ok sc__law_floor (fun vs H Q E h => ?_) (fun cdv A outer s H vs Q E hr h => ⟨t__law_floor K, ?_, pure__law_floor vs H Q E h⟩)⟩
  · first | (obtain ⟨_, rfl, _⟩ := h; rfl) | (obtain ⟨_, _, rfl, _⟩ := h; rfl) | (obtain ⟨_, _, _, rfl, _⟩ := h; rfl) | (obtain ⟨_, _, _, _, rfl, _⟩ := h; rfl) | (obtain ⟨_, _, _, _, _, rfl, _⟩ := h; rfl) | (obtain ⟨_, _, _, _, _, _, rfl, _⟩ := h; rfl) | (obtain ⟨_, _, _, _, _, _, _, rfl, _⟩ := h; rfl) | (obtain ⟨_, _, _, _, _, _, _, _, rfl, _⟩ := h; rfl) | (obtain ⟨_, _, _, _, _, _, _, _, _, rfl, _⟩ := h; rfl) | (obtain ⟨_, _, _, _, _, _, _, _, _, _, rfl, _⟩ := h; rfl) | (obtain ⟨_, _, _, _, _, _, _, _, _, _, _, rfl, _⟩ := h; rfl) | (obtain ⟨_, _, _, _, _, _, _, _, _, _, _, _, rfl, _⟩ := h; rfl)
  · exact (pss_cons (ps_if (pt_not (pt_val (pe_callD (dvs := []) (d__law_is_integer B) (hr.mono (by decide)) rfl passL (pa_cons (pv 0) pa_nil)))) (pss_one (ps_ret pe_bl)) pss_nil)
  (pss_cons (ps_set (i := 3) sc__law_floor.nd rfl (Or.inl rfl) (pe_op op_mulI (pe_ix ix_list (pv 1) pe_int (fun _ _ => rfl)) (pe_ix ix_list (pv 2) pe_int (fun _ _ => rfl))))
  (pss_cons (ps_set (i := 4) sc__law_floor.nd rfl (Or.inl rfl) (pe_op op_mulI (pe_ix ix_list (pv 1) pe_int (fun _ _ => rfl)) (pe_ix ix_list (pv 2) pe_int (fun _ _ => rfl))))
  (pss_cons (ps_if (pt_cmpR op_lt (pv 4) pe_int (nomark _)) (pss_cons (ps_set (i := 3) sc__law_floor.nd rfl (Or.inl rfl) (pe_un un_neg (pv 3)))
  (pss_one (ps_set (i := 4) sc__law_floor.nd rfl (Or.inl rfl) (pe_un un_neg (pv 4))))) pss_nil)
  (pss_one (ps_ret (pe_chain op_le op_lt (pe_op op_mulI (pv 0) (pv 4)) (pv 3) (pe_op op_mulI (pe_op op_add (pv 0) pe_int) (pv 4)))))))))
theorem d__law_floor (B : Bd K mg) : DefOk PySem.Challenge.pw_momentrows_k03_ratio_quotients_and_power w K mg base 2 "_law_floor" [] (spFloor K) := by
  obtain ⟨fd, F, G⟩ := fo__law_floor (w := w) (base := base) B
  exact ⟨_, fd, ["_law_q", "_law_a", "_law_b"], [], gl__law_floor B, F.kp, G, F.bindsN fun _ _ _ _ _ _ us hl => match us, hl with | [_, _, _], _ => rfl, .nil⟩
theorem fo__law_pair (B : Bd K mg) : ∃ fd, FunD K "_law_pair" "_law_pair" (defArgs s__law_pair) (defBody s__law_pair) (defScope s__law_pair) [] [] (He.ga K "_law_pair") fd ∧ FnOk PySem.Challenge.pw_momentrows_k03_ratio_quotients_and_power w K mg base (CXX PySem.Challenge.pw_momentrows_k03_ratio_quotients_and_power w) 3 (He.ga K "_law_pair") fd ["_law_feed_here", "_law_size"] (spPair K) := by
  obtain ⟨fd, F0⟩ := B.says.def_ 17 (d := dd__law_pair) rfl
  have F : FunD K "_law_pair" "_law_pair" (defArgs s__law_pair) (defBody s__law_pair) (defScope s__law_pair) [] [] (He.ga K "_law_pair") fd := F0
  refine ⟨fd, F, F.ok sc__law_pair (fun vs H Q E h => ?_) (fun cdv A outer s H vs Q E hr h => ⟨t__law_pair K, ?_, pure__law_pair vs H Q E h⟩)⟩
  · first | (obtain ⟨_, rfl, _⟩ := h; rfl) | (obtain ⟨_, _, rfl, _⟩ := h; rfl) | (obtain ⟨_, _, _, rfl, _⟩ := h; rfl) | (obtain ⟨_, _, _, _, rfl, _⟩ := h; rfl) | (obtain ⟨_, _, _, _, _, rfl, _⟩ := h; rfl) | (obtain ⟨_, _, _, _, _, _, rfl, _⟩ := h; rfl) | (obtain ⟨_, _, _, _, _, _, _, rfl, _⟩ := h; rfl) | (obtain ⟨_, _, _, _, _, _, _, _, rfl, _⟩ := h; rfl) | (obtain ⟨_, _, _, _, _, _, _, _, _, rfl, _⟩ := h; rfl) | (obtain ⟨_, _, _, _, _, _, _, _, _, _, rfl, _⟩ := h; rfl) | (obtain ⟨_, _, _, _, _, _, _, _, _, _, _, rfl, _⟩ := h; rfl) | (obtain ⟨_, _, _, _, _, _, _, _, _, _, _, _, rfl, _⟩ := h; rfl)
  · exact (pss_one (ps_ret (pe_lst (pa_cons (pe_callD (dvs := []) (d__law_number B) (hr.mono (by decide)) rfl passL (pa_cons (pv 0) (pa_cons (pv 1) pa_nil))) (pa_cons (pe_op op_add pe_int (pe_callD (dvs := []) (d__law_take B) (hr.mono (by decide)) rfl passL (pa_cons (pv 0) (pa_cons (pv 1) pa_nil)))) pa_nil)))))
theorem d__law_pair (B : Bd K mg) : DefOk PySem.Challenge.pw_momentrows_k03_ratio_quotients_and_power w K mg base 3 "_law_pair" [] (spPair K) := by
  obtain ⟨fd, F, G⟩ := fo__law_pair (w := w) (base := base) B
  exact ⟨_, fd, ["_law_feed_here", "_law_size"], [], gl__law_pair B, F.kp, G, F.bindsN fun _ _ _ _ _ _ us hl => match us, hl with | [_, _], _ => rfl, .nil⟩
theorem fo__law_rest (B : Bd K mg) : ∃ fd, FunD K "_law_rest" "_law_rest" (defArgs s__law_rest) (defBody s__law_rest) (defScope s__law_rest) [] [] (He.ga K "_law_rest") fd ∧ FnOk PySem.Challenge.pw_momentrows_k03_ratio_quotients_and_power w K mg base (CXX PySem.Challenge.pw_momentrows_k03_ratio_quotients_and_power w) 3 (He.ga K "_law_rest") fd ["_law_rest_here", "_law_q", "_law_a", "_law_b"] (spRest K) := by
  obtain ⟨fd, F0⟩ := B.says.def_ 21 (d := dd__law_rest) rfl
  have F : FunD K "_law_rest" "_law_rest" (defArgs s__law_rest) (defBody s__law_rest) (defScope s__law_rest) [] [] (He.ga K "_law_rest") fd := F0
  refine ⟨fd, F, F.ok sc__law_rest (fun vs H Q E h => ?_) (fun cdv A outer s H vs Q E hr h => ⟨t__law_rest K, ?_, pure__law_rest vs H Q E h⟩)⟩
  · first | (obtain ⟨_, rfl, _⟩ := h; rfl) | (obtain ⟨_, _, rfl, _⟩ := h; rfl) | (obtain ⟨_, _, _, rfl, _⟩ := h; rfl) | (obtain ⟨_, _, _, _, rfl, _⟩ := h; rfl) | (obtain ⟨_, _, _, _, _, rfl, _⟩ := h; rfl) | (obtain ⟨_, _, _, _, _, _, rfl, _⟩ := h; rfl) | (obtain ⟨_, _, _, _, _, _, _, rfl, _⟩ := h; rfl) | (obtain ⟨_, _, _, _, _, _, _, _, rfl, _⟩ := h; rfl) | (obtain ⟨_, _, _, _, _, _, _, _, _, rfl, _⟩ := h; rfl) | (obtain ⟨_, _, _, _, _, _, _, _, _, _, rfl, _⟩ := h; rfl) | (obtain ⟨_, _, _, _, _, _, _, _, _, _, _, rfl, _⟩ := h; rfl) | (obtain ⟨_, _, _, _, _, _, _, _, _, _, _, _, rfl, _⟩ := h; rfl)
  · exact (pss_one (ps_ret (pe_callD (dvs := []) (d__law_is B) (hr.mono (by decide)) rfl passL (pa_cons (pv 0) (pa_cons (pe_op op_sub (pe_op op_mulI (pe_ix ix_list (pv 2) pe_int (fun _ _ => rfl)) (pe_ix ix_list (pv 3) pe_int (fun _ _ => rfl))) (pe_op op_mulI (pe_op op_mulI (pe_ix ix_list (pv 3) pe_int (fun _ _ => rfl)) (pv 1)) (pe_ix ix_list (pv 2) pe_int (fun _ _ => rfl)))) (pa_cons (pe_op op_mulI (pe_ix ix_list (pv 2) pe_int (fun _ _ => rfl)) (pe_ix ix_list (pv 3) pe_int (fun _ _ => rfl))) pa_nil))))))
theorem d__law_rest (B : Bd K mg) : DefOk PySem.Challenge.pw_momentrows_k03_ratio_quotients_and_power w K mg base 3 "_law_rest" [] (spRest K) := by
  obtain ⟨fd, F, G⟩ := fo__law_rest (w := w) (base := base) B
  exact ⟨_, fd, ["_law_rest_here", "_law_q", "_law_a", "_law_b"], [], gl__law_rest B, F.kp, G, F.bindsN fun _ _ _ _ _ _ us hl => match us, hl with | [_, _, _, _], _ => rfl, .nil⟩
theorem fo__law_power (B : Bd K mg) : ∃ fd, FunD K "_law_power" "_law_power" (defArgs s__law_power) (defBody s__law_power) (defScope s__law_power) [] [] (He.ga K "_law_power") fd ∧ FnOk PySem.Challenge.pw_momentrows_k03_ratio_quotients_and_power w K mg base (CXX PySem.Challenge.pw_momentrows_k03_ratio_quotients_and_power w) 3 (He.ga K "_law_power") fd ["_law_value", "_law_a", "_law_k"] (spPower K) := by
  obtain ⟨fd, F0⟩ := B.says.def_ 22 (d := dd__law_power) rfl
  have F : FunD K "_law_power" "_law_power" (defArgs s__law_power) (defBody s__law_power) (defScope s__law_power) [] [] (He.ga K "_law_power") fd := F0
  refine ⟨fd, F, F.ok sc__law_power (fun vs H Q E h => ?_) (fun cdv A outer s H vs Q E hr h => ⟨t__law_power K, ?_, pure__law_power vs H Q E h⟩)⟩
  · first | (obtain ⟨_, rfl, _⟩ := h; rfl) | (obtain ⟨_, _, rfl, _⟩ := h; rfl) | (obtain ⟨_, _, _, rfl, _⟩ := h; rfl) | (obtain ⟨_, _, _, _, rfl, _⟩ := h; rfl) | (obtain ⟨_, _, _, _, _, rfl, _⟩ := h; rfl) | (obtain ⟨_, _, _, _, _, _, rfl, _⟩ := h; rfl) | (obtain ⟨_, _, _, _, _, _, _, rfl, _⟩ := h; rfl) | (obtain ⟨_, _, _, _, _, _, _, _, rfl, _⟩ := h; rfl) | (obtain ⟨_, _, _, _, _, _, _, _, _, rfl, _⟩ := h; rfl) | (obtain ⟨_, _, _, _, _, _, _, _, _, _, rfl, _⟩ := h; rfl) | (obtain ⟨_, _, _, _, _, _, _, _, _, _, _, rfl, _⟩ := h; rfl) | (obtain ⟨_, _, _, _, _, _, _, _, _, _, _, _, rfl, _⟩ := h; rfl)
  · exact (pss_cons (ps_set (i := 3) sc__law_power.nd rfl (Or.inl rfl) pe_int)
  (pss_cons (ps_set (i := 4) sc__law_power.nd rfl (Or.inl rfl) pe_int)
  (pss_cons (ps_for (passes_of rfl) rfl (pi_range1 (by rfl) (fr_range B) (pa_cons (pe_callB call_abs (by rfl) (fr_abs B) (by decide +kernel) (pa_cons (pv 2) pa_nil)) pa_nil)) (pg_name (i := 5) sc__law_power.nd rfl (Or.inl rfl)) (pss_cons (ps_set (i := 3) sc__law_power.nd rfl (Or.inl rfl) (pe_op op_mulI (pv 3) (pe_ix ix_list (pv 1) pe_int (fun _ _ => rfl))))
  (pss_one (ps_set (i := 4) sc__law_power.nd rfl (Or.inl rfl) (pe_op op_mulI (pv 4) (pe_ix ix_list (pv 1) pe_int (fun _ _ => rfl)))))))
  (pss_cons (ps_if (pt_cmpR op_lt (pv 2) pe_int (nomark _)) (pss_one (ps_ret (pe_callD (dvs := []) (d__law_is B) (hr.mono (by decide)) rfl passL (pa_cons (pv 0) (pa_cons (pv 4) (pa_cons (pv 3) pa_nil)))))) pss_nil)
  (pss_one (ps_ret (pe_callD (dvs := []) (d__law_is B) (hr.mono (by decide)) rfl passL (pa_cons (pv 0) (pa_cons (pv 3) (pa_cons (pv 4) pa_nil))))))))))
theorem d__law_power (B : Bd K mg) : DefOk PySem.Challenge.pw_momentrows_k03_ratio_quotients_and_power w K mg base 3 "_law_power" [] (spPower K) := by
  obtain ⟨fd, F, G⟩ := fo__law_power (w := w) (base := base) B
  exact ⟨_, fd, ["_law_value", "_law_a", "_law_k"], [], gl__law_power B, F.kp, G, F.bindsN fun _ _ _ _ _ _ us hl => match us, hl with | [_, _, _], _ => rfl, .nil⟩
theorem fo_power_of (B : Bd K mg) : ∃ fd, FunD K "power_of" "power_of" (defArgs s_power_of) (defBody s_power_of) (defScope s_power_of) [] [] (He.ga K "power_of") fd ∧ FnOk PySem.Challenge.pw_momentrows_k03_ratio_quotients_and_power w K mg base (CXX PySem.Challenge.pw_momentrows_k03_ratio_quotients_and_power w) 4 (He.ga K "power_of") fd ["ratio", "k"] (spPowerOf K) := by
  obtain ⟨fd, F0⟩ := B.says.def_ 5 (d := dd_power_of) rfl
  have F : FunD K "power_of" "power_of" (defArgs s_power_of) (defBody s_power_of) (defScope s_power_of) [] [] (He.ga K "power_of") fd := F0
  refine ⟨fd, F, F.ok sc_power_of (fun vs H Q E h => ?_) (fun cdv A outer s H vs Q E hr h => ⟨t_power_of K E, ?_, pure_power_of (RT2 B) vs H Q E h⟩)⟩
  · first | (obtain ⟨_, rfl, _⟩ := h; rfl) | (obtain ⟨_, _, rfl, _⟩ := h; rfl) | (obtain ⟨_, _, _, rfl, _⟩ := h; rfl) | (obtain ⟨_, _, _, _, rfl, _⟩ := h; rfl) | (obtain ⟨_, _, _, _, _, rfl, _⟩ := h; rfl) | (obtain ⟨_, _, _, _, _, _, rfl, _⟩ := h; rfl) | (obtain ⟨_, _, _, _, _, _, _, rfl, _⟩ := h; rfl) | (obtain ⟨_, _, _, _, _, _, _, _, rfl, _⟩ := h; rfl) | (obtain ⟨_, _, _, _, _, _, _, _, _, rfl, _⟩ := h; rfl) | (obtain ⟨_, _, _, _, _, _, _, _, _, _, rfl, _⟩ := h; rfl) | (obtain ⟨_, _, _, _, _, _, _, _, _, _, _, rfl, _⟩ := h; rfl) | (obtain ⟨_, _, _, _, _, _, _, _, _, _, _, _, rfl, _⟩ := h; rfl)
  · exact (pss_cons (ps_if (PW.pt (pw_or (pt_not (pt_val (pe_callD (dvs := []) (d_is_integer B) (hr.mono (by decide)) rfl passL (pa_cons (pv 1) pa_nil)))) (pw_or1 (pt_not (pt_chain op_le op_le (pe_un un_neg pe_int) (pv 1) pe_int))))) (pss_one (ps_raiseS rfl (sup_NoRatio B) pn_word (gl_NoRatio B) hr (takes_of rfl rfl rfl rfl) (pa_cons pe_str pa_nil))) pss_nil)
  (pss_cons (ps_if (pt_cmpR op_ge (pv 1) pe_int (nomark _)) (pss_one (ps_ret (pe_makeD (dvs := []) (d_Ratio_init_0 B) (hr.mono (by decide)) rfl (pass_on (takes_of rfl rfl rfl rfl) fun _ _ _ _ z => z) (pa_cons (pe_callD (dvs := []) (d_whole_power B) (hr.mono (by decide)) rfl passL (pa_cons (pe_fld (pv 0) rfl) (pa_cons (pv 1) pa_nil))) (pa_cons (pe_callD (dvs := []) (d_whole_power B) (hr.mono (by decide)) rfl passL (pa_cons (pe_fld (pv 0) rfl) (pa_cons (pv 1) pa_nil))) pa_nil))))) pss_nil)
  (pss_cons (ps_if (pt_cmpR op_eq (pe_fld (pv 0) rfl) pe_int (nomark _)) (pss_one (ps_raiseS rfl (sup_NoRatio B) pn_word (gl_NoRatio B) hr (takes_of rfl rfl rfl rfl) (pa_cons pe_str pa_nil))) pss_nil)
  (pss_one (ps_ret (pe_makeD (dvs := []) (d_Ratio_init_0 B) (hr.mono (by decide)) rfl (pass_on (takes_of rfl rfl rfl rfl) fun _ _ _ _ z => z) (pa_cons (pe_callD (dvs := []) (d_whole_power B) (hr.mono (by decide)) rfl passL (pa_cons (pe_fld (pv 0) rfl) (pa_cons (pe_un un_neg (pv 1)) pa_nil))) (pa_cons (pe_callD (dvs := []) (d_whole_power B) (hr.mono (by decide)) rfl passL (pa_cons (pe_fld (pv 0) rfl) (pa_cons (pe_un un_neg (pv 1)) pa_nil))) pa_nil))))))))
theorem d_power_of (B : Bd K mg) : DefOk PySem.Challenge.pw_momentrows_k03_ratio_quotients_and_power w K mg base 4 "power_of" [] (spPowerOf K) := by
  obtain ⟨fd, F, G⟩ := fo_power_of (w := w) (base := base) B
  exact ⟨_, fd, ["ratio", "k"], [], gl_power_of B, F.kp, G, F.bindsN fun _ _ _ _ _ _ us hl => match us, hl with | [_, _], _ => rfl, .nil⟩
theorem fo_Ratio_mod (B : Bd K mg) : ∃ fd, FunD K "__mod__" "Ratio.__mod__" (defArgs s_Ratio_mod) (defBody s_Ratio_mod) (defScope s_Ratio_mod) [] [] (He.ma K (He.ga K "Ratio") "__mod__") fd ∧ FnOk PySem.Challenge.pw_momentrows_k03_ratio_quotients_and_power w K mg base (CXX PySem.Challenge.pw_momentrows_k03_ratio_quotients_and_power w) 4 (He.ma K (He.ga K "Ratio") "__mod__") fd ["self", "other"] (spRMod K) := by
  obtain ⟨fd, F0⟩ := B.says.def_ 7 (d := dd_Ratio_mod) rfl
  have F : FunD K "__mod__" "Ratio.__mod__" (defArgs s_Ratio_mod) (defBody s_Ratio_mod) (defScope s_Ratio_mod) [] [] (He.ma K (He.ga K "Ratio") "__mod__") fd := F0
  refine ⟨fd, F, F.ok sc_Ratio_mod (fun vs H Q E h => ?_) (fun cdv A outer s H vs Q E hr h => ⟨t_Ratio_mod K E, ?_, pure_Ratio_mod (RT2 B) vs H Q E h⟩)⟩
  · first | (obtain ⟨_, rfl, _⟩ := h; rfl) | (obtain ⟨_, _, rfl, _⟩ := h; rfl) | (obtain ⟨_, _, _, rfl, _⟩ := h; rfl) | (obtain ⟨_, _, _, _, rfl, _⟩ := h; rfl) | (obtain ⟨_, _, _, _, _, rfl, _⟩ := h; rfl) | (obtain ⟨_, _, _, _, _, _, rfl, _⟩ := h; rfl) | (obtain ⟨_, _, _, _, _, _, _, rfl, _⟩ := h; rfl) | (obtain ⟨_, _, _, _, _, _, _, _, rfl, _⟩ := h; rfl) | (obtain ⟨_, _, _, _, _, _, _, _, _, rfl, _⟩ := h; rfl) | (obtain ⟨_, _, _, _, _, _, _, _, _, _, rfl, _⟩ := h; rfl) | (obtain ⟨_, _, _, _, _, _, _, _, _, _, _, rfl, _⟩ := h; rfl) | (obtain ⟨_, _, _, _, _, _, _, _, _, _, _, _, rfl, _⟩ := h; rfl)
  · exact (pss_cons (ps_if (pt_val (pe_callB call_isi (by rfl) (fr_isinstance B) (by decide +kernel) (pa_cons (pv 1) (pa_cons (pe_glob (v := .ref (He.ga K "Ratio")) (by rfl) (gl_Ratio B) rfl) pa_nil)))) (pss_cons (ps_set (i := 2) sc_Ratio_mod.nd rfl (Or.inl rfl) (pe_callD (dvs := []) (d_floor_of B) (hr.mono (by decide)) rfl (pass_on (takes_of rfl rfl rfl rfl) fun _ _ _ _ z => z) (pa_cons (pe_op op_mulI (pe_fld (pv 0) rfl) (pe_fld (pv 1) rfl)) (pa_cons (pe_op op_mulI (pe_fld (pv 0) rfl) (pe_fld (pv 1) rfl)) pa_nil))))
  (pss_one (ps_ret (pe_makeD (dvs := []) (d_Ratio_init_0 B) (hr.mono (by decide)) rfl (pass_on (takes_of rfl rfl rfl rfl) fun _ _ _ _ z => z) (pa_cons (pe_op op_sub (pe_op op_mulI (pe_fld (pv 0) rfl) (pe_fld (pv 1) rfl)) (pe_op op_mulI (pe_op op_mulI (pv 2) (pe_fld (pv 1) rfl)) (pe_fld (pv 0) rfl))) (pa_cons (pe_op op_mulI (pe_fld (pv 0) rfl) (pe_fld (pv 1) rfl)) pa_nil)))))) pss_nil)
  (pss_cons (ps_if (pt_val (pe_callD (dvs := []) (d_is_integer B) (hr.mono (by decide)) rfl passL (pa_cons (pv 1) pa_nil))) (pss_cons (ps_set (i := 2) sc_Ratio_mod.nd rfl (Or.inl rfl) (pe_callD (dvs := []) (d_floor_of B) (hr.mono (by decide)) rfl (pass_on (takes_of rfl rfl rfl rfl) fun _ _ _ _ z => z) (pa_cons (pe_fld (pv 0) rfl) (pa_cons (pe_op op_mulI (pe_fld (pv 0) rfl) (pv 1)) pa_nil))))
  (pss_one (ps_ret (pe_makeD (dvs := []) (d_Ratio_init_0 B) (hr.mono (by decide)) rfl (pass_on (takes_of rfl rfl rfl rfl) fun _ _ _ _ z => z) (pa_cons (pe_op op_sub (pe_fld (pv 0) rfl) (pe_op op_mulI (pe_op op_mulI (pv 2) (pv 1)) (pe_fld (pv 0) rfl))) (pa_cons (pe_fld (pv 0) rfl) pa_nil)))))) pss_nil)
  (pss_one ps_never)))
theorem d_Ratio_mod (B : Bd K mg) : MethOk PySem.Challenge.pw_momentrows_k03_ratio_quotients_and_power w K mg base 4 (He.ga K "Ratio") "__mod__" [] (spRMod K) := by
  obtain ⟨fd, F, G⟩ := fo_Ratio_mod (w := w) (base := base) B
  exact ⟨_, fd, ["self", "other"], [], (own_Ratio B).cl, He.meth_ok (B.says.fact 31 rfl), G, F.bindsN fun _ _ _ _ _ _ us hl => match us, hl with | [_, _], _ => rfl, .nil⟩
theorem fo_Ratio_rmod (B : Bd K mg) : ∃ fd, FunD K "__rmod__" "Ratio.__rmod__" (defArgs s_Ratio_rmod) (defBody s_Ratio_rmod) (defScope s_Ratio_rmod) [] [] (He.ma K (He.ga K "Ratio") "__rmod__") fd ∧ FnOk PySem.Challenge.pw_momentrows_k03_ratio_quotients_and_power w K mg base (CXX PySem.Challenge.pw_momentrows_k03_ratio_quotients_and_power w) 4 (He.ma K (He.ga K "Ratio") "__rmod__") fd ["self", "other"] (spRRmod K) := by
  obtain ⟨fd, F0⟩ := B.says.def_ 9 (d := dd_Ratio_rmod) rfl
  have F : FunD K "__rmod__" "Ratio.__rmod__" (defArgs s_Ratio_rmod) (defBody s_Ratio_rmod) (defScope s_Ratio_rmod) [] [] (He.ma K (He.ga K "Ratio") "__rmod__") fd := F0
  refine ⟨fd, F, F.ok sc_Ratio_rmod (fun vs H Q E h => ?_) (fun cdv A outer s H vs Q E hr h => ⟨t_Ratio_rmod K E, ?_, pure_Ratio_rmod (RT2 B) vs H Q E h⟩)⟩
  · first | (obtain ⟨_, rfl, _⟩ := h; rfl) | (obtain ⟨_, _, rfl, _⟩ := h; rfl) | (obtain ⟨_, _, _, rfl, _⟩ := h; rfl) | (obtain ⟨_, _, _, _, rfl, _⟩ := h; rfl) | (obtain ⟨_, _, _, _, _, rfl, _⟩ := h; rfl) | (obtain ⟨_, _, _, _, _, _, rfl, _⟩ := h; rfl) | (obtain ⟨_, _, _, _, _, _, _, rfl, _⟩ := h; rfl) | (obtain ⟨_, _, _, _, _, _, _, _, rfl, _⟩ := h; rfl) | (obtain ⟨_, _, _, _, _, _, _, _, _, rfl, _⟩ := h; rfl) | (obtain ⟨_, _, _, _, _, _, _, _, _, _, rfl, _⟩ := h; rfl) | (obtain ⟨_, _, _, _, _, _, _, _, _, _, _, rfl, _⟩ := h; rfl) | (obtain ⟨_, _, _, _, _, _, _, _, _, _, _, _, rfl, _⟩ := h; rfl)
  · exact (pss_cons (ps_if (pt_val (pe_callD (dvs := []) (d_is_integer B) (hr.mono (by decide)) rfl passL (pa_cons (pv 1) pa_nil))) (pss_cons (ps_set (i := 2) sc_Ratio_rmod.nd rfl (Or.inl rfl) (pe_callD (dvs := []) (d_floor_of B) (hr.mono (by decide)) rfl (pass_on (takes_of rfl rfl rfl rfl) fun _ _ _ _ z => z) (pa_cons (pe_op op_mulI (pv 1) (pe_fld (pv 0) rfl)) (pa_cons (pe_fld (pv 0) rfl) pa_nil))))
  (pss_one (ps_ret (pe_makeD (dvs := []) (d_Ratio_init_0 B) (hr.mono (by decide)) rfl (pass_on (takes_of rfl rfl rfl rfl) fun _ _ _ _ z => z) (pa_cons (pe_op op_sub (pe_op op_mulI (pv 1) (pe_fld (pv 0) rfl)) (pe_op op_mulI (pv 2) (pe_fld (pv 0) rfl))) (pa_cons (pe_fld (pv 0) rfl) pa_nil)))))) pss_nil)
  (pss_one ps_never))
theorem d_Ratio_rmod (B : Bd K mg) : MethOk PySem.Challenge.pw_momentrows_k03_ratio_quotients_and_power w K mg base 4 (He.ga K "Ratio") "__rmod__" [] (spRRmod K) := by
  obtain ⟨fd, F, G⟩ := fo_Ratio_rmod (w := w) (base := base) B
  exact ⟨_, fd, ["self", "other"], [], (own_Ratio B).cl, He.meth_ok (B.says.fact 33 rfl), G, F.bindsN fun _ _ _ _ _ _ us hl => match us, hl with | [_, _], _ => rfl, .nil⟩
theorem fo_Ratio_over (B : Bd K mg) : ∃ fd, FunD K "over" "Ratio.over" (defArgs s_Ratio_over) (defBody s_Ratio_over) (defScope s_Ratio_over) [] [] (He.ma K (He.ga K "Ratio") "over") fd ∧ FnOk PySem.Challenge.pw_momentrows_k03_ratio_quotients_and_power w K mg base (CXX PySem.Challenge.pw_momentrows_k03_ratio_quotients_and_power w) 4 (He.ma K (He.ga K "Ratio") "over") fd ["self", "other"] (spOver K) := by
  obtain ⟨fd, F0⟩ := B.says.def_ 12 (d := dd_Ratio_over) rfl
  have F : FunD K "over" "Ratio.over" (defArgs s_Ratio_over) (defBody s_Ratio_over) (defScope s_Ratio_over) [] [] (He.ma K (He.ga K "Ratio") "over") fd := F0
  refine ⟨fd, F, F.ok sc_Ratio_over (fun vs H Q E h => ?_) (fun cdv A outer s H vs Q E hr h => ⟨t_Ratio_over K E, ?_, pure_Ratio_over (RT2 B) vs H Q E h⟩)⟩
  · first | (obtain ⟨_, rfl, _⟩ := h; rfl) | (obtain ⟨_, _, rfl, _⟩ := h; rfl) | (obtain ⟨_, _, _, rfl, _⟩ := h; rfl) | (obtain ⟨_, _, _, _, rfl, _⟩ := h; rfl) | (obtain ⟨_, _, _, _, _, rfl, _⟩ := h; rfl) | (obtain ⟨_, _, _, _, _, _, rfl, _⟩ := h; rfl) | (obtain ⟨_, _, _, _, _, _, _, rfl, _⟩ := h; rfl) | (obtain ⟨_, _, _, _, _, _, _, _, rfl, _⟩ := h; rfl) | (obtain ⟨_, _, _, _, _, _, _, _, _, rfl, _⟩ := h; rfl) | (obtain ⟨_, _, _, _, _, _, _, _, _, _, rfl, _⟩ := h; rfl) | (obtain ⟨_, _, _, _, _, _, _, _, _, _, _, rfl, _⟩ := h; rfl) | (obtain ⟨_, _, _, _, _, _, _, _, _, _, _, _, rfl, _⟩ := h; rfl)
  · exact (pss_cons (ps_set (i := 2) sc_Ratio_over.nd rfl (Or.inl rfl) (pe_ifExp (pt_val (pe_callB call_isi (by rfl) (fr_isinstance B) (by decide +kernel) (pa_cons (pv 1) (pa_cons (pe_glob (v := .ref (He.ga K "Ratio")) (by rfl) (gl_Ratio B) rfl) pa_nil)))) (pv 1) (pe_makeD (dvs := [.int 1]) (d_Ratio_init_1 B) (hr.mono (by decide)) rfl (pass_on (takes_of rfl rfl rfl rfl) fun _ _ _ _ z => z) (pa_cons (pv 1) pa_nil))))
  (pss_cons (ps_if (pt_cmpR op_eq (pe_fld (pv 2) rfl) pe_int (nomark _)) (pss_one (ps_raiseS rfl (sup_NoRatio B) pn_word (gl_NoRatio B) hr (takes_of rfl rfl rfl rfl) (pa_cons pe_str pa_nil))) pss_nil)
  (pss_one (ps_ret (pe_makeD (dvs := []) (d_Ratio_init_0 B) (hr.mono (by decide)) rfl (pass_on (takes_of rfl rfl rfl rfl) fun _ _ _ _ z => z) (pa_cons (pe_op op_mulI (pe_fld (pv 0) rfl) (pe_fld (pv 2) rfl)) (pa_cons (pe_op op_mulI (pe_fld (pv 0) rfl) (pe_fld (pv 2) rfl)) pa_nil)))))))
theorem d_Ratio_over (B : Bd K mg) : MethOk PySem.Challenge.pw_momentrows_k03_ratio_quotients_and_power w K mg base 4 (He.ga K "Ratio") "over" [] (spOver K) := by
  obtain ⟨fd, F, G⟩ := fo_Ratio_over (w := w) (base := base) B
  exact ⟨_, fd, ["self", "other"], [], (own_Ratio B).cl, He.meth_ok (B.says.fact 36 rfl), G, F.bindsN fun _ _ _ _ _ _ us hl => match us, hl with | [_, _], _ => rfl, .nil⟩
theorem fo_Ratio_pow (B : Bd K mg) : ∃ fd, FunD K "__pow__" "Ratio.__pow__" (defArgs s_Ratio_pow) (defBody s_Ratio_pow) (defScope s_Ratio_pow) [] [] (He.ma K (He.ga K "Ratio") "__pow__") fd ∧ FnOk PySem.Challenge.pw_momentrows_k03_ratio_quotients_and_power w K mg base (CXX PySem.Challenge.pw_momentrows_k03_ratio_quotients_and_power w) 5 (He.ma K (He.ga K "Ratio") "__pow__") fd ["self", "k"] (spPowerOf K) := by
  obtain ⟨fd, F0⟩ := B.says.def_ 10 (d := dd_Ratio_pow) rfl
  have F : FunD K "__pow__" "Ratio.__pow__" (defArgs s_Ratio_pow) (defBody s_Ratio_pow) (defScope s_Ratio_pow) [] [] (He.ma K (He.ga K "Ratio") "__pow__") fd := F0
  refine ⟨fd, F, F.ok sc_Ratio_pow (fun vs H Q E h => ?_) (fun cdv A outer s H vs Q E hr h => ⟨t_Ratio_pow K E, ?_, pure_Ratio_pow (RT2 B) vs H Q E h⟩)⟩
  · first | (obtain ⟨_, rfl, _⟩ := h; rfl) | (obtain ⟨_, _, rfl, _⟩ := h; rfl) | (obtain ⟨_, _, _, rfl, _⟩ := h; rfl) | (obtain ⟨_, _, _, _, rfl, _⟩ := h; rfl) | (obtain ⟨_, _, _, _, _, rfl, _⟩ := h; rfl) | (obtain ⟨_, _, _, _, _, _, rfl, _⟩ := h; rfl) | (obtain ⟨_, _, _, _, _, _, _, rfl, _⟩ := h; rfl) | (obtain ⟨_, _, _, _, _, _, _, _, rfl, _⟩ := h; rfl) | (obtain ⟨_, _, _, _, _, _, _, _, _, rfl, _⟩ := h; rfl) | (obtain ⟨_, _, _, _, _, _, _, _, _, _, rfl, _⟩ := h; rfl) | (obtain ⟨_, _, _, _, _, _, _, _, _, _, _, rfl, _⟩ := h; rfl) | (obtain ⟨_, _, _, _, _, _, _, _, _, _, _, _, rfl, _⟩ := h; rfl)
  · exact (pss_one (ps_ret (pe_callD (dvs := []) (d_power_of B) (hr.mono (by decide)) rfl (pass_on (takes_of rfl rfl rfl rfl) fun _ _ _ _ z => z) (pa_cons (pv 0) (pa_cons (pv 1) pa_nil)))))
theorem d_Ratio_pow (B : Bd K mg) : MethOk PySem.Challenge.pw_momentrows_k03_ratio_quotients_and_power w K mg base 5 (He.ga K "Ratio") "__pow__" [] (spPowerOf K) := by
  obtain ⟨fd, F, G⟩ := fo_Ratio_pow (w := w) (base := base) B
  exact ⟨_, fd, ["self", "k"], [], (own_Ratio B).cl, He.meth_ok (B.says.fact 34 rfl), G, F.bindsN fun _ _ _ _ _ _ us hl => match us, hl with | [_, _], _ => rfl, .nil⟩
theorem fo_Ratio_power (B : Bd K mg) : ∃ fd, FunD K "power" "Ratio.power" (defArgs s_Ratio_power) (defBody s_Ratio_power) (defScope s_Ratio_power) [] [] (He.ma K (He.ga K "Ratio") "power") fd ∧ FnOk PySem.Challenge.pw_momentrows_k03_ratio_quotients_and_power w K mg base (CXX PySem.Challenge.pw_momentrows_k03_ratio_quotients_and_power w) 5 (He.ma K (He.ga K "Ratio") "power") fd ["self", "k"] (spPowerOf K) := by
  obtain ⟨fd, F0⟩ := B.says.def_ 11 (d := dd_Ratio_power) rfl
  have F : FunD K "power" "Ratio.power" (defArgs s_Ratio_power) (defBody s_Ratio_power) (defScope s_Ratio_power) [] [] (He.ma K (He.ga K "Ratio") "power") fd := F0
  refine ⟨fd, F, F.ok sc_Ratio_power (fun vs H Q E h => ?_) (fun cdv A outer s H vs Q E hr h => ⟨t_Ratio_power K E, ?_, pure_Ratio_power (RT2 B) vs H Q E h⟩)⟩
  · first | (obtain ⟨_, rfl, _⟩ := h; rfl) | (obtain ⟨_, _, rfl, _⟩ := h; rfl) | (obtain ⟨_, _, _, rfl, _⟩ := h; rfl) | (obtain ⟨_, _, _, _, rfl, _⟩ := h; rfl) | (obtain ⟨_, _, _, _, _, rfl, _⟩ := h; rfl) | (obtain ⟨_, _, _, _, _, _, rfl, _⟩ := h; rfl) | (obtain ⟨_, _, _, _, _, _, _, rfl, _⟩ := h; rfl) | (obtain ⟨_, _, _, _, _, _, _, _, rfl, _⟩ := h; rfl) | (obtain ⟨_, _, _, _, _, _, _, _, _, rfl, _⟩ := h; rfl) | (obtain ⟨_, _, _, _, _, _, _, _, _, _, rfl, _⟩ := h; rfl) | (obtain ⟨_, _, _, _, _, _, _, _, _, _, _, rfl, _⟩ := h; rfl) | (obtain ⟨_, _, _, _, _, _, _, _, _, _, _, _, rfl, _⟩ := h; rfl)
  · exact (pss_one (ps_ret (pe_callD (dvs := []) (d_power_of B) (hr.mono (by decide)) rfl (pass_on (takes_of rfl rfl rfl rfl) fun _ _ _ _ z => z) (pa_cons (pv 0) (pa_cons (pv 1) pa_nil)))))
theorem d_Ratio_power (B : Bd K mg) : MethOk PySem.Challenge.pw_momentrows_k03_ratio_quotients_and_power w K mg base 5 (He.ga K "Ratio") "power" [] (spPowerOf K) := by
  obtain ⟨fd, F, G⟩ := fo_Ratio_power (w := w) (base := base) B
  exact ⟨_, fd, ["self", "k"], [], (own_Ratio B).cl, He.meth_ok (B.says.fact 35 rfl), G, F.bindsN fun _ _ _ _ _ _ us hl => match us, hl with | [_, _], _ => rfl, .nil⟩
theorem fo__law_powers (B : Bd K mg) (TB : ∀ p ∈ lamC K lamTs, LamX.TabB base mg p.1 p.2) : ∃ fd, FunD K "_law_powers" "_law_powers" (defArgs s__law_powers) (defBody s__law_powers) (defScope s__law_powers) [] [] (He.ga K "_law_powers") fd ∧ FnOk PySem.Challenge.pw_momentrows_k03_ratio_quotients_and_power w K mg base (CXX PySem.Challenge.pw_momentrows_k03_ratio_quotients_and_power w) 9 (He.ga K "_law_powers") fd ["_law_one", "_law_a", "_law_k"] (spPowers K) := by
  obtain ⟨fd, F0⟩ := B.says.def_ 23 (d := dd__law_powers) rfl
  have F : FunD K "_law_powers" "_law_powers" (defArgs s__law_powers) (defBody s__law_powers) (defScope s__law_powers) [] [] (He.ga K "_law_powers") fd := F0
  refine ⟨fd, F, okC F (B.says.fact 38 rfl) sc__law_powers (fun vs H Q E h => ?_) (fun A outer s H vs Q E hr h => ⟨t__law_powers K, ?_, pure__law_powers vs H Q E h⟩)⟩
  · first | (obtain ⟨_, rfl, _⟩ := h; rfl) | (obtain ⟨_, _, rfl, _⟩ := h; rfl) | (obtain ⟨_, _, _, rfl, _⟩ := h; rfl) | (obtain ⟨_, _, _, _, rfl, _⟩ := h; rfl) | (obtain ⟨_, _, _, _, _, rfl, _⟩ := h; rfl) | (obtain ⟨_, _, _, _, _, _, rfl, _⟩ := h; rfl) | (obtain ⟨_, _, _, _, _, _, _, rfl, _⟩ := h; rfl) | (obtain ⟨_, _, _, _, _, _, _, _, rfl, _⟩ := h; rfl) | (obtain ⟨_, _, _, _, _, _, _, _, _, rfl, _⟩ := h; rfl) | (obtain ⟨_, _, _, _, _, _, _, _, _, _, rfl, _⟩ := h; rfl) | (obtain ⟨_, _, _, _, _, _, _, _, _, _, _, rfl, _⟩ := h; rfl) | (obtain ⟨_, _, _, _, _, _, _, _, _, _, _, _, rfl, _⟩ := h; rfl)
  · exact (pss_cons (ps_if (PW.pt (pw_or (pt_cmpR op_lt (pv 2) (pe_un un_neg pe_int) (nomark _)) (pw_or1 (pt_cmpR op_gt (pv 2) pe_int (nomark _))))) (pss_one (ps_ret (pe_cmpR op_eq (pw__law_word (k := 6) B TB (x0 := "_law_powers") (.head _) rfl rfl rfl rfl rfl (hr.mono (by decide)) (LamX.lamS_by (sc := defScope s__law_powers) (by decide +kernel)) (fun A outer s H E f c' hr => (pe_methD (pv 0) (d_Ratio_power B) (hr.mono (by decide)) (pass_on (takes_of rfl rfl rfl rfl) fun _ _ _ _ z => z) (pa_cons (pv 2) pa_nil))) rfl) pe_str (nomark _)))) pss_nil)
  (pss_cons (ps_if (PW.pt (pw_and (pt_cmpR op_lt (pv 2) pe_int (nomark _)) (pw_and1 (pt_cmpR op_eq (pe_ix ix_list (pv 1) pe_int (fun _ _ => rfl)) pe_int (nomark _))))) (pss_one (ps_ret (pe_cmpR op_eq (pw__law_word (k := 6) B TB (x0 := "_law_powers") (.head _) rfl rfl rfl rfl rfl (hr.mono (by decide)) (LamX.lamS_by (sc := defScope s__law_powers) (by decide +kernel)) (fun A outer s H E f c' hr => (pe_methD (pv 0) (d_Ratio_power B) (hr.mono (by decide)) (pass_on (takes_of rfl rfl rfl rfl) fun _ _ _ _ z => z) (pa_cons (pv 2) pa_nil))) rfl) pe_str (nomark _)))) pss_nil)
  (pss_one (ps_ret (pe_callD (dvs := []) (d__law_power B) (hr.mono (by decide)) rfl passL (pa_cons (pe_methD (pv 0) (d_Ratio_power B) (hr.mono (by decide)) passL (pa_cons (pv 2) pa_nil)) (pa_cons (pv 1) (pa_cons (pv 2) pa_nil))))))))
theorem d__law_powers (B : Bd K mg) (TB : ∀ p ∈ lamC K lamTs, LamX.TabB base mg p.1 p.2) : DefOk PySem.Challenge.pw_momentrows_k03_ratio_quotients_and_power w K mg base 9 "_law_powers" [] (spPowers K) := by
  obtain ⟨fd, F, G⟩ := fo__law_powers (w := w) (base := base) B TB
  exact ⟨_, fd, ["_law_one", "_law_a", "_law_k"], [], gl__law_powers B, F.kp, G, F.bindsN fun _ _ _ _ _ _ us hl => match us, hl with | [_, _, _], _ => rfl, .nil⟩
theorem fo__law_zero (B : Bd K mg) (TB : ∀ p ∈ lamC K lamTs, LamX.TabB base mg p.1 p.2) : ∃ fd, FunD K "_law_zero" "_law_zero" (defArgs s__law_zero) (defBody s__law_zero) (defScope s__law_zero) [] [] (He.ga K "_law_zero") fd ∧ FnOk PySem.Challenge.pw_momentrows_k03_ratio_quotients_and_power w K mg base (CXX PySem.Challenge.pw_momentrows_k03_ratio_quotients_and_power w) 9 (He.ga K "_law_zero") fd ["_law_one", "_law_other"] (spZero K) := by
  obtain ⟨fd, F0⟩ := B.says.def_ 24 (d := dd__law_zero) rfl
  have F : FunD K "_law_zero" "_law_zero" (defArgs s__law_zero) (defBody s__law_zero) (defScope s__law_zero) [] [] (He.ga K "_law_zero") fd := F0
  refine ⟨fd, F, okC F (B.says.fact 39 rfl) sc__law_zero (fun vs H Q E h => ?_) (fun A outer s H vs Q E hr h => ⟨t__law_zero K, ?_, pure__law_zero vs H Q E h⟩)⟩
  · first | (obtain ⟨_, rfl, _⟩ := h; rfl) | (obtain ⟨_, _, rfl, _⟩ := h; rfl) | (obtain ⟨_, _, _, rfl, _⟩ := h; rfl) | (obtain ⟨_, _, _, _, rfl, _⟩ := h; rfl) | (obtain ⟨_, _, _, _, _, rfl, _⟩ := h; rfl) | (obtain ⟨_, _, _, _, _, _, rfl, _⟩ := h; rfl) | (obtain ⟨_, _, _, _, _, _, _, rfl, _⟩ := h; rfl) | (obtain ⟨_, _, _, _, _, _, _, _, rfl, _⟩ := h; rfl) | (obtain ⟨_, _, _, _, _, _, _, _, _, rfl, _⟩ := h; rfl) | (obtain ⟨_, _, _, _, _, _, _, _, _, _, rfl, _⟩ := h; rfl) | (obtain ⟨_, _, _, _, _, _, _, _, _, _, _, rfl, _⟩ := h; rfl) | (obtain ⟨_, _, _, _, _, _, _, _, _, _, _, _, rfl, _⟩ := h; rfl)
  · exact (pss_cons (ps_set (i := 2) sc__law_zero.nd rfl (Or.inl rfl) (pe_lst (pa_cons (pw__law_word (k := 6) B TB (x0 := "_law_zero") (.tail _ (.head _)) rfl rfl rfl rfl rfl (hr.mono (by decide)) (LamX.lamS_by (sc := defScope s__law_zero) (by decide +kernel)) (fun A outer s H E f c' hr => (pe_op (op_own "floordiv" (d_Ratio_floordiv B) (oc_Ratio_floordiv B) (hr.mono (by decide)) (pass_on (takes_of rfl rfl rfl rfl) fun _ _ _ _ z => z)) (pv 0) (pv 1))) rfl) pa_nil)))
  (pss_cons (ps_expr (pe_bm PySem.F.plainAttrs_list PySem.F.slot_list_append PySem.F.type_list_append mt_append (pv 2) (pa_cons (pw__law_word (k := 6) B TB (x0 := "_law_zero") (.tail _ (.head _)) rfl rfl rfl rfl rfl (hr.mono (by decide)) (LamX.lamS_by (sc := defScope s__law_zero) (by decide +kernel)) (fun A outer s H E f c' hr => (pe_op (op_own "mod" (d_Ratio_mod B) (oc_Ratio_mod B) (hr.mono (by decide)) (pass_on (takes_of rfl rfl rfl rfl) fun _ _ _ _ z => z)) (pv 0) (pv 1))) rfl) pa_nil)))
  (pss_cons (ps_expr (pe_bm PySem.F.plainAttrs_list PySem.F.slot_list_append PySem.F.type_list_append mt_append (pv 2) (pa_cons (pw__law_word (k := 6) B TB (x0 := "_law_zero") (.tail _ (.head _)) rfl rfl rfl rfl rfl (hr.mono (by decide)) (LamX.lamS_by (sc := defScope s__law_zero) (by decide +kernel)) (fun A outer s H E f c' hr => (pe_methD (pv 0) (d_Ratio_over B) (hr.mono (by decide)) (pass_on (takes_of rfl rfl rfl rfl) fun _ _ _ _ z => z) (pa_cons (pv 1) pa_nil))) rfl) pa_nil)))
  (pss_cons (ps_expr (pe_bm PySem.F.plainAttrs_list PySem.F.slot_list_append PySem.F.type_list_append mt_append (pv 2) (pa_cons (pw__law_word (k := 6) B TB (x0 := "_law_zero") (.tail _ (.head _)) rfl rfl rfl rfl rfl (hr.mono (by decide)) (LamX.lamS_by (sc := defScope s__law_zero) (by decide +kernel)) (fun A outer s H E f c' hr => (pe_op (op_own "floordiv" (d_Ratio_floordiv B) (oc_Ratio_floordiv B) (hr.mono (by decide)) (pass_on (takes_of rfl rfl rfl rfl) fun _ _ _ _ z => z)) (pv 0) pe_int)) rfl) pa_nil)))
  (pss_cons (ps_expr (pe_bm PySem.F.plainAttrs_list PySem.F.slot_list_append PySem.F.type_list_append mt_append (pv 2) (pa_cons (pw__law_word (k := 6) B TB (x0 := "_law_zero") (.tail _ (.head _)) rfl rfl rfl rfl rfl (hr.mono (by decide)) (LamX.lamS_by (sc := defScope s__law_zero) (by decide +kernel)) (fun A outer s H E f c' hr => (pe_op (op_own "mod" (d_Ratio_mod B) (oc_Ratio_mod B) (hr.mono (by decide)) (pass_on (takes_of rfl rfl rfl rfl) fun _ _ _ _ z => z)) (pv 0) pe_int)) rfl) pa_nil)))
  (pss_cons (ps_expr (pe_bm PySem.F.plainAttrs_list PySem.F.slot_list_append PySem.F.type_list_append mt_append (pv 2) (pa_cons (pw__law_word (k := 6) B TB (x0 := "_law_zero") (.tail _ (.head _)) rfl rfl rfl rfl rfl (hr.mono (by decide)) (LamX.lamS_by (sc := defScope s__law_zero) (by decide +kernel)) (fun A outer s H E f c' hr => (pe_methD (pv 0) (d_Ratio_over B) (hr.mono (by decide)) (pass_on (takes_of rfl rfl rfl rfl) fun _ _ _ _ z => z) (pa_cons pe_int pa_nil))) rfl) pa_nil)))
  (pss_cons (ps_expr (pe_bm PySem.F.plainAttrs_list PySem.F.slot_list_append PySem.F.type_list_append mt_append (pv 2) (pa_cons (pw__law_word (k := 6) B TB (x0 := "_law_zero") (.tail _ (.head _)) rfl rfl rfl rfl rfl (hr.mono (by decide)) (LamX.lamS_by (sc := defScope s__law_zero) (by decide +kernel)) (fun A outer s H E f c' hr => (pe_op (op_refl "floordiv" (d_Ratio_rfloordiv B) (d_Ratio_floordiv B) (oc_Ratio_floordiv B) decl_floordiv PySem.F.fills_int_floordiv (hr.mono (by decide)) (pass_on (takes_of rfl rfl rfl rfl) fun _ _ _ _ z => z)) pe_int (pv 1))) rfl) pa_nil)))
  (pss_cons (ps_expr (pe_bm PySem.F.plainAttrs_list PySem.F.slot_list_append PySem.F.type_list_append mt_append (pv 2) (pa_cons (pw__law_word (k := 6) B TB (x0 := "_law_zero") (.tail _ (.head _)) rfl rfl rfl rfl rfl (hr.mono (by decide)) (LamX.lamS_by (sc := defScope s__law_zero) (by decide +kernel)) (fun A outer s H E f c' hr => (pe_op (op_refl "mod" (d_Ratio_rmod B) (d_Ratio_mod B) (oc_Ratio_mod B) decl_mod PySem.F.fills_int_mod (hr.mono (by decide)) (pass_on (takes_of rfl rfl rfl rfl) fun _ _ _ _ z => z)) pe_int (pv 1))) rfl) pa_nil)))
  (pss_one (ps_ret (pe_cmpR (op_eqV hr.units) (pv 2) (pe_op op_rep (pe_lst (pa_cons pe_str pa_nil)) pe_int) (nomark _))))))))))))
theorem d__law_zero (B : Bd K mg) (TB : ∀ p ∈ lamC K lamTs, LamX.TabB base mg p.1 p.2) : DefOk PySem.Challenge.pw_momentrows_k03_ratio_quotients_and_power w K mg base 9 "_law_zero" [] (spZero K) := by
  obtain ⟨fd, F, G⟩ := fo__law_zero (w := w) (base := base) B TB
  exact ⟨_, fd, ["_law_one", "_law_other"], [], gl__law_zero B, F.kp, G, F.bindsN fun _ _ _ _ _ _ us hl => match us, hl with | [_, _], _ => rfl, .nil⟩
theorem fo_law (B : Bd K mg) (TB : ∀ p ∈ lamC K lamTs, LamX.TabB base mg p.1 p.2) : ∃ fd, FunD K "law" "law" (defArgs s_law) (defBody s_law) (defScope s_law) [] [] (He.ga K "law") fd ∧ FnOk PySem.Challenge.pw_momentrows_k03_ratio_quotients_and_power w K mg base CX0 10 (He.ga K "law") fd ["_law_script"] (spLaw K) := by
  obtain ⟨fd, F0⟩ := B.says.def_ 25 (d := dd_law) rfl
  have F : FunD K "law" "law" (defArgs s_law) (defBody s_law) (defScope s_law) [] [] (He.ga K "law") fd := F0
  refine ⟨fd, F, okC F (B.says.fact 40 rfl) sc_law (fun vs H Q E h => ?_) (fun A outer s H vs Q E hr h => ⟨t_law K, ?_, pure_law vs H Q E h⟩)⟩
  · first | (obtain ⟨_, rfl, _⟩ := h; rfl) | (obtain ⟨_, _, rfl, _⟩ := h; rfl) | (obtain ⟨_, _, _, rfl, _⟩ := h; rfl) | (obtain ⟨_, _, _, _, rfl, _⟩ := h; rfl) | (obtain ⟨_, _, _, _, _, rfl, _⟩ := h; rfl) | (obtain ⟨_, _, _, _, _, _, rfl, _⟩ := h; rfl) | (obtain ⟨_, _, _, _, _, _, _, rfl, _⟩ := h; rfl) | (obtain ⟨_, _, _, _, _, _, _, _, rfl, _⟩ := h; rfl) | (obtain ⟨_, _, _, _, _, _, _, _, _, rfl, _⟩ := h; rfl) | (obtain ⟨_, _, _, _, _, _, _, _, _, _, rfl, _⟩ := h; rfl) | (obtain ⟨_, _, _, _, _, _, _, _, _, _, _, rfl, _⟩ := h; rfl) | (obtain ⟨_, _, _, _, _, _, _, _, _, _, _, _, rfl, _⟩ := h; rfl)
  · exact (pss_cons (ps_set (i := 1) sc_law.nd rfl (Or.inl rfl) (pe_callD (dvs := []) (d__law_feed B) (hr.mono (by decide)) rfl passL (pa_cons (pv 0) pa_nil)))
  (pss_cons (ps_for (passes_of rfl) rfl (pi_range1 (by rfl) (fr_range B) (pa_cons (pe_op op_add pe_int (pe_callD (dvs := []) (d__law_take B) (hr.mono (by decide)) rfl passL (pa_cons (pv 1) (pa_cons pe_int pa_nil)))) pa_nil)) (pg_name (i := 2) sc_law.nd rfl (Or.inl rfl)) (pss_cons (ps_set (i := 3) sc_law.nd rfl (Or.inl rfl) (pe_ix ix_list (pe_lst (pa_cons pe_int (pa_cons (pe_op op_pow pe_int pe_int) (pa_cons (pe_op op_pow pe_int pe_int) pa_nil)))) (pe_callD (dvs := []) (d__law_take B) (hr.mono (by decide)) rfl passL (pa_cons (pv 1) (pa_cons pe_int pa_nil))) (fun _ _ => rfl)))
  (pss_cons (ps_set (i := 4) sc_law.nd rfl (Or.inl rfl) (pe_callD (dvs := []) (d__law_pair B) (hr.mono (by decide)) rfl passL (pa_cons (pv 1) (pa_cons (pv 3) pa_nil))))
  (pss_cons (ps_set (i := 5) sc_law.nd rfl (Or.inl rfl) (pe_callD (dvs := []) (d__law_pair B) (hr.mono (by decide)) rfl passL (pa_cons (pv 1) (pa_cons (pv 3) pa_nil))))
  (pss_cons (ps_if (pt_cmpR op_eq (pe_callD (dvs := []) (d__law_take B) (hr.mono (by decide)) rfl passL (pa_cons (pv 1) (pa_cons pe_int pa_nil))) pe_int (nomark _)) (pss_one (ps_set (i := 5) sc_law.nd rfl (Or.inl rfl) (pe_lst (pa_cons pe_int (pa_cons pe_int pa_nil))))) pss_nil)
  (pss_cons (ps_set (i := 6) sc_law.nd rfl (Or.inl rfl) (pe_callD (dvs := []) (d__law_number B) (hr.mono (by decide)) rfl passL (pa_cons (pv 1) (pa_cons (pv 3) pa_nil))))
  (pss_cons (ps_set (i := 7) sc_law.nd rfl (Or.inr rfl) (pe_makeD (dvs := []) (d_Ratio_init_0 B) (hr.mono (by decide)) rfl passL (pa_cons (pe_ix ix_list (pv 4) pe_int (fun _ _ => rfl)) (pa_cons (pe_ix ix_list (pv 4) pe_int (fun _ _ => rfl)) pa_nil))))
  (pss_cons (ps_set (i := 8) sc_law.nd rfl (Or.inr rfl) (pe_makeD (dvs := []) (d_Ratio_init_0 B) (hr.mono (by decide)) rfl passL (pa_cons (pe_ix ix_list (pv 5) pe_int (fun _ _ => rfl)) (pa_cons (pe_ix ix_list (pv 5) pe_int (fun _ _ => rfl)) pa_nil))))
  (pss_cons (ps_if (pt_cmpR op_eq (pe_ix ix_list (pv 5) pe_int (fun _ _ => rfl)) pe_int (nomark _)) (pss_one (ps_if (pt_not (pt_val (pe_callD (dvs := []) (d__law_zero B TB) (hr.mono (by decide)) rfl passL (pa_cons (pv 7) (pa_cons (pv 8) pa_nil))))) (pss_one (ps_ret pe_bl)) pss_nil)) (pss_cons (ps_set (i := 9) sc_law.nd rfl (Or.inl rfl) (pe_op (op_own "floordiv" (d_Ratio_floordiv B) (oc_Ratio_floordiv B) (hr.mono (by decide)) passL) (pv 7) (pv 8)))
  (pss_cons (ps_if (PW.pt (pw_or (pt_not (pt_val (pe_callD (dvs := []) (d__law_floor B) (hr.mono (by decide)) rfl passL (pa_cons (pv 9) (pa_cons (pv 4) (pa_cons (pv 5) pa_nil)))))) (pw_or1 (pt_not (pt_val (pe_callD (dvs := []) (d__law_rest B) (hr.mono (by decide)) rfl passL (pa_cons (pe_op (op_own "mod" (d_Ratio_mod B) (oc_Ratio_mod B) (hr.mono (by decide)) passL) (pv 7) (pv 8)) (pa_cons (pv 9) (pa_cons (pv 4) (pa_cons (pv 5) pa_nil)))))))))) (pss_one (ps_ret pe_bl)) pss_nil)
  (pss_cons (ps_if (pt_not (pt_val (pe_callD (dvs := []) (d__law_is B) (hr.mono (by decide)) rfl passL (pa_cons (pe_methD (pv 7) (d_Ratio_over B) (hr.mono (by decide)) passL (pa_cons (pv 8) pa_nil)) (pa_cons (pe_op op_mulI (pe_ix ix_list (pv 4) pe_int (fun _ _ => rfl)) (pe_ix ix_list (pv 5) pe_int (fun _ _ => rfl))) (pa_cons (pe_op op_mulI (pe_ix ix_list (pv 4) pe_int (fun _ _ => rfl)) (pe_ix ix_list (pv 5) pe_int (fun _ _ => rfl))) pa_nil)))))) (pss_one (ps_ret pe_bl)) pss_nil)
  (pss_cons (ps_set (i := 9) sc_law.nd rfl (Or.inl rfl) (pe_op (op_refl "floordiv" (d_Ratio_rfloordiv B) (d_Ratio_floordiv B) (oc_Ratio_floordiv B) decl_floordiv PySem.F.fills_int_floordiv (hr.mono (by decide)) passL) (pv 6) (pv 8)))
  (pss_one (ps_if (PW.pt (pw_or (pt_not (pt_val (pe_callD (dvs := []) (d__law_floor B) (hr.mono (by decide)) rfl passL (pa_cons (pv 9) (pa_cons (pe_lst (pa_cons (pv 6) (pa_cons pe_int pa_nil))) (pa_cons (pv 5) pa_nil)))))) (pw_or1 (pt_not (pt_val (pe_callD (dvs := []) (d__law_rest B) (hr.mono (by decide)) rfl passL (pa_cons (pe_op (op_refl "mod" (d_Ratio_rmod B) (d_Ratio_mod B) (oc_Ratio_mod B) decl_mod PySem.F.fills_int_mod (hr.mono (by decide)) passL) (pv 6) (pv 8)) (pa_cons (pv 9) (pa_cons (pe_lst (pa_cons (pv 6) (pa_cons pe_int pa_nil))) (pa_cons (pv 5) pa_nil)))))))))) (pss_one (ps_ret pe_bl)) pss_nil)))))))
  (pss_cons (ps_if (pt_cmpR op_ne (pv 6) pe_int (nomark _)) (pss_cons (ps_set (i := 9) sc_law.nd rfl (Or.inl rfl) (pe_op (op_own "floordiv" (d_Ratio_floordiv B) (oc_Ratio_floordiv B) (hr.mono (by decide)) passL) (pv 7) (pv 6)))
  (pss_cons (ps_if (PW.pt (pw_or (pt_not (pt_val (pe_callD (dvs := []) (d__law_floor B) (hr.mono (by decide)) rfl passL (pa_cons (pv 9) (pa_cons (pv 4) (pa_cons (pe_lst (pa_cons (pv 6) (pa_cons pe_int pa_nil))) pa_nil)))))) (pw_or1 (pt_not (pt_val (pe_callD (dvs := []) (d__law_rest B) (hr.mono (by decide)) rfl passL (pa_cons (pe_op (op_own "mod" (d_Ratio_mod B) (oc_Ratio_mod B) (hr.mono (by decide)) passL) (pv 7) (pv 6)) (pa_cons (pv 9) (pa_cons (pv 4) (pa_cons (pe_lst (pa_cons (pv 6) (pa_cons pe_int pa_nil))) pa_nil)))))))))) (pss_one (ps_ret pe_bl)) pss_nil)
  (pss_one (ps_if (pt_not (pt_val (pe_callD (dvs := []) (d__law_is B) (hr.mono (by decide)) rfl passL (pa_cons (pe_methD (pv 7) (d_Ratio_over B) (hr.mono (by decide)) passL (pa_cons (pv 6) pa_nil)) (pa_cons (pe_ix ix_list (pv 4) pe_int (fun _ _ => rfl)) (pa_cons (pe_op op_mulI (pe_ix ix_list (pv 4) pe_int (fun _ _ => rfl)) (pv 6)) pa_nil)))))) (pss_one (ps_ret pe_bl)) pss_nil)))) pss_nil)
  (pss_cons (ps_if (PW.pt (pw_or (pt_not (pt_val (pe_callD (dvs := []) (d__law_powers B TB) (hr.mono (by decide)) rfl passL (pa_cons (pv 7) (pa_cons (pv 4) (pa_cons (pe_op op_sub (pe_callD (dvs := []) (d__law_take B) (hr.mono (by decide)) rfl passL (pa_cons (pv 1) (pa_cons pe_int pa_nil))) pe_int) pa_nil)))))) (pw_or1 (pt_not (pt_val (pe_callD (dvs := []) (d__law_powers B TB) (hr.mono (by decide)) rfl passL (pa_cons (pv 8) (pa_cons (pv 5) (pa_cons (pe_op op_sub (pe_callD (dvs := []) (d__law_take B) (hr.mono (by decide)) rfl passL (pa_cons (pv 1) (pa_cons pe_int pa_nil))) pe_int) pa_nil))))))))) (pss_one (ps_ret pe_bl)) pss_nil)
  (pss_cons (ps_if (pt_cmpR op_ne (pw__law_word (k := 6) B TB (x0 := "law") (.tail _ (.tail _ (.head _))) rfl rfl rfl rfl rfl (hr.mono (by decide)) (LamX.lamS_by (sc := defScope s_law) (by decide +kernel)) (fun A outer s H E f c' hr => (pe_methD (pv 7) (d_Ratio_power B) (hr.mono (by decide)) (pass_on (takes_of rfl rfl rfl rfl) fun _ _ _ _ z => z) (pa_cons pe_bl pa_nil))) rfl) pe_str (nomark _)) (pss_one (ps_ret pe_bl)) pss_nil)
  (pss_cons (ps_if (pt_cmpR op_ne (pw__law_word (k := 6) B TB (x0 := "law") (.tail _ (.tail _ (.head _))) rfl rfl rfl rfl rfl (hr.mono (by decide)) (LamX.lamS_by (sc := defScope s_law) (by decide +kernel)) (fun A outer s H E f c' hr => (pe_methD (pv 8) (d_Ratio_power B) (hr.mono (by decide)) (pass_on (takes_of rfl rfl rfl rfl) fun _ _ _ _ z => z) (pa_cons pe_str pa_nil))) rfl) pe_str (nomark _)) (pss_one (ps_ret pe_bl)) pss_nil)
  (pss_one (ps_if (PW.pt (pw_or (pt_not (pt_val (pe_callD (dvs := []) (d__law_power B) (hr.mono (by decide)) rfl passL (pa_cons (pe_op (op_own "pow" (d_Ratio_pow B) (oc_Ratio_pow B) (hr.mono (by decide)) passL) (pv 7) pe_int) (pa_cons (pv 4) (pa_cons pe_int pa_nil)))))) (pw_or1 (pt_not (pt_val (pe_callD (dvs := []) (d__law_power B) (hr.mono (by decide)) rfl passL (pa_cons (pe_op (op_own "pow" (d_Ratio_pow B) (oc_Ratio_pow B) (hr.mono (by decide)) passL) (pv 8) pe_int) (pa_cons (pv 5) (pa_cons pe_int pa_nil))))))))) (pss_one (ps_ret pe_bl)) pss_nil)))))))))))))))
  (pss_one (ps_ret pe_bl))))
end
def loose0 : List Str := ["__name__", "MeansError", "NoRatio", "MOST_DIGITS", "is_integer", "common_part", "Ratio", "is_plain", "floor_of", "power_of", "whole_power", "_law_is_integer", "_law_feed", "_law_take", "_law_number", "_law_pair", "_law_is", "_law_word", "_law_floor", "_law_rest", "_law_power", "_law_powers", "_law_zero"]
def looseL : List Str := loose0
abbrev hk : PySem.W.Hook := hookT 5 bsL fnL lamTs
def ob (s : PySem.W.SharedT) : AlT := obsTG 5 bsL fnL lamTs (HandSHeadRun.getT s)
theorem ob_eq (s : PySem.W.SharedT) : ob s = hk.obs s.abs := obsTG_eq (HandSHeadRun.getT_eq s)
theorem codes_ok {K : PySem.W.Frag} {mg : Str → Option Value} (B : Bd K mg) : ∀ x ∈ lamTs, codeF x K = true := by
  intro x hx
  simp only [lamTs, List.mem_cons, List.not_mem_nil, or_false] at hx
  rcases hx with rfl | rfl | rfl
  · exact B.says.fact 38 rfl
  · exact B.says.fact 39 rfl
  · exact B.says.fact 40 rfl
theorem run (w : World) : HandSHeadRun.RunEq (PySem.W.OpenLaw.row PySem.Challenge.rw_momentrows_k03_ratio_quotients_and_power) (PySem.W.view (PySem.W.OpenLaw.row PySem.Challenge.rw_momentrows_k03_ratio_quotients_and_power).prog [25]) hk ob 4000 looseL w := by
  intro os
  kernel_rfl
end MR
open PySem PySem.W PySem.Calls PyProof.Rows
set_option maxRecDepth 100000 in
set_option maxHeartbeats 0 in
theorem PySem.Challenge.cw_momentrows_k03_ratio_quotients_and_power_holds : PySem.Challenge.rw_momentrows_k03_ratio_quotients_and_power.Holds := by
  w_on; o_law
  refine HandSHeadRun.head_any (r := OpenLaw.row PySem.Challenge.rw_momentrows_k03_ratio_quotients_and_power) (q := view (OpenLaw.row PySem.Challenge.rw_momentrows_k03_ratio_quotients_and_power).prog [25]) (H := MR.hk) (ob := MR.ob) (M := 4000) (loose := MR.looseL) (d := HandSHeadRun.topDef (OpenLaw.row PySem.Challenge.rw_momentrows_k03_ratio_quotients_and_power).prog 25) (kwd := []) MR.ob_eq
    (by kernel_rfl) (fun s => by kernel_rfl) MR.run (by kernel_rfl) (by kernel_rfl) (by kernel_rfl) (by rfl) (by first | assumption | decide +kernel) (by decide +kernel) ⟨rfl, rfl, rfl, rfl, rfl, by decide +kernel⟩ ?hw ?hc
  case hw => w_witness2
  case hc =>
    refine MR.walk_ofET (l := PySem.Challenge.rw_momentrows_k03_ratio_quotients_and_power) (n := 63) (k := 10) (x := "_law_script") (CX := L2.CX0) rfl (by decide) (by kernel_rfl) ⟨rfl, by decide, by decide⟩ ?F (fun _ _ _ _ z => z)
    intro w mg fa h Y G hmg0
    obtain ⟨K, KX, c, tb⟩ := Y
    have hmg : mg ("law" : PySem.Str) = some (.ref fa) := by
      have e : (HandSHeadRun.topDef (OpenLaw.row PySem.Challenge.rw_momentrows_k03_ratio_quotients_and_power).prog 25).name = ("law" : PySem.Str) := by kernel_rfl
      rw [← e]
      exact hmg0
    have B : MR.Bd K mg := ⟨⟨h, KX, G⟩, c⟩
    have e := hmg.symm.trans (MR.gl_law B)
    cases e
    obtain ⟨fd0, F⟩ := c.def_ 25 (d := MR.dd_law) rfl
    have b := L2.FunD.bindsA (ps := ["_law_script"]) F fun _ _ _ _ _ _ us hl => match us, hl with | [_], _ => rfl
    have cok : ∀ p ∈ MR.lamC K MR.lamTs, K.lookup p.2 = none ∧ PySem.W.CodeHd h p.1 p.2 := by
      intro p hp
      obtain ⟨y, hy, rfl⟩ := List.mem_map.mp hp
      obtain ⟨_, _, _, _, _, _, e1, e2⟩ := MR.codeF_ok (MR.codes_ok B y hy)
      exact ⟨e1, e2 h KX⟩
    have tok : ∀ p ∈ MR.lamC K MR.lamTs, h.get? p.2 = some { cls := .none, data := .fields #[] } := by
      intro p hp
      obtain ⟨y, hy, rfl⟩ := List.mem_map.mp hp
      exact tb y hy
    refine ⟨K, fd0, MR.lamC K MR.lamTs, MR.spLaw K, KX, tok, fun p hp => (cok p hp).1, fun p hp => (cok p hp).2, fun s u => b s [u] rfl, fun H a ns hl hT hS => ⟨a, ns, rfl, hS, hl, MR.tabs0 hT, fun _ => rfl⟩, fun base _ _ TB => ?_⟩
    obtain ⟨fd1, F1, G1⟩ := MR.fo_law (w := w) (base := base) B TB
    have e2 : fd1 = fd0 := MR.funD_inj F1 F
    rw [← e2]
    exact G1

