import PyProof.Rows.All
import Wide.All
import OpenK.AllK
import Wide.FinOn
import KE.KExcSuper
import HandS.ForMost
import HandS.ForExc
import HandS.Defaults
import HandS.IsInst
import HandS.ExcField
import HandS.ExcInit
import KE.KExcIs
import HandS.ExcIs
import HandS.Wide
import HandS.MakeKw
import HandS.MakeKwOnly
import HandS.CallSlots
import HandS.HeadEnd
import HandS.HeadHook2
import HandS.Head2
import HandS.OwnEq
import PySem.Challenge.RW_momentrows_k01_ratio_is_in_lowest_terms
set_option Elab.async false
set_option linter.all false
set_option maxRecDepth 100000
set_option maxHeartbeats 4000000
/-! MR: an own error whose __init__(self, p) says super().__init__(p); self.p = p, below MeansError(ValueError) -/
namespace MR
open PySem PySem.W PySem.Calls PyProof.Rows PySem.HandSPX
/-- the facts of the error class at C, its __init__ at fI with the parameter p -/
structure SupC (prog : Program) (K : Frag) (C fI : Addr) (p : Str) : Prop where
  cls : ∃ nm q N bs bm sn sub ab col dd k0 k1 k2 k3 k5, K.lookup C = some (excClassObj nm q C N bs bm true sn sub ab col dd k0 k1 k2 k3 k5 "ValueError.__new__") ∧ refsVE bm = true ∧
    alongIn K "__init__" bm = some (some (.builtin "ValueError.__init__"))
  sa : findIn K (.ref C) "__setattr__" = some (some (.builtin "object.__setattr__"))
  no : findIn K (.ref C) p = some none
  ini : findIn K (.ref C) "__init__" = some (some (.ref fI))
  tfn : typeIn K (.ref fI) = some (.type "function")
  kC : keepIn K (.ref C) = true
  exC : subIn K (.ref C) (.type "BaseException") = some true
  veC : subIn K (.ref C) (.type "ValueError") = some true
  tyC : typeIn K (.ref C) = some (.type "type")
  selfC : mroIn K C (.ref C) = some true
  opq : nsIn K cStatics "thirdparty.any" = some none
  sup : nsIn K mainGlobals "super" = some none
  top : (prog.main.scope.names.lookup ("super" : Str)).isSome = false
  fn : ∃ (oc : Value) (od : Option Addr) (osl : Array (Option Value)) (fd : FuncData) (a1 a2 : Arg) (q1 q2 q3 q4 q5 q6 q7 q8 q9 q10 : Pos) (cda cc : Addr) (ccl : Value) (cdd : Option Addr) (vs : Array Value) (ccs : Array (Option Value)) (file : Str) (tf : Tok) (cl : Value) (cld : Option Addr) (csl : Array (Option Value)),
    K.lookup fI = some ⟨oc, od, .func fd, osl⟩ ∧ codeIn K fd.code fd.qualname = true ∧
    fd.params = { posonlyargs := [], args := [a1, a2], vararg := none, kwonlyargs := [], kw_defaults := [], kwarg := none, defaults := [] } ∧ a1.arg = "self" ∧ a2.arg = p ∧
    fd.body = .stmts [.Expr (.Call (.Attribute (.Call (.Name "super" q1) [] [] q2) "__init__" q3) [.Name p q4] [] q5) q6, .Assign [.Attribute (.Name "self" q7) p q8] (.Name p q9) q10] ∧
    fd.scope = { kind := .function, names := [("self", .local), (p, .local), ("__class__", .free), ("super", .globalImplicit)], isGenerator := false, isCoroutine := false, more := [] } ∧
    fd.globals = mainGlobals ∧ fd.builtins = builtinsNs ∧ fd.closure = [(("__class__" : Str), cc)] ∧ fd.defaults = .none ∧ fd.code = .ref cda ∧
    K.lookup cda = some ⟨ccl, cdd, .fields vs, ccs⟩ ∧ vs[2]? = some (.str file tf) ∧ ((prog.main.file : Str) == file) = true ∧
    K.lookup cc = some ⟨cl, cld, .cell (some (.ref C)), csl⟩ ∧ (q3.endLine == q5.line) = true
/-- a good parameter's name -/
structure PName (p : Str) : Prop where
  n1 : ¬ p = ("self" : Str)
  n2 : ¬ p = ("__class__" : Str)
  n3 : ¬ p = ("super" : Str)
  n4 : (p == ("__debug__" : Str)) = false
  n5 : (p == ("__classdict__" : Str)) = false
  bnd : ∀ (n1 n2 : Str) (an1 : Option Expr) (ap1 : Pos) (an2 : Option Expr) (ap2 : Pos) (b : FuncBody) (sc : Scope) (gl : Addr) (clo : List (Str × Addr)) (n9 n10 n11 : Value) (n12 : Option Addr) (n13 n14 : Value) (n15 : Addr) (u v : Value),
    bindArgs ⟨n1, n2, { posonlyargs := [], args := [⟨"self", an1, ap1⟩, ⟨p, an2, ap2⟩], vararg := none, kwonlyargs := [], kw_defaults := [], kwarg := none, defaults := [] }, b, sc, gl, clo, .none, n9, n10, n11, n12, n13, n14, n15⟩ ⟨[u, v], []⟩ = pure [(("self" : Str), u), (p, v)]
structure InitEnd (h h' : Heap) (x C dx : Addr) (p : Str) (v : Value) : Prop where
  keep : ∀ b o, b ≠ x → h.get? b = some o → h'.get? b = some o
  obj : ∃ t1, h'.get? x = some { cls := .ref C, dict := some dx, data := .fields #[.ref t1, .none, .none, .none, .bool false, .none] }
  dbig : h.objs.size ≤ dx
  dne : dx ≠ x
  ns : h'.Ns1 dx (fun y => if y = p then some v else none)
theorem pn_word : PName "word" := ⟨by decide +kernel, by decide +kernel, by decide +kernel, by decide +kernel, by decide +kernel, fun _ _ _ _ _ _ _ _ _ _ _ _ _ _ _ _ _ _ _ => rfl⟩
theorem pn_part : PName "part" := ⟨by decide +kernel, by decide +kernel, by decide +kernel, by decide +kernel, by decide +kernel, fun _ _ _ _ _ _ _ _ _ _ _ _ _ _ _ _ _ _ _ => rfl⟩
theorem pn_index : PName "index" := ⟨by decide +kernel, by decide +kernel, by decide +kernel, by decide +kernel, by decide +kernel, fun _ _ _ _ _ _ _ _ _ _ _ _ _ _ _ _ _ _ _ => rfl⟩
theorem pn_most : PName "most" := ⟨by decide +kernel, by decide +kernel, by decide +kernel, by decide +kernel, by decide +kernel, fun _ _ _ _ _ _ _ _ _ _ _ _ _ _ _ _ _ _ _ => rfl⟩
theorem call_form {o : Expr} {name : Str} {apos pos : Pos} {env : Env} {a : Expr} (h : (apos.endLine == pos.line) = true) (hs : starEach [a] env = [(false, eval a env)]) :
    eval (.Call (.Attribute o name apos) [a] [] pos) env = (do
      let ov ← attributeBase o name env (eval o env)
      standAt apos.atName
      let (f, first) ← holding [ov] (getMethod ov name (do return (← importBound o env).getD true))
      callWith pos f first (backTo pos (starEach [a] env)) []) := by
  have e0 : eval (.Call (.Attribute o name apos) [a] [] pos) env = (do
      let ov ← attributeBase o name env (eval o env)
      standAt apos.atName
      methodCall o name apos pos env ov 1 (backTo pos (starEach [a] env)) []) := rfl
  have e1 : methodCallPos true o env apos pos = pure pos := by
    unfold methodCallPos
    rw [h]
    rfl
  have e2 : methodCallForm 1 (backTo pos (starEach [a] env)) [] = true := by rw [hs]; rfl
  rw [e0]
  unfold methodCall
  rw [e2]
  simp only [e1, pure_bind]
  rfl
/-- the bound ValueError.__init__ called -/
theorem bound_init {prog : Program} {w : World} {A : Around} {E : Value → Shared → Prop} {s : Shared} {C u x t0 : Addr} {nm q : Str} {N : Addr} {bs bm : List Value} {hdct : Bool} {sn : List Str} {sub : List Value} {ab : Bool} {col : Option Bool} {dd : Option Addr} {k0 k1 k2 k3 k5 : Option Value} {Q : Value → Shared → Prop}
    (hC : s.heap.get? C = some (excClassObj nm q C N bs bm hdct sn sub ab col dd k0 k1 k2 k3 k5 "ValueError.__new__")) (hu : s.heap.get? u = some (kxs_mw "ValueError.__init__" x)) (hx : s.heap.get? x = some (excO C t0)) {rest : List Value} (hz : rest.length ≤ sizeLine)
    (h : ∀ h' t1, (∀ b o, b ≠ x → s.heap.get? b = some o → h'.get? b = some o) → h'.get? x = some (excO C t1) → Q .none { s with heap := h' }) : wpAny (model prog w) A (call (.ref u) rest) Q E s := by
  have f1 : (Value.type "method-wrapper" == Value.type "method" || Value.type "method-wrapper" == Value.type "builtin_function_or_method" || Value.type "method-wrapper" == Value.type "method-wrapper") = true := by decide
  obtain ⟨hh, g, d, tk, os⟩ := s
  refine wpAny_call (codeAny_of_tree ?_)
  show wpAny _ A.in1 (callAny (Value.ref u) ⟨rest, []⟩) _ _ _
  unfold callAny
  refine wpAny_bind (wpAny_load hu ?_)
  dsimp only [kxs_mw]
  rw [if_pos f1]
  refine KFB.if_so (by decide) ?_
  refine wpAny_bind (check_bound_init F.excBase_ValueError.toExcCallFacts hC hx rfl ?_)
  refine wpAny_bind (wpAny_pure (wpAny_pure ⟨plainId_quiet F.excBase_ValueError.init.plain _, codeAny_builtin F.excBase_ValueError.initEntry ?_⟩))
  refine exc_init_tree (cls := .ref C) (t0 := t0) (dv := none) (c2 := .none) (c3 := .none) (b4 := .bool false) hx hz ?_
  intro h' k e1 e2
  exact h h' _ k e1
section
variable {prog : Program} {w : World} {A : Around} {E : Value → Shared → Prop} {R : Result → Shared → Prop} {s : Shared} {K : Frag} {C fI : Addr} {p : Str}
theorem sup_init (T : SupC prog K C fI p) (hp : PName p) {x t0 : Addr} {v : Value} {mg mb : Str → Option Value} (X : K.In s.heap) (G : s.heap.Ns mainGlobals mg) (B : s.heap.Ns builtinsNs mb) (hB : ∀ x : Str, x ≠ "__name__" → mb x = bootBuiltins x)
    (hlim : s.heap.NoLimit) (hx : s.heap.get? x = some (excO C t0)) (hnx : K.lookup x = none) (hroom : A.depth < recursionLimit)
    (hq : ∀ h' tk dx, InitEnd s.heap h' x C dx p v → R (.ok (.ret .none)) { s with heap := h', toks := tk }) :
    codeAny (model prog w) A (.call (.ref fI) ⟨[.ref x, v], []⟩) R s := by
  obtain ⟨oc, od, osl, fd, a1, a2, q1, q2, q3, q4, q5, q6, q7, q8, q9, q10, cda, cc, ccl, cdd, vs, ccs, file, tf, cl, cld, csl, hf, hcd, hpar, ha1, ha2, hbody, hsc, hgl, hbt, hclo, hdf, hcode, hcda, hvs, hfile, hcell, hq35⟩ := T.fn
  obtain ⟨nm, q, N, bs, bm, sn, sub, ab, col, dd, k0, k1, k2, k3, k5, hC, hbm, hal⟩ := T.cls
  have hcl : clsIn K C = some { name := nm, bases := bs, mro := .ref C :: bm, ns := N, qualname := q, hasDict := true, slotNames := sn, subclasses := sub, abstract := ab, collection := col, hasDel := false } := by unfold clsIn; rw [hC] <;> rfl
  obtain ⟨n1, n2, n3, n4, n5, n6, n7, n8, n9, n10, n11, n12, n13, n14, n15⟩ := fd
  obtain ⟨aa1, an1, ap1⟩ := a1
  obtain ⟨aa2, an2, ap2⟩ := a2
  dsimp only at hcd hpar ha1 ha2 hbody hsc hgl hbt hclo hdf hcode
  subst hpar ha1 ha2 hbody hsc hgl hbt hclo hdf hcode
  have e1 : ¬ aa2 = ("self" : Str) := hp.n1
  have b1 : (aa2 == ("self" : Str)) = false := by simpa using e1
  have b2 : (aa2 == ("__class__" : Str)) = false := by simpa using hp.n2
  have b3 : (aa2 == ("super" : Str)) = false := by simpa using hp.n3
  have b4 : (("self" : Str) == aa2) = false := by simpa using Ne.symm e1
  have b5 : (("__class__" : Str) == aa2) = false := by simpa using Ne.symm hp.n2
  have b6 : (("super" : Str) == aa2) = false := by simpa using Ne.symm hp.n3
  have ls : ([(("self" : Str), NameKind.local), (aa2, NameKind.local), (("__class__" : Str), NameKind.free), (("super" : Str), NameKind.globalImplicit)] : List (Str × NameKind)).lookup ("self" : Str) = some .local := by simp [List.lookup]
  have lp : ([(("self" : Str), NameKind.local), (aa2, NameKind.local), (("__class__" : Str), NameKind.free), (("super" : Str), NameKind.globalImplicit)] : List (Str × NameKind)).lookup aa2 = some .local := by simp [List.lookup, b1]
  have lc : ([(("self" : Str), NameKind.local), (aa2, NameKind.local), (("__class__" : Str), NameKind.free), (("super" : Str), NameKind.globalImplicit)] : List (Str × NameKind)).lookup ("__class__" : Str) = some .free := by
    simp [List.lookup, b5, show (("__class__" : Str) == ("self" : Str)) = false by decide +kernel]
  have lu : ([(("self" : Str), NameKind.local), (aa2, NameKind.local), (("__class__" : Str), NameKind.free), (("super" : Str), NameKind.globalImplicit)] : List (Str × NameKind)).lookup ("super" : Str) = some .globalImplicit := by
    simp [List.lookup, b6, show (("super" : Str) == ("self" : Str)) = false by decide +kernel, show (("super" : Str) == ("__class__" : Str)) = false by decide +kernel]
  refine ks_codeAny_call_defAt (binds := [(("self" : Str), .ref x), (aa2, v)]) hroom (X _ _ hf) rfl hlim (codeRec_of X hcd) rfl (BindsTo.of_eq (hp.bnd _ _ _ _ _ _ _ _ _ _ _ _ _ _ _ _ _ _ _)) ?cell ?loc ?body rfl rfl rfl
  case cell => simp
  case loc =>
    intro y hy
    rcases List.mem_cons.mp hy with rfl | hy
    · exact ls
    · rcases List.mem_cons.mp hy with rfl | hy
      · exact lp
      · cases hy
  case body =>
    intro h₁ hn k
    have X₁ : K.In h₁ := X.keeps k
    have hx₁ := k _ _ hx
    have G₁ : h₁.Ns mainGlobals mg := G.keepsP k
    have B₁ : h₁.Ns builtinsNs mb := B.keepsP k
    have hm1 : (fun y => ([(("self" : Str), Value.ref x), (aa2, v)] : List (Str × Value)).reverse.lookup y) ("self" : Str) = some (.ref x) := by simp [List.lookup, b4]
    have hm2 : (fun y => ([(("self" : Str), Value.ref x), (aa2, v)] : List (Str × Value)).reverse.lookup y) aa2 = some v := by simp [List.lookup]
    have hsup : mg "super" = none := mg_none_of X G T.sup
    have hC1 := X₁ _ _ hC
    refine ks_wpAt_execs_cons (ks_wpAt_Expr_any ?_ rfl rfl)
    refine ks_wpAt_MethodCall ?_ (call_form hq35 rfl)
    refine ks_wpAt_super_base (env := callEnv _ _ _) lu lc (by decide +kernel) rfl (X₁ _ _ hf) rfl rfl rfl (X₁ _ _ hcda) rfl hvs hfile T.top ?_
    refine ks_loadName_global rfl lu (loadGlobal_builtin (env := callEnv _ _ _) G₁ hsup B₁ ((hB _ (by decide +kernel)).trans (by decide +kernel)) ⟨rfl, ?_⟩)
    refine wpAny_loadName_free rfl lc rfl ⟨_, X₁ _ _ hcell, rfl⟩ ?_
    refine wpAny_loadName_local rfl ls hn hm1 ?_
    refine ks_wpAny_isType_cls hC1 rfl ⟨rfl, ?_⟩
    refine ks_wpAny_call_super hC1 rfl hx₁ rfl (fun c e => by cases e) (looks_mroIn X₁ T.selfC) (fun h₂ e₂ k₂ => ?_)
    have X₂ : K.In h₂ := X₁.keeps k₂
    have hx₂ := k₂ _ _ hx₁
    have hC2 := X₂ _ _ hC
    have I₂ : InstAt h₂ x (excO C t0) C none := ⟨hx₂, rfl, rfl, trivial⟩
    have hxC : x ≠ C := fun z => by rw [z, hC2] at hx₂; cases hx₂
    have hI2 : Looks (model prog w) h₂ (isInstance (.ref x) (.type "ValueError")) true := I₂.type.andThen (looks_subIn X₂ T.veC)
    refine kxs_getMethod kxs_ValueError (l₀ := .ref C :: bm) (l := bm) e₂ (looks_opaque X₂ T.opq) ((looks_clsIn X₂ hcl).andThen .now) (by simp [List.dropWhile_cons]) X₂ hal hI2 hxC (by decide +kernel) ?_
    dsimp only
    refine kxs_callWith (i := "ValueError.__init__") (x := x) rfl (evalArgs_plain (spliced_cons ?_))
    have kw : ∀ b o, h₂.get? b = some o → (h₂.push (kxs_mw "ValueError.__init__" x)).get? b = some o := fun b o e => Heap.get?_push_of_some _ e
    have hn₂ : (h₂.push (kxs_mw "ValueError.__init__" x)).Ns s.heap.objs.size (fun y => ([(("self" : Str), Value.ref x), (aa2, v)] : List (Str × Value)).reverse.lookup y) := (hn.keepsP k₂).keepsP kw
    refine wpAny_Name (wpAny_loadName_local rfl lp hn₂ hm2 ?_) hp.n4
    refine spliced_nil ⟨Heap.get?_push_at rfl rfl, ?_⟩
    refine bound_init (x := x) (t0 := t0) (kw _ _ hC2) (Heap.get?_push_at rfl rfl) (kw _ _ hx₂) (by rw [sizeLine_eq]; exact (by decide : 1 ≤ 16777216)) fun h₃ t1 k₃ hx₃ => ?_
    have hsz : s.heap.objs.size ≠ x := Nat.ne_of_gt (Heap.lt_size hx)
    have old : ∀ b o, b ≠ x → h₁.get? b = some o → h₃.get? b = some o := fun b o hb e => k₃ b o hb (kw b o (k₂ b o e))
    have X₃ : K.In h₃ := fun a o e => old a o (fun z => by rw [z, hnx] at e; cases e) (X₁ _ _ e)
    have hn₃ : h₃.Ns s.heap.objs.size (fun y => ([(("self" : Str), Value.ref x), (aa2, v)] : List (Str × Value)).reverse.lookup y) := by
      obtain ⟨o, es, ep, ho, r⟩ := hn
      exact ⟨o, es, ep, old _ _ hsz ho, r⟩
    refine ks_wpAt_execs_cons (ks_wpAt_Assign_Attr (wpAt_of_wpAny ?_) rfl)
    refine wpAny_Name (wpAny_loadName_local rfl lp hn₃ hm2 ?_) hp.n4
    refine wpAny_Name (wpAny_loadName_local rfl ls hn₃ hm1 ?_) (by decide +kernel)
    refine set_plain X₃ (ox := excO C t1) (od := none) ⟨hx₃, rfl, rfl, trivial⟩ T.sa ?_
    refine exc_osa X₃ hx₃ hcl (show refsVE (.ref C :: bm) = true from hbm) rfl T.no (fun h₄ tk₄ dx k₄ dn dne hx₄ hn₄ => ?_)
    refine wpAt_of_wpAny (wpAny_execs_nil (hq h₄ tk₄ dx ⟨fun b o hb e => k₄ b o hb (old b o hb (k b o e)), ⟨t1, hx₄⟩, Nat.le_of_lt (Nat.lt_of_lt_of_le hn₃.lt dn), dne, hn₄⟩))

/-- a made error -/
structure OwnMade (h h' : Heap) (e C d : Addr) (p : Str) (v : Value) : Prop where
  keep : ∀ b o, h.get? b = some o → h'.get? b = some o
  new : h.objs.size ≤ e
  obj : ∃ oe vs, h'.get? e = some oe ∧ oe.cls = .ref C ∧ oe.dict = some d ∧ oe.data = .fields vs ∧ vs[1]? = some .none
  dbig : h.objs.size ≤ d
  dne : d ≠ e
  ns : h'.Ns1 d (fun y => if y = p then some v else none)
theorem sup_made (T : SupC prog K C fI p) (hp : PName p) {v : Value} {mg mb : Str → Option Value} (X : K.In s.heap) (G : s.heap.Ns mainGlobals mg) (B : s.heap.Ns builtinsNs mb) (hB : ∀ x : Str, x ≠ "__name__" → mb x = bootBuiltins x)
    (hlim : s.heap.NoLimit) (hroom : A.depth + 1 < recursionLimit)
    (hq : ∀ h' tk e d, OwnMade s.heap h' e C d p v → R (.ok (.ret (.ref e))) { s with heap := h', toks := tk }) :
    codeAny (model prog w) A (.call (.ref C) ⟨[v], []⟩) R s := by
  obtain ⟨nm, q, N, bs, bm, sn, sub, ab, col, dd, k0, k1, k2, k3, k5, hC, hbm, _⟩ := T.cls
  obtain ⟨hp', g, dr, tk, os⟩ := s
  have k : ∀ b o, hp'.get? b = some o → ((hp'.push (kdv_tup [v])).push (excO C hp'.objs.size)).get? b = some o := fun b o e => Heap.get?_push_of_some _ (Heap.get?_push_of_some _ e)
  have hget : ((hp'.push (kdv_tup [v])).push (excO C hp'.objs.size)).get? (hp'.objs.size + 1) = some (excO C hp'.objs.size) := by heap_get
  have hnx : K.lookup (hp'.objs.size + 1) = none := by
    cases e : K.lookup (hp'.objs.size + 1) with
    | none => rfl
    | some o => exact absurd (Nat.lt_of_succ_lt (Heap.lt_size (show hp'.get? (hp'.objs.size + 1) = some o from X _ _ e))) (Nat.lt_irrefl _)
  refine call_own F.excBase_ValueError (fun X => refsVE_contains X bm hbm) (X _ _ hC) (looks_findIn X T.ini) (fun self => bind_fn X self T.tfn) (by rw [sizeLine_eq]; exact (by decide : 1 ≤ 16777216)) ?_
  refine sup_init (s := ⟨(hp'.push (kdv_tup [v])).push (excO C hp'.objs.size), g, dr, tk, os⟩) T hp (X.keeps k) (G.keepsP k) (B.keepsP k) hB (hlim.keeps k) hget hnx ?_ fun h' tk' dx ⟨k', ⟨t1, hx⟩, dn, dne, hns⟩ => ?_
  · show A.depth + 1 < recursionLimit
    exact hroom
  · have old : ∀ b o, hp'.get? b = some o → h'.get? b = some o := fun b o e => k' b o (Nat.ne_of_lt (Nat.lt_succ_of_lt (Heap.lt_size e))) (k b o e)
    have z : hp'.objs.size + 1 + 1 ≤ dx := by
      have q := dn
      simp only [Heap.size_push] at q
      exact q
    exact ⟨rfl, hq h' tk' (hp'.objs.size + 1) dx ⟨old, Nat.le_succ _, ⟨_, _, hx, rfl, rfl, rfl, rfl⟩, (by show hp'.objs.size ≤ dx; omega), dne, hns⟩⟩
end
end MR
namespace MR
open PySem PySem.Spec PyProof.Rows L2
theorem relO_one {p : Str} {v : V} {v' : Value} (r : RelV v v') (f : Str) : RelO (List.lookup f [(p, v)]) (if f = p then some v' else none) := by
  by_cases hw : f = p
  · subst hw
    rw [if_pos rfl]
    have q : List.lookup f [(f, v)] = some v := by simp [List.lookup]
    rw [q]
    exact r
  · rw [if_neg hw]
    have qw : (f == p) = false := by simpa using hw
    have q2 : List.lookup f [(p, v)] = none := by simp [List.lookup, qw]
    rw [q2]
    trivial
section
variable {X : Cx} {C fI : Addr} {p : Str}
/-- C(e): the error, its dict d new -/
def tMkS (C : Addr) (p : Str) (ta : TA) : L2.St → Hp → XK → Prop := fun σ H Q => ta σ H fun vs H1 => ∃ v, vs = [v] ∧ ∀ d, H1 d = none → Q (.ref C) (some d) (upd H1 d (.xd [(p, v)]))
theorem pmk_sup {a : Expr} {ta : TA} {x : Str} {p1 pos : Pos} {k : Nat} (T : SupC X.prog X.K C fI p) (hp : PName p) (gC : X.mg x = some (.ref C)) (hr : Room k X.A) (ha : PA X [a] ta) (hg : Gl X x := by rfl)
    (hdb : (x == ("__debug__" : Str)) = false := by decide)
    (he : starEach (a :: []) X.env = (false, eval a X.env) :: starEach [] X.env := by rfl) (hpl : (backTo pos (starEach [] X.env)).any (·.1) = false := by rfl) :
    PMk X (.Call (.Name x p1) [a] [] pos) (tMkS C p ta) := by
  intro pins s σ H Q I h
  refine wpAny_Call_Name_kw (ld_glob I hg gC ?_ hdb)
  refine PySem.W.callWith_K (h₀ := X.base) I.ok.mod.kin T.kC (thn (ha.run pos pins s σ H _ I h) fun us s1 hh => ?_) he hpl
  obtain ⟨vs, H1, I1, r1, v, ev, q1⟩ := hh
  subst ev
  refine ⟨I1.kIn, ?_⟩
  cases r1 with
  | cons rv rn =>
    rename_i v' us'
    cases rn
    show wpAny _ _ (call (.ref C) [v']) _ _ _
    have hlim := I1.nolimit
    have GG : s1.heap.Ns mainGlobals X.mg := I1.ok.mod.glob.keepsP I1.bk
    obtain ⟨mb, BB, hB⟩ := I1.ok.mod.blt
    have BB1 : s1.heap.Ns builtinsNs mb := BB.keepsP I1.bk
    obtain ⟨hp', g, dr, tk, os⟩ := s1
    refine wpAny_call (sup_made T hp I1.kIn GG BB1 hB hlim (by have := hr.dp; omega) fun h' tk' e d M => ?_)
    show MkP X pins σ Q (.ref e) ⟨h', g, dr, tk', os⟩
    obtain ⟨oe, fv, hoe, hc, hd, hdat, h1⟩ := M.obj
    have hns := M.ns
    obtain ⟨G', g1, g2⟩ := restrict h' fun b => decide (b ≠ e)
    have gk : ∀ b, b ≠ e → G'.get? b = h'.get? b := fun b hb => g1 b (decide_eq_true hb)
    have ge : G'.get? e = none := g2 e (by simp)
    have old : ∀ b o, hp'.get? b = some o → G'.get? b = some o := fun b o q => (gk b (Nat.ne_of_lt (Nat.lt_of_lt_of_le (Heap.lt_size q) M.new))).trans (M.keep b o q)
    have ob : ObjOk X.prog X.w (upd H1 d (.xd [(p, v)])) G' d (.xd [(p, v)]) := ⟨_, hns.at (fun o q => (gk d M.dne).trans q), fun f => relO_one rv f⟩
    have J : Inv X pins σ (upd H1 d (.xd [(p, v)])) ⟨G', g, dr, tk', os⟩ := I1.laid (t' := tk') old M.dbig ob
    refine ⟨e, oe, fv, ⟨G', g, dr, tk', os⟩, _, .ref C, some d, rfl, J, fun b o q => ?_, ge, hoe, ⟨hc, hd⟩, hdat, h1, ?_, rfl, I1.bare, raises_own T.exC T.tyC, q1 d (I1.hok.fresh M.dbig)⟩
    · by_cases hb : b = e
      · have q' : G'.get? b = some o := q
        rw [hb, ge] at q'; cases q'
      · exact (gk b hb).symm.trans q
    · rw [upd_ne (Ne.symm M.dne)]
      exact I1.hok.fresh M.new
/-- raise C(e) -/
def tRaiseS (C : Addr) (p : Str) (W : WX) (ta : TA) : TS := fun _ σ H => tMkS C p ta σ H fun cls d H' => W cls d σ H'
theorem ps_raiseS {a : Expr} {ta : TA} {W : WX} {x : Str} {p1 pos pos2 : Pos} {k : Nat} (hc : X.calm = true) (T : SupC X.prog X.K C fI p) (hp : PName p) (gC : X.mg x = some (.ref C)) (hr : Room k X.A) (tk : Takes X W) (ha : PA X [a] ta) (hg : Gl X x := by rfl)
    (hdb : (x == ("__debug__" : Str)) = false := by decide)
    (he : starEach (a :: []) X.env = (false, eval a X.env) :: starEach [] X.env := by rfl) (hpl : (backTo pos (starEach [] X.env)).any (·.1) = false := by rfl) :
    PS X (.Raise (some (.Call (.Name x p1) [a] [] pos)) none pos2) (tRaiseS C p W ta) := ps_raise hc tk (pmk_sup T hp gC hr ha hg hdb he hpl)
end
end MR

set_option Elab.async false
set_option linter.all false
set_option maxRecDepth 100000
set_option maxHeartbeats 4000000
/-! MR: isinstance of the error that a suite holds, whether it has a dict or not -/
namespace MR
open PySem PySem.Spec PyProof.Rows L2
def rIsX (K : PySem.W.Frag) (a : Addr) (cls : Value) (d : Option Addr) : List V → Hp → VK → Prop := fun xs H Q => ∃ (D : Addr) (c : V) (cv : Value) (b : Bool), xs = [.ref a, c] ∧ cls = .ref D ∧ ExcC K D ∧ ClsV c cv ∧ PySem.W.kitOne K (.ref D) cv = some b ∧
  (d = none ∨ ∃ dd fs, d = some dd ∧ H dd = some (.xd fs)) ∧ Q (.bl b) H
theorem call_isX {X : Cx} {a : Addr} {oe : Obj} {cls : Value} {d : Option Addr} {pn : List (Addr × Obj)} (hz : Zc cls d oe) (hf : ∃ vs, oe.data = .fields vs) : CallR (X.suite a ((a, oe) :: pn)) (.builtin "isinstance") (rIsX X.K a cls d) := by
  intro pins s σ H xs us Q I r h
  obtain ⟨D, c, cv, b, rfl, ecls, C, hcv, e, hd, q⟩ := h
  cases r with
  | cons rx rr =>
    cases rr with
    | cons rt rr =>
      cases rr
      cases rx
      have ec := hcv.eq rt
      subst ec
      have hget : s.heap.get? a = some oe := (I.pin (a, oe) (List.mem_append.mpr (.inl List.mem_cons_self))).1
      obtain ⟨vs, hv⟩ := hf
      have J : ∃ od, PySem.W.InstAt s.heap a oe D od := by
        obtain ⟨oc, od, oda, osl⟩ := oe
        obtain ⟨h1, h2⟩ := hz
        dsimp only at h1 h2 hv
        subst h1 h2 hv
        cases ecls
        rcases hd with rfl | ⟨dd, fs, rfl, hx⟩
        · exact ⟨none, hget, rfl, rfl, trivial⟩
        · have hx' : ObjOk X.prog X.w H s.heap dd (.xd fs) := I.hok dd _ hx
          obtain ⟨mA, hns, _⟩ := hx'
          obtain ⟨od, ho, _⟩ := lookIn_ns hns
          exact ⟨some od, hget, rfl, rfl, ho⟩
      obtain ⟨od, J⟩ := J
      have hc : (PySem.W.clsIn X.K D).isSome = true := by
        obtain ⟨cd, hc, _⟩ := PySem.W.any_some C.hd
        rw [hc]
        rfl
      exact PySem.W.kia_one (PySem.W.kitx_exc hc C.hg C.hk C.hs C.ha C.hn C.ht C.hm) I.kIn J e (fun z => nomatch z) fun tk => ⟨.bl b, H, I.kept (t' := tk) fun _ _ z => z, rfl, q⟩
end MR

set_option Elab.async false
set_option linter.all false
set_option maxRecDepth 100000
set_option maxHeartbeats 4000000
/-! MR: rules in the form that the program's walks take -/
namespace MR
open PySem PySem.Spec PyProof.Rows L2
/-! ### a def, a method, a class as the walk takes it -/
abbrev CXX (P : Program) (w : World) : CXT := L2.CX P w
/-- the module's name x is a def that keeps sp; dvs: the defaults of the last parameters -/
def DefOk (P : Program) (w : World) (K : PySem.W.Frag) (mg : Str → Option Value) (base : Heap) (k : Nat) (x : Str) (dvs : List V) (sp : Sp) : Prop :=
  ∃ (f : Addr) (fd : FuncData) (ps : List Str) (ds : List Value), mg x = some (.ref f) ∧ PySem.W.keepIn K (.ref f) = true ∧ FnOk P w K mg base (CXX P w) k f fd ps sp ∧ Binds K fd ps ds ∧ Vals dvs ds
def MethOk (P : Program) (w : World) (K : PySem.W.Frag) (mg : Str → Option Value) (base : Heap) (k : Nat) (C : Addr) (m : Str) (dvs : List V) (sp : Sp) : Prop :=
  ∃ (f : Addr) (fd : FuncData) (ps : List Str) (ds : List Value), Cls K C ∧ Meth K C m f ∧ FnOk P w K mg base (CXX P w) k f fd ps sp ∧ Binds K fd ps ds ∧ Vals dvs ds
def MakeOk (P : Program) (w : World) (K : PySem.W.Frag) (mg : Str → Option Value) (base : Heap) (k : Nat) (x : Str) (C : Addr) (dvs : List V) (sp : Sp) : Prop :=
  ∃ (f : Addr) (fd : FuncData) (ps : List Str) (ds : List Value), mg x = some (.ref C) ∧ Mk K C f ∧ FnOk P w K mg base (CXX P w) k f fd ps sp ∧ Binds K fd ps ds ∧ Vals dvs ds
def MakeKOk (P : Program) (w : World) (K : PySem.W.Frag) (mg : Str → Option Value) (base : Heap) (k : Nat) (x : Str) (C : Addr) (n : Nat) (ks : List Str) (gV : List V → List V → List V) (sp : Sp) : Prop :=
  ∃ (f : Addr) (fd : FuncData) (ps : List Str) (g : List Value → List Value → List Value), mg x = some (.ref C) ∧ Mk K C f ∧ FnOk P w K mg base (CXX P w) k f fd ps sp ∧ KBn K fd ps (n + 1) ks g gV
section
variable {X : Cx} {k : Nat} {C : Addr} {sp : Sp} {dvs : List V} {E : XK} {x m : Str} {p pos apos : Pos} {e o : Expr} {es : List Expr} {ta : TE} {t : TA}
theorem pe_callD (D : DefOk X.prog X.w X.K X.mg X.base k x dvs sp) (hr : Room k X.A) (hg : Gl X x) (hx : Passes (CXX X.prog X.w) X E)
    (ha : PA X (e :: es) t) (hdb : (x == ("__debug__" : Str)) = false := by decide) (he : starEach (e :: es) X.env = (false, eval e X.env) :: starEach es X.env := by rfl) (hpl : (backTo pos (starEach es X.env)).any (·.1) = false := by rfl) :
    PE X (.Call (.Name x p) (e :: es) [] pos) (tCall sp dvs E t) := by
  obtain ⟨f, fd, ps, ds, h1, h2, h3, h4, h5⟩ := D
  exact pe_call h3 hr hg h1 h2 h4 h5 hx ha hdb he hpl
theorem pe_callD0 (D : DefOk X.prog X.w X.K X.mg X.base k x dvs sp) (hr : Room k X.A) (hg : Gl X x) (hx : Passes (CXX X.prog X.w) X E) (hdb : (x == ("__debug__" : Str)) = false := by decide) :
    PE X (.Call (.Name x p) [] [] pos) (tCall sp dvs E tNil) := by
  obtain ⟨f, fd, ps, ds, h1, h2, h3, h4, h5⟩ := D
  exact pe_call0 h3 hr hg h1 h2 h4 h5 hx hdb
theorem pe_makeD (D : MakeOk X.prog X.w X.K X.mg X.base k x C dvs sp) (hr : Room (k + 1) X.A) (hg : Gl X x) (hx : Passes (CXX X.prog X.w) X E)
    (ha : PA X (e :: es) t) (hdb : (x == ("__debug__" : Str)) = false := by decide) (he : starEach (e :: es) X.env = (false, eval e X.env) :: starEach es X.env := by rfl) (hpl : (backTo pos (starEach es X.env)).any (·.1) = false := by rfl) :
    PE X (.Call (.Name x p) (e :: es) [] pos) (tMake C sp dvs E t) := by
  obtain ⟨f, fd, ps, ds, h1, h2, h3, h4, h5⟩ := D
  exact pe_make h2 h3 hr hg h1 h4 h5 hx ha hdb he hpl
theorem pe_methD {pl : Sem Bool} (he : PE X o ta) (D : MethOk X.prog X.w X.K X.mg X.base k C m dvs sp) (hr : Room k X.A) (hx : Passes (CXX X.prog X.w) X E) (ha : PA X (e :: es) t)
    (hst : starEach (e :: es) X.env = (false, eval e X.env) :: starEach es X.env := by rfl) (hpl : (backTo pos (starEach es X.env)).any (·.1) = false := by rfl)
    (ht : eval (.Call (.Attribute o m apos) (e :: es) [] pos) X.env = (do
      let ov ← eval o X.env
      standAt apos.atName
      let (f, first) ← holding [ov] (getMethod ov m pl)
      callWith pos f first (backTo pos (starEach (e :: es) X.env)) (backToKw pos (keywordEach [] X.env))) := by rfl) :
    PE X (.Call (.Attribute o m apos) (e :: es) [] pos) (tMeth C m sp dvs E ta t) := by
  obtain ⟨f, fd, ps, ds, h1, h2, h3, h4, h5⟩ := D
  exact pe_meth he h1 h2 h3 hr h4 h5 hx ha hst hpl ht
theorem pe_methD0 {pl : Sem Bool} (he : PE X o ta) (D : MethOk X.prog X.w X.K X.mg X.base k C m dvs sp) (hr : Room k X.A) (hx : Passes (CXX X.prog X.w) X E)
    (ht : eval (.Call (.Attribute o m apos) [] [] pos) X.env = (do
      let ov ← eval o X.env
      standAt apos.atName
      let (f, first) ← holding [ov] (getMethod ov m pl)
      callWith pos f first (backTo pos (starEach [] X.env)) (backToKw pos (keywordEach [] X.env))) := by rfl) :
    PE X (.Call (.Attribute o m apos) [] [] pos) (tMeth C m sp dvs E ta tNil) := by
  obtain ⟨f, fd, ps, ds, h1, h2, h3, h4, h5⟩ := D
  exact pe_meth0 he h1 h2 h3 hr h4 h5 hx ht
/-- within a try: what is raised is wished for at the slots -/
def tMakeS (C : Addr) (sp : Sp) (dvs : List V) (E : L2.St → XK) (t : TA) : TE := fun σ H Q => t σ H fun vs H1 => ∀ x dx, H1 x = none → H1 dx = none → dx ≠ x →
  sp (.ref x :: (vs ++ dvs)) (upd (upd H1 dx (.own x)) x (.ins C dx [])) (fun v H2 => v = .non ∧ Q (.ref x) H2) (E σ)
theorem pe_callDS {E : L2.St → XK} (D : DefOk X.prog X.w X.K X.mg X.base k x dvs sp) (hr : Room k X.A) (hg : Gl X x) (hx : ∀ σ, PassesAt (CXX X.prog X.w) X σ (E σ))
    (ha : PA X (e :: es) t) (hdb : (x == ("__debug__" : Str)) = false := by decide) (he : starEach (e :: es) X.env = (false, eval e X.env) :: starEach es X.env := by rfl) (hpl : (backTo pos (starEach es X.env)).any (·.1) = false := by rfl) :
    PE X (.Call (.Name x p) (e :: es) [] pos) (tCallSD sp dvs E t) := by
  obtain ⟨f, fd, ps, ds, h1, h2, h3, h4, h5⟩ := D
  exact pe_callSD h3 hr hg h1 h2 h4 h5 hx ha hdb he hpl
theorem run_makeS {E : L2.St → XK} {f : Addr} {fd : FuncData} {ps : List Str} {ds : List Value} {pins : List (Addr × Obj)} {σ : L2.St} {H : Hp} {s : Shared} {Q : VK} {us : List Value} {vs : List V} (M : Mk X.K C f) (F : FnOk X.prog X.w X.K X.mg X.base (CXX X.prog X.w) k f fd ps sp) (hr : Room (k + 1) X.A) (hb : Binds X.K fd ps ds) (hd : Vals dvs ds)
    (hx : PassesAt (CXX X.prog X.w) X σ (E σ)) (I : Inv X pins σ H s) (r : Vals vs us)
    (h : ∀ x dx, H x = none → H dx = none → dx ≠ x → sp (.ref x :: (vs ++ dvs)) (upd (upd H dx (.own x)) x (.ins C dx [])) (fun v H2 => v = .non ∧ Q (.ref x) H2) (E σ)) :
    wpAny (model X.prog X.w) X.A (call (.ref C) us) (EP X pins σ Q) X.xe s := by
  have hq := h (s.heap.objs.size + 1) s.heap.objs.size (I.hok.fresh (Nat.le_succ _)) (I.hok.fresh (Nat.le_refl _)) (Nat.ne_of_lt (Nat.lt_succ_self _))
  have J := Inv.made (C := C) I
  have rr : Vals (V.ref (s.heap.objs.size + 1) :: (vs ++ dvs)) (Value.ref (s.heap.objs.size + 1) :: (us ++ ds)) := .cons rfl (r.append hd)
  have len : (Value.ref (s.heap.objs.size + 1) :: us ++ ds).length = ps.length := rr.length.symm.trans (F.len _ _ _ _ hq)
  refine wpAny_call (make_map (f := f) I.kIn M.makes M.init (beq_iff_eq.mp M.fn) (codeAny_mono (F.run _ X.stack _ _ ⟨Value.ref (s.heap.objs.size + 1) :: us, []⟩ (Value.ref (s.heap.objs.size + 1) :: (us ++ ds)) _ _ (E σ) (hr.make C us []) (J.env0.make C us []) (hb _ (Value.ref (s.heap.objs.size + 1) :: us) J.kIn len) rr hq) fun res s' z => ?_))
  match res, z with
  | .error er, z => exact hx pins _ _ er s' J z
  | .ok (.ret u), z =>
    obtain ⟨v, H', J', rv, ev, q⟩ := J.after z
    subst ev
    exact ⟨rv, ⟨V.ref (s.heap.objs.size + 1), H', J', rfl, q⟩⟩
  | .ok .next, z => exact False.elim z
  | .ok .brk, z => exact False.elim z
  | .ok .cont, z => exact False.elim z
theorem pe_makeDS {E : L2.St → XK} (D : MakeOk X.prog X.w X.K X.mg X.base k x C dvs sp) (hr : Room (k + 1) X.A) (hg : Gl X x) (hx : ∀ σ, PassesAt (CXX X.prog X.w) X σ (E σ))
    (ha : PA X (e :: es) t) (hdb : (x == ("__debug__" : Str)) = false := by decide) (he : starEach (e :: es) X.env = (false, eval e X.env) :: starEach es X.env := by rfl) (hpl : (backTo pos (starEach es X.env)).any (·.1) = false := by rfl) :
    PE X (.Call (.Name x p) (e :: es) [] pos) (tMakeS C sp dvs E t) := by
  obtain ⟨f, fd, ps, ds, h1, h2, h3, h4, h5⟩ := D
  refine ⟨fun pins s σ H Q I h => ?_⟩
  refine wpAny_Call_Name_kw (ld_glob I hg h1 ?_ hdb)
  refine PySem.W.callWith_K (h₀ := X.base) I.ok.mod.kin h2.kp (thn (ha.run pos pins s σ H _ I h) fun us s1 hh => ?_) he hpl
  obtain ⟨vs, H1, I1, r, q⟩ := hh
  exact ⟨I1.kIn, run_makeS h2 h3 hr h4 h5 (hx σ) I1 r q⟩
theorem pe_makeKD0 {ks : List Str} {gV : List V → List V → List V} {kws : List Keyword} {tk : TA} (D : MakeKOk X.prog X.w X.K X.mg X.base k x C 0 ks gV sp) (hr : Room (k + 1) X.A) (hg : Gl X x) (hx : Passes (CXX X.prog X.w) X E) (hkw : PK X kws tk)
    (hall : (backToKw pos (keywordEach kws X.env)).all (·.1.isSome) = true := by rfl) (hks : (backToKw pos (keywordEach kws X.env)).filterMap (·.1) = ks := by rfl) (hdb : (x == ("__debug__" : Str)) = false := by decide)
    (hpl : ((backTo pos (starEach [] X.env)).any (·.1) || (backToKw pos (keywordEach kws X.env)).any (·.1.isNone)) = false := by rfl) : PE X (.Call (.Name x p) [] kws pos) (tMakeK C 0 ks.length sp gV E tNil tk) := by
  obtain ⟨f, fd, ps, g, h1, h2, h3, h4⟩ := D
  exact pe_makeK0 h2 h3 hr hg h1 h4 hx hkw hall hks hdb hpl
/-- what leaves a def's body by a call -/
theorem pass_on {W : WX} (tk : Takes X W) (hW : ∀ cls d σ H, E cls d H → W cls d σ H) : Passes (CXX X.prog X.w) X E := passes_call tk hW
end
/-! ### ints -/
def CDivZ (_ j : Int) : Prop := j ≠ 0 ∧ j.natAbs.log2 < 9000
section
variable {X : Cx}
theorem op_fdivZ : OpR X (binaryOp .FloorDiv) (rI CDivZ fun i j => .int (i.fdiv j)) := opI fun _ _ _ _ _ _ _ hc q => floordiv_int hc.1 q (.inl (PyProof.noPylong_of_log2 hc.2))
/-- xs[i] read on the way of xs[i] += e -/
theorem get_list : PGet X (fun x y H Q => ∃ p xs i v, x = .ref p ∧ y = .int i ∧ 0 ≤ i ∧ SqL X.K H p xs ∧ xs[i.toNat]? = some v ∧ Q v H) := by
  intro pins s σ H x y v u Q I rx ry h
  obtain ⟨p, xs, i, z, rfl, rfl, h0, hq, he, q⟩ := h
  cases rx
  obtain ⟨t, rfl⟩ := ry
  obtain ⟨its, r, pl, hz⟩ := I.list hq
  obtain ⟨w, ew, rw'⟩ := r.get he
  have hn := line63
  have hlt : i.toNat < xs.length := (List.getElem?_eq_some_iff.mp he).1
  exact wpAny_getItem_list pl.isList h0 (by omega) (by simpa using ew) ⟨z, H, I, rw', q⟩
end
end MR
namespace MR
open PySem PySem.Spec PyProof.Rows L2
/-! ### short names of readings -/
abbrev rAdd0 : R2 := rI0 fun i j => .int (i + j)
abbrev rSub0 : R2 := rI0 fun i j => .int (i - j)
abbrev rMulI : R2 := rI IntMulOk fun i j => .int (i * j)
abbrev rDivZ : R2 := rI CDivZ fun i j => .int (i.fdiv j)
abbrev rModN : R2 := rI (fun _ j => j ≠ 0) fun i j => .int (i.fmod j)
abbrev rPow0 : R2 := rI CPow fun i j => .int (i ^ j.toNat)
abbrev rLt0 : R2 := rI0 fun i j => .bl (decide (i < j))
abbrev rLe0 : R2 := rI0 fun i j => .bl (decide (i ≤ j))
abbrev rGt0 : R2 := rI0 fun i j => .bl (decide (j < i))
abbrev rGe0 : R2 := rI0 fun i j => .bl (decide (j ≤ i))
abbrev rIsN0 : R2 := fun x y H Q => y = .non ∧ Q (.bl (decide (x = .non))) H
abbrev rNotN0 : R2 := fun x y H Q => y = .non ∧ Q (.bl (!decide (x = .non))) H
abbrev rNeg0 : V → Hp → VK → Prop := rU fun i => .int (-i)
abbrev rAddS : R2 := fun x y H Q => ∃ i j, x = .str i ∧ y = .str j ∧ i.length + j.length ≤ sizeLine ∧ Q (.str (i ++ j)) H
abbrev rAbs0 : List V → Hp → VK → Prop := fun xs H Q => ∃ i, xs = [.int i] ∧ Q (.int (if i < 0 then -i else i)) H
abbrev rMax0 : List V → Hp → VK → Prop := fun xs H Q => ∃ i j, xs = [.int i, .int j] ∧ Q (.int (if j > i then j else i)) H
abbrev rMin0 : List V → Hp → VK → Prop := fun xs H Q => ∃ i j, xs = [.int i, .int j] ∧ Q (.int (if j < i then j else i)) H
abbrev rInt0 : List V → Hp → VK → Prop := fun xs H Q => (∃ i, xs = [.int i] ∧ Q (.int i) H) ∨ ∃ k, xs = [.bl k] ∧ Q (.int (if k then 1 else 0)) H
abbrev rGetL (K : PySem.W.Frag) : V → V → Hp → VK → Prop := fun x y H Q => ∃ p xs i v, x = .ref p ∧ y = .int i ∧ 0 ≤ i ∧ SqL K H p xs ∧ xs[i.toNat]? = some v ∧ Q v H
abbrev rListOf0 (K : PySem.W.Frag) : List V → Hp → VK → Prop := fun xs H Q => ∃ p ys, xs = [.ref p] ∧ (SqL K H p ys ∨ SqT K H p ys) ∧ ∀ l, H l = none → Q (.ref l) (upd H l (.lst ys))
abbrev rLenA (K : PySem.W.Frag) : List V → Hp → VK → Prop := fun xs H Q => ∃ x n, xs = [x] ∧ LenV K x H n ∧ Q (.int n) H
abbrev tTruA (K : PySem.W.Frag) (ta : TE) : TT := fun σ H Q => ta σ H fun x H1 => ∃ k, TruV K x H1 k ∧ Q k H1
theorem op_mulI {X : Cx} : OpR X (binaryOp .Mult) rMulI := opI fun _ _ _ _ _ _ _ hc q => mul_int q hc
/-! ### sizes -/
theorem mul_ok {i j : Int} {a b : Nat} (ha : i.natAbs < 2 ^ a) (hb : j.natAbs < 2 ^ b) (h0 : 0 < a) (h1 : 0 < b) (h : a + b ≤ 1000000) : IntMulOk i j := (wide_mul ha hb h0 h1 h).ok
theorem mul_okL {i j : Int} (h : i.natAbs < 2 ^ 64) : IntMulOk i j := CMul.ok (.inl (by omega))
theorem mul_okR {i j : Int} (h : j.natAbs < 2 ^ 64) : IntMulOk i j := CMul.ok (.inr (by omega))
theorem div_ok {i j : Int} {b : Nat} (h : j ≠ 0) (hb : j.natAbs < 2 ^ b) (h0 : 0 < b) (h9 : b ≤ 9000) : CDivZ i j := ⟨h, Nat.lt_of_lt_of_le (PySem.Flt.log2_lt_of h0 hb) h9⟩
/-! ### heaps -/
theorem same_new {H : Hp} {p : Addr} {o : HO} (h : H p = none) : Same H (upd H p o) := fun b u e => by
  rw [upd_ne (ne_of_none e h)]
  exact e
/-- all but f is as it was -/
def Keep (f : Addr) (H H' : Hp) : Prop := ∀ b o, H b = some o → b ≠ f → H' b = some o
theorem Keep.refl (f : Addr) (H : Hp) : Keep f H H := fun _ _ h _ => h
theorem Keep.trans {f : Addr} {H H1 H2 : Hp} (a : Keep f H H1) (b : Keep f H1 H2) : Keep f H H2 := fun c o h n => b c o (a c o h n) n
theorem Same.keep {f : Addr} {H H1 : Hp} (a : Same H H1) : Keep f H H1 := fun c o h _ => a c o h
theorem keep_upd {f : Addr} {H : Hp} {o : HO} : Keep f H (upd H f o) := fun b u e n => by rw [upd_ne n]; exact e
end MR

/-! MR: the mathematics of fractions -/
namespace MR
theorem fdiv_num {a b : Int} (hb : 0 < b) : a.fdiv (a.gcd b : Int) = (Rat.divInt a b).num := by
  have hg : (a.gcd b : Int) ∣ a := Int.gcd_dvd_left ..
  rw [Rat.num_divInt, Int.fdiv_eq_ediv_of_dvd hg, Int.sign_eq_one_of_pos hb, Int.one_mul, Int.gcd_comm]
theorem fdiv_den {a b : Int} (hb : 0 < b) : b.fdiv (a.gcd b : Int) = ((Rat.divInt a b).den : Int) := by
  have hg : (a.gcd b : Int) ∣ b := Int.gcd_dvd_right ..
  have hn : b ≠ 0 := by omega
  rw [Rat.den_divInt, if_neg hn, Int.fdiv_eq_ediv_of_dvd hg, Int.gcd_comm, Int.natCast_ediv]
  congr 1
  omega
theorem fdiv_numN {a b : Int} (hb : b < 0) : a.fdiv (-(a.gcd b : Int)) = (Rat.divInt a b).num := by
  have h := fdiv_num (a := -a) (b := -b) (by omega)
  rw [Rat.neg_divInt_neg, Int.gcd_neg, Int.neg_gcd] at h
  have e := Int.neg_fdiv_neg (-a) (a.gcd b : Int)
  rw [Int.neg_neg] at e
  rw [e, h]
theorem fdiv_denN {a b : Int} (hb : b < 0) : b.fdiv (-(a.gcd b : Int)) = ((Rat.divInt a b).den : Int) := by
  have h := fdiv_den (a := -a) (b := -b) (by omega)
  rw [Rat.neg_divInt_neg, Int.gcd_neg, Int.neg_gcd] at h
  have e := Int.neg_fdiv_neg (-b) (a.gcd b : Int)
  rw [Int.neg_neg] at e
  rw [e, h]
theorem divInt_parts {a b : Int} (hb : b ≠ 0) : ∃ m : Int, m ≠ 0 ∧ a = (Rat.divInt a b).num * m ∧ b = ((Rat.divInt a b).den : Int) * m := by
  obtain ⟨m, h1, h2, h3⟩ := Rat.divInt_num_den (n := a) (d := b) (n' := (Rat.divInt a b).num) (d' := (Rat.divInt a b).den) (z' := (Rat.divInt a b).den_nz) (c := (Rat.divInt a b).reduced) hb rfl
  exact ⟨m, h1, h2, h3⟩
theorem divInt_cross {a b : Int} (hb : b ≠ 0) : (Rat.divInt a b).num * b = a * ((Rat.divInt a b).den : Int) := by
  have hd : ((Rat.divInt a b).den : Int) ≠ 0 := by
    have := (Rat.divInt a b).den_nz
    omega
  exact (Rat.divInt_eq_divInt_iff hd hb).mp (Rat.num_divInt_den _)
theorem num_le {a b : Int} (hb : b ≠ 0) : (Rat.divInt a b).num.natAbs ≤ a.natAbs := by
  obtain ⟨m, h1, h2, _⟩ := divInt_parts (a := a) hb
  have e : a.natAbs = (Rat.divInt a b).num.natAbs * m.natAbs := by
    rw [← Int.natAbs_mul, ← h2]
  rw [e]
  exact Nat.le_mul_of_pos_right _ (by omega)
theorem den_le {a b : Int} (hb : b ≠ 0) : (Rat.divInt a b).den ≤ b.natAbs := by
  obtain ⟨m, h1, _, h3⟩ := divInt_parts (a := a) hb
  have e : b.natAbs = ((Rat.divInt a b).den : Int).natAbs * m.natAbs := by
    rw [← Int.natAbs_mul, ← h3]
  rw [e, Int.natAbs_natCast]
  exact Nat.le_mul_of_pos_right _ (by omega)
theorem rat_gcd (q : Rat) : q.num.gcd (q.den : Int) = 1 := q.reduced
end MR

set_option Elab.async false
set_option linter.all false
set_option maxRecDepth 100000
set_option maxHeartbeats 4000000
/-! MR: is_integer, common_part, Ratio() -/
namespace MR
open PySem PySem.Spec PyProof.Rows L2
/-- b is the answer to: is x an integer? -/
def IntQ (K : PySem.W.Frag) (H : Hp) (x : V) (b : Bool) : Prop := ∃ (t : Value) (b1 : Bool), TyX K H x t ∧ PySem.W.kitOne K t (.type "int") = some b1 ∧ (b1 = false → b = false) ∧ (b1 = true → ∃ b2, PySem.W.kitOne K t (.type "bool") = some b2 ∧ b = !b2)
theorem intQ_int {K : PySem.W.Frag} {H : Hp} {i : Int} : IntQ K H (.int i) true := ⟨_, true, .base (.int i), kit_ty (by decide +kernel), fun z => (by cases z), fun _ => ⟨false, kit_ty (by decide +kernel), rfl⟩⟩
theorem intQ_bl {K : PySem.W.Frag} {H : Hp} {i : Bool} : IntQ K H (.bl i) false := ⟨_, true, .base (.bl i), kit_ty (by decide +kernel), fun z => (by cases z), fun _ => ⟨true, kit_ty (by decide +kernel), rfl⟩⟩
theorem intQ_non {K : PySem.W.Frag} {H : Hp} : IntQ K H .non false := ⟨_, false, .base .non, kit_ty (by decide +kernel), fun _ => rfl, fun z => nomatch z⟩
theorem intQ_str {K : PySem.W.Frag} {H : Hp} {x : Str} : IntQ K H (.str x) false := ⟨_, false, .base (.str x), kit_ty (by decide +kernel), fun _ => rfl, fun z => nomatch z⟩
theorem intQ_lst {K : PySem.W.Frag} {H : Hp} {a : Addr} {xs : List V} (h : H a = some (.lst xs)) : IntQ K H (.ref a) false := ⟨_, false, .base (.lst h), kit_ty (by decide +kernel), fun _ => rfl, fun z => nomatch z⟩
theorem intQ_tup {K : PySem.W.Frag} {H : Hp} {a : Addr} {xs : List V} (h : H a = some (.tup xs)) : IntQ K H (.ref a) false := ⟨_, false, .base (.tup h), kit_ty (by decide +kernel), fun _ => rfl, fun z => nomatch z⟩
/-- what the written part says of an own class without surprises -/
structure OwnC (K : PySem.W.Frag) (C : Addr) : Prop where
  cl : Cls K C
  ha : PySem.W.findIn K (.ref C) "__class__" = some (some (.builtin "object.__class__"))
  hn : PySem.W.specialIn K (.builtin "object.__class__") "__get__" = some (some (.builtin "getset_descriptor.__get__"))
  ht : PySem.W.takesIn K (.builtin "object.__class__") = some true
  hm : PySem.W.mroIn K C (.type "object") = some true
  ki : PySem.W.kitOne K (.ref C) (.type "int") = some false
theorem OwnC.ty {K : PySem.W.Frag} {H : Hp} {C a dx : Addr} {fs : List (Str × V)} (T : OwnC K C) (h : H a = some (.ins C dx fs)) : TyX K H (.ref a) (.ref C) := .base (.ins h T.cl T.ha T.hn T.ht T.hm)
theorem intQ_ins {K : PySem.W.Frag} {H : Hp} {C a dx : Addr} {fs : List (Str × V)} (T : OwnC K C) (h : H a = some (.ins C dx fs)) : IntQ K H (.ref a) false := ⟨_, false, T.ty h, T.ki, fun _ => rfl, fun z => nomatch z⟩
def spIsInt (K : PySem.W.Frag) : Sp := fun vs H Q _ => ∃ (x : V) (b : Bool), vs = [x] ∧ IntQ K H x b ∧ Q (.bl b) H
def t_is_integer (K : PySem.W.Frag) : TS :=
  (tRet (tAndV (tCB (rIsi K) (tCons (tVar 0) (tCons (tC (.ty "int")) tNil))) (tNotV (tCB (rIsi K) (tCons (tVar 0) (tCons (tC (.ty "bool")) tNil))))))
theorem pure_is_integer {K : PySem.W.Frag} (vs : List V) (H : Hp) (Q : VK) (E : XK) (h : spIsInt K vs H Q E) : t_is_integer K { nx := fun _ H' => Q .non H', rt := Q } (start ["value"] vs) H := by
  obtain ⟨x, b, rfl, ⟨t, b1, ty, k1, c1, c2⟩, q⟩ := h
  refine ⟨_, rfl, x, _, t, _, b1, rfl, .ty "int", ty, k1, b1, rfl, ?_⟩
  cases b1 with
  | false =>
    rw [c1 rfl] at q
    exact iteF q
  | true =>
    obtain ⟨b2, k2, rfl⟩ := c2 rfl
    exact iteT ⟨_, rfl, x, _, t, _, b2, rfl, .ty "bool", ty, k2, b2, rfl, q⟩
def spGcd : Sp := fun vs H Q _ => ∃ a b : Int, vs = [.int a, .int b] ∧ Q (.int (a.gcd b : Nat)) H
def t_common_part (K : PySem.W.Frag) : TS :=
  (tSeq (tPar 0 1 (tCons (tCB rAbs0 (tCons (tVar 0) tNil)) (tCons (tCB rAbs0 (tCons (tVar 1) tNil)) tNil)))
  (tSeq (tWhile (tTest (tOp rGt0 (tVar 1) (tC (.int 0)))) (tPar 0 1 (tCons (tVar 1) (tCons (tOp rModN (tVar 0) (tVar 1)) tNil))))
  (tRet (tVar 0))))
theorem abs_if (i : Int) : (if i < 0 then -i else i) = (i.natAbs : Int) := by omega
theorem pure_common_part {K : PySem.W.Frag} (vs : List V) (H : Hp) (Q : VK) (E : XK) (h : spGcd vs H Q E) : t_common_part K { nx := fun _ H' => Q .non H', rt := Q } (start ["one", "other"] vs) H := by
  obtain ⟨a, b, rfl, q⟩ := h
  refine ⟨_, rfl, _, rfl, _, rfl, _, rfl, _, _, rfl, ?_⟩
  rw [abs_if, abs_if]
  refine while_by (fun σ H' => H' = H ∧ ∃ x y : Nat, σ = [some (.int x), some (.int y)] ∧ x.gcd y = a.gcd b) (fun σ _ => match σ with | [_, some (.int y)] => y.toNat | _ => 0) ⟨rfl, _, _, rfl, rfl⟩ ?_ ?_
  · rintro σ H' ⟨rfl, x, y, rfl, hg⟩
    refine ⟨_, rfl, _, _, rfl, rfl, _, rfl, ?_⟩
    refine ite2 (fun c => ?_) (fun c => ?_)
    · have hy : 0 < y := by
        have := of_decide_eq_true c
        omega
      refine ⟨_, rfl, _, rfl, _, rfl, _, _, rfl, rfl, (by omega), _, _, rfl, ⟨rfl, y, x % y, ?_, ?_⟩, ?_⟩
      · show [some (V.int y), some (V.int ((x : Int).fmod y))] = _
        rw [Int.fmod_eq_emod_of_nonneg _ (by omega)]
        rfl
      · rw [← hg, Nat.gcd_comm x y, Nat.gcd_rec y x, Nat.gcd_comm]
      · show ((x : Int).fmod y).toNat < (y : Int).toNat
        rw [Int.fmod_eq_emod_of_nonneg _ (by omega)]
        have := Nat.mod_lt x hy
        omega
    · have hy : y = 0 := by
        rw [decide_eq_true_eq] at c
        omega
      subst hy
      refine ⟨_, rfl, ?_⟩
      rw [Nat.gcd_zero_right] at hg
      rw [hg]
      exact q
  · rintro σ H' Q1 Q2 hq ⟨v, e1, i, j, e2, e3, k, e4, h4⟩
    exact ⟨v, e1, i, j, e2, e3, k, e4, hq _ _ h4⟩
/-! ### Ratio(top, bottom) -/
abbrev CR (K : PySem.W.Frag) : Addr := He.ga K "Ratio"
/-- the fields of a fraction -/
def ratF (q : Rat) : List (Str × V) := [("top", .int q.num), ("bottom", .int (q.den : Nat))]
def IsRat (K : PySem.W.Frag) (H : Hp) (p : Addr) (q : Rat) : Prop := ∃ dx, H p = some (.ins (CR K) dx (ratF q))
theorem IsRat.same {K : PySem.W.Frag} {H H' : Hp} {p : Addr} {q : Rat} (h : IsRat K H p q) (s : Same H H') : IsRat K H' p q := let ⟨dx, e⟩ := h; ⟨dx, s _ _ e⟩
theorem tb_ne : ¬ (("bottom" : Str) = "top") := by decide +kernel
theorem ratF_top (q : Rat) : (ratF q).lookup ("top" : Str) = some (.int q.num) := by simp [ratF, List.lookup]
theorem ratF_bot (q : Rat) : (ratF q).lookup ("bottom" : Str) = some (.int (q.den : Nat)) := by
  have h : (("bottom" : Str) == ("top" : Str)) = false := by decide +kernel
  simp [ratF, List.lookup, h]
/-- what the walk asks of the class Ratio -/
structure RTxt (K : PySem.W.Frag) : Prop where
  own : OwnC K (CR K)
  nT : NoAttr K (CR K) "top"
  nB : NoAttr K (CR K) "bottom"
/-- an error of the class at C with the field p = v -/
def Err (K : PySem.W.Frag) (C p w : Str) (H : Hp) (E : XK) : Prop := ∀ d : Addr, H d = none → E (.ref (He.ga K C)) (some d) (upd H d (.xd [(p, .str w)]))
def spRInit (K : PySem.W.Frag) : Sp := fun vs H Q E => ∃ (p dx : Addr) (x y : V) (bx : Bool), vs = [.ref p, x, y] ∧ H p = some (.ins (CR K) dx []) ∧ IntQ K H x bx ∧ (bx = false → Err K "NoRatio" "word" "top" H E) ∧
  (bx = true → ∃ bY, IntQ K H y bY ∧ (bY = false → Err K "NoRatio" "word" "bottom" H E) ∧ (bY = true → ∃ a b : Int, x = .int a ∧ y = .int b ∧ (b = 0 → Err K "NoRatio" "word" "zero" H E) ∧
    (b ≠ 0 → b.natAbs < 2 ^ 9000 ∧ Q .non (upd H p (.ins (CR K) dx (ratF (Rat.divInt a b)))))))
def t_Ratio_init (K : PySem.W.Frag) (E : XK) : TS :=
  (tSeq (tIfS (tNot (tB (tCall (spIsInt K) [] E0 (tCons (tVar 1) tNil)))) (tRaiseS (He.ga K "NoRatio") "word" (fun cls d _ H => E cls d H) (tCons (tC (.str "top")) tNil)) tNext)
  (tSeq (tIfS (tNot (tB (tCall (spIsInt K) [] E0 (tCons (tVar 2) tNil)))) (tRaiseS (He.ga K "NoRatio") "word" (fun cls d _ H => E cls d H) (tCons (tC (.str "bottom")) tNil)) tNext)
  (tSeq (tIfS (tTest (tOp rEq (tVar 2) (tC (.int 0)))) (tRaiseS (He.ga K "NoRatio") "word" (fun cls d _ H => E cls d H) (tCons (tC (.str "zero")) tNil)) tNext)
  (tSeq (tAsg (tCall spGcd [] E0 (tCons (tVar 1) (tCons (tVar 2) tNil))) (gName 3))
  (tSeq (tIfS (tTest (tOp rLt0 (tVar 2) (tC (.int 0)))) (tAsg (tUn rNeg0 (tVar 3)) (gName 3)) tNext)
  (tSeq (sFld K (tVar 0) (tOp rDivZ (tVar 1) (tVar 3)) "top")
  (sFld K (tVar 0) (tOp rDivZ (tVar 2) (tVar 3)) "bottom")))))))
theorem gcd_small {a b : Int} (hb : b ≠ 0) (h : b.natAbs < 2 ^ 9000) : a.gcd b ≠ 0 ∧ a.gcd b < 2 ^ 9000 := by
  have h1 : a.gcd b ≤ b.natAbs := Nat.le_of_dvd (by omega) (Int.gcd_dvd_natAbs_right a b)
  have h2 : a.gcd b ≠ 0 := fun e => hb (Int.gcd_eq_zero_iff.mp e).2
  exact ⟨h2, Nat.lt_of_le_of_lt h1 h⟩
theorem pure_Ratio_init {K : PySem.W.Frag} (T : RTxt K) (vs : List V) (H : Hp) (Q : VK) (E : XK) (h : spRInit K vs H Q E) : t_Ratio_init K E { nx := fun _ H' => Q .non H', rt := Q } (start ["self", "top", "bottom", "divisor"] vs) H := by
  obtain ⟨p, dx, x, y, bx, rfl, hp, ix, e1, k1⟩ := h
  refine ⟨_, rfl, x, bx, rfl, ix, _, rfl, ?_⟩
  cases bx with
  | false => exact iteT ⟨_, rfl, e1 rfl⟩
  | true =>
    refine iteF ?_
    obtain ⟨bY, iy, e2, k2⟩ := k1 rfl
    refine ⟨_, rfl, y, bY, rfl, iy, _, rfl, ?_⟩
    cases bY with
    | false => exact iteT ⟨_, rfl, e2 rfl⟩
    | true =>
      refine iteF ?_
      obtain ⟨a, b, rfl, rfl, e3, k3⟩ := k2 rfl
      refine ⟨_, rfl, rfl, _, rfl, ?_⟩
      refine ite2 (fun c => ?_) (fun c => ?_)
      · have hb : b = 0 := by
          have := of_decide_eq_true c
          injection this
        exact ⟨_, rfl, e3 hb⟩
      · have hb : b ≠ 0 := fun z => c (by rw [z]; exact decide_eq_true rfl)
        obtain ⟨hs, q⟩ := k3 hb
        obtain ⟨g0, g9⟩ := gcd_small (a := a) hb hs
        refine ⟨_, rfl, _, rfl, a, b, rfl, ?_⟩
        refine ⟨_, rfl, _, _, rfl, rfl, _, rfl, ?_⟩
        have fin : ∀ d : Int, d ≠ 0 → d.natAbs < 2 ^ 9000 → a.fdiv d = (Rat.divInt a b).num → b.fdiv d = ((Rat.divInt a b).den : Nat) →
            tSeq (sFld K (tVar 0) (tOp rDivZ (tVar 1) (tVar 3)) "top") (sFld K (tVar 0) (tOp rDivZ (tVar 2) (tVar 3)) "bottom") { nx := fun _ H' => Q .non H', rt := Q } [some (.ref p), some (.int a), some (.int b), some (.int d)] H := by
          intro d d0 d9 en ed
          refine ⟨_, rfl, _, rfl, _, _, rfl, rfl, div_ok d0 d9 (by decide) (by decide), _, rfl, p, CR K, dx, [], rfl, hp, T.own.cl, T.nT, (by show 0 < 1000; decide), ?_⟩
          refine ⟨_, rfl, _, rfl, _, _, rfl, rfl, div_ok d0 d9 (by decide) (by decide), _, rfl, p, CR K, dx, _, rfl, upd_same, T.own.cl, T.nB, (by show 1 < 1000; decide), ?_⟩
          rw [upd_upd]
          dsimp only
          rw [en, ed]
          have ef : putF "bottom" (V.int ((Rat.divInt a b).den : Nat)) (putF "top" (V.int (Rat.divInt a b).num) []) = ratF (Rat.divInt a b) := by
            show (if ("top" : Str) = "bottom" then _ else _ :: putF "bottom" _ []) = _
            rw [if_neg (fun z => tb_ne z.symm)]
            rfl
          rw [ef]
          exact q
        refine ite2 (fun c => ?_) (fun c => ?_)
        · have hn : b < 0 := of_decide_eq_true c
          refine ⟨_, rfl, _, rfl, ?_⟩
          exact fin (-(a.gcd b : Int)) (by omega) (by omega) (fdiv_numN hn) (fdiv_denN hn)
        · have hn : 0 < b := by
            rw [decide_eq_true_eq] at c
            omega
          exact fin (a.gcd b : Int) (by omega) (by omega) (fdiv_num hn) (fdiv_den hn)
/-- Ratio(a, b), a fraction comes out: all that was stands, the new object holds it -/
theorem mk_rat {K : PySem.W.Frag} {H : Hp} {R : Hp → Prop} {E : XK} {a b : Int} {x dx : Addr} (nx : H x = none) (nd : H dx = none) (hb : b ≠ 0) (hs : b.natAbs < 2 ^ 9000) (k : ∀ H', Same H H' → IsRat K H' x (Rat.divInt a b) → R H') :
    spRInit K [.ref x, .int a, .int b] (upd (upd H dx (.own x)) x (.ins (CR K) dx [])) (fun v H2 => v = .non ∧ R H2) E := by
  refine ⟨x, dx, _, _, true, rfl, upd_same, intQ_int, fun z => (by cases z), fun _ => ⟨true, intQ_int, fun z => (by cases z), fun _ => ⟨a, b, rfl, rfl, fun z => absurd z hb, fun _ => ⟨hs, rfl, ?_⟩⟩⟩⟩
  rw [upd_upd]
  refine k _ (fun c o e => ?_) ⟨dx, upd_same⟩
  rw [upd_ne (ne_of_none e nx), upd_ne (ne_of_none e nd)]
  exact e
end MR

set_option Elab.async false
set_option linter.all false
set_option maxRecDepth 100000
set_option maxHeartbeats 4000000
/-! MR: facts of the head, each a Bool of the written part -/
namespace MR
open PySem PySem.Spec PyProof.Rows L2 He
abbrev Fct : Type := PySem.W.Frag → Bool
def asM (g : Addr → Option Obj) : Nat → List Addr
  | 0 => [mainGlobals, cStatics]
  | n + 1 => growD g (asM g n)
abbrev AlM : Type := Bool × List FnW
def obsM (bs : List Fct) (fn : List DefD) (K : PySem.W.Frag) : AlM := ((bs.all fun f => f K) && fn.all fun d => d.ok K, fn.map fun d => fnW K d.at_)
def valM (fn : List DefD) : AlM := (true, fn.map DefD.val)
def SaysM (bs : List Fct) (fn : List DefD) (K : PySem.W.Frag) : Prop := obsM bs fn K = valM fn
def obsMG (n : Nat) (bs : List Fct) (fn : List DefD) (g : Addr → Option Obj) : AlM := obsM bs fn (frG g (asM g n))
def hookM (n : Nat) (bs : List Fct) (fn : List DefD) : PySem.W.Hook where
  α := AlM
  obs := fun s => obsMG n bs fn s.heap.get?
  val := fun _ => valM fn
  says := fun _ h => ∃ K : PySem.W.Frag, K.In h ∧ SaysM bs fn K
  of := fun _ _ e => ⟨_, frG_in, e⟩
  keeps := fun _ _ _ ⟨K, hK, c⟩ k => ⟨K, PySem.W.Frag.In.keeps hK k, c⟩
theorem obsMG_eq {n : Nat} {bs : List Fct} {fn : List DefD} {g : Addr → Option Obj} {s : Shared} (h : ∀ a, g a = s.heap.get? a) : obsMG n bs fn g = (hookM n bs fn).obs s := by
  rw [show g = s.heap.get? from funext h]
  rfl
section
variable {bs : List Fct} {fn : List DefD} {K : PySem.W.Frag}
theorem SaysM.one (c : SaysM bs fn K) : (bs.all fun f => f K) = true ∧ (fn.all fun d => d.ok K) = true := ba (congrArg (fun z : AlM => z.1) c)
theorem SaysM.fact (c : SaysM bs fn K) (i : Nat) {f : Fct} (h : bs[i]? = some f := by rfl) : f K = true := List.all_eq_true.mp c.one.1 f (List.mem_of_getElem? h)
theorem SaysM.def_ (c : SaysM bs fn K) (i : Nat) {d : DefD} (h : fn[i]? = some d := by rfl) : ∃ fd, FunD K d.name d.qual d.params d.body d.scope (d.dvs K) (d.kws K) (fAd K d.at_) fd := by
  have e2 : (fn.map fun d => fnW K d.at_)[i]? = (fn.map DefD.val)[i]? := congrArg (fun z : AlM => z.2[i]?) c
  rw [List.getElem?_map, List.getElem?_map, h] at e2
  exact DefD.funD (Option.some.inj e2) (List.all_eq_true.mp c.one.2 d (List.mem_of_getElem? h))
end
/-! ### checks -/
def optB {α : Type} [DecidableEq α] (a : Option α) (b : α) : Bool := decide (a = some b)
theorem optB_ok {α : Type} [DecidableEq α] {a : Option α} {b : α} (h : optB a b = true) : a = some b := of_decide_eq_true h
def kitF (t c : PySem.W.Frag → Value) (b : Bool) : Fct := fun K => optB (PySem.W.kitOne K (t K) (c K)) b
def own (x : Str) : PySem.W.Frag → Value := fun K => .ref (ga K x)
def typ (n : String) : PySem.W.Frag → Value := fun _ => .type n
/-- an own class without surprises -/
def ownF (x : Str) : Fct := fun K => (Fa.cls x).ok K && (eqO (PySem.W.findIn K (.ref (ga K x)) "__class__") (some (some (.builtin "object.__class__"))) && (eqO (PySem.W.specialIn K (.builtin "object.__class__") "__get__") (some (some (.builtin "getset_descriptor.__get__"))) &&
  (optB (PySem.W.takesIn K (.builtin "object.__class__")) true && (optB (PySem.W.mroIn K (ga K x) (.type "object")) true && optB (PySem.W.kitOne K (.ref (ga K x)) (.type "int")) false))))
theorem ownF_ok {K : PySem.W.Frag} {x : Str} (h : ownF x K = true) : OwnC K (ga K x) := by
  obtain ⟨h1, h⟩ := ba h
  obtain ⟨h2, h⟩ := ba h
  obtain ⟨h3, h⟩ := ba h
  obtain ⟨h4, h⟩ := ba h
  obtain ⟨h5, h6⟩ := ba h
  exact ⟨cls_ok h1, eqO_ok h2, eqO_ok h3, optB_ok h4, optB_ok h5, optB_ok h6⟩
/-- an error class, as isinstance asks it in a suite -/
def excF (x : Str) : Fct := fun K => eqO (PySem.W.findIn K (.ref (ga K x)) "__getattribute__") (some (some (.builtin "BaseException.__getattribute__"))) && (eqO (PySem.W.findIn K (.ref (ga K x)) "__getattr__") (some none) && (optB (PySem.W.subIn K (.ref (ga K x)) (.type "BaseException")) true && (PySem.W.hasDictIn K (ga K x) &&
  (eqO (PySem.W.findIn K (.ref (ga K x)) "__class__") (some (some (.builtin "object.__class__"))) && (eqO (PySem.W.specialIn K (.builtin "object.__class__") "__get__") (some (some (.builtin "getset_descriptor.__get__"))) && (optB (PySem.W.takesIn K (.builtin "object.__class__")) true && optB (PySem.W.mroIn K (ga K x) (.type "object")) true))))))
theorem excF_ok {K : PySem.W.Frag} {x : Str} (h : excF x K = true) : ExcC K (ga K x) := by
  obtain ⟨h1, h⟩ := ba h
  obtain ⟨h2, h⟩ := ba h
  obtain ⟨h3, h⟩ := ba h
  obtain ⟨h4, h⟩ := ba h
  obtain ⟨h5, h⟩ := ba h
  obtain ⟨h6, h⟩ := ba h
  obtain ⟨h7, h8⟩ := ba h
  exact ⟨eqO_ok h1, eqO_ok h2, optB_ok h3, h4, eqO_ok h5, eqO_ok h6, optB_ok h7, optB_ok h8⟩
def xfF (x : Str) : Fct := fun K => xfB K (ga K x)
/-! ### an error whose __init__ says super().__init__(p); self.p = p -/
def bodyB (p : Str) : FuncBody → Bool
  | .stmts [.Expr (.Call (.Attribute (.Call (.Name s _) [] [] _) i q3) [.Name a _] [] q5) _, .Assign [.Attribute (.Name sf _) b _] (.Name c _) _] =>
    decide (s = "super") && (decide (i = "__init__") && (decide (a = p) && (decide (sf = "self") && (decide (b = p) && (decide (c = p) && (q3.endLine == q5.line))))))
  | _ => false
theorem bodyB_ok {p : Str} {b : FuncBody} (h : bodyB p b = true) : ∃ q1 q2 q3 q4 q5 q6 q7 q8 q9 q10 : Pos, b = .stmts [.Expr (.Call (.Attribute (.Call (.Name "super" q1) [] [] q2) "__init__" q3) [.Name p q4] [] q5) q6, .Assign [.Attribute (.Name "self" q7) p q8] (.Name p q9) q10] ∧ (q3.endLine == q5.line) = true := by
  unfold bodyB at h
  split at h
  · obtain ⟨h1, h⟩ := ba h
    obtain ⟨h2, h⟩ := ba h
    obtain ⟨h3, h⟩ := ba h
    obtain ⟨h4, h⟩ := ba h
    obtain ⟨h5, h⟩ := ba h
    obtain ⟨h6, h7⟩ := ba h
    have e1 := of_decide_eq_true h1
    have e2 := of_decide_eq_true h2
    have e3 := of_decide_eq_true h3
    have e4 := of_decide_eq_true h4
    have e5 := of_decide_eq_true h5
    have e6 := of_decide_eq_true h6
    subst e1 e2 e4
    rw [e3, e5, e6]
    exact ⟨_, _, _, _, _, _, _, _, _, _, rfl, h7⟩
  · cases h
def parB (p : Str) : Arguments → Bool
  | ⟨[], [a1, a2], none, [], [], none, []⟩ => decide (a1.arg = "self") && decide (a2.arg = p)
  | _ => false
theorem parB_ok {p : Str} {a : Arguments} (h : parB p a = true) : ∃ a1 a2 : Arg, a = { posonlyargs := [], args := [a1, a2], vararg := none, kwonlyargs := [], kw_defaults := [], kwarg := none, defaults := [] } ∧ a1.arg = "self" ∧ a2.arg = p := by
  unfold parB at h
  split at h
  · obtain ⟨h1, h2⟩ := ba h
    exact ⟨_, _, rfl, of_decide_eq_true h1, of_decide_eq_true h2⟩
  · cases h
def scB (p : Str) : Scope → Bool
  | ⟨.function, [(x1, .local), (x2, .local), (x3, .free), (x4, .globalImplicit)], false, false, []⟩ => decide (x1 = "self") && (decide (x2 = p) && (decide (x3 = "__class__") && decide (x4 = "super")))
  | _ => false
theorem scB_ok {p : Str} {s : Scope} (h : scB p s = true) : s = { kind := .function, names := [("self", .local), (p, .local), ("__class__", .free), ("super", .globalImplicit)], isGenerator := false, isCoroutine := false, more := [] } := by
  unfold scB at h
  split at h
  · obtain ⟨h1, h⟩ := ba h
    obtain ⟨h2, h⟩ := ba h
    obtain ⟨h3, h4⟩ := ba h
    rw [of_decide_eq_true h1, of_decide_eq_true h2, of_decide_eq_true h3, of_decide_eq_true h4]
  · cases h
/-- the function object of such an __init__ -/
def supFn (prog : Program) (p : Str) (K : PySem.W.Frag) (C f : Addr) : Bool := match K.lookup f with
  | some ⟨_, _, .func fd, _⟩ => PySem.W.codeIn K fd.code fd.qualname && (parB p fd.params && (bodyB p fd.body && (scB p fd.scope && (decide (fd.globals = mainGlobals) && (decide (fd.builtins = builtinsNs) && (decide (fd.defaults = .none) && (match fd.closure, fd.code with
    | [(n, cc)], .ref cda => decide (n = "__class__") && ((match K.lookup cda with
      | some ⟨_, _, .fields vs, _⟩ => (match (vs[2]? : Option Value) with
        | some (.str file _) => (prog.main.file : Str) == file
        | _ => false)
      | _ => false) && (match K.lookup cc with
      | some ⟨_, _, .cell (some (.ref D)), _⟩ => decide (D = C)
      | _ => false))
    | _, _ => false)))))))
  | _ => false
theorem supFn_ok {prog : Program} {p : Str} {K : PySem.W.Frag} {C f : Addr} (h : supFn prog p K C f = true) :
    ∃ (oc : Value) (od : Option Addr) (osl : Array (Option Value)) (fd : FuncData) (a1 a2 : Arg) (q1 q2 q3 q4 q5 q6 q7 q8 q9 q10 : Pos) (cda cc : Addr) (ccl : Value) (cdd : Option Addr) (vs : Array Value) (ccs : Array (Option Value)) (file : Str) (tf : Tok) (cl : Value) (cld : Option Addr) (csl : Array (Option Value)),
    K.lookup f = some ⟨oc, od, .func fd, osl⟩ ∧ PySem.W.codeIn K fd.code fd.qualname = true ∧
    fd.params = { posonlyargs := [], args := [a1, a2], vararg := none, kwonlyargs := [], kw_defaults := [], kwarg := none, defaults := [] } ∧ a1.arg = "self" ∧ a2.arg = p ∧
    fd.body = .stmts [.Expr (.Call (.Attribute (.Call (.Name "super" q1) [] [] q2) "__init__" q3) [.Name p q4] [] q5) q6, .Assign [.Attribute (.Name "self" q7) p q8] (.Name p q9) q10] ∧
    fd.scope = { kind := .function, names := [("self", .local), (p, .local), ("__class__", .free), ("super", .globalImplicit)], isGenerator := false, isCoroutine := false, more := [] } ∧
    fd.globals = mainGlobals ∧ fd.builtins = builtinsNs ∧ fd.closure = [(("__class__" : Str), cc)] ∧ fd.defaults = .none ∧ fd.code = .ref cda ∧
    K.lookup cda = some ⟨ccl, cdd, .fields vs, ccs⟩ ∧ vs[2]? = some (.str file tf) ∧ ((prog.main.file : Str) == file) = true ∧
    K.lookup cc = some ⟨cl, cld, .cell (some (.ref C)), csl⟩ ∧ (q3.endLine == q5.line) = true := by
  unfold supFn at h
  split at h
  · rename_i oc od fd osl hf
    obtain ⟨h1, h⟩ := ba h
    obtain ⟨h2, h⟩ := ba h
    obtain ⟨h3, h⟩ := ba h
    obtain ⟨h4, h⟩ := ba h
    obtain ⟨h5, h⟩ := ba h
    obtain ⟨h6, h⟩ := ba h
    obtain ⟨h7, h⟩ := ba h
    obtain ⟨a1, a2, e2, e2a, e2b⟩ := parB_ok h2
    obtain ⟨q1, q2, q3, q4, q5, q6, q7, q8, q9, q10, e3, e3b⟩ := bodyB_ok h3
    split at h
    · rename_i n cc cda hclo hcode
      obtain ⟨h8, h⟩ := ba h
      obtain ⟨h9, h10⟩ := ba h
      have e8 := of_decide_eq_true h8
      subst e8
      split at h9
      · rename_i ccl cdd vs ccs hcda
        split at h9
        · rename_i file tf hvs
          split at h10
          · rename_i cl cld D csl hcell
            have e10 := of_decide_eq_true h10
            subst e10
            exact ⟨oc, od, osl, fd, a1, a2, q1, q2, q3, q4, q5, q6, q7, q8, q9, q10, cda, cc, ccl, cdd, vs, ccs, file, tf, cl, cld, csl, hf, h1, e2, e2a, e2b, e3, scB_ok h4, of_decide_eq_true h5, of_decide_eq_true h6, hclo, of_decide_eq_true h7, hcode, hcda, hvs, h9, hcell, e3b⟩
          · cases h10
        · cases h9
      · cases h9
    · cases h
  · cases h
def supCls (K : PySem.W.Frag) (C : Addr) : Bool := match K.lookup C with
  | some ⟨.type t, _, .cls cd, sl⟩ => decide (t = "type") && (match cd.mro, sl.toList with
    | .ref D :: bm, [_, _, _, _, some (.builtin n), _] => decide (D = C) && (decide (n = "ValueError.__new__") && (!cd.hasDel && (cd.hasDict && (HandSPX.refsVE bm && eqO (PySem.W.alongIn K "__init__" bm) (some (some (.builtin "ValueError.__init__")))))))
    | _, _ => false)
  | _ => false
theorem supCls_ok {K : PySem.W.Frag} {C : Addr} (h : supCls K C = true) : ∃ nm q N bs bm sn sub ab col dd k0 k1 k2 k3 k5, K.lookup C = some (excClassObj nm q C N bs bm true sn sub ab col dd k0 k1 k2 k3 k5 "ValueError.__new__") ∧ HandSPX.refsVE bm = true ∧
    PySem.W.alongIn K "__init__" bm = some (some (.builtin "ValueError.__init__")) := by
  unfold supCls at h
  split at h
  · rename_i t dd cd sl ho
    obtain ⟨h0, hh⟩ := ba h
    clear h
    have e0 := of_decide_eq_true h0
    subst e0
    split at hh
    · rename_i D bm k0 k1 k2 k3 n k5 hm hs
      obtain ⟨h1, h⟩ := ba hh
      obtain ⟨h2, h⟩ := ba h
      obtain ⟨h3, h⟩ := ba h
      obtain ⟨h4, h⟩ := ba h
      obtain ⟨h5, h6⟩ := ba h
      have e1 := of_decide_eq_true h1
      have e2 := of_decide_eq_true h2
      subst e1 e2
      obtain ⟨nm, bs, mro, ns, qn, hd, sn, sb, ab, col, del⟩ := cd
      dsimp only at hm h3 h4
      subst hm h4
      have e3 : del = false := by simpa using h3
      subst e3
      refine ⟨nm, qn, ns, bs, bm, sn, sb, ab, col, dd, k0, k1, k2, k3, k5, ?_, h5, eqO_ok h6⟩
      rw [ho]
      have e : sl = #[k0, k1, k2, k3, some (.builtin "ValueError.__new__"), k5] := by
        rw [← Array.toArray_toList (xs := sl), hs]
      rw [e]
    · cases hh
  · cases h
/-- all that SupC asks -/
def supF (prog : Program) (x p : Str) : Fct := fun K => supCls K (ga K x) && (supFn prog p K (ga K x) (ma K (ga K x) "__init__") && (eqO (PySem.W.findIn K (.ref (ga K x)) "__setattr__") (some (some (.builtin "object.__setattr__"))) && (eqO (PySem.W.findIn K (.ref (ga K x)) p) (some none) &&
  (eqO (PySem.W.findIn K (.ref (ga K x)) "__init__") (some (some (.ref (ma K (ga K x) "__init__")))) && (optB (PySem.W.typeIn K (.ref (ma K (ga K x) "__init__"))) (.type "function") && (PySem.W.keepIn K (.ref (ga K x)) && (optB (PySem.W.subIn K (.ref (ga K x)) (.type "BaseException")) true &&
  (optB (PySem.W.subIn K (.ref (ga K x)) (.type "ValueError")) true && (optB (PySem.W.typeIn K (.ref (ga K x))) (.type "type") && (optB (PySem.W.mroIn K (ga K x) (.ref (ga K x))) true && (eqO (PySem.W.nsIn K cStatics "thirdparty.any") (some none) && (eqO (PySem.W.nsIn K mainGlobals "super") (some none) &&
  !(prog.main.scope.names.lookup ("super" : Str)).isSome))))))))))))
theorem supF_ok {prog : Program} {K : PySem.W.Frag} {x p : Str} (h : supF prog x p K = true) : SupC prog K (ga K x) (ma K (ga K x) "__init__") p := by
  obtain ⟨h1, h⟩ := ba h
  obtain ⟨h2, h⟩ := ba h
  obtain ⟨h3, h⟩ := ba h
  obtain ⟨h4, h⟩ := ba h
  obtain ⟨h5, h⟩ := ba h
  obtain ⟨h6, h⟩ := ba h
  obtain ⟨h7, h⟩ := ba h
  obtain ⟨h8, h⟩ := ba h
  obtain ⟨h9, h⟩ := ba h
  obtain ⟨h10, h⟩ := ba h
  obtain ⟨h11, h⟩ := ba h
  obtain ⟨h12, h⟩ := ba h
  obtain ⟨h13, h14⟩ := ba h
  exact ⟨supCls_ok h1, eqO_ok h3, eqO_ok h4, eqO_ok h5, optB_ok h6, h7, optB_ok h8, optB_ok h9, optB_ok h10, optB_ok h11, eqO_ok h12, eqO_ok h13, by simpa using h14, supFn_ok h2⟩
theorem funD_inj {K : PySem.W.Frag} {x q : Str} {p : Arguments} {b : List Stmt} {sc : Scope} {dvs : List V} {kws : List (Str × V)} {f : Addr} {fd fd' : FuncData} (F : FunD K x q p b sc dvs kws f fd) (F' : FunD K x q p b sc dvs kws f fd') : fd = fd' := by
  obtain ⟨_, _, _, _, _, _, _, _, _, _, _, h, _⟩ := F.ex
  obtain ⟨_, _, _, _, _, _, _, _, _, _, _, h', _⟩ := F'.ex
  have e := h.symm.trans h'
  simp only [Option.some.injEq, Obj.mk.injEq, Data.func.injEq] at e
  exact e.2.2.1
end MR

set_option Elab.async false
set_option linter.all false
set_option maxRecDepth 100000
set_option maxHeartbeats 4000000
/-! MR: the draws that the laws make of their script -/
namespace MR
open PySem PySem.Spec PyProof.Rows L2
/-- the list at f is the law's feed: cells at c, place, rest, left, count, sum -/
structure FeedAt (K : PySem.W.Frag) (H : Hp) (f c : Addr) (ns : List Int) (p b l n s : Int) : Prop where
  ob : H f = some (.lst [.ref c, .int p, .int b, .int l, .int n, .int s])
  cs : SqL K H c (ns.map V.int)
  ne : c ≠ f
  nn : ∀ x ∈ ns, 0 ≤ x
  p0 : 0 ≤ p
  b0 : 0 ≤ b
  l0 : 0 ≤ l
  n0 : 0 ≤ n
  s0 : 0 ≤ s
def Feed (K : PySem.W.Frag) (H : Hp) (f : Addr) : Prop := ∃ c ns p b l n s, FeedAt K H f c ns p b l n s
theorem sq_keep {K : PySem.W.Frag} {H H' : Hp} {f a : Addr} {xs : List V} (k : Keep f H H') (ne : a ≠ f) (h : SqL K H a xs) : SqL K H' a xs := by
  rcases h with (h | ⟨o, h⟩) | h
  · exact .inl (.inl (k _ _ h ne))
  · exact .inl (.inr ⟨o, k _ _ h ne⟩)
  · exact .inr h
theorem FeedAt.upd {K : PySem.W.Frag} {H : Hp} {f c : Addr} {ns : List Int} {p b l n s p' b' l' n' s' : Int} (F : FeedAt K H f c ns p b l n s) (h1 : 0 ≤ p') (h2 : 0 ≤ b') (h3 : 0 ≤ l') (h4 : 0 ≤ n') (h5 : 0 ≤ s') :
    FeedAt K (upd H f (.lst [.ref c, .int p', .int b', .int l', .int n', .int s'])) f c ns p' b' l' n' s' := ⟨upd_same, sq_keep keep_upd F.ne F.cs, F.ne, F.nn, h1, h2, h3, h4, h5⟩
theorem FeedAt.same {K : PySem.W.Frag} {H H' : Hp} {f c : Addr} {ns : List Int} {p b l n s : Int} (F : FeedAt K H f c ns p b l n s) (h : Same H H') : FeedAt K H' f c ns p b l n s := ⟨h _ _ F.ob, h.seq F.cs, F.ne, F.nn, F.p0, F.b0, F.l0, F.n0, F.s0⟩
theorem Feed.same {K : PySem.W.Frag} {H H' : Hp} {f : Addr} (F : Feed K H f) (h : Same H H') : Feed K H' f := let ⟨c, ns, p, b, l, n, s, G⟩ := F; ⟨c, ns, p, b, l, n, s, G.same h⟩
/-- _law_take(feed, size) -/
def spTake (K : PySem.W.Frag) : Sp := fun vs H Q _ => ∃ (f : Addr) (z : Int), vs = [.ref f, .int z] ∧ Feed K H f ∧ 0 < z ∧ z.natAbs < 2 ^ 9000 ∧ ∀ (d : Int) (H' : Hp), 0 ≤ d → d < z → Feed K H' f → Keep f H H' → Q (.int d) H'
def t_take2 (K : PySem.W.Frag) : TS :=
  (tSeq (tIfS (tTest (tOp rGt0 (tOp (rIxL K) (tVar 0) (tC (.int 2))) (tC (.int 0)))) (tSeq (tAsg (tOp rModN (tCB rInt0 (tCons (tOp (rIxL K) (tVar 0) (tC (.int 2))) tNil)) (tVar 1)) (gName 4))
  (tSeq (tAsg (tOp rDivZ (tOp (rIxL K) (tVar 0) (tC (.int 2))) (tVar 1)) (gSub (tVar 0) (tC (.int 2)) rSetL))
  (tRet (tVar 4)))) tNext)
  (tSeq (tAsg (tCB rMax0 (tCons (tC (.int 0)) (tCons (tOp rSub0 (tOp (rIxL K) (tVar 0) (tC (.int 3))) (tC (.int 1))) tNil))) (gSub (tVar 0) (tC (.int 3)) rSetL))
  (tSeq (tAsg (tOp rModN (tCB rInt0 (tCons (tOp rMulI (tOp rAdd0 (tOp rAdd0 (tOp (rIxL K) (tVar 0) (tC (.int 5))) (tOp rMulI (tC (.int 7919)) (tOp (rIxL K) (tVar 0) (tC (.int 4))))) (tC (.int 1))) (tC (.int 48271))) tNil)) (tC (.int 2147483647))) (gName 2))
  (tSeq (tAsg (tOp rModN (tCB rInt0 (tCons (tOp rMulI (tVar 2) (tOp rAdd0 (tOp rDivZ (tVar 2) (tC (.int 1009))) (tC (.int 69621)))) tNil)) (tC (.int 2147483647))) (gName 2))
  (tSeq (tAsg (tOp rModN (tCB rInt0 (tCons (tOp rMulI (tVar 2) (tOp rAdd0 (tOp rDivZ (tVar 2) (tC (.int 2003))) (tC (.int 40692)))) tNil)) (tC (.int 2147483399))) (gName 2))
  (tRet (tOp rModN (tVar 2) (tVar 1))))))))
def t__law_take (K : PySem.W.Frag) : TS :=
  (tSeq (tAugS (tVar 0) (tC (.int 4)) (tC (.int 1)) (rGetL K) (ipI fun i j => i + j) rSetL)
  (tSeq (tIfS (tAnd (tTest (tOp rEq (tOp (rIxL K) (tVar 0) (tC (.int 2))) (tC (.int 0)))) (tAnd (tTest (tOp rEq (tOp (rIxL K) (tVar 0) (tC (.int 3))) (tC (.int 0)))) (tTest (tOp rLt0 (tOp (rIxL K) (tVar 0) (tC (.int 1))) (tCB (rLenA K) (tCons (tOp (rIxL K) (tVar 0) (tC (.int 0))) tNil)))))) (tSeq (tAsg (tOp (rIxL K) (tOp (rIxL K) (tVar 0) (tC (.int 0))) (tOp (rIxL K) (tVar 0) (tC (.int 1)))) (gName 3))
  (tSeq (tAugS (tVar 0) (tC (.int 1)) (tC (.int 1)) (rGetL K) (ipI fun i j => i + j) rSetL)
  (tIfS (tTest (tOp rGe0 (tVar 3) (tOp rPow0 (tC (.int 10)) (tC (.int 18))))) (tAsg (tVar 3) (gSub (tVar 0) (tC (.int 2)) rSetL)) (tSeq (tAsg (tC (.int 7)) (gSub (tVar 0) (tC (.int 3)) rSetL))
  (tAsg (tOp rAdd0 (tOp (rIxL K) (tVar 0) (tC (.int 5))) (tVar 3)) (gSub (tVar 0) (tC (.int 5)) rSetL)))))) tNext)
  (t_take2 K)))
theorem fmod_lt {a z : Int} (h : 0 < z) : 0 ≤ a.fmod z ∧ a.fmod z < z := by
  rw [Int.fmod_eq_emod_of_nonneg _ (by omega)]
  exact ⟨Int.emod_nonneg _ (by omega), Int.emod_lt_of_pos _ h⟩
theorem take2_ok {K : PySem.W.Frag} {H H0 : Hp} {f c : Addr} {ns : List Int} {p b l n s z : Int} {v2 v3 v4 : Option V} {D : L2.Ends} (F : FeedAt K H f c ns p b l n s) (hz : 0 < z) (hz9 : z.natAbs < 2 ^ 9000) (kp : Keep f H0 H)
    (k : ∀ (d : Int) (H' : Hp), 0 ≤ d → d < z → Feed K H' f → Keep f H0 H' → D.rt (.int d) H') : t_take2 K D [some (.ref f), some (.int z), v2, v3, v4] H := by
  have ob := F.ob
  refine ⟨_, rfl, f, _, _, _, rfl, rfl, SqL.of ob, rfl, _, _, rfl, rfl, _, rfl, ?_⟩
  refine ite2 (fun c1 => ?_) (fun c1 => ?_)
  · refine ⟨_, rfl, f, _, _, _, rfl, rfl, SqL.of ob, rfl, .inl ⟨_, rfl, _, rfl, _, _, rfl, rfl, (by omega), ?_⟩⟩
    refine ⟨_, rfl, f, _, _, _, rfl, rfl, SqL.of ob, rfl, _, rfl, _, _, rfl, rfl, div_ok (by omega) hz9 (by decide) (by decide), _, rfl, f, _, _, 2, rfl, rfl, ob, rfl, ?_⟩
    refine ⟨_, rfl, ?_⟩
    have hq : 0 ≤ b.fdiv z := Int.fdiv_nonneg F.b0 (by omega)
    exact k _ _ (fmod_lt hz).1 (fmod_lt hz).2 ⟨c, ns, p, b.fdiv z, l, n, s, F.upd F.p0 hq F.l0 F.n0 F.s0⟩ (kp.trans keep_upd)
  · refine ⟨_, rfl, f, _, _, _, rfl, rfl, SqL.of ob, rfl, _, _, rfl, rfl, _, _, rfl, _, rfl, f, _, _, 3, rfl, rfl, ob, rfl, ?_⟩
    have hl : 0 ≤ (if l - 1 > 0 then l - 1 else 0) := by omega
    have F1 := F.upd F.p0 F.b0 hl F.n0 F.s0
    have k1 : Keep f H0 _ := kp.trans (keep_upd (f := f) (H := H) (o := .lst [.ref c, .int p, .int b, .int (if l - 1 > 0 then l - 1 else 0), .int n, .int s]))
    have ob1 := F1.ob
    have m7 : ∀ x : Int, IntMulOk 7919 x := fun x => mul_okL (by decide)
    have m4 : ∀ x : Int, IntMulOk x 48271 := fun x => mul_okR (by decide)
    refine ⟨_, rfl, f, _, _, _, rfl, rfl, SqL.of ob1, rfl, _, rfl, f, _, _, _, rfl, rfl, SqL.of ob1, rfl, _, _, rfl, rfl, m7 _, _, _, rfl, rfl, _, _, rfl, rfl, _, _, rfl, rfl, m4 _, .inl ⟨_, rfl, _, _, rfl, rfl, (by decide : (2147483647 : Int) ≠ 0), ?_⟩⟩
    have step : ∀ (y m1 m2 m3 : Int), 0 ≤ y → y < 2147483647 → 0 < m1 → 0 < m2 → 0 ≤ y.fdiv m1 + m2 ∧ IntMulOk y (y.fdiv m1 + m2) := fun y m1 m2 m3 h0 h1 h2 h3 => by
      have hq : 0 ≤ y.fdiv m1 := Int.fdiv_nonneg h0 (by omega)
      exact ⟨by omega, mul_okL (by omega)⟩
    have hy2 := fmod_lt (a := (s + 7919 * n + 1) * 48271) (z := 2147483647) (by decide)
    refine ⟨_, rfl, _, rfl, _, _, rfl, rfl, div_ok (b := 30) (by decide) (by decide) (by decide) (by decide), _, _, rfl, rfl, _, _, rfl, rfl, (step _ 1009 69621 0 hy2.1 hy2.2 (by decide) (by decide)).2, .inl ⟨_, rfl, _, _, rfl, rfl, (by decide : (2147483647 : Int) ≠ 0), ?_⟩⟩
    have hu2 := fmod_lt (a := ((s + 7919 * n + 1) * 48271).fmod 2147483647 * ((((s + 7919 * n + 1) * 48271).fmod 2147483647).fdiv 1009 + 69621)) (z := 2147483647) (by decide)
    refine ⟨_, rfl, _, rfl, _, _, rfl, rfl, div_ok (b := 30) (by decide) (by decide) (by decide) (by decide), _, _, rfl, rfl, _, _, rfl, rfl, (step _ 2003 40692 0 hu2.1 hu2.2 (by decide) (by decide)).2, .inl ⟨_, rfl, _, _, rfl, rfl, (by decide : (2147483399 : Int) ≠ 0), ?_⟩⟩
    refine ⟨_, rfl, _, rfl, _, _, rfl, rfl, (by omega), ?_⟩
    exact k _ _ (fmod_lt hz).1 (fmod_lt hz).2 ⟨c, ns, _, _, _, _, _, F1⟩ k1
theorem pure__law_take {K : PySem.W.Frag} (vs : List V) (H : Hp) (Q : VK) (E : XK) (h : spTake K vs H Q E) : t__law_take K { nx := fun _ H' => Q .non H', rt := Q } (start ["_law_feed_here", "_law_size_here", "_law_number_here", "_law_cell", "_law_digit"] vs) H := by
  obtain ⟨f, z, rfl, ⟨c, ns, p, b, l, n, s, F⟩, hz, hz9, k⟩ := h
  refine ⟨_, rfl, f, _, _, _, rfl, rfl, (by decide), SqL.of F.ob, rfl, _, _, rfl, rfl, f, _, _, 4, rfl, rfl, F.ob, rfl, ?_⟩
  have F1 := F.upd F.p0 F.b0 F.l0 (n' := n + 1) (by have := F.n0; omega) F.s0
  have k1 : Keep f H _ := keep_upd (f := f) (H := H) (o := .lst [.ref c, .int p, .int b, .int l, .int (n + 1), .int s])
  have ob := F1.ob
  refine ⟨_, rfl, f, _, _, _, rfl, rfl, SqL.of ob, rfl, rfl, _, rfl, ?_⟩
  refine ite2 (fun _ => ?_) (fun _ => iteF (take2_ok F1 hz hz9 k1 k))
  refine ⟨_, rfl, f, _, _, _, rfl, rfl, SqL.of ob, rfl, rfl, _, rfl, ?_⟩
  refine ite2 (fun _ => ?_) (fun _ => iteF (take2_ok F1 hz hz9 k1 k))
  refine ⟨_, rfl, f, _, _, _, rfl, rfl, SqL.of ob, rfl, _, rfl, f, _, _, _, rfl, rfl, SqL.of ob, rfl, .ref c, (ns.map V.int).length, rfl, .inl ⟨_, F1.cs, rfl⟩, _, _, rfl, rfl, _, rfl, ?_⟩
  refine ite2 (fun c3 => ?_) (fun _ => take2_ok F1 hz hz9 k1 k)
  have hlt : p < ns.length := by
    have e := of_decide_eq_true c3
    rw [List.length_map] at e
    exact e
  have p0 := F.p0
  obtain ⟨x, hx⟩ : ∃ x, ns[p.toNat]? = some x := ⟨_, List.getElem?_eq_getElem (by omega)⟩
  have hx0 : 0 ≤ x := F.nn x (List.mem_of_getElem? hx)
  have hat : atI (ns.map V.int) p = some (.int x) := by
    have e : p = ((p.toNat : Nat) : Int) := by omega
    rw [e]
    exact atI_nat (by rw [List.getElem?_map, hx]; rfl)
  refine ⟨_, rfl, f, _, _, _, rfl, rfl, SqL.of ob, rfl, _, rfl, f, _, _, _, rfl, rfl, SqL.of ob, rfl, c, _, p, _, rfl, rfl, F1.cs, hat, ?_⟩
  refine ⟨_, rfl, f, _, _, _, rfl, rfl, (by decide), SqL.of ob, rfl, _, _, rfl, rfl, f, _, _, 1, rfl, rfl, ob, rfl, ?_⟩
  have F2 := F1.upd (p' := p + 1) (by omega) F.b0 F.l0 F1.n0 F.s0
  have k2 := k1.trans (keep_upd (f := f) (H := _) (o := .lst [.ref c, .int (p + 1), .int b, .int l, .int (n + 1), .int s]))
  have ob2 := F2.ob
  refine ⟨_, rfl, _, _, rfl, rfl, ⟨by decide, by decide, by decide⟩, _, _, rfl, rfl, _, rfl, ?_⟩
  refine ite2 (fun _ => ?_) (fun _ => ?_)
  · refine ⟨_, rfl, _, rfl, f, _, _, 2, rfl, rfl, ob2, rfl, ?_⟩
    exact take2_ok (F2.upd F2.p0 hx0 F.l0 F1.n0 F.s0) hz hz9 (k2.trans keep_upd) k
  · refine ⟨_, rfl, f, _, _, 3, rfl, rfl, ob2, rfl, ?_⟩
    have F3 := F2.upd F2.p0 F.b0 (l' := 7) (by decide) F1.n0 F.s0
    refine ⟨_, rfl, f, _, _, _, rfl, rfl, SqL.of F3.ob, rfl, _, rfl, _, _, rfl, rfl, _, rfl, f, _, _, 5, rfl, rfl, F3.ob, rfl, ?_⟩
    exact take2_ok (F3.upd F2.p0 F.b0 F3.l0 F1.n0 (s' := s + x) (by have := F.s0; omega)) hz hz9 ((k2.trans keep_upd).trans keep_upd) k
/-- _law_number(feed, size) -/
def spNumber (K : PySem.W.Frag) : Sp := fun vs H Q _ => ∃ (f : Addr) (z : Int), vs = [.ref f, .int z] ∧ Feed K H f ∧ 0 < z ∧ z.natAbs < 2 ^ 9000 ∧ ∀ (d : Int) (H' : Hp), -z < d → d < z → Feed K H' f → Keep f H H' → Q (.int d) H'
def t__law_number (K : PySem.W.Frag) : TS :=
  (tSeq (tAsg (tOp rSub0 (tC (.int 1)) (tOp rMulI (tC (.int 2)) (tCall (spTake K) [] E0 (tCons (tVar 0) (tCons (tC (.int 2)) tNil))))) (gName 2))
  (tRet (tOp rMulI (tVar 2) (tCall (spTake K) [] E0 (tCons (tVar 0) (tCons (tVar 1) tNil))))))
theorem pure__law_number {K : PySem.W.Frag} (vs : List V) (H : Hp) (Q : VK) (E : XK) (h : spNumber K vs H Q E) : t__law_number K { nx := fun _ H' => Q .non H', rt := Q } (start ["_law_feed_here", "_law_size_here", "_law_sign"] vs) H := by
  obtain ⟨f, z, rfl, F, hz, hz9, k⟩ := h
  refine ⟨_, rfl, f, 2, rfl, F, by decide, by decide, fun d H1 d0 d1 F1 k1 => ?_⟩
  refine ⟨_, _, rfl, rfl, mul_okL (by decide), _, _, rfl, rfl, ?_⟩
  refine ⟨_, rfl, _, rfl, _, rfl, f, z, rfl, F1, hz, hz9, fun u H2 u0 u1 F2 k2 => ?_⟩
  refine ⟨_, _, rfl, rfl, mul_okL (by omega), ?_⟩
  have e : d = 0 ∨ d = 1 := by omega
  rcases e with rfl | rfl
  · exact k _ H2 (by omega) (by omega) F2 (k1.trans k2)
  · exact k _ H2 (by omega) (by omega) F2 (k1.trans k2)
/-! ### _law_feed(script) -/
def spFeed (K : PySem.W.Frag) : Sp := fun vs H Q _ => ∃ (a : Addr) (ns : List Int), vs = [.ref a] ∧ SqL K H a (ns.map V.int) ∧ ns.length ≤ 63 ∧ ∀ (f : Addr) (H' : Hp), H f = none → Same H H' → Feed K H' f → Q (.ref f) H'
def t__law_feed (K : PySem.W.Frag) : TS :=
  (tRet (tLst (tCons (tLc (iList K (tSl (rSlL K) (tVar 0) tNoPart (tPart (tC (.int 63))))) (gName 1) tYes (tCB rAbs0 (tCons (tCB rInt0 (tCons (tVar 1) tNil)) tNil)) [1]) (tCons (tC (.int 0)) (tCons (tC (.int 0)) (tCons (tC (.int 0)) (tCons (tC (.int 0)) (tCons (tC (.int 0)) tNil))))))))
theorem cut_ints (ns : List Int) (lo hi : Option Int) : ∃ ms : List Int, cutV (ns.map V.int) lo hi = ms.map V.int ∧ ms.length ≤ ns.length := by
  unfold cutV
  refine ⟨(ns.drop (HT.sIx (ns.map V.int).length 0 lo)).take (HT.sIx (ns.map V.int).length (ns.map V.int).length hi - HT.sIx (ns.map V.int).length 0 lo), ?_, ?_⟩
  · rw [List.map_take, List.map_drop]
  · rw [List.length_take, List.length_drop]
    omega
theorem map_get {ms : List Int} {i : Nat} {x : V} (h : (ms.map V.int)[i]? = some x) : ∃ z, ms[i]? = some z ∧ x = .int z := by
  rw [List.getElem?_map] at h
  cases e : ms[i]? with
  | none =>
    rw [e] at h
    cases h
  | some z =>
    rw [e] at h
    exact ⟨z, rfl, (Option.some.inj h).symm⟩
theorem take_succ_get {α : Type} {l : List α} {i : Nat} {x : α} (h : l[i]? = some x) : l.take (i + 1) = l.take i ++ [x] := by
  rw [List.take_add_one, h]
  rfl
theorem pure__law_feed {K : PySem.W.Frag} (vs : List V) (H : Hp) (Q : VK) (E : XK) (h : spFeed K vs H Q E) : t__law_feed K { nx := fun _ H' => Q .non H', rt := Q } (start ["_law_script", "_law_cell"] vs) H := by
  obtain ⟨a, ns, rfl, hS, hl, k⟩ := h
  refine ⟨_, rfl, _, rfl, a, _, rfl, hS, fun p0 np => ?_⟩
  obtain ⟨ms, em, hm⟩ := cut_ints ns none (some 63)
  rw [em]
  have s0 : Same H (upd H p0 (.lst (ms.map V.int))) := same_new np
  refine ⟨p0, rfl, ⟨_, SqL.of upd_same⟩, fun D hD => ?_⟩
  have nD : H D = none := s0.free hD
  have ne : D ≠ p0 := fun e => by rw [e, upd_same] at hD; cases hD
  refine lc_list (K := K) (a := p0) (xs := ms.map V.int) (fun i H' => Same H H' ∧ H' p0 = some (.lst (ms.map V.int)) ∧ H' D = some (.lst ((ms.take i).map fun z => V.int (z.natAbs : Nat))))
    ⟨fun b o e => ?_, ?_, upd_same⟩ (fun i H' _ q => SqL.of q.2.1) ?_ ?_
  · rw [upd_ne (ne_of_none e nD)]
    exact s0 b o e
  · rw [upd_ne (Ne.symm ne), upd_same]
  · rintro i x H' hx ⟨s1, q1, q2⟩
    obtain ⟨z, hz, rfl⟩ := map_get hx
    have hi : i < ms.length := (List.getElem?_eq_some_iff.mp hz).1
    refine ⟨rfl, _, rfl, .inl ⟨_, rfl, _, rfl, _, q2, ?_, ?_, ?_, ?_⟩⟩
    · rw [List.length_map, List.length_take]
      exact small1000 (by omega)
    · intro b o e
      rw [upd_ne (ne_of_none e nD)]
      exact s1 b o e
    · rw [upd_ne (Ne.symm ne)]
      exact q1
    · rw [upd_same, take_succ_get hz, List.map_append, abs_if]
      rfl
  · rintro H' ⟨s1, q1, q2⟩
    rw [List.length_map, List.take_length] at q2
    refine ⟨(by show 6 ≤ sizeLine; decide), fun f nf => ?_⟩
    have s2 : Same H' _ := same_new (o := .lst [.ref D, .int 0, .int 0, .int 0, .int 0, .int 0]) nf
    refine k f _ (s1.free nf) (s1.trans s2) ⟨D, ms.map fun z => ((z.natAbs : Nat) : Int), 0, 0, 0, 0, 0, upd_same, ?_, ne_of_none q2 nf, ?_, by decide, by decide, by decide, by decide, by decide⟩
    · rw [List.map_map]
      exact SqL.of (s2 _ _ q2)
    · intro x hx
      obtain ⟨z, _, rfl⟩ := List.mem_map.mp hx
      omega
/-! ### _law_divisor(a, b): four hundred turns are enough -/
def spLDiv : Sp := fun vs H Q _ => ∃ a b : Int, vs = [.int a, .int b] ∧ a.natAbs * b.natAbs < 2 ^ 399 ∧ Q (.int (a.gcd b : Nat)) H
def t__law_divisor (K : PySem.W.Frag) : TS :=
  (tSeq (tAsg (tCB rAbs0 (tCons (tVar 0) tNil)) (gName 0))
  (tSeq (tAsg (tCB rAbs0 (tCons (tVar 1) tNil)) (gName 1))
  (tSeq (tFor (iRng1 (tCons (tC (.int 400)) tNil)) (gName 2) (tSeq (tIfS (tTest (tOp rEq (tVar 1) (tC (.int 0)))) tBreak tNext)
  (tSeq (tAsg (tOp rModN (tCB rInt0 (tCons (tVar 0) tNil)) (tVar 1)) (gName 3))
  (tSeq (tAsg (tVar 1) (gName 0))
  (tAsg (tVar 3) (gName 1))))))
  (tRet (tVar 0)))))
theorem euclid_half {x y : Nat} (hy : 0 < y) (h : y ≤ x) : y * (x % y) * 2 ≤ x * y := by
  have h1 := Nat.mod_add_div x y
  have h2 := Nat.mod_lt x hy
  have h3 : 0 < x / y := Nat.div_pos h hy
  have h4 : y * 1 ≤ y * (x / y) := Nat.mul_le_mul_left y h3
  have h5 : (x % y) * 2 ≤ x := by omega
  calc y * (x % y) * 2 = y * (x % y * 2) := Nat.mul_assoc ..
    _ ≤ y * x := Nat.mul_le_mul_left y h5
    _ = x * y := Nat.mul_comm ..
/-- behind i turns -/
structure Eu (g P i x y : Nat) : Prop where
  gc : x.gcd y = g
  lt : 1 ≤ i → y < x ∨ y = 0
  pr : x * y * 2 ^ (i - 1) ≤ P
theorem Eu.turn {g P i x y : Nat} (h : Eu g P i x y) (hy : 0 < y) : Eu g P (i + 1) y (x % y) := by
  refine ⟨by rw [← h.gc, Nat.gcd_comm x y, Nat.gcd_rec y x, Nat.gcd_comm], fun _ => .inl (Nat.mod_lt x hy), ?_⟩
  by_cases hi : 1 ≤ i
  · have hlt : y ≤ x := by
      rcases h.lt hi with z | z <;> omega
    have e : 2 ^ (i + 1 - 1) = 2 * 2 ^ (i - 1) := by
      rw [show i + 1 - 1 = (i - 1) + 1 by omega, Nat.pow_succ, Nat.mul_comm]
    rw [e, ← Nat.mul_assoc]
    exact Nat.le_trans (Nat.mul_le_mul_right _ (euclid_half hy hlt)) h.pr
  · have e : i = 0 := by omega
    subst e
    have h3 := h.pr
    simp only [Nat.zero_sub, Nat.pow_zero, Nat.mul_one, Nat.zero_add, Nat.sub_self] at h3 ⊢
    have h5 : y * (x % y) ≤ y * x := Nat.mul_le_mul_left y (Nat.mod_le x y)
    rw [Nat.mul_comm y x] at h5
    omega
theorem Eu.fin {g P x y : Nat} (h : Eu g P 400 x y) (hP : P < 2 ^ 399) : y = 0 := by
  rcases Nat.eq_zero_or_pos y with e | hy
  · exact e
  · exfalso
    have hx : 0 < x := by
      rcases h.lt (by decide) with z | z <;> omega
    have h1 : 1 ≤ x * y := Nat.mul_pos hx hy
    have h2 := h.pr
    have h3 : 1 * 2 ^ (400 - 1) ≤ x * y * 2 ^ (400 - 1) := Nat.mul_le_mul_right _ h1
    rw [Nat.one_mul, show 400 - 1 = 399 by decide] at h3
    rw [show 400 - 1 = 399 by decide] at h2
    exact absurd (Nat.lt_of_le_of_lt (Nat.le_trans h3 h2) hP) (Nat.lt_irrefl _)
theorem pure__law_divisor {K : PySem.W.Frag} (vs : List V) (H : Hp) (Q : VK) (E : XK) (h : spLDiv vs H Q E) : t__law_divisor K { nx := fun _ H' => Q .non H', rt := Q } (start ["_law_a", "_law_b", "_law_k", "_law_rest"] vs) H := by
  obtain ⟨a, b, rfl, hP, q⟩ := h
  refine ⟨_, rfl, _, rfl, _, rfl, _, rfl, 400, rfl, by decide, by decide, ?_⟩
  refine for_range (lo := 0) (n := 400) (fun i σ H' => H' = H ∧ ∃ (x y : Nat) (v w : Option V), σ = [some (.int x), some (.int y), v, w] ∧ Eu (a.gcd b) (a.natAbs * b.natAbs) i x y) ⟨rfl, a.natAbs, b.natAbs, none, none, ?_, rfl, fun z => absurd z (by decide), by simp⟩ ?_ ?_
  · rw [abs_if, abs_if]
    rfl
  · rintro i σ H' hi ⟨rfl, x, y, v, w, rfl, I⟩
    refine ⟨_, rfl, rfl, _, rfl, ?_⟩
    refine ite2 (fun c => ?_) (fun c => ?_)
    · have hy : y = 0 := by
        have e := of_decide_eq_true c
        injection e with e
        omega
      subst hy
      have e := I.gc
      rw [Nat.gcd_zero_right] at e
      refine ⟨_, rfl, ?_⟩
      rw [e]
      exact q
    · have hy : 0 < y := by
        rcases Nat.eq_zero_or_pos y with e | e
        · exact absurd (by rw [e]; exact decide_eq_true rfl) c
        · exact e
      refine ⟨_, rfl, .inl ⟨_, rfl, _, rfl, _, _, rfl, rfl, (by omega), _, rfl, _, rfl, rfl, y, x % y, some (.int (0 + (i : Nat))), some (.int ((x % y : Nat) : Int)), ?_, I.turn hy⟩⟩
      show [some (V.int y), some (V.int ((x : Int).fmod y)), some (V.int (0 + (i : Nat))), some (V.int ((x : Int).fmod y))] = _
      rw [Int.fmod_eq_emod_of_nonneg _ (by omega)]
      rfl
  · rintro σ H' ⟨rfl, x, y, v, w, rfl, I⟩
    have hy := I.fin hP
    subst hy
    have e := I.gc
    rw [Nat.gcd_zero_right] at e
    refine ⟨_, rfl, ?_⟩
    rw [e]
    exact q
end MR

set_option Elab.async false
set_option linter.all false
set_option maxRecDepth 100000
set_option maxHeartbeats 4000000
set_option exponentiation.threshold 20000
/-! K01: what the law's own defs do -/
namespace MR
open PySem PySem.Spec PyProof.Rows L2
theorem tyX_same {K : PySem.W.Frag} {H H' : Hp} {x : V} {t : Value} (s : Same H H') (h : TyX K H x t) : TyX K H' x t := by
  cases h with
  | base h =>
    refine .base ?_
    cases h with
    | non => exact .non
    | bl x => exact .bl x
    | int i => exact .int i
    | str x => exact .str x
    | flt x => exact .flt x
    | lst e => exact .lst (s _ _ e)
    | frz e => exact .frz (s _ _ e)
    | tup e => exact .tup (s _ _ e)
    | dK e => exact .dK (s _ _ e)
    | dT e => exact .dT (s _ _ e)
    | ins e cl ha hn htk hm => exact .ins (s _ _ e) cl ha hn htk hm
  | byt b => exact .byt b
  | set e => exact .set (s _ _ e)
  | kList e c => exact .kList e c
  | kTuple e c => exact .kTuple e c
  | kDict e c => exact .kDict e c
  | fTuple e => exact .fTuple (s _ _ e)
  | fDict e => exact .fDict (s _ _ e)
theorem IntQ.same {K : PySem.W.Frag} {H H' : Hp} {x : V} {b : Bool} (h : IntQ K H x b) (s : Same H H') : IntQ K H' x b := let ⟨t, b1, h1, h2⟩ := h; ⟨t, b1, tyX_same s h1, h2⟩
def t__law_is_integer (K : PySem.W.Frag) : TS := t_is_integer K
theorem pure__law_is_integer {K : PySem.W.Frag} (vs : List V) (H : Hp) (Q : VK) (E : XK) (h : spIsInt K vs H Q E) : t__law_is_integer K { nx := fun _ H' => Q .non H', rt := Q } (start ["_law_value"] vs) H := pure_is_integer vs H Q E h
/-- _law_size(feed) -/
def spSize (K : PySem.W.Frag) : Sp := fun vs H Q _ => ∃ (f : Addr), vs = [.ref f] ∧ Feed K H f ∧ ∀ (d : Int) (H' : Hp), 0 < d → d ≤ 10 ^ 20 → Feed K H' f → Keep f H H' → Q (.int d) H'
def t__law_size (K : PySem.W.Frag) : TS :=
  (tRet (tOp (rIxL K) (tLst (tCons (tC (.int 21)) (tCons (tOp rPow0 (tC (.int 10)) (tC (.int 20))) (tCons (tOp rPow0 (tC (.int 10)) (tC (.int 20))) tNil)))) (tCall (spTake K) [] E0 (tCons (tVar 0) (tCons (tC (.int 3)) tNil)))))
theorem pure__law_size {K : PySem.W.Frag} (vs : List V) (H : Hp) (Q : VK) (E : XK) (h : spSize K vs H Q E) : t__law_size K { nx := fun _ H' => Q .non H', rt := Q } (start ["_law_feed_here"] vs) H := by
  obtain ⟨f, rfl, F, k⟩ := h
  refine ⟨_, _, rfl, rfl, ⟨by decide, by decide, by decide⟩, _, _, rfl, rfl, ⟨by decide, by decide, by decide⟩, (by show 3 ≤ sizeLine; decide), fun p np => ?_⟩
  have s1 : Same H _ := same_new (o := .lst [.int 21, .int (10 ^ 20), .int (10 ^ 20)]) np
  refine ⟨_, rfl, f, 3, rfl, F.same s1, by decide, by decide, fun d H1 d0 d1 F1 k1 => ?_⟩
  have nf : p ≠ f := fun e => by
    obtain ⟨c, ns, _, _, _, _, _, G⟩ := F
    have q := G.ob
    rw [← e, np] at q
    cases q
  have hp : H1 p = some (.lst [.int 21, .int (10 ^ 20), .int (10 ^ 20)]) := k1 p _ upd_same nf
  have kk : Keep f H H1 := fun b o e n => k1 b o (s1 b o e) n
  have e : d = 0 ∨ d = 1 ∨ d = 2 := by omega
  rcases e with rfl | rfl | rfl
  · exact ⟨p, _, _, _, rfl, rfl, SqL.of hp, rfl, k _ H1 (by decide) (by decide) F1 kk⟩
  · exact ⟨p, _, _, _, rfl, rfl, SqL.of hp, rfl, k _ H1 (by decide) (by decide) F1 kk⟩
  · exact ⟨p, _, _, _, rfl, rfl, SqL.of hp, rfl, k _ H1 (by decide) (by decide) F1 kk⟩
/-- Ratio(x, y) is refused with the word w -/
def Ref (K : PySem.W.Frag) (H : Hp) (x y : V) (w : Str) : Prop := (IntQ K H x false ∧ w = "top") ∨ (∃ a : Int, x = .int a ∧ IntQ K H y false ∧ w = "bottom") ∨ (∃ a : Int, x = .int a ∧ y = .int 0 ∧ w = "zero")
def spRefused (K : PySem.W.Frag) : Sp := fun vs H Q _ => ∃ (x y : V) (w : Str), vs = [x, y, .str w] ∧ Ref K H x y w ∧ ∀ H', Same H H' → Q (.bl true) H'
/-- the error class, as the law asks -/
structure ETxt (K : PySem.W.Frag) : Prop where
  te : PySem.W.exmOne K (.ref (He.ga K "NoRatio")) (.ref (He.ga K "NoRatio")) = some true
  ec : ExcC K (He.ga K "NoRatio")
  kM : PySem.W.kitOne K (.ref (He.ga K "NoRatio")) (.ref (He.ga K "MeansError")) = some true
  kV : PySem.W.kitOne K (.ref (He.ga K "NoRatio")) (.type "ValueError") = some true
  kN : PySem.W.kitOne K (.ref (He.ga K "NoRatio")) (.ref (He.ga K "NoNumber")) = some false
  kP : PySem.W.kitOne K (.ref (He.ga K "NoRatio")) (.ref (He.ga K "NoPoly")) = some false
def t__law_refused (K : PySem.W.Frag) : TS :=
  (tSeq (tAsg (tC (.bl false)) (gName 3))
  (tSeq (fun D => (fun W => (tDrop (tMakeS (He.ga K "Ratio") (spRInit K) [] (WE W) (tCons (tVar 0) (tCons (tVar 1) tNil))))) (wAs K (.ref (He.ga K "NoRatio")) 4 (fun a cls d => (tSeq (tAsg (tAndV (tOp rEq (tXf a cls d (He.ga K "NoRatio") "word" (tVar 4)) (tVar 2)) (tAndV (tCB (rIsX K a cls d) (tCons (tVar 4) (tCons (tC (.ref (He.ga K "MeansError"))) tNil))) (tCB (rIsX K a cls d) (tCons (tVar 4) (tCons (tC (.ty "ValueError")) tNil))))) (gName 3))
  (tAsg (tAndV (tVar 3) (tAndV (tNotV (tCB (rIsX K a cls d) (tCons (tVar 4) (tCons (tC (.ref (He.ga K "NoNumber"))) tNil)))) (tNotV (tCB (rIsX K a cls d) (tCons (tVar 4) (tCons (tC (.ref (He.ga K "NoPoly"))) tNil)))))) (gName 3)))) (fun _ _ _ _ => False) D) D)
  (tRet (tVar 3))))
theorem pure__law_refused {K : PySem.W.Frag} (T : ETxt K) (vs : List V) (H : Hp) (Q : VK) (E : XK) (h : spRefused K vs H Q E) : t__law_refused K { nx := fun _ H' => Q .non H', rt := Q } (start ["_law_top", "_law_bottom", "_law_word", "_law_found", "e"] vs) H := by
  obtain ⟨x, y, w, rfl, hR, k⟩ := h
  refine ⟨_, rfl, _, rfl, fun p dx np nd ne => ?_⟩
  have s1 : Same H (upd (upd H dx (.own p)) p (.ins (CR K) dx [])) := fun b o e => by
    rw [upd_ne (ne_of_none e np), upd_ne (ne_of_none e nd)]
    exact e
  have way : Err K "NoRatio" "word" w (upd (upd H dx (.own p)) p (.ins (CR K) dx [])) (WE (wAs K (.ref (He.ga K "NoRatio")) 4 (fun a cls d => (tSeq (tAsg (tAndV (tOp rEq (tXf a cls d (He.ga K "NoRatio") "word" (tVar 4)) (tVar 2)) (tAndV (tCB (rIsX K a cls d) (tCons (tVar 4) (tCons (tC (.ref (He.ga K "MeansError"))) tNil))) (tCB (rIsX K a cls d) (tCons (tVar 4) (tCons (tC (.ty "ValueError")) tNil))))) (gName 3))
      (tAsg (tAndV (tVar 3) (tAndV (tNotV (tCB (rIsX K a cls d) (tCons (tVar 4) (tCons (tC (.ref (He.ga K "NoNumber"))) tNil)))) (tNotV (tCB (rIsX K a cls d) (tCons (tVar 4) (tCons (tC (.ref (He.ga K "NoPoly"))) tNil)))))) (gName 3)))) (fun _ _ _ _ => False) { nx := (tRet (tVar 3)) { nx := fun _ H' => Q .non H', rt := Q }, rt := Q }) [some x, some y, some (.str w), some (.bl false), none]) := by
    intro d hd
    refine ⟨true, T.te, fun _ a ha => ?_, fun z => by cases z⟩
    have hx := (Or.inr ⟨d, [(("word" : Str), V.str w)], rfl, upd_same⟩ : (some d = none ∨ ∃ dd fs, some d = some dd ∧ (upd (upd (upd H dx (.own p)) p (.ins (CR K) dx [])) d (.xd [(("word" : Str), V.str w)])) dd = some (.xd fs)))
    refine ⟨_, rfl, rfl, rfl, d, _, .str w, rfl, upd_same, (by simp [List.lookup]), _, rfl, rfl, _, rfl, ?_⟩
    rw [if_pos (decide_eq_true rfl)]
    refine ⟨_, rfl, _, _, _, true, rfl, rfl, T.ec, .own _, T.kM, hx, _, rfl, iteT ?_⟩
    refine ⟨_, rfl, _, _, _, true, rfl, rfl, T.ec, .ty _, T.kV, hx, ?_⟩
    refine ⟨_, rfl, _, rfl, iteT ?_⟩
    refine ⟨_, rfl, _, _, _, false, rfl, rfl, T.ec, .own _, T.kN, hx, _, rfl, _, rfl, iteT ?_⟩
    refine ⟨_, rfl, _, _, _, false, rfl, rfl, T.ec, .own _, T.kP, hx, _, rfl, ?_⟩
    exact ⟨_, rfl, k _ (s1.trans (same_new hd))⟩
  rcases hR with ⟨hx, rfl⟩ | ⟨a, rfl, hy, rfl⟩ | ⟨a, rfl, rfl, rfl⟩
  · exact ⟨p, dx, _, _, false, rfl, upd_same, hx.same s1, fun _ => way, fun z => by cases z⟩
  · exact ⟨p, dx, _, _, true, rfl, upd_same, intQ_int, fun z => (by cases z), fun _ => ⟨false, hy.same s1, fun _ => way, fun z => by cases z⟩⟩
  · exact ⟨p, dx, _, _, true, rfl, upd_same, intQ_int, fun z => (by cases z), fun _ => ⟨true, intQ_int, fun z => (by cases z), fun _ => ⟨a, 0, rfl, rfl, fun _ => way, fun z => absurd rfl z⟩⟩⟩
/-- the fields of a fraction, read -/
theorem rd_top {K : PySem.W.Frag} (T : RTxt K) {H : Hp} {p : Addr} {q : Rat} {R : V → Prop} (h : IsRat K H p q) (k : R (.int q.num)) : ∃ a C dx fs v, V.ref p = .ref a ∧ H a = some (.ins C dx fs) ∧ Cls K C ∧ NoAttr K C "top" ∧ fs.lookup ("top" : Str) = some v ∧ R v := by
  obtain ⟨dx, e⟩ := h
  exact ⟨p, _, dx, _, _, rfl, e, T.own.cl, T.nT, ratF_top q, k⟩
theorem rd_bot {K : PySem.W.Frag} (T : RTxt K) {H : Hp} {p : Addr} {q : Rat} {R : V → Prop} (h : IsRat K H p q) (k : R (.int (q.den : Nat))) : ∃ a C dx fs v, V.ref p = .ref a ∧ H a = some (.ins C dx fs) ∧ Cls K C ∧ NoAttr K C "bottom" ∧ fs.lookup ("bottom" : Str) = some v ∧ R v := by
  obtain ⟨dx, e⟩ := h
  exact ⟨p, _, dx, _, _, rfl, e, T.own.cl, T.nB, ratF_bot q, k⟩
def spGood (K : PySem.W.Frag) : Sp := fun vs H Q _ => ∃ (p : Addr) (a b : Int), vs = [.ref p, .int a, .int b] ∧ IsRat K H p (Rat.divInt a b) ∧ b ≠ 0 ∧ a.natAbs < 2 ^ 140 ∧ b.natAbs < 2 ^ 140 ∧ Q (.bl true) H
def t__law_good (K : PySem.W.Frag) : TS :=
  (tSeq (tIfS (tOr (tNot (tB (tCall (spIsInt K) [] E0 (tCons (tFld K (tVar 0) "top") tNil)))) (tOr (tNot (tB (tCall (spIsInt K) [] E0 (tCons (tFld K (tVar 0) "bottom") tNil)))) (tTest (tOp rLt0 (tFld K (tVar 0) "bottom") (tC (.int 1)))))) (tRet (tC (.bl false))) tNext)
  (tRet (tAndV (tOp rEq (tOp rMulI (tFld K (tVar 0) "top") (tVar 2)) (tOp rMulI (tVar 1) (tFld K (tVar 0) "bottom"))) (tOp rEq (tCall spLDiv [] E0 (tCons (tFld K (tVar 0) "top") (tCons (tFld K (tVar 0) "bottom") tNil))) (tC (.int 1))))))
theorem pure__law_good {K : PySem.W.Frag} (T : RTxt K) (vs : List V) (H : Hp) (Q : VK) (E : XK) (h : spGood K vs H Q E) : t__law_good K { nx := fun _ H' => Q .non H', rt := Q } (start ["_law_value", "_law_top", "_law_bottom"] vs) H := by
  obtain ⟨p, a, b, rfl, R, hb, ha1, hb1, k⟩ := h
  have n1 := num_le (a := a) hb
  have n2 := den_le (a := a) hb
  have hc := divInt_cross (a := a) hb
  generalize hq : Rat.divInt a b = q at R n1 n2 hc
  have dn : q.den ≠ 0 := q.den_nz
  refine ⟨_, rfl, rd_top T R ⟨_, true, rfl, intQ_int, _, rfl, ?_⟩⟩
  refine iteF ?_
  refine ⟨_, rfl, rd_bot T R ⟨_, true, rfl, intQ_int, _, rfl, ?_⟩⟩
  refine iteF ?_
  refine ⟨_, rfl, rd_bot T R ⟨_, _, rfl, rfl, _, rfl, ?_⟩⟩
  rw [decide_eq_false (show ¬ ((q.den : Nat) : Int) < 1 by omega)]
  refine iteF ?_
  refine ⟨_, rfl, rd_top T R ⟨_, rfl, _, _, rfl, rfl, mul_ok (a := 140) (b := 140) (by omega) (by omega) (by decide) (by decide) (by decide), ?_⟩⟩
  refine ⟨_, rfl, _, rfl, rd_bot T R ⟨_, _, rfl, rfl, mul_ok (a := 140) (b := 140) (by omega) (by omega) (by decide) (by decide) (by decide), rfl, _, rfl, ?_⟩⟩
  rw [if_pos (decide_eq_true (by dsimp only; rw [hc]))]
  refine ⟨_, rfl, rd_top T R ⟨_, rfl, rd_bot T R ⟨_, _, rfl, ?_, rfl, ?_⟩⟩⟩
  · rw [Int.natAbs_natCast]
    have : q.num.natAbs * q.den ≤ 2 ^ 140 * 2 ^ 140 := Nat.mul_le_mul (by omega) (by omega)
    exact Nat.lt_of_le_of_lt this (by rw [← Nat.pow_add]; exact Nat.pow_lt_pow_right (by decide) (by decide))
  · rw [rat_gcd, decide_eq_true (show V.int ((1 : Nat) : Int) = V.int 1 from rfl)]
    exact k
/-! ### law -/
def spLaw (K : PySem.W.Frag) : Sp := fun vs H Q _ => ∃ (a : Addr) (ns : List Int), vs = [.ref a] ∧ SqL K H a (ns.map V.int) ∧ ns.length ≤ 63 ∧ ∀ H', Q (.bl true) H'
def t_law2 (K : PySem.W.Frag) : TS :=
  (tSeq (tAsg (tOp (rIxL K) (tVar 2) (tCall (spTake K) [] E0 (tCons (tVar 1) (tCons (tC (.int 7)) tNil)))) (gName 7))
  (tSeq (tAsg (tOp (rIxL K) (tVar 2) (tCall (spTake K) [] E0 (tCons (tVar 1) (tCons (tC (.int 7)) tNil)))) (gName 8))
  (tSeq (tIfS (tTest (tOp rEq (tVar 6) (tC (.int 0)))) (tIfS (tNot (tB (tCall (spRefused K) [] E0 (tCons (tVar 5) (tCons (tVar 6) (tCons (tC (.str "zero")) tNil)))))) (tRet (tC (.bl false))) tNext) (tIfS (tOr (tNot (tB (tCall (spGood K) [] E0 (tCons (tMake (He.ga K "Ratio") (spRInit K) [] E0 (tCons (tVar 5) (tCons (tVar 6) tNil))) (tCons (tVar 5) (tCons (tVar 6) tNil)))))) (tNot (tB (tCall (spGood K) [] E0 (tCons (tMakeK (He.ga K "Ratio") 0 2 (spRInit K) (fun vs zs => vs ++ zs) E0 tNil (tCons (tVar 5) (tCons (tVar 6) tNil))) (tCons (tVar 5) (tCons (tVar 6) tNil))))))) (tRet (tC (.bl false))) tNext))
  (tSeq (tIfS (tNot (tB (tCall (spGood K) [] E0 (tCons (tMake (He.ga K "Ratio") (spRInit K) [.int 1] E0 (tCons (tVar 5) tNil)) (tCons (tVar 5) (tCons (tC (.int 1)) tNil)))))) (tRet (tC (.bl false))) tNext)
  (tSeq (tIfS (tOr (tNot (tB (tCall (spRefused K) [] E0 (tCons (tVar 7) (tCons (tVar 6) (tCons (tC (.str "top")) tNil)))))) (tNot (tB (tCall (spRefused K) [] E0 (tCons (tVar 7) (tCons (tVar 8) (tCons (tC (.str "top")) tNil))))))) (tRet (tC (.bl false))) tNext)
  (tIfS (tOr (tNot (tB (tCall (spRefused K) [] E0 (tCons (tVar 5) (tCons (tVar 7) (tCons (tC (.str "bottom")) tNil)))))) (tNot (tB (tCall (spRefused K) [] E0 (tCons (tVar 7) (tCons (tC (.int 0)) (tCons (tC (.str "top")) tNil))))))) (tRet (tC (.bl false))) tNext))))))
def t_law (K : PySem.W.Frag) : TS :=
  (tSeq (tAsg (tCall (spFeed K) [] E0 (tCons (tVar 0) tNil)) (gName 1))
  (tSeq (tAsg (tLst (tCons (tC .non) (tCons (tC (.str "1")) (tCons (tC (.bl true)) (tCons (tC (.bl false)) (tCons (tLst (tCons (tC (.int 1)) tNil)) (tCons (tTup (tCons (tC (.int 2)) tNil)) (tCons (tMake (He.ga K "Ratio") (spRInit K) [] E0 (tCons (tC (.int 1)) (tCons (tC (.int 2)) tNil))) tNil)))))))) (gName 2))
  (tSeq (tFor (iRng1 (tCons (tOp rAdd0 (tC (.int 2)) (tCall (spTake K) [] E0 (tCons (tVar 1) (tCons (tC (.int 19)) tNil)))) tNil)) (gName 3) (tSeq (tAsg (tCall (spNumber K) [] E0 (tCons (tVar 1) (tCons (tCall (spSize K) [] E0 (tCons (tVar 1) tNil)) tNil))) (gName 4))
  (tSeq (tAsg (tOp rMulI (tCall (spNumber K) [] E0 (tCons (tVar 1) (tCons (tCall (spSize K) [] E0 (tCons (tVar 1) tNil)) tNil))) (tVar 4)) (gName 5))
  (tSeq (tAsg (tOp rMulI (tCall (spNumber K) [] E0 (tCons (tVar 1) (tCons (tCall (spSize K) [] E0 (tCons (tVar 1) tNil)) tNil))) (tVar 4)) (gName 6))
  (tSeq (tIfS (tTest (tOp rEq (tCall (spTake K) [] E0 (tCons (tVar 1) (tCons (tC (.int 7)) tNil))) (tC (.int 0)))) (tAsg (tC (.int 0)) (gName 6)) tNext)
  (t_law2 K))))))
  (tRet (tC (.bl true))))))
theorem keep_tyX {K : PySem.W.Frag} {H H' : Hp} {f : Addr} {x : V} {t : Value} (s : Keep f H H') (n : x ≠ .ref f) (h : TyX K H x t) : TyX K H' x t := by
  have nn : ∀ {a : Addr}, V.ref a ≠ .ref f → a ≠ f := fun h e => h (by rw [e])
  cases h with
  | base h =>
    refine .base ?_
    cases h with
    | non => exact .non
    | bl x => exact .bl x
    | int i => exact .int i
    | str x => exact .str x
    | flt x => exact .flt x
    | lst e => exact .lst (s _ _ e (nn n))
    | frz e => exact .frz (s _ _ e (nn n))
    | tup e => exact .tup (s _ _ e (nn n))
    | dK e => exact .dK (s _ _ e (nn n))
    | dT e => exact .dT (s _ _ e (nn n))
    | ins e cl ha hn htk hm => exact .ins (s _ _ e (nn n)) cl ha hn htk hm
  | byt b => exact .byt b
  | set e => exact .set (s _ _ e (nn n))
  | kList e c => exact .kList e c
  | kTuple e c => exact .kTuple e c
  | kDict e c => exact .kDict e c
  | fTuple e => exact .fTuple (s _ _ e (nn n))
  | fDict e => exact .fDict (s _ _ e (nn n))
theorem IntQ.keep {K : PySem.W.Frag} {H H' : Hp} {f : Addr} {x : V} {b : Bool} (h : IntQ K H x b) (s : Keep f H H') (n : x ≠ .ref f) : IntQ K H' x b := let ⟨t, b1, h1, h2⟩ := h; ⟨t, b1, keep_tyX s n h1, h2⟩
/-- between two turns: the feed at f, the strange things xs at p -/
structure Mid (K : PySem.W.Frag) (H : Hp) (f p : Addr) (xs : List V) : Prop where
  fd : Feed K H f
  ob : H p = some (.lst xs)
  ne : p ≠ f
  len : xs.length = 7
  bad : ∀ x ∈ xs, IntQ K H x false ∧ x ≠ .ref f
theorem Mid.keep {K : PySem.W.Frag} {H H' : Hp} {f p : Addr} {xs : List V} (m : Mid K H f p xs) (k : Keep f H H') (F : Feed K H' f) : Mid K H' f p xs := ⟨F, k _ _ m.ob m.ne, m.ne, m.len, fun x hx => ⟨(m.bad x hx).1.keep k (m.bad x hx).2, (m.bad x hx).2⟩⟩
theorem Mid.same {K : PySem.W.Frag} {H H' : Hp} {f p : Addr} {xs : List V} (m : Mid K H f p xs) (s : Same H H') : Mid K H' f p xs := m.keep (Same.keep s) (m.fd.same s)
theorem Mid.at {K : PySem.W.Frag} {H : Hp} {f p : Addr} {xs : List V} (m : Mid K H f p xs) {d : Int} (d0 : 0 ≤ d) (d7 : d < 7) : ∃ x, atI xs d = some x ∧ x ∈ xs := by
  have hl := m.len
  obtain ⟨x, hx⟩ : ∃ x, xs[d.toNat]? = some x := ⟨_, List.getElem?_eq_getElem (by omega)⟩
  refine ⟨x, ?_, List.mem_of_getElem? hx⟩
  have e : d = ((d.toNat : Nat) : Int) := by omega
  rw [e]
  exact atI_nat hx
theorem small40 {u c : Int} (h1 : -(10 ^ 20) < u) (h2 : u < 10 ^ 20) (h3 : -(10 ^ 20) < c) (h4 : c < 10 ^ 20) : (u * c).natAbs < 2 ^ 140 := by
  rw [Int.natAbs_mul]
  have a1 : u.natAbs ≤ 10 ^ 20 := by omega
  have a2 : c.natAbs ≤ 10 ^ 20 := by omega
  exact Nat.lt_of_le_of_lt (Nat.mul_le_mul a1 a2) (by decide)
theorem not_ite {A B : Prop} (h : B) : if (!true) = true then A else B := iteF h
theorem law2_ok {K : PySem.W.Frag} {H : Hp} {D : L2.Ends} {a f p : Addr} {xs : List V} {v3 v4 v7 v8 : Option V} {top bot : Int} (M : Mid K H f p xs) (ht : top.natAbs < 2 ^ 140) (hb : bot.natAbs < 2 ^ 140)
    (k : ∀ v7 v8 H', Mid K H' f p xs → D.nx [some (.ref a), some (.ref f), some (.ref p), v3, v4, some (.int top), some (.int bot), v7, v8] H') :
    t_law2 K D [some (.ref a), some (.ref f), some (.ref p), v3, v4, some (.int top), some (.int bot), v7, v8] H := by
  refine ⟨_, rfl, _, rfl, f, 7, rfl, M.fd, by decide, by decide, fun e H1 e0 e1 F1 k1 => ?_⟩
  have M1 := M.keep k1 F1
  obtain ⟨x, hx, mx⟩ := M1.at e0 e1
  refine ⟨p, _, e, x, rfl, rfl, SqL.of M1.ob, hx, ?_⟩
  refine ⟨_, rfl, _, rfl, f, 7, rfl, M1.fd, by decide, by decide, fun g H2 g0 g1 F2 k2 => ?_⟩
  have M2 := M1.keep k2 F2
  obtain ⟨y, hy, my⟩ := M2.at g0 g1
  refine ⟨p, _, g, y, rfl, rfl, SqL.of M2.ob, hy, ?_⟩
  have b9 : bot.natAbs < 2 ^ 9000 := Nat.lt_trans hb (Nat.pow_lt_pow_right (by decide) (by decide))
  -- the fraction of one argument, and the refusals behind
  have tail : ∀ H3, Mid K H3 f p xs → (tSeq (tIfS (tNot (tB (tCall (spGood K) [] E0 (tCons (tMake (He.ga K "Ratio") (spRInit K) [.int 1] E0 (tCons (tVar 5) tNil)) (tCons (tVar 5) (tCons (tC (.int 1)) tNil)))))) (tRet (tC (.bl false))) tNext)
      (tSeq (tIfS (tOr (tNot (tB (tCall (spRefused K) [] E0 (tCons (tVar 7) (tCons (tVar 6) (tCons (tC (.str "top")) tNil)))))) (tNot (tB (tCall (spRefused K) [] E0 (tCons (tVar 7) (tCons (tVar 8) (tCons (tC (.str "top")) tNil))))))) (tRet (tC (.bl false))) tNext)
      (tIfS (tOr (tNot (tB (tCall (spRefused K) [] E0 (tCons (tVar 5) (tCons (tVar 7) (tCons (tC (.str "bottom")) tNil)))))) (tNot (tB (tCall (spRefused K) [] E0 (tCons (tVar 7) (tCons (tC (.int 0)) (tCons (tC (.str "top")) tNil))))))) (tRet (tC (.bl false))) tNext)))
      D [some (.ref a), some (.ref f), some (.ref p), v3, v4, some (.int top), some (.int bot), some x, some y] H3 := by
    intro H3 M3
    refine ⟨_, rfl, ?_⟩
    intro q dq nq ndq _
    refine mk_rat (a := top) (b := 1) nq ndq (by decide) (by decide) fun H4 s4 R4 => ?_
    refine ⟨_, rfl, q, top, 1, rfl, R4, by decide, ht, by decide, _, rfl, ?_⟩
    refine not_ite ?_
    have M4 := M3.same s4
    refine ⟨_, rfl, _, rfl, x, _, _, rfl, .inl ⟨(M4.bad x mx).1, rfl⟩, fun H5 s5 => ⟨_, rfl, not_ite ?_⟩⟩
    have M5 := M4.same s5
    refine ⟨_, rfl, _, rfl, x, _, _, rfl, .inl ⟨(M5.bad x mx).1, rfl⟩, fun H6 s6 => ⟨_, rfl, not_ite ?_⟩⟩
    have M6 := M5.same s6
    refine ⟨_, rfl, _, rfl, _, x, _, rfl, .inr (.inl ⟨top, rfl, (M6.bad x mx).1, rfl⟩), fun H7 s7 => ⟨_, rfl, not_ite ?_⟩⟩
    have M7 := M6.same s7
    exact ⟨_, rfl, x, _, _, rfl, .inl ⟨(M7.bad x mx).1, rfl⟩, fun H8 s8 => ⟨_, rfl, not_ite (k _ _ _ (M7.same s8))⟩⟩
  refine ⟨_, rfl, rfl, _, rfl, ?_⟩
  refine ite2 (fun c => ?_) (fun c => ?_)
  · have hb0 : bot = 0 := by
      have e := of_decide_eq_true c
      injection e
    subst hb0
    exact ⟨_, rfl, _, rfl, _, _, _, rfl, .inr (.inr ⟨top, rfl, rfl, rfl⟩), fun H3 s3 => ⟨_, rfl, not_ite (tail H3 (M2.same s3))⟩⟩
  · have hb0 : bot ≠ 0 := fun z => c (by rw [z]; exact decide_eq_true rfl)
    refine ⟨_, rfl, _, rfl, ?_⟩
    intro q dq nq ndq _
    refine mk_rat (a := top) (b := bot) nq ndq hb0 b9 fun H4 s4 R4 => ?_
    refine ⟨_, rfl, _, rfl, q, top, bot, rfl, R4, hb0, ht, hb, _, rfl, not_ite ?_⟩
    refine ⟨_, rfl, _, rfl, rfl, rfl, ?_⟩
    intro q dq nq ndq _
    refine mk_rat (a := top) (b := bot) nq ndq hb0 b9 fun H5 s5 R5 => ?_
    exact ⟨_, rfl, _, rfl, q, top, bot, rfl, R5, hb0, ht, hb, _, rfl, not_ite (tail H5 ((M2.same s4).same s5))⟩
theorem pure_law {K : PySem.W.Frag} (T : RTxt K) (vs : List V) (H : Hp) (Q : VK) (E : XK) (h : spLaw K vs H Q E) : t_law K { nx := fun _ H' => Q .non H', rt := Q } (start ["_law_script", "_law_feed_here", "_law_strange", "_law_k", "_law_common", "_law_top", "_law_bottom", "_law_bad", "_law_other"] vs) H := by
  obtain ⟨a, ns, rfl, hS, hl, k⟩ := h
  refine ⟨_, rfl, a, ns, rfl, hS, hl, fun f H1 nf s1 F1 => ?_⟩
  -- the strange things
  refine ⟨(by show 1 ≤ sizeLine; decide), fun p1 np1 => ⟨(by show 1 ≤ sizeLine; decide), fun p2 np2 => ?_⟩⟩
  intro p3 dy np3 nd3 ne3
  refine mk_rat (a := 1) (b := 2) np3 nd3 (by decide) (by decide) fun H4 s4 R3 => ?_
  refine ⟨(by show 7 ≤ sizeLine; decide), fun p np => ?_⟩
  have g1 : Same H1 (upd H1 p1 (.lst [.int 1])) := same_new np1
  have g2 : Same (upd H1 p1 (.lst [.int 1])) (upd (upd H1 p1 (.lst [.int 1])) p2 (.tup [.int 2])) := same_new np2
  have q1 : H4 p1 = some (.lst [.int 1]) := s4 _ _ (g2 _ _ upd_same)
  have q2 : H4 p2 = some (.tup [.int 2]) := s4 _ _ upd_same
  have F4 : Feed K H4 f := F1.same ((g1.trans g2).trans s4)
  have fs : ∃ o, H1 f = some o := by
    obtain ⟨_, _, _, _, _, _, _, G⟩ := F1
    exact ⟨_, G.ob⟩
  obtain ⟨fo, hfo⟩ := fs
  have gP : Same H4 _ := same_new (o := .lst [.non, .str "1", .bl true, .bl false, .ref p1, .ref p2, .ref p3]) np
  have n1 : p1 ≠ f := fun e => by rw [e, hfo] at np1; cases np1
  have n2 : p2 ≠ f := fun e => by rw [e, g1 _ _ hfo] at np2; cases np2
  have n3 : p3 ≠ f := fun e => by rw [e, g2 _ _ (g1 _ _ hfo)] at np3; cases np3
  have n4 : p ≠ f := fun e => by rw [e, s4 _ _ (g2 _ _ (g1 _ _ hfo))] at np; cases np
  obtain ⟨dx3, e3⟩ := id R3
  have M0 : Mid K (upd H4 p (.lst [.non, .str "1", .bl true, .bl false, .ref p1, .ref p2, .ref p3])) f p [.non, .str "1", .bl true, .bl false, .ref p1, .ref p2, .ref p3] := by
    refine ⟨F4.same gP, upd_same, n4, rfl, fun x hx => ?_⟩
    have rr : ∀ {a : Addr}, a ≠ f → V.ref a ≠ V.ref f := fun h e => h (by injection e)
    simp only [List.mem_cons, List.not_mem_nil, or_false] at hx
    rcases hx with rfl | rfl | rfl | rfl | rfl | rfl | rfl
    · exact ⟨intQ_non, fun z => nomatch z⟩
    · exact ⟨intQ_str, fun z => nomatch z⟩
    · exact ⟨intQ_bl, fun z => nomatch z⟩
    · exact ⟨intQ_bl, fun z => nomatch z⟩
    · exact ⟨intQ_lst (gP _ _ q1), rr n1⟩
    · exact ⟨intQ_tup (gP _ _ q2), rr n2⟩
    · exact ⟨intQ_ins T.own (gP _ _ e3), rr n3⟩
  refine ⟨_, rfl, f, 19, rfl, M0.fd, by decide, by decide, fun d H5 d0 d1 F5 k5 => ?_⟩
  refine ⟨_, _, rfl, rfl, _, rfl, by omega, by omega, ?_⟩
  have M5 := M0.keep k5 F5
  generalize ([.non, .str "1", .bl true, .bl false, .ref p1, .ref p2, .ref p3] : List V) = xs at M5
  refine for_range (lo := 0) (n := (2 + d).toNat) (fun _ σ H' => ∃ v3 v4 v5 v6 v7 v8, σ = [some (.ref a), some (.ref f), some (.ref p), v3, v4, v5, v6, v7, v8] ∧ Mid K H' f p xs) ⟨_, _, _, _, _, _, rfl, M5⟩ ?_ ?_
  · rintro i σ H6 hi ⟨v3, v4, v5, v6, v7, v8, rfl, M⟩
    -- common
    refine ⟨_, rfl, _, rfl, f, rfl, M.fd, fun z1 H7 z10 z11 F7 k7 => ⟨f, z1, rfl, F7, z10, by omega, fun c H8 c0 c1 F8 k8 => ?_⟩⟩
    have c0' : -(10 ^ 20) < c := by omega
    have c1' : c < 10 ^ 20 := by omega
    -- top
    refine ⟨_, rfl, _, rfl, f, rfl, F8, fun z2 H9 z20 z21 F9 k9 => ⟨f, z2, rfl, F9, z20, by omega, fun t H10 t0 t1 F10 k10 => ?_⟩⟩
    have t0' : -(10 ^ 20) < t := by omega
    have t1' : t < 10 ^ 20 := by omega
    refine ⟨_, rfl, _, _, rfl, rfl, mul_ok (a := 100) (b := 100) (by omega) (by omega) (by decide) (by decide) (by decide), ?_⟩
    -- bottom
    refine ⟨_, rfl, _, rfl, f, rfl, F10, fun z3 H11 z30 z31 F11 k11 => ⟨f, z3, rfl, F11, z30, by omega, fun u H12 u0 u1 F12 k12 => ?_⟩⟩
    have u0' : -(10 ^ 20) < u := by omega
    have u1' : u < 10 ^ 20 := by omega
    refine ⟨_, rfl, _, _, rfl, rfl, mul_ok (a := 100) (b := 100) (by omega) (by omega) (by decide) (by decide) (by decide), ?_⟩
    have M12 := ((((((M.keep k7 F7).keep k8 F8).keep k9 F9).keep k10 F10).keep k11 F11).keep k12 F12)
    have ht : (t * c).natAbs < 2 ^ 140 := small40 t0' t1' c0' c1'
    have hu : (u * c).natAbs < 2 ^ 140 := small40 u0' u1' c0' c1'
    -- a seventh of the bottoms is 0
    refine ⟨_, rfl, f, 7, rfl, M12.fd, by decide, by decide, fun e H13 e0 e1 F13 k13 => ?_⟩
    have M13 := M12.keep k13 F13
    refine ⟨rfl, _, rfl, ?_⟩
    refine ite2 (fun _ => ?_) (fun _ => ?_)
    · exact law2_ok M13 ht (by decide) fun v7 v8 H' M' => ⟨_, _, _, _, _, _, rfl, M'⟩
    · exact law2_ok M13 ht hu fun v7 v8 H' M' => ⟨_, _, _, _, _, _, rfl, M'⟩
  · rintro σ H6 ⟨v3, v4, v5, v6, v7, v8, rfl, M⟩
    exact k H6
end MR

set_option Elab.async false
set_option linter.all false
set_option maxRecDepth 100000
set_option maxHeartbeats 4000000
set_option exponentiation.threshold 20000
namespace MR
open PySem PySem.Spec PyProof.Rows L2
def top (i : Nat) : Stmt := PySem.Challenge.pw_momentrows_k01_ratio_is_in_lowest_terms.main.body.getD i (.Pass ⟨0, 0, 0, 0⟩)
abbrev s_is_integer : Stmt := top 8
abbrev s_common_part : Stmt := top 9
abbrev s_Ratio_init : Stmt := inClass (top 10) 0
abbrev s__law_is_integer : Stmt := top 16
abbrev s__law_feed : Stmt := top 17
abbrev s__law_take : Stmt := top 18
abbrev s__law_number : Stmt := top 19
abbrev s__law_divisor : Stmt := top 20
abbrev s__law_size : Stmt := top 21
abbrev s__law_refused : Stmt := top 22
abbrev s__law_good : Stmt := top 23
abbrev s_law : Stmt := top 24
theorem sc_is_integer : FnScope ["value"] ["value"] (defScope s_is_integer) := ⟨rfl, rfl, rfl, by decide +kernel, rfl, by decide +kernel, by decide +kernel⟩
theorem sc_common_part : FnScope ["one", "other"] ["one", "other"] (defScope s_common_part) := ⟨rfl, rfl, rfl, by decide +kernel, rfl, by decide +kernel, by decide +kernel⟩
theorem sc_Ratio_init : FnScope ["self", "top", "bottom", "divisor"] ["self", "top", "bottom"] (defScope s_Ratio_init) := ⟨rfl, rfl, rfl, by decide +kernel, rfl, by decide +kernel, by decide +kernel⟩
theorem sc__law_is_integer : FnScope ["_law_value"] ["_law_value"] (defScope s__law_is_integer) := ⟨rfl, rfl, rfl, by decide +kernel, rfl, by decide +kernel, by decide +kernel⟩
theorem sc__law_feed : FnScope ["_law_script", "_law_cell"] ["_law_script"] (defScope s__law_feed) := ⟨rfl, rfl, rfl, by decide +kernel, rfl, by decide +kernel, by decide +kernel⟩
theorem sc__law_take : FnScope ["_law_feed_here", "_law_size_here", "_law_number_here", "_law_cell", "_law_digit"] ["_law_feed_here", "_law_size_here"] (defScope s__law_take) := ⟨rfl, rfl, rfl, by decide +kernel, rfl, by decide +kernel, by decide +kernel⟩
theorem sc__law_number : FnScope ["_law_feed_here", "_law_size_here", "_law_sign"] ["_law_feed_here", "_law_size_here"] (defScope s__law_number) := ⟨rfl, rfl, rfl, by decide +kernel, rfl, by decide +kernel, by decide +kernel⟩
theorem sc__law_divisor : FnScope ["_law_a", "_law_b", "_law_k", "_law_rest"] ["_law_a", "_law_b"] (defScope s__law_divisor) := ⟨rfl, rfl, rfl, by decide +kernel, rfl, by decide +kernel, by decide +kernel⟩
theorem sc__law_size : FnScope ["_law_feed_here"] ["_law_feed_here"] (defScope s__law_size) := ⟨rfl, rfl, rfl, by decide +kernel, rfl, by decide +kernel, by decide +kernel⟩
theorem sc__law_refused : FnScope ["_law_top", "_law_bottom", "_law_word", "_law_found", "e"] ["_law_top", "_law_bottom", "_law_word"] (defScope s__law_refused) := ⟨rfl, rfl, rfl, by decide +kernel, rfl, by decide +kernel, by decide +kernel⟩
theorem sc__law_good : FnScope ["_law_value", "_law_top", "_law_bottom"] ["_law_value", "_law_top", "_law_bottom"] (defScope s__law_good) := ⟨rfl, rfl, rfl, by decide +kernel, rfl, by decide +kernel, by decide +kernel⟩
theorem sc_law : FnScope ["_law_script", "_law_feed_here", "_law_strange", "_law_k", "_law_common", "_law_top", "_law_bottom", "_law_bad", "_law_other"] ["_law_script"] (defScope s_law) := ⟨rfl, rfl, rfl, by decide +kernel, rfl, by decide +kernel, by decide +kernel⟩
def dd_is_integer : He.DefD := ⟨("is_integer", none), "is_integer", "is_integer", defArgs s_is_integer, defBody s_is_integer, defScope s_is_integer, [], []⟩
def dd_common_part : He.DefD := ⟨("common_part", none), "common_part", "common_part", defArgs s_common_part, defBody s_common_part, defScope s_common_part, [], []⟩
def dd_Ratio_init : He.DefD := ⟨("Ratio", some "__init__"), "__init__", "Ratio.__init__", defArgs s_Ratio_init, defBody s_Ratio_init, defScope s_Ratio_init, [.int 1], []⟩
def dd__law_is_integer : He.DefD := ⟨("_law_is_integer", none), "_law_is_integer", "_law_is_integer", defArgs s__law_is_integer, defBody s__law_is_integer, defScope s__law_is_integer, [], []⟩
def dd__law_feed : He.DefD := ⟨("_law_feed", none), "_law_feed", "_law_feed", defArgs s__law_feed, defBody s__law_feed, defScope s__law_feed, [], []⟩
def dd__law_take : He.DefD := ⟨("_law_take", none), "_law_take", "_law_take", defArgs s__law_take, defBody s__law_take, defScope s__law_take, [], []⟩
def dd__law_number : He.DefD := ⟨("_law_number", none), "_law_number", "_law_number", defArgs s__law_number, defBody s__law_number, defScope s__law_number, [], []⟩
def dd__law_divisor : He.DefD := ⟨("_law_divisor", none), "_law_divisor", "_law_divisor", defArgs s__law_divisor, defBody s__law_divisor, defScope s__law_divisor, [], []⟩
def dd__law_size : He.DefD := ⟨("_law_size", none), "_law_size", "_law_size", defArgs s__law_size, defBody s__law_size, defScope s__law_size, [], []⟩
def dd__law_refused : He.DefD := ⟨("_law_refused", none), "_law_refused", "_law_refused", defArgs s__law_refused, defBody s__law_refused, defScope s__law_refused, [], []⟩
def dd__law_good : He.DefD := ⟨("_law_good", none), "_law_good", "_law_good", defArgs s__law_good, defBody s__law_good, defScope s__law_good, [], []⟩
def dd_law : He.DefD := ⟨("law", none), "law", "law", defArgs s_law, defBody s_law, defScope s_law, [], []⟩
def fnL : List He.DefD := [dd_is_integer, dd_common_part, dd_Ratio_init, dd__law_is_integer, dd__law_feed, dd__law_take, dd__law_number, dd__law_divisor, dd__law_size, dd__law_refused, dd__law_good, dd_law]
def bsL : List Fct := [(fun K => (He.Fa.free "isinstance").ok K),
  (fun K => (He.Fa.free "int").ok K),
  (fun K => (He.Fa.free "bool").ok K),
  (fun K => (He.Fa.free "abs").ok K),
  (fun K => (He.Fa.free "len").ok K),
  (fun K => (He.Fa.free "max").ok K),
  (fun K => (He.Fa.free "range").ok K),
  (fun K => (He.Fa.free "ValueError").ok K),
  (fun K => (He.Fa.glo "is_integer").ok K),
  (fun K => (He.Fa.glo "common_part").ok K),
  (fun K => (He.Fa.glo "NoRatio").ok K),
  (fun K => (He.Fa.glo "Ratio").ok K),
  (fun K => (He.Fa.glo "_law_is_integer").ok K),
  (fun K => (He.Fa.glo "_law_feed").ok K),
  (fun K => (He.Fa.glo "_law_take").ok K),
  (fun K => (He.Fa.glo "_law_number").ok K),
  (fun K => (He.Fa.glo "_law_divisor").ok K),
  (fun K => (He.Fa.glo "_law_size").ok K),
  (fun K => (He.Fa.glo "MeansError").ok K),
  (fun K => (He.Fa.glo "NoNumber").ok K),
  (fun K => (He.Fa.glo "NoPoly").ok K),
  (fun K => (He.Fa.glo "_law_refused").ok K),
  (fun K => (He.Fa.glo "_law_good").ok K),
  (fun K => (He.Fa.glo "law").ok K),
  (supF PySem.Challenge.pw_momentrows_k01_ratio_is_in_lowest_terms "NoRatio" "word"),
  (xfF "NoRatio"),
  (fun K => (He.Fa.mkr "Ratio").ok K),
  (ownF "Ratio"),
  (fun K => (He.Fa.noat "Ratio" "top").ok K),
  (fun K => (He.Fa.noat "Ratio" "bottom").ok K),
  (fun K => (He.Fa.exm "NoRatio" "NoRatio" true).ok K),
  (excF "NoRatio"),
  (kitF (own "NoRatio") (own "MeansError") true),
  (kitF (own "NoRatio") (typ "ValueError") true),
  (kitF (own "NoRatio") (own "NoNumber") false),
  (kitF (own "NoRatio") (own "NoPoly") false)]
structure Bd (K : PySem.W.Frag) (mg : Str → Option Value) : Prop where
  st : ∃ h : Heap, K.In h ∧ h.Ns mainGlobals mg
  says : SaysM bsL fnL K
section
variable {K : PySem.W.Frag} {mg : Str → Option Value}
theorem fr_isinstance (B : Bd K mg) : mg "isinstance" = none := let ⟨_, X, G⟩ := B.st; He.free_ok X G (B.says.fact 0 rfl)
theorem fr_int (B : Bd K mg) : mg "int" = none := let ⟨_, X, G⟩ := B.st; He.free_ok X G (B.says.fact 1 rfl)
theorem fr_bool (B : Bd K mg) : mg "bool" = none := let ⟨_, X, G⟩ := B.st; He.free_ok X G (B.says.fact 2 rfl)
theorem fr_abs (B : Bd K mg) : mg "abs" = none := let ⟨_, X, G⟩ := B.st; He.free_ok X G (B.says.fact 3 rfl)
theorem fr_len (B : Bd K mg) : mg "len" = none := let ⟨_, X, G⟩ := B.st; He.free_ok X G (B.says.fact 4 rfl)
theorem fr_max (B : Bd K mg) : mg "max" = none := let ⟨_, X, G⟩ := B.st; He.free_ok X G (B.says.fact 5 rfl)
theorem fr_range (B : Bd K mg) : mg "range" = none := let ⟨_, X, G⟩ := B.st; He.free_ok X G (B.says.fact 6 rfl)
theorem fr_ValueError (B : Bd K mg) : mg "ValueError" = none := let ⟨_, X, G⟩ := B.st; He.free_ok X G (B.says.fact 7 rfl)
theorem gl_is_integer (B : Bd K mg) : mg "is_integer" = some (.ref (He.ga K "is_integer")) := let ⟨_, X, G⟩ := B.st; He.glo_ok X G (B.says.fact 8 rfl)
theorem gl_common_part (B : Bd K mg) : mg "common_part" = some (.ref (He.ga K "common_part")) := let ⟨_, X, G⟩ := B.st; He.glo_ok X G (B.says.fact 9 rfl)
theorem gl_NoRatio (B : Bd K mg) : mg "NoRatio" = some (.ref (He.ga K "NoRatio")) := let ⟨_, X, G⟩ := B.st; He.glo_ok X G (B.says.fact 10 rfl)
theorem gl_Ratio (B : Bd K mg) : mg "Ratio" = some (.ref (He.ga K "Ratio")) := let ⟨_, X, G⟩ := B.st; He.glo_ok X G (B.says.fact 11 rfl)
theorem gl__law_is_integer (B : Bd K mg) : mg "_law_is_integer" = some (.ref (He.ga K "_law_is_integer")) := let ⟨_, X, G⟩ := B.st; He.glo_ok X G (B.says.fact 12 rfl)
theorem gl__law_feed (B : Bd K mg) : mg "_law_feed" = some (.ref (He.ga K "_law_feed")) := let ⟨_, X, G⟩ := B.st; He.glo_ok X G (B.says.fact 13 rfl)
theorem gl__law_take (B : Bd K mg) : mg "_law_take" = some (.ref (He.ga K "_law_take")) := let ⟨_, X, G⟩ := B.st; He.glo_ok X G (B.says.fact 14 rfl)
theorem gl__law_number (B : Bd K mg) : mg "_law_number" = some (.ref (He.ga K "_law_number")) := let ⟨_, X, G⟩ := B.st; He.glo_ok X G (B.says.fact 15 rfl)
theorem gl__law_divisor (B : Bd K mg) : mg "_law_divisor" = some (.ref (He.ga K "_law_divisor")) := let ⟨_, X, G⟩ := B.st; He.glo_ok X G (B.says.fact 16 rfl)
theorem gl__law_size (B : Bd K mg) : mg "_law_size" = some (.ref (He.ga K "_law_size")) := let ⟨_, X, G⟩ := B.st; He.glo_ok X G (B.says.fact 17 rfl)
theorem gl_MeansError (B : Bd K mg) : mg "MeansError" = some (.ref (He.ga K "MeansError")) := let ⟨_, X, G⟩ := B.st; He.glo_ok X G (B.says.fact 18 rfl)
theorem gl_NoNumber (B : Bd K mg) : mg "NoNumber" = some (.ref (He.ga K "NoNumber")) := let ⟨_, X, G⟩ := B.st; He.glo_ok X G (B.says.fact 19 rfl)
theorem gl_NoPoly (B : Bd K mg) : mg "NoPoly" = some (.ref (He.ga K "NoPoly")) := let ⟨_, X, G⟩ := B.st; He.glo_ok X G (B.says.fact 20 rfl)
theorem gl__law_refused (B : Bd K mg) : mg "_law_refused" = some (.ref (He.ga K "_law_refused")) := let ⟨_, X, G⟩ := B.st; He.glo_ok X G (B.says.fact 21 rfl)
theorem gl__law_good (B : Bd K mg) : mg "_law_good" = some (.ref (He.ga K "_law_good")) := let ⟨_, X, G⟩ := B.st; He.glo_ok X G (B.says.fact 22 rfl)
theorem gl_law (B : Bd K mg) : mg "law" = some (.ref (He.ga K "law")) := let ⟨_, X, G⟩ := B.st; He.glo_ok X G (B.says.fact 23 rfl)
theorem sup_NoRatio (B : Bd K mg) : SupC PySem.Challenge.pw_momentrows_k01_ratio_is_in_lowest_terms K (He.ga K "NoRatio") (He.ma K (He.ga K "NoRatio") "__init__") "word" := supF_ok (B.says.fact 24 rfl)
theorem xf_NoRatio (B : Bd K mg) : XfC K (He.ga K "NoRatio") := xfB_ok (B.says.fact 25 rfl)
theorem own_Ratio (B : Bd K mg) : OwnC K (He.ga K "Ratio") := ownF_ok (B.says.fact 27 rfl)
theorem RT (B : Bd K mg) : RTxt K := ⟨own_Ratio B, He.noat_ok (B.says.fact 28 rfl), He.noat_ok (B.says.fact 29 rfl)⟩
theorem ET (B : Bd K mg) : ETxt K := ⟨He.exm_ok (B.says.fact 30 rfl), excF_ok (B.says.fact 31 rfl), optB_ok (B.says.fact 32 rfl), optB_ok (B.says.fact 33 rfl), optB_ok (B.says.fact 34 rfl), optB_ok (B.says.fact 35 rfl)⟩
end
section
variable {w : World} {K : PySem.W.Frag} {mg : Str → Option Value} {base : Heap}
theorem fo_is_integer (B : Bd K mg) : ∃ fd, FunD K "is_integer" "is_integer" (defArgs s_is_integer) (defBody s_is_integer) (defScope s_is_integer) [] [] (He.ga K "is_integer") fd ∧ FnOk PySem.Challenge.pw_momentrows_k01_ratio_is_in_lowest_terms w K mg base (CXX PySem.Challenge.pw_momentrows_k01_ratio_is_in_lowest_terms w) 1 (He.ga K "is_integer") fd ["value"] (spIsInt K) := by
  obtain ⟨fd, F0⟩ := B.says.def_ 0 (d := dd_is_integer) rfl
  have F : FunD K "is_integer" "is_integer" (defArgs s_is_integer) (defBody s_is_integer) (defScope s_is_integer) [] [] (He.ga K "is_integer") fd := F0
  refine ⟨fd, F, F.ok sc_is_integer (fun vs H Q E h => ?_) (fun cdv A outer s H vs Q E hr h => ⟨t_is_integer K, ?_, pure_is_integer vs H Q E h⟩)⟩
  · first | (obtain ⟨_, rfl, _⟩ := h; rfl) | (obtain ⟨_, _, rfl, _⟩ := h; rfl) | (obtain ⟨_, _, _, rfl, _⟩ := h; rfl) | (obtain ⟨_, _, _, _, rfl, _⟩ := h; rfl) | (obtain ⟨_, _, _, _, _, rfl, _⟩ := h; rfl) | (obtain ⟨_, _, _, _, _, _, rfl, _⟩ := h; rfl) | (obtain ⟨_, _, _, _, _, _, _, rfl, _⟩ := h; rfl) | (obtain ⟨_, _, _, _, _, _, _, _, rfl, _⟩ := h; rfl) | (obtain ⟨_, _, _, _, _, _, _, _, _, rfl, _⟩ := h; rfl) | (obtain ⟨_, _, _, _, _, _, _, _, _, _, rfl, _⟩ := h; rfl) | (obtain ⟨_, _, _, _, _, _, _, _, _, _, _, rfl, _⟩ := h; rfl) | (obtain ⟨_, _, _, _, _, _, _, _, _, _, _, _, rfl, _⟩ := h; rfl)
  · exact (pss_one (ps_ret (pe_and (pe_callB call_isi (by rfl) (fr_isinstance B) (by decide +kernel) (pa_cons (pv 0) (pa_cons (pe_bltn (v := .ty "int") (by rfl) (fr_int B) (by decide +kernel) rfl) pa_nil))) (pe_one (pe_not (pe_callB call_isi (by rfl) (fr_isinstance B) (by decide +kernel) (pa_cons (pv 0) (pa_cons (pe_bltn (v := .ty "bool") (by rfl) (fr_bool B) (by decide +kernel) rfl) pa_nil))))))))
theorem d_is_integer (B : Bd K mg) : DefOk PySem.Challenge.pw_momentrows_k01_ratio_is_in_lowest_terms w K mg base 1 "is_integer" [] (spIsInt K) := by
  obtain ⟨fd, F, G⟩ := fo_is_integer (w := w) (base := base) B
  exact ⟨_, fd, ["value"], [], gl_is_integer B, F.kp, G, F.bindsN fun _ _ _ _ _ _ us hl => match us, hl with | [_], _ => rfl, .nil⟩
theorem fo_common_part (B : Bd K mg) : ∃ fd, FunD K "common_part" "common_part" (defArgs s_common_part) (defBody s_common_part) (defScope s_common_part) [] [] (He.ga K "common_part") fd ∧ FnOk PySem.Challenge.pw_momentrows_k01_ratio_is_in_lowest_terms w K mg base (CXX PySem.Challenge.pw_momentrows_k01_ratio_is_in_lowest_terms w) 1 (He.ga K "common_part") fd ["one", "other"] spGcd := by
  obtain ⟨fd, F0⟩ := B.says.def_ 1 (d := dd_common_part) rfl
  have F : FunD K "common_part" "common_part" (defArgs s_common_part) (defBody s_common_part) (defScope s_common_part) [] [] (He.ga K "common_part") fd := F0
  refine ⟨fd, F, F.ok sc_common_part (fun vs H Q E h => ?_) (fun cdv A outer s H vs Q E hr h => ⟨t_common_part K, ?_, pure_common_part vs H Q E h⟩)⟩
  · first | (obtain ⟨_, rfl, _⟩ := h; rfl) | (obtain ⟨_, _, rfl, _⟩ := h; rfl) | (obtain ⟨_, _, _, rfl, _⟩ := h; rfl) | (obtain ⟨_, _, _, _, rfl, _⟩ := h; rfl) | (obtain ⟨_, _, _, _, _, rfl, _⟩ := h; rfl) | (obtain ⟨_, _, _, _, _, _, rfl, _⟩ := h; rfl) | (obtain ⟨_, _, _, _, _, _, _, rfl, _⟩ := h; rfl) | (obtain ⟨_, _, _, _, _, _, _, _, rfl, _⟩ := h; rfl) | (obtain ⟨_, _, _, _, _, _, _, _, _, rfl, _⟩ := h; rfl) | (obtain ⟨_, _, _, _, _, _, _, _, _, _, rfl, _⟩ := h; rfl) | (obtain ⟨_, _, _, _, _, _, _, _, _, _, _, rfl, _⟩ := h; rfl) | (obtain ⟨_, _, _, _, _, _, _, _, _, _, _, _, rfl, _⟩ := h; rfl)
  · exact (pss_cons (ps_par (by rfl) sc_common_part.nd rfl rfl (by decide) rfl rfl (pa_cons (pe_callB call_abs (by rfl) (fr_abs B) (by decide +kernel) (pa_cons (pv 0) pa_nil)) (pa_cons (pe_callB call_abs (by rfl) (fr_abs B) (by decide +kernel) (pa_cons (pv 1) pa_nil)) pa_nil)) (by rfl))
  (pss_cons (ps_while (passes_of rfl) (pt_cmpR op_gt (pv 1) pe_int (nomark _)) (pss_one (ps_par (by rfl) sc_common_part.nd rfl rfl (by decide) rfl rfl (pa_cons (pv 1) (pa_cons (pe_op op_modN (pv 0) (pv 1)) pa_nil)) (by rfl))))
  (pss_one (ps_ret (pv 0)))))
theorem d_common_part (B : Bd K mg) : DefOk PySem.Challenge.pw_momentrows_k01_ratio_is_in_lowest_terms w K mg base 1 "common_part" [] spGcd := by
  obtain ⟨fd, F, G⟩ := fo_common_part (w := w) (base := base) B
  exact ⟨_, fd, ["one", "other"], [], gl_common_part B, F.kp, G, F.bindsN fun _ _ _ _ _ _ us hl => match us, hl with | [_, _], _ => rfl, .nil⟩
theorem fo__law_is_integer (B : Bd K mg) : ∃ fd, FunD K "_law_is_integer" "_law_is_integer" (defArgs s__law_is_integer) (defBody s__law_is_integer) (defScope s__law_is_integer) [] [] (He.ga K "_law_is_integer") fd ∧ FnOk PySem.Challenge.pw_momentrows_k01_ratio_is_in_lowest_terms w K mg base (CXX PySem.Challenge.pw_momentrows_k01_ratio_is_in_lowest_terms w) 1 (He.ga K "_law_is_integer") fd ["_law_value"] (spIsInt K) := by
  obtain ⟨fd, F0⟩ := B.says.def_ 3 (d := dd__law_is_integer) rfl
  have F : FunD K "_law_is_integer" "_law_is_integer" (defArgs s__law_is_integer) (defBody s__law_is_integer) (defScope s__law_is_integer) [] [] (He.ga K "_law_is_integer") fd := F0
  refine ⟨fd, F, F.ok sc__law_is_integer (fun vs H Q E h => ?_) (fun cdv A outer s H vs Q E hr h => ⟨t__law_is_integer K, ?_, pure__law_is_integer vs H Q E h⟩)⟩
  · first | (obtain ⟨_, rfl, _⟩ := h; rfl) | (obtain ⟨_, _, rfl, _⟩ := h; rfl) | (obtain ⟨_, _, _, rfl, _⟩ := h; rfl) | (obtain ⟨_, _, _, _, rfl, _⟩ := h; rfl) | (obtain ⟨_, _, _, _, _, rfl, _⟩ := h; rfl) | (obtain ⟨_, _, _, _, _, _, rfl, _⟩ := h; rfl) | (obtain ⟨_, _, _, _, _, _, _, rfl, _⟩ := h; rfl) | (obtain ⟨_, _, _, _, _, _, _, _, rfl, _⟩ := h; rfl) | (obtain ⟨_, _, _, _, _, _, _, _, _, rfl, _⟩ := h; rfl) | (obtain ⟨_, _, _, _, _, _, _, _, _, _, rfl, _⟩ := h; rfl) | (obtain ⟨_, _, _, _, _, _, _, _, _, _, _, rfl, _⟩ := h; rfl) | (obtain ⟨_, _, _, _, _, _, _, _, _, _, _, _, rfl, _⟩ := h; rfl)
  · exact (pss_one (ps_ret (pe_and (pe_callB call_isi (by rfl) (fr_isinstance B) (by decide +kernel) (pa_cons (pv 0) (pa_cons (pe_bltn (v := .ty "int") (by rfl) (fr_int B) (by decide +kernel) rfl) pa_nil))) (pe_one (pe_not (pe_callB call_isi (by rfl) (fr_isinstance B) (by decide +kernel) (pa_cons (pv 0) (pa_cons (pe_bltn (v := .ty "bool") (by rfl) (fr_bool B) (by decide +kernel) rfl) pa_nil))))))))
theorem d__law_is_integer (B : Bd K mg) : DefOk PySem.Challenge.pw_momentrows_k01_ratio_is_in_lowest_terms w K mg base 1 "_law_is_integer" [] (spIsInt K) := by
  obtain ⟨fd, F, G⟩ := fo__law_is_integer (w := w) (base := base) B
  exact ⟨_, fd, ["_law_value"], [], gl__law_is_integer B, F.kp, G, F.bindsN fun _ _ _ _ _ _ us hl => match us, hl with | [_], _ => rfl, .nil⟩
theorem fo__law_feed (B : Bd K mg) : ∃ fd, FunD K "_law_feed" "_law_feed" (defArgs s__law_feed) (defBody s__law_feed) (defScope s__law_feed) [] [] (He.ga K "_law_feed") fd ∧ FnOk PySem.Challenge.pw_momentrows_k01_ratio_is_in_lowest_terms w K mg base (CXX PySem.Challenge.pw_momentrows_k01_ratio_is_in_lowest_terms w) 1 (He.ga K "_law_feed") fd ["_law_script"] (spFeed K) := by
  obtain ⟨fd, F0⟩ := B.says.def_ 4 (d := dd__law_feed) rfl
  have F : FunD K "_law_feed" "_law_feed" (defArgs s__law_feed) (defBody s__law_feed) (defScope s__law_feed) [] [] (He.ga K "_law_feed") fd := F0
  refine ⟨fd, F, F.ok sc__law_feed (fun vs H Q E h => ?_) (fun cdv A outer s H vs Q E hr h => ⟨t__law_feed K, ?_, pure__law_feed vs H Q E h⟩)⟩
  · first | (obtain ⟨_, rfl, _⟩ := h; rfl) | (obtain ⟨_, _, rfl, _⟩ := h; rfl) | (obtain ⟨_, _, _, rfl, _⟩ := h; rfl) | (obtain ⟨_, _, _, _, rfl, _⟩ := h; rfl) | (obtain ⟨_, _, _, _, _, rfl, _⟩ := h; rfl) | (obtain ⟨_, _, _, _, _, _, rfl, _⟩ := h; rfl) | (obtain ⟨_, _, _, _, _, _, _, rfl, _⟩ := h; rfl) | (obtain ⟨_, _, _, _, _, _, _, _, rfl, _⟩ := h; rfl) | (obtain ⟨_, _, _, _, _, _, _, _, _, rfl, _⟩ := h; rfl) | (obtain ⟨_, _, _, _, _, _, _, _, _, _, rfl, _⟩ := h; rfl) | (obtain ⟨_, _, _, _, _, _, _, _, _, _, _, rfl, _⟩ := h; rfl) | (obtain ⟨_, _, _, _, _, _, _, _, _, _, _, _, rfl, _⟩ := h; rfl)
  · exact (pss_one (ps_ret (pe_lst (pa_cons (pe_lc (own := [("_law_cell", 1)]) (g := (gName 1)) (tt := tYes) rfl sc__law_feed.nd (pi_list (pe_slice sl_list (pv 0) po_none (po_some pe_int))) (blkOk_by (N := ["_law_script", "_law_cell"]) (sc := defScope s__law_feed) (own := [("_law_cell", 1)]) (by decide +kernel)) (fun _ _ _ _ _ => pg_name (i := 1) sc__law_feed.nd rfl (Or.inl rfl)) (fun _ _ _ _ _ => pts_nil) (fun _ _ _ _ _ => (pe_callB call_abs (by rfl) (fr_abs B) (by decide +kernel) (pa_cons (pe_callTy call_int1 (by rfl) (fr_int B) (by decide +kernel) (pa_cons (pv 1) pa_nil)) pa_nil)))) (pa_cons pe_int (pa_cons pe_int (pa_cons pe_int (pa_cons pe_int (pa_cons pe_int pa_nil)))))))))
theorem d__law_feed (B : Bd K mg) : DefOk PySem.Challenge.pw_momentrows_k01_ratio_is_in_lowest_terms w K mg base 1 "_law_feed" [] (spFeed K) := by
  obtain ⟨fd, F, G⟩ := fo__law_feed (w := w) (base := base) B
  exact ⟨_, fd, ["_law_script"], [], gl__law_feed B, F.kp, G, F.bindsN fun _ _ _ _ _ _ us hl => match us, hl with | [_], _ => rfl, .nil⟩
theorem fo__law_take (B : Bd K mg) : ∃ fd, FunD K "_law_take" "_law_take" (defArgs s__law_take) (defBody s__law_take) (defScope s__law_take) [] [] (He.ga K "_law_take") fd ∧ FnOk PySem.Challenge.pw_momentrows_k01_ratio_is_in_lowest_terms w K mg base (CXX PySem.Challenge.pw_momentrows_k01_ratio_is_in_lowest_terms w) 1 (He.ga K "_law_take") fd ["_law_feed_here", "_law_size_here"] (spTake K) := by
  obtain ⟨fd, F0⟩ := B.says.def_ 5 (d := dd__law_take) rfl
  have F : FunD K "_law_take" "_law_take" (defArgs s__law_take) (defBody s__law_take) (defScope s__law_take) [] [] (He.ga K "_law_take") fd := F0
  refine ⟨fd, F, F.ok sc__law_take (fun vs H Q E h => ?_) (fun cdv A outer s H vs Q E hr h => ⟨t__law_take K, ?_, pure__law_take vs H Q E h⟩)⟩
  · first | (obtain ⟨_, rfl, _⟩ := h; rfl) | (obtain ⟨_, _, rfl, _⟩ := h; rfl) | (obtain ⟨_, _, _, rfl, _⟩ := h; rfl) | (obtain ⟨_, _, _, _, rfl, _⟩ := h; rfl) | (obtain ⟨_, _, _, _, _, rfl, _⟩ := h; rfl) | (obtain ⟨_, _, _, _, _, _, rfl, _⟩ := h; rfl) | (obtain ⟨_, _, _, _, _, _, _, rfl, _⟩ := h; rfl) | (obtain ⟨_, _, _, _, _, _, _, _, rfl, _⟩ := h; rfl) | (obtain ⟨_, _, _, _, _, _, _, _, _, rfl, _⟩ := h; rfl) | (obtain ⟨_, _, _, _, _, _, _, _, _, _, rfl, _⟩ := h; rfl) | (obtain ⟨_, _, _, _, _, _, _, _, _, _, _, rfl, _⟩ := h; rfl) | (obtain ⟨_, _, _, _, _, _, _, _, _, _, _, _, rfl, _⟩ := h; rfl)
  · exact (pss_cons (ps_augS (pv 0) pe_int get_list pe_int ip_add set_list)
  (pss_cons (ps_if (PW.pt (pw_and (pt_cmpR op_eq (pe_ix ix_list (pv 0) pe_int (fun _ _ => rfl)) pe_int (nomark _)) (pw_and (pt_cmpR op_eq (pe_ix ix_list (pv 0) pe_int (fun _ _ => rfl)) pe_int (nomark _)) (pw_and1 (pt_cmpR op_lt (pe_ix ix_list (pv 0) pe_int (fun _ _ => rfl)) (pe_callB call_len (by rfl) (fr_len B) (by decide +kernel) (pa_cons (pe_ix ix_list (pv 0) pe_int (fun _ _ => rfl)) pa_nil)) (nomark _)))))) (pss_cons (ps_set (i := 3) sc__law_take.nd rfl (Or.inl rfl) (pe_ix ix_list (pe_ix ix_list (pv 0) pe_int (fun _ _ => rfl)) (pe_ix ix_list (pv 0) pe_int (fun _ _ => rfl)) (fun _ _ => rfl)))
  (pss_cons (ps_augS (pv 0) pe_int get_list pe_int ip_add set_list)
  (pss_one (ps_if (pt_cmpR op_ge (pv 3) (pe_op op_pow pe_int pe_int) (nomark _)) (pss_one (ps_asg (pv 3) (pg_sub (pv 0) pe_int set_list))) (pss_cons (ps_asg pe_int (pg_sub (pv 0) pe_int set_list))
  (pss_one (ps_asg (pe_op op_add (pe_ix ix_list (pv 0) pe_int (fun _ _ => rfl)) (pv 3)) (pg_sub (pv 0) pe_int set_list)))))))) pss_nil)
  (pss_cons (ps_if (pt_cmpR op_gt (pe_ix ix_list (pv 0) pe_int (fun _ _ => rfl)) pe_int (nomark _)) (pss_cons (ps_set (i := 4) sc__law_take.nd rfl (Or.inl rfl) (pe_op op_modN (pe_callTy call_int1 (by rfl) (fr_int B) (by decide +kernel) (pa_cons (pe_ix ix_list (pv 0) pe_int (fun _ _ => rfl)) pa_nil)) (pv 1)))
  (pss_cons (ps_asg (pe_op op_fdivZ (pe_ix ix_list (pv 0) pe_int (fun _ _ => rfl)) (pv 1)) (pg_sub (pv 0) pe_int set_list))
  (pss_one (ps_ret (pv 4))))) pss_nil)
  (pss_cons (ps_asg (pe_callB (call_max2 rfl) (by rfl) (fr_max B) (by decide +kernel) (pa_cons pe_int (pa_cons (pe_op op_sub (pe_ix ix_list (pv 0) pe_int (fun _ _ => rfl)) pe_int) pa_nil))) (pg_sub (pv 0) pe_int set_list))
  (pss_cons (ps_set (i := 2) sc__law_take.nd rfl (Or.inl rfl) (pe_op op_modN (pe_callTy call_int1 (by rfl) (fr_int B) (by decide +kernel) (pa_cons (pe_op op_mulI (pe_op op_add (pe_op op_add (pe_ix ix_list (pv 0) pe_int (fun _ _ => rfl)) (pe_op op_mulI pe_int (pe_ix ix_list (pv 0) pe_int (fun _ _ => rfl)))) pe_int) pe_int) pa_nil)) pe_int))
  (pss_cons (ps_set (i := 2) sc__law_take.nd rfl (Or.inl rfl) (pe_op op_modN (pe_callTy call_int1 (by rfl) (fr_int B) (by decide +kernel) (pa_cons (pe_op op_mulI (pv 2) (pe_op op_add (pe_op op_fdivZ (pv 2) pe_int) pe_int)) pa_nil)) pe_int))
  (pss_cons (ps_set (i := 2) sc__law_take.nd rfl (Or.inl rfl) (pe_op op_modN (pe_callTy call_int1 (by rfl) (fr_int B) (by decide +kernel) (pa_cons (pe_op op_mulI (pv 2) (pe_op op_add (pe_op op_fdivZ (pv 2) pe_int) pe_int)) pa_nil)) pe_int))
  (pss_one (ps_ret (pe_op op_modN (pv 2) (pv 1)))))))))))
theorem d__law_take (B : Bd K mg) : DefOk PySem.Challenge.pw_momentrows_k01_ratio_is_in_lowest_terms w K mg base 1 "_law_take" [] (spTake K) := by
  obtain ⟨fd, F, G⟩ := fo__law_take (w := w) (base := base) B
  exact ⟨_, fd, ["_law_feed_here", "_law_size_here"], [], gl__law_take B, F.kp, G, F.bindsN fun _ _ _ _ _ _ us hl => match us, hl with | [_, _], _ => rfl, .nil⟩
theorem fo__law_divisor (B : Bd K mg) : ∃ fd, FunD K "_law_divisor" "_law_divisor" (defArgs s__law_divisor) (defBody s__law_divisor) (defScope s__law_divisor) [] [] (He.ga K "_law_divisor") fd ∧ FnOk PySem.Challenge.pw_momentrows_k01_ratio_is_in_lowest_terms w K mg base (CXX PySem.Challenge.pw_momentrows_k01_ratio_is_in_lowest_terms w) 1 (He.ga K "_law_divisor") fd ["_law_a", "_law_b"] spLDiv := by
  obtain ⟨fd, F0⟩ := B.says.def_ 7 (d := dd__law_divisor) rfl
  have F : FunD K "_law_divisor" "_law_divisor" (defArgs s__law_divisor) (defBody s__law_divisor) (defScope s__law_divisor) [] [] (He.ga K "_law_divisor") fd := F0
  refine ⟨fd, F, F.ok sc__law_divisor (fun vs H Q E h => ?_) (fun cdv A outer s H vs Q E hr h => ⟨t__law_divisor K, ?_, pure__law_divisor vs H Q E h⟩)⟩
  · first | (obtain ⟨_, rfl, _⟩ := h; rfl) | (obtain ⟨_, _, rfl, _⟩ := h; rfl) | (obtain ⟨_, _, _, rfl, _⟩ := h; rfl) | (obtain ⟨_, _, _, _, rfl, _⟩ := h; rfl) | (obtain ⟨_, _, _, _, _, rfl, _⟩ := h; rfl) | (obtain ⟨_, _, _, _, _, _, rfl, _⟩ := h; rfl) | (obtain ⟨_, _, _, _, _, _, _, rfl, _⟩ := h; rfl) | (obtain ⟨_, _, _, _, _, _, _, _, rfl, _⟩ := h; rfl) | (obtain ⟨_, _, _, _, _, _, _, _, _, rfl, _⟩ := h; rfl) | (obtain ⟨_, _, _, _, _, _, _, _, _, _, rfl, _⟩ := h; rfl) | (obtain ⟨_, _, _, _, _, _, _, _, _, _, _, rfl, _⟩ := h; rfl) | (obtain ⟨_, _, _, _, _, _, _, _, _, _, _, _, rfl, _⟩ := h; rfl)
  · exact (pss_cons (ps_set (i := 0) sc__law_divisor.nd rfl (Or.inl rfl) (pe_callB call_abs (by rfl) (fr_abs B) (by decide +kernel) (pa_cons (pv 0) pa_nil)))
  (pss_cons (ps_set (i := 1) sc__law_divisor.nd rfl (Or.inl rfl) (pe_callB call_abs (by rfl) (fr_abs B) (by decide +kernel) (pa_cons (pv 1) pa_nil)))
  (pss_cons (ps_for (passes_of rfl) rfl (pi_range1 (by rfl) (fr_range B) (pa_cons pe_int pa_nil)) (pg_name (i := 2) sc__law_divisor.nd rfl (Or.inl rfl)) (pss_cons (ps_if (pt_cmpR op_eq (pv 1) pe_int (nomark _)) (pss_one ps_break) pss_nil)
  (pss_cons (ps_set (i := 3) sc__law_divisor.nd rfl (Or.inl rfl) (pe_op op_modN (pe_callTy call_int1 (by rfl) (fr_int B) (by decide +kernel) (pa_cons (pv 0) pa_nil)) (pv 1)))
  (pss_cons (ps_set (i := 0) sc__law_divisor.nd rfl (Or.inl rfl) (pv 1))
  (pss_one (ps_set (i := 1) sc__law_divisor.nd rfl (Or.inl rfl) (pv 3)))))))
  (pss_one (ps_ret (pv 0))))))
theorem d__law_divisor (B : Bd K mg) : DefOk PySem.Challenge.pw_momentrows_k01_ratio_is_in_lowest_terms w K mg base 1 "_law_divisor" [] spLDiv := by
  obtain ⟨fd, F, G⟩ := fo__law_divisor (w := w) (base := base) B
  exact ⟨_, fd, ["_law_a", "_law_b"], [], gl__law_divisor B, F.kp, G, F.bindsN fun _ _ _ _ _ _ us hl => match us, hl with | [_, _], _ => rfl, .nil⟩
theorem fo_Ratio_init (B : Bd K mg) : ∃ fd, FunD K "__init__" "Ratio.__init__" (defArgs s_Ratio_init) (defBody s_Ratio_init) (defScope s_Ratio_init) [.int 1] [] (He.ma K (He.ga K "Ratio") "__init__") fd ∧ FnOk PySem.Challenge.pw_momentrows_k01_ratio_is_in_lowest_terms w K mg base (CXX PySem.Challenge.pw_momentrows_k01_ratio_is_in_lowest_terms w) 2 (He.ma K (He.ga K "Ratio") "__init__") fd ["self", "top", "bottom"] (spRInit K) := by
  obtain ⟨fd, F0⟩ := B.says.def_ 2 (d := dd_Ratio_init) rfl
  have F : FunD K "__init__" "Ratio.__init__" (defArgs s_Ratio_init) (defBody s_Ratio_init) (defScope s_Ratio_init) [.int 1] [] (He.ma K (He.ga K "Ratio") "__init__") fd := F0
  refine ⟨fd, F, F.ok sc_Ratio_init (fun vs H Q E h => ?_) (fun cdv A outer s H vs Q E hr h => ⟨t_Ratio_init K E, ?_, pure_Ratio_init (RT B) vs H Q E h⟩)⟩
  · first | (obtain ⟨_, rfl, _⟩ := h; rfl) | (obtain ⟨_, _, rfl, _⟩ := h; rfl) | (obtain ⟨_, _, _, rfl, _⟩ := h; rfl) | (obtain ⟨_, _, _, _, rfl, _⟩ := h; rfl) | (obtain ⟨_, _, _, _, _, rfl, _⟩ := h; rfl) | (obtain ⟨_, _, _, _, _, _, rfl, _⟩ := h; rfl) | (obtain ⟨_, _, _, _, _, _, _, rfl, _⟩ := h; rfl) | (obtain ⟨_, _, _, _, _, _, _, _, rfl, _⟩ := h; rfl) | (obtain ⟨_, _, _, _, _, _, _, _, _, rfl, _⟩ := h; rfl) | (obtain ⟨_, _, _, _, _, _, _, _, _, _, rfl, _⟩ := h; rfl) | (obtain ⟨_, _, _, _, _, _, _, _, _, _, _, rfl, _⟩ := h; rfl) | (obtain ⟨_, _, _, _, _, _, _, _, _, _, _, _, rfl, _⟩ := h; rfl)
  · exact (pss_cons (ps_if (pt_not (pt_val (pe_callD (dvs := []) (d_is_integer B) (hr.mono (by decide)) rfl passL (pa_cons (pv 1) pa_nil)))) (pss_one (ps_raiseS rfl (sup_NoRatio B) pn_word (gl_NoRatio B) hr (takes_of rfl rfl rfl rfl) (pa_cons pe_str pa_nil))) pss_nil)
  (pss_cons (ps_if (pt_not (pt_val (pe_callD (dvs := []) (d_is_integer B) (hr.mono (by decide)) rfl passL (pa_cons (pv 2) pa_nil)))) (pss_one (ps_raiseS rfl (sup_NoRatio B) pn_word (gl_NoRatio B) hr (takes_of rfl rfl rfl rfl) (pa_cons pe_str pa_nil))) pss_nil)
  (pss_cons (ps_if (pt_cmpR op_eq (pv 2) pe_int (nomark _)) (pss_one (ps_raiseS rfl (sup_NoRatio B) pn_word (gl_NoRatio B) hr (takes_of rfl rfl rfl rfl) (pa_cons pe_str pa_nil))) pss_nil)
  (pss_cons (ps_set (i := 3) sc_Ratio_init.nd rfl (Or.inl rfl) (pe_callD (dvs := []) (d_common_part B) (hr.mono (by decide)) rfl passL (pa_cons (pv 1) (pa_cons (pv 2) pa_nil))))
  (pss_cons (ps_if (pt_cmpR op_lt (pv 2) pe_int (nomark _)) (pss_one (ps_set (i := 3) sc_Ratio_init.nd rfl (Or.inl rfl) (pe_un un_neg (pv 3)))) pss_nil)
  (pss_cons (ps_fld (pv 0) (pe_op op_fdivZ (pv 1) (pv 3)) rfl)
  (pss_one (ps_fld (pv 0) (pe_op op_fdivZ (pv 2) (pv 3)) rfl))))))))
theorem d_Ratio_init_0 (B : Bd K mg) : MakeOk PySem.Challenge.pw_momentrows_k01_ratio_is_in_lowest_terms w K mg base 2 "Ratio" (He.ga K "Ratio") [] (spRInit K) := by
  obtain ⟨fd, F, G⟩ := fo_Ratio_init (w := w) (base := base) B
  obtain ⟨ds, v, b⟩ := F.binds1 (ps := ["self", "top", "bottom"]) 3 1 (by simp) rfl fun T kV doc pm an cdv ct us its hu hi => match us, hu, its, hi with | [_, _, _], _, [_], _ => ⟨_, rfl, rfl⟩
  exact ⟨_, fd, ["self", "top", "bottom"], ds, gl_Ratio B, He.mkr_ok (B.says.fact 26 rfl), G, b, v⟩
theorem d_Ratio_init_1 (B : Bd K mg) : MakeOk PySem.Challenge.pw_momentrows_k01_ratio_is_in_lowest_terms w K mg base 2 "Ratio" (He.ga K "Ratio") [.int 1] (spRInit K) := by
  obtain ⟨fd, F, G⟩ := fo_Ratio_init (w := w) (base := base) B
  obtain ⟨ds, v, b⟩ := F.binds1 (ps := ["self", "top", "bottom"]) 2 0 (by simp) rfl fun T kV doc pm an cdv ct us its hu hi => match us, hu, its, hi with | [_, _], _, [_], _ => ⟨_, rfl, rfl⟩
  exact ⟨_, fd, ["self", "top", "bottom"], ds, gl_Ratio B, He.mkr_ok (B.says.fact 26 rfl), G, b, v⟩
theorem dk_Ratio_init_top_bottom (B : Bd K mg) : MakeKOk PySem.Challenge.pw_momentrows_k01_ratio_is_in_lowest_terms w K mg base 2 "Ratio" (He.ga K "Ratio") 0 ["top", "bottom"] (fun vs zs => vs ++ zs) (spRInit K) := by
  obtain ⟨fd, F, G⟩ := fo_Ratio_init (w := w) (base := base) B
  obtain ⟨its, kb⟩ := F.kbindsD (ps := ["self", "top", "bottom"]) 1 ["top", "bottom"] (fun us _ ws => us ++ ws) (by simp) (fun r1 _ r3 => r1.append r3) fun T kV doc pm an cdv ct us its ws hu hi hw => match us, hu, its, hi, ws, hw with | [_], _, [_], _, [_, _], _ => ⟨_, rfl, rfl⟩
  exact ⟨_, fd, ["self", "top", "bottom"], _, gl_Ratio B, He.mkr_ok (B.says.fact 26 rfl), G, kb⟩
theorem fo__law_number (B : Bd K mg) : ∃ fd, FunD K "_law_number" "_law_number" (defArgs s__law_number) (defBody s__law_number) (defScope s__law_number) [] [] (He.ga K "_law_number") fd ∧ FnOk PySem.Challenge.pw_momentrows_k01_ratio_is_in_lowest_terms w K mg base (CXX PySem.Challenge.pw_momentrows_k01_ratio_is_in_lowest_terms w) 2 (He.ga K "_law_number") fd ["_law_feed_here", "_law_size_here"] (spNumber K) := by
  obtain ⟨fd, F0⟩ := B.says.def_ 6 (d := dd__law_number) rfl
  have F : FunD K "_law_number" "_law_number" (defArgs s__law_number) (defBody s__law_number) (defScope s__law_number) [] [] (He.ga K "_law_number") fd := F0
  refine ⟨fd, F, F.ok sc__law_number (fun vs H Q E h => ?_) (fun cdv A outer s H vs Q E hr h => ⟨t__law_number K, ?_, pure__law_number vs H Q E h⟩)⟩
  · first | (obtain ⟨_, rfl, _⟩ := h; rfl) | (obtain ⟨_, _, rfl, _⟩ := h; rfl) | (obtain ⟨_, _, _, rfl, _⟩ := h; rfl) | (obtain ⟨_, _, _, _, rfl, _⟩ := h; rfl) | (obtain ⟨_, _, _, _, _, rfl, _⟩ := h; rfl) | (obtain ⟨_, _, _, _, _, _, rfl, _⟩ := h; rfl) | (obtain ⟨_, _, _, _, _, _, _, rfl, _⟩ := h; rfl) | (obtain ⟨_, _, _, _, _, _, _, _, rfl, _⟩ := h; rfl) | (obtain ⟨_, _, _, _, _, _, _, _, _, rfl, _⟩ := h; rfl) | (obtain ⟨_, _, _, _, _, _, _, _, _, _, rfl, _⟩ := h; rfl) | (obtain ⟨_, _, _, _, _, _, _, _, _, _, _, rfl, _⟩ := h; rfl) | (obtain ⟨_, _, _, _, _, _, _, _, _, _, _, _, rfl, _⟩ := h; rfl)
  · exact (pss_cons (ps_set (i := 2) sc__law_number.nd rfl (Or.inl rfl) (pe_op op_sub pe_int (pe_op op_mulI pe_int (pe_callD (dvs := []) (d__law_take B) (hr.mono (by decide)) rfl passL (pa_cons (pv 0) (pa_cons pe_int pa_nil))))))
  (pss_one (ps_ret (pe_op op_mulI (pv 2) (pe_callD (dvs := []) (d__law_take B) (hr.mono (by decide)) rfl passL (pa_cons (pv 0) (pa_cons (pv 1) pa_nil)))))))
theorem d__law_number (B : Bd K mg) : DefOk PySem.Challenge.pw_momentrows_k01_ratio_is_in_lowest_terms w K mg base 2 "_law_number" [] (spNumber K) := by
  obtain ⟨fd, F, G⟩ := fo__law_number (w := w) (base := base) B
  exact ⟨_, fd, ["_law_feed_here", "_law_size_here"], [], gl__law_number B, F.kp, G, F.bindsN fun _ _ _ _ _ _ us hl => match us, hl with | [_, _], _ => rfl, .nil⟩
theorem fo__law_size (B : Bd K mg) : ∃ fd, FunD K "_law_size" "_law_size" (defArgs s__law_size) (defBody s__law_size) (defScope s__law_size) [] [] (He.ga K "_law_size") fd ∧ FnOk PySem.Challenge.pw_momentrows_k01_ratio_is_in_lowest_terms w K mg base (CXX PySem.Challenge.pw_momentrows_k01_ratio_is_in_lowest_terms w) 2 (He.ga K "_law_size") fd ["_law_feed_here"] (spSize K) := by
  obtain ⟨fd, F0⟩ := B.says.def_ 8 (d := dd__law_size) rfl
  have F : FunD K "_law_size" "_law_size" (defArgs s__law_size) (defBody s__law_size) (defScope s__law_size) [] [] (He.ga K "_law_size") fd := F0
  refine ⟨fd, F, F.ok sc__law_size (fun vs H Q E h => ?_) (fun cdv A outer s H vs Q E hr h => ⟨t__law_size K, ?_, pure__law_size vs H Q E h⟩)⟩
  · first | (obtain ⟨_, rfl, _⟩ := h; rfl) | (obtain ⟨_, _, rfl, _⟩ := h; rfl) | (obtain ⟨_, _, _, rfl, _⟩ := h; rfl) | (obtain ⟨_, _, _, _, rfl, _⟩ := h; rfl) | (obtain ⟨_, _, _, _, _, rfl, _⟩ := h; rfl) | (obtain ⟨_, _, _, _, _, _, rfl, _⟩ := h; rfl) | (obtain ⟨_, _, _, _, _, _, _, rfl, _⟩ := h; rfl) | (obtain ⟨_, _, _, _, _, _, _, _, rfl, _⟩ := h; rfl) | (obtain ⟨_, _, _, _, _, _, _, _, _, rfl, _⟩ := h; rfl) | (obtain ⟨_, _, _, _, _, _, _, _, _, _, rfl, _⟩ := h; rfl) | (obtain ⟨_, _, _, _, _, _, _, _, _, _, _, rfl, _⟩ := h; rfl) | (obtain ⟨_, _, _, _, _, _, _, _, _, _, _, _, rfl, _⟩ := h; rfl)
  · exact (pss_one (ps_ret (pe_ix ix_list (pe_lst (pa_cons pe_int (pa_cons (pe_op op_pow pe_int pe_int) (pa_cons (pe_op op_pow pe_int pe_int) pa_nil)))) (pe_callD (dvs := []) (d__law_take B) (hr.mono (by decide)) rfl passL (pa_cons (pv 0) (pa_cons pe_int pa_nil))) (fun _ _ => rfl))))
theorem d__law_size (B : Bd K mg) : DefOk PySem.Challenge.pw_momentrows_k01_ratio_is_in_lowest_terms w K mg base 2 "_law_size" [] (spSize K) := by
  obtain ⟨fd, F, G⟩ := fo__law_size (w := w) (base := base) B
  exact ⟨_, fd, ["_law_feed_here"], [], gl__law_size B, F.kp, G, F.bindsN fun _ _ _ _ _ _ us hl => match us, hl with | [_], _ => rfl, .nil⟩
theorem fo__law_good (B : Bd K mg) : ∃ fd, FunD K "_law_good" "_law_good" (defArgs s__law_good) (defBody s__law_good) (defScope s__law_good) [] [] (He.ga K "_law_good") fd ∧ FnOk PySem.Challenge.pw_momentrows_k01_ratio_is_in_lowest_terms w K mg base (CXX PySem.Challenge.pw_momentrows_k01_ratio_is_in_lowest_terms w) 2 (He.ga K "_law_good") fd ["_law_value", "_law_top", "_law_bottom"] (spGood K) := by
  obtain ⟨fd, F0⟩ := B.says.def_ 10 (d := dd__law_good) rfl
  have F : FunD K "_law_good" "_law_good" (defArgs s__law_good) (defBody s__law_good) (defScope s__law_good) [] [] (He.ga K "_law_good") fd := F0
  refine ⟨fd, F, F.ok sc__law_good (fun vs H Q E h => ?_) (fun cdv A outer s H vs Q E hr h => ⟨t__law_good K, ?_, pure__law_good (RT B) vs H Q E h⟩)⟩
  · first | (obtain ⟨_, rfl, _⟩ := h; rfl) | (obtain ⟨_, _, rfl, _⟩ := h; rfl) | (obtain ⟨_, _, _, rfl, _⟩ := h; rfl) | (obtain ⟨_, _, _, _, rfl, _⟩ := h; rfl) | (obtain ⟨_, _, _, _, _, rfl, _⟩ := h; rfl) | (obtain ⟨_, _, _, _, _, _, rfl, _⟩ := h; rfl) | (obtain ⟨_, _, _, _, _, _, _, rfl, _⟩ := h; rfl) | (obtain ⟨_, _, _, _, _, _, _, _, rfl, _⟩ := h; rfl) | (obtain ⟨_, _, _, _, _, _, _, _, _, rfl, _⟩ := h; rfl) | (obtain ⟨_, _, _, _, _, _, _, _, _, _, rfl, _⟩ := h; rfl) | (obtain ⟨_, _, _, _, _, _, _, _, _, _, _, rfl, _⟩ := h; rfl) | (obtain ⟨_, _, _, _, _, _, _, _, _, _, _, _, rfl, _⟩ := h; rfl)
  · exact (pss_cons (ps_if (PW.pt (pw_or (pt_not (pt_val (pe_callD (dvs := []) (d__law_is_integer B) (hr.mono (by decide)) rfl passL (pa_cons (pe_fld (pv 0) rfl) pa_nil)))) (pw_or (pt_not (pt_val (pe_callD (dvs := []) (d__law_is_integer B) (hr.mono (by decide)) rfl passL (pa_cons (pe_fld (pv 0) rfl) pa_nil)))) (pw_or1 (pt_cmpR op_lt (pe_fld (pv 0) rfl) pe_int (nomark _)))))) (pss_one (ps_ret pe_bl)) pss_nil)
  (pss_one (ps_ret (pe_and (pe_cmpR op_eq (pe_op op_mulI (pe_fld (pv 0) rfl) (pv 2)) (pe_op op_mulI (pv 1) (pe_fld (pv 0) rfl)) (nomark _)) (pe_one (pe_cmpR op_eq (pe_callD (dvs := []) (d__law_divisor B) (hr.mono (by decide)) rfl passL (pa_cons (pe_fld (pv 0) rfl) (pa_cons (pe_fld (pv 0) rfl) pa_nil))) pe_int (nomark _)))))))
theorem d__law_good (B : Bd K mg) : DefOk PySem.Challenge.pw_momentrows_k01_ratio_is_in_lowest_terms w K mg base 2 "_law_good" [] (spGood K) := by
  obtain ⟨fd, F, G⟩ := fo__law_good (w := w) (base := base) B
  exact ⟨_, fd, ["_law_value", "_law_top", "_law_bottom"], [], gl__law_good B, F.kp, G, F.bindsN fun _ _ _ _ _ _ us hl => match us, hl with | [_, _, _], _ => rfl, .nil⟩
theorem fo__law_refused (B : Bd K mg) : ∃ fd, FunD K "_law_refused" "_law_refused" (defArgs s__law_refused) (defBody s__law_refused) (defScope s__law_refused) [] [] (He.ga K "_law_refused") fd ∧ FnOk PySem.Challenge.pw_momentrows_k01_ratio_is_in_lowest_terms w K mg base (CXX PySem.Challenge.pw_momentrows_k01_ratio_is_in_lowest_terms w) 4 (He.ga K "_law_refused") fd ["_law_top", "_law_bottom", "_law_word"] (spRefused K) := by
  obtain ⟨fd, F0⟩ := B.says.def_ 9 (d := dd__law_refused) rfl
  have F : FunD K "_law_refused" "_law_refused" (defArgs s__law_refused) (defBody s__law_refused) (defScope s__law_refused) [] [] (He.ga K "_law_refused") fd := F0
  refine ⟨fd, F, F.ok sc__law_refused (fun vs H Q E h => ?_) (fun cdv A outer s H vs Q E hr h => ⟨t__law_refused K, ?_, pure__law_refused (ET B) vs H Q E h⟩)⟩
  · first | (obtain ⟨_, rfl, _⟩ := h; rfl) | (obtain ⟨_, _, rfl, _⟩ := h; rfl) | (obtain ⟨_, _, _, rfl, _⟩ := h; rfl) | (obtain ⟨_, _, _, _, rfl, _⟩ := h; rfl) | (obtain ⟨_, _, _, _, _, rfl, _⟩ := h; rfl) | (obtain ⟨_, _, _, _, _, _, rfl, _⟩ := h; rfl) | (obtain ⟨_, _, _, _, _, _, _, rfl, _⟩ := h; rfl) | (obtain ⟨_, _, _, _, _, _, _, _, rfl, _⟩ := h; rfl) | (obtain ⟨_, _, _, _, _, _, _, _, _, rfl, _⟩ := h; rfl) | (obtain ⟨_, _, _, _, _, _, _, _, _, _, rfl, _⟩ := h; rfl) | (obtain ⟨_, _, _, _, _, _, _, _, _, _, _, rfl, _⟩ := h; rfl) | (obtain ⟨_, _, _, _, _, _, _, _, _, _, _, _, rfl, _⟩ := h; rfl)
  · exact (pss_cons (ps_set (i := 3) sc__law_refused.nd rfl (Or.inl rfl) pe_bl)
  (pss_cons (ps_try_as (i := 4) (tb := fun W => (tDrop (tMakeS (He.ga K "Ratio") (spRInit K) [] (WE W) (tCons (tVar 0) (tCons (tVar 1) tNil))))) (ts := fun a cls d => (tSeq (tAsg (tAndV (tOp rEq (tXf a cls d (He.ga K "NoRatio") "word" (tVar 4)) (tVar 2)) (tAndV (tCB (rIsX K a cls d) (tCons (tVar 4) (tCons (tC (.ref (He.ga K "MeansError"))) tNil))) (tCB (rIsX K a cls d) (tCons (tVar 4) (tCons (tC (.ty "ValueError")) tNil))))) (gName 3))
  (tAsg (tAndV (tVar 3) (tAndV (tNotV (tCB (rIsX K a cls d) (tCons (tVar 4) (tCons (tC (.ref (He.ga K "NoNumber"))) tNil)))) (tNotV (tCB (rIsX K a cls d) (tCons (tVar 4) (tCons (tC (.ref (He.ga K "NoPoly"))) tNil)))))) (gName 3)))) (Wout := (fun _ _ _ _ => False)) rfl rfl sc__law_refused.nd rfl rfl ⟨rfl, by decide, Or.inl (gl_NoRatio B)⟩ takes0 (fun W pn xe tk _ => (pss_one (ps_expr (pe_makeDS (dvs := []) (d_Ratio_init_0 B) (hr.mono (by decide)) rfl (fun σ => passAt tk σ) (pa_cons (pv 0) (pa_cons (pv 1) pa_nil)))))) (fun a oe cls d pn hz hf => (pss_cons (ps_set (i := 3) sc__law_refused.nd rfl (Or.inl rfl) (pe_and (pe_cmpR op_eq (pe_xf (C := He.ga K "NoRatio") (xf_NoRatio B) (sup_NoRatio B).no hz hf (pv 4)) (pv 2) (nomark _)) (pe_and (pe_callB (call_isX hz hf) (by rfl) (fr_isinstance B) (by decide +kernel) (pa_cons (pv 4) (pa_cons (pe_glob (v := .ref (He.ga K "MeansError")) (by rfl) (gl_MeansError B) rfl) pa_nil))) (pe_one (pe_callB (call_isX hz hf) (by rfl) (fr_isinstance B) (by decide +kernel) (pa_cons (pv 4) (pa_cons (pe_bltn (v := .ty "ValueError") (by rfl) (fr_ValueError B) (by decide +kernel) rfl) pa_nil)))))))
  (pss_one (ps_set (i := 3) sc__law_refused.nd rfl (Or.inl rfl) (pe_and (pv 3) (pe_and (pe_not (pe_callB (call_isX hz hf) (by rfl) (fr_isinstance B) (by decide +kernel) (pa_cons (pv 4) (pa_cons (pe_glob (v := .ref (He.ga K "NoNumber")) (by rfl) (gl_NoNumber B) rfl) pa_nil)))) (pe_one (pe_not (pe_callB (call_isX hz hf) (by rfl) (fr_isinstance B) (by decide +kernel) (pa_cons (pv 4) (pa_cons (pe_glob (v := .ref (He.ga K "NoPoly")) (by rfl) (gl_NoPoly B) rfl) pa_nil))))))))))))
  (pss_one (ps_ret (pv 3)))))
theorem d__law_refused (B : Bd K mg) : DefOk PySem.Challenge.pw_momentrows_k01_ratio_is_in_lowest_terms w K mg base 4 "_law_refused" [] (spRefused K) := by
  obtain ⟨fd, F, G⟩ := fo__law_refused (w := w) (base := base) B
  exact ⟨_, fd, ["_law_top", "_law_bottom", "_law_word"], [], gl__law_refused B, F.kp, G, F.bindsN fun _ _ _ _ _ _ us hl => match us, hl with | [_, _, _], _ => rfl, .nil⟩
theorem fo_law (B : Bd K mg) : ∃ fd, FunD K "law" "law" (defArgs s_law) (defBody s_law) (defScope s_law) [] [] (He.ga K "law") fd ∧ FnOk PySem.Challenge.pw_momentrows_k01_ratio_is_in_lowest_terms w K mg base CX0 5 (He.ga K "law") fd ["_law_script"] (spLaw K) := by
  obtain ⟨fd, F0⟩ := B.says.def_ 11 (d := dd_law) rfl
  have F : FunD K "law" "law" (defArgs s_law) (defBody s_law) (defScope s_law) [] [] (He.ga K "law") fd := F0
  refine ⟨fd, F, F.ok sc_law (fun vs H Q E h => ?_) (fun cdv A outer s H vs Q E hr h => ⟨t_law K, ?_, pure_law (RT B) vs H Q E h⟩)⟩
  · first | (obtain ⟨_, rfl, _⟩ := h; rfl) | (obtain ⟨_, _, rfl, _⟩ := h; rfl) | (obtain ⟨_, _, _, rfl, _⟩ := h; rfl) | (obtain ⟨_, _, _, _, rfl, _⟩ := h; rfl) | (obtain ⟨_, _, _, _, _, rfl, _⟩ := h; rfl) | (obtain ⟨_, _, _, _, _, _, rfl, _⟩ := h; rfl) | (obtain ⟨_, _, _, _, _, _, _, rfl, _⟩ := h; rfl) | (obtain ⟨_, _, _, _, _, _, _, _, rfl, _⟩ := h; rfl) | (obtain ⟨_, _, _, _, _, _, _, _, _, rfl, _⟩ := h; rfl) | (obtain ⟨_, _, _, _, _, _, _, _, _, _, rfl, _⟩ := h; rfl) | (obtain ⟨_, _, _, _, _, _, _, _, _, _, _, rfl, _⟩ := h; rfl) | (obtain ⟨_, _, _, _, _, _, _, _, _, _, _, _, rfl, _⟩ := h; rfl)
  · exact (pss_cons (ps_set (i := 1) sc_law.nd rfl (Or.inl rfl) (pe_callD (dvs := []) (d__law_feed B) (hr.mono (by decide)) rfl passL (pa_cons (pv 0) pa_nil)))
  (pss_cons (ps_set (i := 2) sc_law.nd rfl (Or.inl rfl) (pe_lst (pa_cons pe_non (pa_cons pe_str (pa_cons pe_bl (pa_cons pe_bl (pa_cons (pe_lst (pa_cons pe_int pa_nil)) (pa_cons (pe_tup (pa_cons pe_int pa_nil)) (pa_cons (pe_makeD (dvs := []) (d_Ratio_init_0 B) (hr.mono (by decide)) rfl passL (pa_cons pe_int (pa_cons pe_int pa_nil))) pa_nil)))))))))
  (pss_cons (ps_for (passes_of rfl) rfl (pi_range1 (by rfl) (fr_range B) (pa_cons (pe_op op_add pe_int (pe_callD (dvs := []) (d__law_take B) (hr.mono (by decide)) rfl passL (pa_cons (pv 1) (pa_cons pe_int pa_nil)))) pa_nil)) (pg_name (i := 3) sc_law.nd rfl (Or.inl rfl)) (pss_cons (ps_set (i := 4) sc_law.nd rfl (Or.inl rfl) (pe_callD (dvs := []) (d__law_number B) (hr.mono (by decide)) rfl passL (pa_cons (pv 1) (pa_cons (pe_callD (dvs := []) (d__law_size B) (hr.mono (by decide)) rfl passL (pa_cons (pv 1) pa_nil)) pa_nil))))
  (pss_cons (ps_set (i := 5) sc_law.nd rfl (Or.inl rfl) (pe_op op_mulI (pe_callD (dvs := []) (d__law_number B) (hr.mono (by decide)) rfl passL (pa_cons (pv 1) (pa_cons (pe_callD (dvs := []) (d__law_size B) (hr.mono (by decide)) rfl passL (pa_cons (pv 1) pa_nil)) pa_nil))) (pv 4)))
  (pss_cons (ps_set (i := 6) sc_law.nd rfl (Or.inl rfl) (pe_op op_mulI (pe_callD (dvs := []) (d__law_number B) (hr.mono (by decide)) rfl passL (pa_cons (pv 1) (pa_cons (pe_callD (dvs := []) (d__law_size B) (hr.mono (by decide)) rfl passL (pa_cons (pv 1) pa_nil)) pa_nil))) (pv 4)))
  (pss_cons (ps_if (pt_cmpR op_eq (pe_callD (dvs := []) (d__law_take B) (hr.mono (by decide)) rfl passL (pa_cons (pv 1) (pa_cons pe_int pa_nil))) pe_int (nomark _)) (pss_one (ps_set (i := 6) sc_law.nd rfl (Or.inl rfl) pe_int)) pss_nil)
  (pss_cons (ps_set (i := 7) sc_law.nd rfl (Or.inl rfl) (pe_ix ix_list (pv 2) (pe_callD (dvs := []) (d__law_take B) (hr.mono (by decide)) rfl passL (pa_cons (pv 1) (pa_cons pe_int pa_nil))) (fun _ _ => rfl)))
  (pss_cons (ps_set (i := 8) sc_law.nd rfl (Or.inl rfl) (pe_ix ix_list (pv 2) (pe_callD (dvs := []) (d__law_take B) (hr.mono (by decide)) rfl passL (pa_cons (pv 1) (pa_cons pe_int pa_nil))) (fun _ _ => rfl)))
  (pss_cons (ps_if (pt_cmpR op_eq (pv 6) pe_int (nomark _)) (pss_one (ps_if (pt_not (pt_val (pe_callD (dvs := []) (d__law_refused B) (hr.mono (by decide)) rfl passL (pa_cons (pv 5) (pa_cons (pv 6) (pa_cons pe_str pa_nil)))))) (pss_one (ps_ret pe_bl)) pss_nil)) (pss_one (ps_if (PW.pt (pw_or (pt_not (pt_val (pe_callD (dvs := []) (d__law_good B) (hr.mono (by decide)) rfl passL (pa_cons (pe_makeD (dvs := []) (d_Ratio_init_0 B) (hr.mono (by decide)) rfl passL (pa_cons (pv 5) (pa_cons (pv 6) pa_nil))) (pa_cons (pv 5) (pa_cons (pv 6) pa_nil)))))) (pw_or1 (pt_not (pt_val (pe_callD (dvs := []) (d__law_good B) (hr.mono (by decide)) rfl passL (pa_cons (pe_makeKD0 (ks := ["top", "bottom"]) (dk_Ratio_init_top_bottom B) (hr.mono (by decide)) rfl passL (pk_cons (pv 5) (pk_cons (pv 6) pk_nil))) (pa_cons (pv 5) (pa_cons (pv 6) pa_nil))))))))) (pss_one (ps_ret pe_bl)) pss_nil)))
  (pss_cons (ps_if (pt_not (pt_val (pe_callD (dvs := []) (d__law_good B) (hr.mono (by decide)) rfl passL (pa_cons (pe_makeD (dvs := [.int 1]) (d_Ratio_init_1 B) (hr.mono (by decide)) rfl passL (pa_cons (pv 5) pa_nil)) (pa_cons (pv 5) (pa_cons pe_int pa_nil)))))) (pss_one (ps_ret pe_bl)) pss_nil)
  (pss_cons (ps_if (PW.pt (pw_or (pt_not (pt_val (pe_callD (dvs := []) (d__law_refused B) (hr.mono (by decide)) rfl passL (pa_cons (pv 7) (pa_cons (pv 6) (pa_cons pe_str pa_nil)))))) (pw_or1 (pt_not (pt_val (pe_callD (dvs := []) (d__law_refused B) (hr.mono (by decide)) rfl passL (pa_cons (pv 7) (pa_cons (pv 8) (pa_cons pe_str pa_nil))))))))) (pss_one (ps_ret pe_bl)) pss_nil)
  (pss_one (ps_if (PW.pt (pw_or (pt_not (pt_val (pe_callD (dvs := []) (d__law_refused B) (hr.mono (by decide)) rfl passL (pa_cons (pv 5) (pa_cons (pv 7) (pa_cons pe_str pa_nil)))))) (pw_or1 (pt_not (pt_val (pe_callD (dvs := []) (d__law_refused B) (hr.mono (by decide)) rfl passL (pa_cons (pv 7) (pa_cons pe_int (pa_cons pe_str pa_nil))))))))) (pss_one (ps_ret pe_bl)) pss_nil))))))))))))
  (pss_one (ps_ret pe_bl)))))
end
def loose0 : List Str := ["_wall", "__name__", "MeansError", "NoRatio", "NoPoly", "NoNumber", "MOST_DIGITS", "is_integer", "common_part", "Ratio", "is_plain", "floor_of", "power_of", "whole_power", "_law_is_integer", "_law_feed", "_law_take", "_law_number", "_law_divisor", "_law_size", "_law_refused", "_law_good"]
def looseL : List Str := loose0
abbrev hk : PySem.W.Hook := hookM 5 bsL fnL
def ob (s : PySem.W.SharedT) : AlM := obsMG 5 bsL fnL (HandSHeadRun.getT s)
theorem ob_eq (s : PySem.W.SharedT) : ob s = hk.obs s.abs := obsMG_eq (HandSHeadRun.getT_eq s)
theorem run (w : World) : HandSHeadRun.RunEq (PySem.W.OpenLaw.row PySem.Challenge.rw_momentrows_k01_ratio_is_in_lowest_terms) (PySem.W.view (PySem.W.OpenLaw.row PySem.Challenge.rw_momentrows_k01_ratio_is_in_lowest_terms).prog [24]) hk ob 4000 looseL w := by
  intro os
  kernel_rfl
end MR
open PySem PySem.W PySem.Calls PyProof.Rows
set_option maxRecDepth 100000 in
set_option maxHeartbeats 0 in
theorem PySem.Challenge.cw_momentrows_k01_ratio_is_in_lowest_terms_holds : PySem.Challenge.rw_momentrows_k01_ratio_is_in_lowest_terms.Holds := by
  w_on; o_law
  refine HandSHeadRun.head_any (r := OpenLaw.row PySem.Challenge.rw_momentrows_k01_ratio_is_in_lowest_terms) (q := view (OpenLaw.row PySem.Challenge.rw_momentrows_k01_ratio_is_in_lowest_terms).prog [24]) (H := MR.hk) (ob := MR.ob) (M := 4000) (loose := MR.looseL) (d := HandSHeadRun.topDef (OpenLaw.row PySem.Challenge.rw_momentrows_k01_ratio_is_in_lowest_terms).prog 24) (kwd := []) MR.ob_eq
    (by kernel_rfl) (fun s => by kernel_rfl) MR.run (by kernel_rfl) (by kernel_rfl) (by kernel_rfl) (by rfl) (by first | assumption | decide +kernel) (by decide +kernel) ⟨rfl, rfl, rfl, rfl, rfl, by decide +kernel⟩ ?hw ?hc
  case hw => w_witness2
  case hc =>
    refine L2.walk_ofE (l := PySem.Challenge.rw_momentrows_k01_ratio_is_in_lowest_terms) (n := 63) (k := 5) (x := "_law_script") (CX := L2.CX0) rfl (by decide) (by kernel_rfl) ⟨rfl, by decide, by decide⟩ ?F (fun _ _ _ _ z => z)
    intro w mg fa h Y G hmg0
    obtain ⟨K, KX, c⟩ := Y
    have hmg : mg ("law" : PySem.Str) = some (.ref fa) := by
      have e : (HandSHeadRun.topDef (OpenLaw.row PySem.Challenge.rw_momentrows_k01_ratio_is_in_lowest_terms).prog 24).name = ("law" : PySem.Str) := by kernel_rfl
      rw [← e]
      exact hmg0
    have B : MR.Bd K mg := ⟨⟨h, KX, G⟩, c⟩
    have e := hmg.symm.trans (MR.gl_law B)
    cases e
    obtain ⟨fd0, F, _⟩ := MR.fo_law (w := w) (base := h) B
    have b := L2.FunD.bindsA (ps := ["_law_script"]) F fun _ _ _ _ _ _ us hl => match us, hl with | [_], _ => rfl
    refine ⟨K, fd0, MR.spLaw K, KX, fun s u => b s [u] rfl, fun H a ns hl _ hS => ⟨a, ns, rfl, hS, hl, fun _ => rfl⟩, fun base _ _ => ?_⟩
    obtain ⟨fd1, F1, G1⟩ := MR.fo_law (w := w) (base := base) B
    have e2 : fd1 = fd0 := MR.funD_inj F1 F
    rw [← e2]
    exact G1

