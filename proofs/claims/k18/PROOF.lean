import PyProof.Rows.All
import Wide.All
import OpenK.AllK
import Wide.FinOn
import KE.KExcSuper
import HandS.ForMost
import HandS.ForExc
import HandS.Defaults
import HandS.IsInst
import HandS.ExcField
import HandS.ExcInit
import KE.KExcIs
import HandS.ExcIs
import HandS.Wide
import HandS.MakeKw
import HandS.MakeKwOnly
import HandS.CallSlots
import HandS.HeadEnd
import HandS.HeadHook2
import HandS.Head2
import HandS.OwnEq
import KE.KOpsOwn
import HandS.Iter
import KE.GoesEnum
import HandS.RevRange
import HandS.Zip
import HandS.TupAny
import HandS.DeepEq
import HandS.TupLe
import HandS.Small
import HandS.Style
import PySem.Challenge.RW_momentrows_k18_mean_of_a_poly
set_option Elab.async false
set_option linter.all false
set_option maxRecDepth 100000
set_option maxHeartbeats 4000000
/-! MR: an own error whose __init__(self, p) says super().__init__(p); self.p = p, below MeansError(ValueError) -/
namespace MR
open PySem PySem.W PySem.Calls PyProof.Rows PySem.HandSPX
/-- the facts of the error class at C, its __init__ at fI with the parameter p -/
structure SupC (prog : Program) (K : Frag) (C fI : Addr) (p : Str) : Prop where
  cls : ∃ nm q N bs bm sn sub ab col dd k0 k1 k2 k3 k5, K.lookup C = some (excClassObj nm q C N bs bm true sn sub ab col dd k0 k1 k2 k3 k5 "ValueError.__new__") ∧ refsVE bm = true ∧
    alongIn K "__init__" bm = some (some (.builtin "ValueError.__init__"))
  sa : findIn K (.ref C) "__setattr__" = some (some (.builtin "object.__setattr__"))
  no : findIn K (.ref C) p = some none
  ini : findIn K (.ref C) "__init__" = some (some (.ref fI))
  tfn : typeIn K (.ref fI) = some (.type "function")
  kC : keepIn K (.ref C) = true
  exC : subIn K (.ref C) (.type "BaseException") = some true
  veC : subIn K (.ref C) (.type "ValueError") = some true
  tyC : typeIn K (.ref C) = some (.type "type")
  selfC : mroIn K C (.ref C) = some true
  opq : nsIn K cStatics "thirdparty.any" = some none
  sup : nsIn K mainGlobals "super" = some none
  top : (prog.main.scope.names.lookup ("super" : Str)).isSome = false
  fn : ∃ (oc : Value) (od : Option Addr) (osl : Array (Option Value)) (fd : FuncData) (a1 a2 : Arg) (q1 q2 q3 q4 q5 q6 q7 q8 q9 q10 : Pos) (cda cc : Addr) (ccl : Value) (cdd : Option Addr) (vs : Array Value) (ccs : Array (Option Value)) (file : Str) (tf : Tok) (cl : Value) (cld : Option Addr) (csl : Array (Option Value)),
    K.lookup fI = some ⟨oc, od, .func fd, osl⟩ ∧ codeIn K fd.code fd.qualname = true ∧
    fd.params = { posonlyargs := [], args := [a1, a2], vararg := none, kwonlyargs := [], kw_defaults := [], kwarg := none, defaults := [] } ∧ a1.arg = "self" ∧ a2.arg = p ∧
    fd.body = .stmts [.Expr (.Call (.Attribute (.Call (.Name "super" q1) [] [] q2) "__init__" q3) [.Name p q4] [] q5) q6, .Assign [.Attribute (.Name "self" q7) p q8] (.Name p q9) q10] ∧
    fd.scope = { kind := .function, names := [("self", .local), (p, .local), ("__class__", .free), ("super", .globalImplicit)], isGenerator := false, isCoroutine := false, more := [] } ∧
    fd.globals = mainGlobals ∧ fd.builtins = builtinsNs ∧ fd.closure = [(("__class__" : Str), cc)] ∧ fd.defaults = .none ∧ fd.code = .ref cda ∧
    K.lookup cda = some ⟨ccl, cdd, .fields vs, ccs⟩ ∧ vs[2]? = some (.str file tf) ∧ ((prog.main.file : Str) == file) = true ∧
    K.lookup cc = some ⟨cl, cld, .cell (some (.ref C)), csl⟩ ∧ (q3.endLine == q5.line) = true
/-- a good parameter's name -/
structure PName (p : Str) : Prop where
  n1 : ¬ p = ("self" : Str)
  n2 : ¬ p = ("__class__" : Str)
  n3 : ¬ p = ("super" : Str)
  n4 : (p == ("__debug__" : Str)) = false
  n5 : (p == ("__classdict__" : Str)) = false
  bnd : ∀ (n1 n2 : Str) (an1 : Option Expr) (ap1 : Pos) (an2 : Option Expr) (ap2 : Pos) (b : FuncBody) (sc : Scope) (gl : Addr) (clo : List (Str × Addr)) (n9 n10 n11 : Value) (n12 : Option Addr) (n13 n14 : Value) (n15 : Addr) (u v : Value),
    bindArgs ⟨n1, n2, { posonlyargs := [], args := [⟨"self", an1, ap1⟩, ⟨p, an2, ap2⟩], vararg := none, kwonlyargs := [], kw_defaults := [], kwarg := none, defaults := [] }, b, sc, gl, clo, .none, n9, n10, n11, n12, n13, n14, n15⟩ ⟨[u, v], []⟩ = pure [(("self" : Str), u), (p, v)]
structure InitEnd (h h' : Heap) (x C dx : Addr) (p : Str) (v : Value) : Prop where
  keep : ∀ b o, b ≠ x → h.get? b = some o → h'.get? b = some o
  obj : ∃ t1, h'.get? x = some { cls := .ref C, dict := some dx, data := .fields #[.ref t1, .none, .none, .none, .bool false, .none] }
  dbig : h.objs.size ≤ dx
  dne : dx ≠ x
  ns : h'.Ns1 dx (fun y => if y = p then some v else none)
theorem pn_word : PName "word" := ⟨by decide +kernel, by decide +kernel, by decide +kernel, by decide +kernel, by decide +kernel, fun _ _ _ _ _ _ _ _ _ _ _ _ _ _ _ _ _ _ _ => rfl⟩
theorem pn_part : PName "part" := ⟨by decide +kernel, by decide +kernel, by decide +kernel, by decide +kernel, by decide +kernel, fun _ _ _ _ _ _ _ _ _ _ _ _ _ _ _ _ _ _ _ => rfl⟩
theorem pn_index : PName "index" := ⟨by decide +kernel, by decide +kernel, by decide +kernel, by decide +kernel, by decide +kernel, fun _ _ _ _ _ _ _ _ _ _ _ _ _ _ _ _ _ _ _ => rfl⟩
theorem pn_most : PName "most" := ⟨by decide +kernel, by decide +kernel, by decide +kernel, by decide +kernel, by decide +kernel, fun _ _ _ _ _ _ _ _ _ _ _ _ _ _ _ _ _ _ _ => rfl⟩
theorem call_form {o : Expr} {name : Str} {apos pos : Pos} {env : Env} {a : Expr} (h : (apos.endLine == pos.line) = true) (hs : starEach [a] env = [(false, eval a env)]) :
    eval (.Call (.Attribute o name apos) [a] [] pos) env = (do
      let ov ← attributeBase o name env (eval o env)
      standAt apos.atName
      let (f, first) ← holding [ov] (getMethod ov name (do return (← importBound o env).getD true))
      callWith pos f first (backTo pos (starEach [a] env)) []) := by
  have e0 : eval (.Call (.Attribute o name apos) [a] [] pos) env = (do
      let ov ← attributeBase o name env (eval o env)
      standAt apos.atName
      methodCall o name apos pos env ov 1 (backTo pos (starEach [a] env)) []) := rfl
  have e1 : methodCallPos true o env apos pos = pure pos := by
    unfold methodCallPos
    rw [h]
    rfl
  have e2 : methodCallForm 1 (backTo pos (starEach [a] env)) [] = true := by rw [hs]; rfl
  rw [e0]
  unfold methodCall
  rw [e2]
  simp only [e1, pure_bind]
  rfl
/-- the bound ValueError.__init__ called -/
theorem bound_init {prog : Program} {w : World} {A : Around} {E : Value → Shared → Prop} {s : Shared} {C u x t0 : Addr} {nm q : Str} {N : Addr} {bs bm : List Value} {hdct : Bool} {sn : List Str} {sub : List Value} {ab : Bool} {col : Option Bool} {dd : Option Addr} {k0 k1 k2 k3 k5 : Option Value} {Q : Value → Shared → Prop}
    (hC : s.heap.get? C = some (excClassObj nm q C N bs bm hdct sn sub ab col dd k0 k1 k2 k3 k5 "ValueError.__new__")) (hu : s.heap.get? u = some (kxs_mw "ValueError.__init__" x)) (hx : s.heap.get? x = some (excO C t0)) {rest : List Value} (hz : rest.length ≤ sizeLine)
    (h : ∀ h' t1, (∀ b o, b ≠ x → s.heap.get? b = some o → h'.get? b = some o) → h'.get? x = some (excO C t1) → Q .none { s with heap := h' }) : wpAny (model prog w) A (call (.ref u) rest) Q E s := by
  have f1 : (Value.type "method-wrapper" == Value.type "method" || Value.type "method-wrapper" == Value.type "builtin_function_or_method" || Value.type "method-wrapper" == Value.type "method-wrapper") = true := by decide
  obtain ⟨hh, g, d, tk, os⟩ := s
  refine wpAny_call (codeAny_of_tree ?_)
  show wpAny _ A.in1 (callAny (Value.ref u) ⟨rest, []⟩) _ _ _
  unfold callAny
  refine wpAny_bind (wpAny_load hu ?_)
  dsimp only [kxs_mw]
  rw [if_pos f1]
  refine KFB.if_so (by decide) ?_
  refine wpAny_bind (check_bound_init F.excBase_ValueError.toExcCallFacts hC hx rfl ?_)
  refine wpAny_bind (wpAny_pure (wpAny_pure ⟨plainId_quiet F.excBase_ValueError.init.plain _, codeAny_builtin F.excBase_ValueError.initEntry ?_⟩))
  refine exc_init_tree (cls := .ref C) (t0 := t0) (dv := none) (c2 := .none) (c3 := .none) (b4 := .bool false) hx hz ?_
  intro h' k e1 e2
  exact h h' _ k e1
section
variable {prog : Program} {w : World} {A : Around} {E : Value → Shared → Prop} {R : Result → Shared → Prop} {s : Shared} {K : Frag} {C fI : Addr} {p : Str}
theorem sup_init (T : SupC prog K C fI p) (hp : PName p) {x t0 : Addr} {v : Value} {mg mb : Str → Option Value} (X : K.In s.heap) (G : s.heap.Ns mainGlobals mg) (B : s.heap.Ns builtinsNs mb) (hB : ∀ x : Str, x ≠ "__name__" → mb x = bootBuiltins x)
    (hlim : s.heap.NoLimit) (hx : s.heap.get? x = some (excO C t0)) (hnx : K.lookup x = none) (hroom : A.depth < recursionLimit)
    (hq : ∀ h' tk dx, InitEnd s.heap h' x C dx p v → R (.ok (.ret .none)) { s with heap := h', toks := tk }) :
    codeAny (model prog w) A (.call (.ref fI) ⟨[.ref x, v], []⟩) R s := by
  obtain ⟨oc, od, osl, fd, a1, a2, q1, q2, q3, q4, q5, q6, q7, q8, q9, q10, cda, cc, ccl, cdd, vs, ccs, file, tf, cl, cld, csl, hf, hcd, hpar, ha1, ha2, hbody, hsc, hgl, hbt, hclo, hdf, hcode, hcda, hvs, hfile, hcell, hq35⟩ := T.fn
  obtain ⟨nm, q, N, bs, bm, sn, sub, ab, col, dd, k0, k1, k2, k3, k5, hC, hbm, hal⟩ := T.cls
  have hcl : clsIn K C = some { name := nm, bases := bs, mro := .ref C :: bm, ns := N, qualname := q, hasDict := true, slotNames := sn, subclasses := sub, abstract := ab, collection := col, hasDel := false } := by unfold clsIn; rw [hC] <;> rfl
  obtain ⟨n1, n2, n3, n4, n5, n6, n7, n8, n9, n10, n11, n12, n13, n14, n15⟩ := fd
  obtain ⟨aa1, an1, ap1⟩ := a1
  obtain ⟨aa2, an2, ap2⟩ := a2
  dsimp only at hcd hpar ha1 ha2 hbody hsc hgl hbt hclo hdf hcode
  subst hpar ha1 ha2 hbody hsc hgl hbt hclo hdf hcode
  have e1 : ¬ aa2 = ("self" : Str) := hp.n1
  have b1 : (aa2 == ("self" : Str)) = false := by simpa using e1
  have b2 : (aa2 == ("__class__" : Str)) = false := by simpa using hp.n2
  have b3 : (aa2 == ("super" : Str)) = false := by simpa using hp.n3
  have b4 : (("self" : Str) == aa2) = false := by simpa using Ne.symm e1
  have b5 : (("__class__" : Str) == aa2) = false := by simpa using Ne.symm hp.n2
  have b6 : (("super" : Str) == aa2) = false := by simpa using Ne.symm hp.n3
  have ls : ([(("self" : Str), NameKind.local), (aa2, NameKind.local), (("__class__" : Str), NameKind.free), (("super" : Str), NameKind.globalImplicit)] : List (Str × NameKind)).lookup ("self" : Str) = some .local := by simp [List.lookup]
  have lp : ([(("self" : Str), NameKind.local), (aa2, NameKind.local), (("__class__" : Str), NameKind.free), (("super" : Str), NameKind.globalImplicit)] : List (Str × NameKind)).lookup aa2 = some .local := by simp [List.lookup, b1]
  have lc : ([(("self" : Str), NameKind.local), (aa2, NameKind.local), (("__class__" : Str), NameKind.free), (("super" : Str), NameKind.globalImplicit)] : List (Str × NameKind)).lookup ("__class__" : Str) = some .free := by
    simp [List.lookup, b5, show (("__class__" : Str) == ("self" : Str)) = false by decide +kernel]
  have lu : ([(("self" : Str), NameKind.local), (aa2, NameKind.local), (("__class__" : Str), NameKind.free), (("super" : Str), NameKind.globalImplicit)] : List (Str × NameKind)).lookup ("super" : Str) = some .globalImplicit := by
    simp [List.lookup, b6, show (("super" : Str) == ("self" : Str)) = false by decide +kernel, show (("super" : Str) == ("__class__" : Str)) = false by decide +kernel]
  refine ks_codeAny_call_defAt (binds := [(("self" : Str), .ref x), (aa2, v)]) hroom (X _ _ hf) rfl hlim (codeRec_of X hcd) rfl (BindsTo.of_eq (hp.bnd _ _ _ _ _ _ _ _ _ _ _ _ _ _ _ _ _ _ _)) ?cell ?loc ?body rfl rfl rfl
  case cell => simp
  case loc =>
    intro y hy
    rcases List.mem_cons.mp hy with rfl | hy
    · exact ls
    · rcases List.mem_cons.mp hy with rfl | hy
      · exact lp
      · cases hy
  case body =>
    intro h₁ hn k
    have X₁ : K.In h₁ := X.keeps k
    have hx₁ := k _ _ hx
    have G₁ : h₁.Ns mainGlobals mg := G.keepsP k
    have B₁ : h₁.Ns builtinsNs mb := B.keepsP k
    have hm1 : (fun y => ([(("self" : Str), Value.ref x), (aa2, v)] : List (Str × Value)).reverse.lookup y) ("self" : Str) = some (.ref x) := by simp [List.lookup, b4]
    have hm2 : (fun y => ([(("self" : Str), Value.ref x), (aa2, v)] : List (Str × Value)).reverse.lookup y) aa2 = some v := by simp [List.lookup]
    have hsup : mg "super" = none := mg_none_of X G T.sup
    have hC1 := X₁ _ _ hC
    refine ks_wpAt_execs_cons (ks_wpAt_Expr_any ?_ rfl rfl)
    refine ks_wpAt_MethodCall ?_ (call_form hq35 rfl)
    refine ks_wpAt_super_base (env := callEnv _ _ _) lu lc (by decide +kernel) rfl (X₁ _ _ hf) rfl rfl rfl (X₁ _ _ hcda) rfl hvs hfile T.top ?_
    refine ks_loadName_global rfl lu (loadGlobal_builtin (env := callEnv _ _ _) G₁ hsup B₁ ((hB _ (by decide +kernel)).trans (by decide +kernel)) ⟨rfl, ?_⟩)
    refine wpAny_loadName_free rfl lc rfl ⟨_, X₁ _ _ hcell, rfl⟩ ?_
    refine wpAny_loadName_local rfl ls hn hm1 ?_
    refine ks_wpAny_isType_cls hC1 rfl ⟨rfl, ?_⟩
    refine ks_wpAny_call_super hC1 rfl hx₁ rfl (fun c e => by cases e) (looks_mroIn X₁ T.selfC) (fun h₂ e₂ k₂ => ?_)
    have X₂ : K.In h₂ := X₁.keeps k₂
    have hx₂ := k₂ _ _ hx₁
    have hC2 := X₂ _ _ hC
    have I₂ : InstAt h₂ x (excO C t0) C none := ⟨hx₂, rfl, rfl, trivial⟩
    have hxC : x ≠ C := fun z => by rw [z, hC2] at hx₂; cases hx₂
    have hI2 : Looks (model prog w) h₂ (isInstance (.ref x) (.type "ValueError")) true := I₂.type.andThen (looks_subIn X₂ T.veC)
    refine kxs_getMethod kxs_ValueError (l₀ := .ref C :: bm) (l := bm) e₂ (looks_opaque X₂ T.opq) ((looks_clsIn X₂ hcl).andThen .now) (by simp [List.dropWhile_cons]) X₂ hal hI2 hxC (by decide +kernel) ?_
    dsimp only
    refine kxs_callWith (i := "ValueError.__init__") (x := x) rfl (evalArgs_plain (spliced_cons ?_))
    have kw : ∀ b o, h₂.get? b = some o → (h₂.push (kxs_mw "ValueError.__init__" x)).get? b = some o := fun b o e => Heap.get?_push_of_some _ e
    have hn₂ : (h₂.push (kxs_mw "ValueError.__init__" x)).Ns s.heap.objs.size (fun y => ([(("self" : Str), Value.ref x), (aa2, v)] : List (Str × Value)).reverse.lookup y) := (hn.keepsP k₂).keepsP kw
    refine wpAny_Name (wpAny_loadName_local rfl lp hn₂ hm2 ?_) hp.n4
    refine spliced_nil ⟨Heap.get?_push_at rfl rfl, ?_⟩
    refine bound_init (x := x) (t0 := t0) (kw _ _ hC2) (Heap.get?_push_at rfl rfl) (kw _ _ hx₂) (by rw [sizeLine_eq]; exact (by decide : 1 ≤ 16777216)) fun h₃ t1 k₃ hx₃ => ?_
    have hsz : s.heap.objs.size ≠ x := Nat.ne_of_gt (Heap.lt_size hx)
    have old : ∀ b o, b ≠ x → h₁.get? b = some o → h₃.get? b = some o := fun b o hb e => k₃ b o hb (kw b o (k₂ b o e))
    have X₃ : K.In h₃ := fun a o e => old a o (fun z => by rw [z, hnx] at e; cases e) (X₁ _ _ e)
    have hn₃ : h₃.Ns s.heap.objs.size (fun y => ([(("self" : Str), Value.ref x), (aa2, v)] : List (Str × Value)).reverse.lookup y) := by
      obtain ⟨o, es, ep, ho, r⟩ := hn
      exact ⟨o, es, ep, old _ _ hsz ho, r⟩
    refine ks_wpAt_execs_cons (ks_wpAt_Assign_Attr (wpAt_of_wpAny ?_) rfl)
    refine wpAny_Name (wpAny_loadName_local rfl lp hn₃ hm2 ?_) hp.n4
    refine wpAny_Name (wpAny_loadName_local rfl ls hn₃ hm1 ?_) (by decide +kernel)
    refine set_plain X₃ (ox := excO C t1) (od := none) ⟨hx₃, rfl, rfl, trivial⟩ T.sa ?_
    refine exc_osa X₃ hx₃ hcl (show refsVE (.ref C :: bm) = true from hbm) rfl T.no (fun h₄ tk₄ dx k₄ dn dne hx₄ hn₄ => ?_)
    refine wpAt_of_wpAny (wpAny_execs_nil (hq h₄ tk₄ dx ⟨fun b o hb e => k₄ b o hb (old b o hb (k b o e)), ⟨t1, hx₄⟩, Nat.le_of_lt (Nat.lt_of_lt_of_le hn₃.lt dn), dne, hn₄⟩))

/-- a made error -/
structure OwnMade (h h' : Heap) (e C d : Addr) (p : Str) (v : Value) : Prop where
  keep : ∀ b o, h.get? b = some o → h'.get? b = some o
  new : h.objs.size ≤ e
  obj : ∃ oe vs, h'.get? e = some oe ∧ oe.cls = .ref C ∧ oe.dict = some d ∧ oe.data = .fields vs ∧ vs[1]? = some .none
  dbig : h.objs.size ≤ d
  dne : d ≠ e
  ns : h'.Ns1 d (fun y => if y = p then some v else none)
theorem sup_made (T : SupC prog K C fI p) (hp : PName p) {v : Value} {mg mb : Str → Option Value} (X : K.In s.heap) (G : s.heap.Ns mainGlobals mg) (B : s.heap.Ns builtinsNs mb) (hB : ∀ x : Str, x ≠ "__name__" → mb x = bootBuiltins x)
    (hlim : s.heap.NoLimit) (hroom : A.depth + 1 < recursionLimit)
    (hq : ∀ h' tk e d, OwnMade s.heap h' e C d p v → R (.ok (.ret (.ref e))) { s with heap := h', toks := tk }) :
    codeAny (model prog w) A (.call (.ref C) ⟨[v], []⟩) R s := by
  obtain ⟨nm, q, N, bs, bm, sn, sub, ab, col, dd, k0, k1, k2, k3, k5, hC, hbm, _⟩ := T.cls
  obtain ⟨hp', g, dr, tk, os⟩ := s
  have k : ∀ b o, hp'.get? b = some o → ((hp'.push (kdv_tup [v])).push (excO C hp'.objs.size)).get? b = some o := fun b o e => Heap.get?_push_of_some _ (Heap.get?_push_of_some _ e)
  have hget : ((hp'.push (kdv_tup [v])).push (excO C hp'.objs.size)).get? (hp'.objs.size + 1) = some (excO C hp'.objs.size) := by heap_get
  have hnx : K.lookup (hp'.objs.size + 1) = none := by
    cases e : K.lookup (hp'.objs.size + 1) with
    | none => rfl
    | some o => exact absurd (Nat.lt_of_succ_lt (Heap.lt_size (show hp'.get? (hp'.objs.size + 1) = some o from X _ _ e))) (Nat.lt_irrefl _)
  refine call_own F.excBase_ValueError (fun X => refsVE_contains X bm hbm) (X _ _ hC) (looks_findIn X T.ini) (fun self => bind_fn X self T.tfn) (by rw [sizeLine_eq]; exact (by decide : 1 ≤ 16777216)) ?_
  refine sup_init (s := ⟨(hp'.push (kdv_tup [v])).push (excO C hp'.objs.size), g, dr, tk, os⟩) T hp (X.keeps k) (G.keepsP k) (B.keepsP k) hB (hlim.keeps k) hget hnx ?_ fun h' tk' dx ⟨k', ⟨t1, hx⟩, dn, dne, hns⟩ => ?_
  · show A.depth + 1 < recursionLimit
    exact hroom
  · have old : ∀ b o, hp'.get? b = some o → h'.get? b = some o := fun b o e => k' b o (Nat.ne_of_lt (Nat.lt_succ_of_lt (Heap.lt_size e))) (k b o e)
    have z : hp'.objs.size + 1 + 1 ≤ dx := by
      have q := dn
      simp only [Heap.size_push] at q
      exact q
    exact ⟨rfl, hq h' tk' (hp'.objs.size + 1) dx ⟨old, Nat.le_succ _, ⟨_, _, hx, rfl, rfl, rfl, rfl⟩, (by show hp'.objs.size ≤ dx; omega), dne, hns⟩⟩
end
end MR
namespace MR
open PySem PySem.Spec PyProof.Rows L2
theorem relO_one {p : Str} {v : V} {v' : Value} (r : RelV v v') (f : Str) : RelO (List.lookup f [(p, v)]) (if f = p then some v' else none) := by
  by_cases hw : f = p
  · subst hw
    rw [if_pos rfl]
    have q : List.lookup f [(f, v)] = some v := by simp [List.lookup]
    rw [q]
    exact r
  · rw [if_neg hw]
    have qw : (f == p) = false := by simpa using hw
    have q2 : List.lookup f [(p, v)] = none := by simp [List.lookup, qw]
    rw [q2]
    trivial
section
variable {X : Cx} {C fI : Addr} {p : Str}
/-- C(e): the error, its dict d new -/
def tMkS (C : Addr) (p : Str) (ta : TA) : L2.St → Hp → XK → Prop := fun σ H Q => ta σ H fun vs H1 => ∃ v, vs = [v] ∧ ∀ d, H1 d = none → Q (.ref C) (some d) (upd H1 d (.xd [(p, v)]))
theorem pmk_sup {a : Expr} {ta : TA} {x : Str} {p1 pos : Pos} {k : Nat} (T : SupC X.prog X.K C fI p) (hp : PName p) (gC : X.mg x = some (.ref C)) (hr : Room k X.A) (ha : PA X [a] ta) (hg : Gl X x := by rfl)
    (hdb : (x == ("__debug__" : Str)) = false := by decide)
    (he : starEach (a :: []) X.env = (false, eval a X.env) :: starEach [] X.env := by rfl) (hpl : (backTo pos (starEach [] X.env)).any (·.1) = false := by rfl) :
    PMk X (.Call (.Name x p1) [a] [] pos) (tMkS C p ta) := by
  intro pins s σ H Q I h
  refine wpAny_Call_Name_kw (ld_glob I hg gC ?_ hdb)
  refine PySem.W.callWith_K (h₀ := X.base) I.ok.mod.kin T.kC (thn (ha.run pos pins s σ H _ I h) fun us s1 hh => ?_) he hpl
  obtain ⟨vs, H1, I1, r1, v, ev, q1⟩ := hh
  subst ev
  refine ⟨I1.kIn, ?_⟩
  cases r1 with
  | cons rv rn =>
    rename_i v' us'
    cases rn
    show wpAny _ _ (call (.ref C) [v']) _ _ _
    have hlim := I1.nolimit
    have GG : s1.heap.Ns mainGlobals X.mg := I1.ok.mod.glob.keepsP I1.bk
    obtain ⟨mb, BB, hB⟩ := I1.ok.mod.blt
    have BB1 : s1.heap.Ns builtinsNs mb := BB.keepsP I1.bk
    obtain ⟨hp', g, dr, tk, os⟩ := s1
    refine wpAny_call (sup_made T hp I1.kIn GG BB1 hB hlim (by have := hr.dp; omega) fun h' tk' e d M => ?_)
    show MkP X pins σ Q (.ref e) ⟨h', g, dr, tk', os⟩
    obtain ⟨oe, fv, hoe, hc, hd, hdat, h1⟩ := M.obj
    have hns := M.ns
    obtain ⟨G', g1, g2⟩ := restrict h' fun b => decide (b ≠ e)
    have gk : ∀ b, b ≠ e → G'.get? b = h'.get? b := fun b hb => g1 b (decide_eq_true hb)
    have ge : G'.get? e = none := g2 e (by simp)
    have old : ∀ b o, hp'.get? b = some o → G'.get? b = some o := fun b o q => (gk b (Nat.ne_of_lt (Nat.lt_of_lt_of_le (Heap.lt_size q) M.new))).trans (M.keep b o q)
    have ob : ObjOk X.prog X.w (upd H1 d (.xd [(p, v)])) G' d (.xd [(p, v)]) := ⟨_, hns.at (fun o q => (gk d M.dne).trans q), fun f => relO_one rv f⟩
    have J : Inv X pins σ (upd H1 d (.xd [(p, v)])) ⟨G', g, dr, tk', os⟩ := I1.laid (t' := tk') old M.dbig ob
    refine ⟨e, oe, fv, ⟨G', g, dr, tk', os⟩, _, .ref C, some d, rfl, J, fun b o q => ?_, ge, hoe, ⟨hc, hd⟩, hdat, h1, ?_, rfl, I1.bare, raises_own T.exC T.tyC, q1 d (I1.hok.fresh M.dbig)⟩
    · by_cases hb : b = e
      · have q' : G'.get? b = some o := q
        rw [hb, ge] at q'; cases q'
      · exact (gk b hb).symm.trans q
    · rw [upd_ne (Ne.symm M.dne)]
      exact I1.hok.fresh M.new
/-- raise C(e) -/
def tRaiseS (C : Addr) (p : Str) (W : WX) (ta : TA) : TS := fun _ σ H => tMkS C p ta σ H fun cls d H' => W cls d σ H'
theorem ps_raiseS {a : Expr} {ta : TA} {W : WX} {x : Str} {p1 pos pos2 : Pos} {k : Nat} (hc : X.calm = true) (T : SupC X.prog X.K C fI p) (hp : PName p) (gC : X.mg x = some (.ref C)) (hr : Room k X.A) (tk : Takes X W) (ha : PA X [a] ta) (hg : Gl X x := by rfl)
    (hdb : (x == ("__debug__" : Str)) = false := by decide)
    (he : starEach (a :: []) X.env = (false, eval a X.env) :: starEach [] X.env := by rfl) (hpl : (backTo pos (starEach [] X.env)).any (·.1) = false := by rfl) :
    PS X (.Raise (some (.Call (.Name x p1) [a] [] pos)) none pos2) (tRaiseS C p W ta) := ps_raise hc tk (pmk_sup T hp gC hr ha hg hdb he hpl)
end
end MR

set_option Elab.async false
set_option linter.all false
set_option maxRecDepth 100000
set_option maxHeartbeats 4000000
/-! MR: isinstance of the error that a suite holds, whether it has a dict or not -/
namespace MR
open PySem PySem.Spec PyProof.Rows L2
def rIsX (K : PySem.W.Frag) (a : Addr) (cls : Value) (d : Option Addr) : List V → Hp → VK → Prop := fun xs H Q => ∃ (D : Addr) (c : V) (cv : Value) (b : Bool), xs = [.ref a, c] ∧ cls = .ref D ∧ ExcC K D ∧ ClsV c cv ∧ PySem.W.kitOne K (.ref D) cv = some b ∧
  (d = none ∨ ∃ dd fs, d = some dd ∧ H dd = some (.xd fs)) ∧ Q (.bl b) H
theorem call_isX {X : Cx} {a : Addr} {oe : Obj} {cls : Value} {d : Option Addr} {pn : List (Addr × Obj)} (hz : Zc cls d oe) (hf : ∃ vs, oe.data = .fields vs) : CallR (X.suite a ((a, oe) :: pn)) (.builtin "isinstance") (rIsX X.K a cls d) := by
  intro pins s σ H xs us Q I r h
  obtain ⟨D, c, cv, b, rfl, ecls, C, hcv, e, hd, q⟩ := h
  cases r with
  | cons rx rr =>
    cases rr with
    | cons rt rr =>
      cases rr
      cases rx
      have ec := hcv.eq rt
      subst ec
      have hget : s.heap.get? a = some oe := (I.pin (a, oe) (List.mem_append.mpr (.inl List.mem_cons_self))).1
      obtain ⟨vs, hv⟩ := hf
      have J : ∃ od, PySem.W.InstAt s.heap a oe D od := by
        obtain ⟨oc, od, oda, osl⟩ := oe
        obtain ⟨h1, h2⟩ := hz
        dsimp only at h1 h2 hv
        subst h1 h2 hv
        cases ecls
        rcases hd with rfl | ⟨dd, fs, rfl, hx⟩
        · exact ⟨none, hget, rfl, rfl, trivial⟩
        · have hx' : ObjOk X.prog X.w H s.heap dd (.xd fs) := I.hok dd _ hx
          obtain ⟨mA, hns, _⟩ := hx'
          obtain ⟨od, ho, _⟩ := lookIn_ns hns
          exact ⟨some od, hget, rfl, rfl, ho⟩
      obtain ⟨od, J⟩ := J
      have hc : (PySem.W.clsIn X.K D).isSome = true := by
        obtain ⟨cd, hc, _⟩ := PySem.W.any_some C.hd
        rw [hc]
        rfl
      exact PySem.W.kia_one (PySem.W.kitx_exc hc C.hg C.hk C.hs C.ha C.hn C.ht C.hm) I.kIn J e (fun z => nomatch z) fun tk => ⟨.bl b, H, I.kept (t' := tk) fun _ _ z => z, rfl, q⟩
end MR

set_option Elab.async false
set_option linter.all false
set_option maxRecDepth 100000
set_option maxHeartbeats 4000000
/-! MR: rules in the form that the program's walks take -/
namespace MR
open PySem PySem.Spec PyProof.Rows L2
/-! ### a def, a method, a class as the walk takes it -/
abbrev CXX (P : Program) (w : World) : CXT := L2.CX P w
/-- the module's name x is a def that keeps sp; dvs: the defaults of the last parameters -/
def DefOk (P : Program) (w : World) (K : PySem.W.Frag) (mg : Str → Option Value) (base : Heap) (k : Nat) (x : Str) (dvs : List V) (sp : Sp) : Prop :=
  ∃ (f : Addr) (fd : FuncData) (ps : List Str) (ds : List Value), mg x = some (.ref f) ∧ PySem.W.keepIn K (.ref f) = true ∧ FnOk P w K mg base (CXX P w) k f fd ps sp ∧ Binds K fd ps ds ∧ Vals dvs ds
def MethOk (P : Program) (w : World) (K : PySem.W.Frag) (mg : Str → Option Value) (base : Heap) (k : Nat) (C : Addr) (m : Str) (dvs : List V) (sp : Sp) : Prop :=
  ∃ (f : Addr) (fd : FuncData) (ps : List Str) (ds : List Value), Cls K C ∧ Meth K C m f ∧ FnOk P w K mg base (CXX P w) k f fd ps sp ∧ Binds K fd ps ds ∧ Vals dvs ds
def MakeOk (P : Program) (w : World) (K : PySem.W.Frag) (mg : Str → Option Value) (base : Heap) (k : Nat) (x : Str) (C : Addr) (dvs : List V) (sp : Sp) : Prop :=
  ∃ (f : Addr) (fd : FuncData) (ps : List Str) (ds : List Value), mg x = some (.ref C) ∧ Mk K C f ∧ FnOk P w K mg base (CXX P w) k f fd ps sp ∧ Binds K fd ps ds ∧ Vals dvs ds
def MakeKOk (P : Program) (w : World) (K : PySem.W.Frag) (mg : Str → Option Value) (base : Heap) (k : Nat) (x : Str) (C : Addr) (n : Nat) (ks : List Str) (gV : List V → List V → List V) (sp : Sp) : Prop :=
  ∃ (f : Addr) (fd : FuncData) (ps : List Str) (g : List Value → List Value → List Value), mg x = some (.ref C) ∧ Mk K C f ∧ FnOk P w K mg base (CXX P w) k f fd ps sp ∧ KBn K fd ps (n + 1) ks g gV
section
variable {X : Cx} {k : Nat} {C : Addr} {sp : Sp} {dvs : List V} {E : XK} {x m : Str} {p pos apos : Pos} {e o : Expr} {es : List Expr} {ta : TE} {t : TA}
theorem pe_callD (D : DefOk X.prog X.w X.K X.mg X.base k x dvs sp) (hr : Room k X.A) (hg : Gl X x) (hx : Passes (CXX X.prog X.w) X E)
    (ha : PA X (e :: es) t) (hdb : (x == ("__debug__" : Str)) = false := by decide) (he : starEach (e :: es) X.env = (false, eval e X.env) :: starEach es X.env := by rfl) (hpl : (backTo pos (starEach es X.env)).any (·.1) = false := by rfl) :
    PE X (.Call (.Name x p) (e :: es) [] pos) (tCall sp dvs E t) := by
  obtain ⟨f, fd, ps, ds, h1, h2, h3, h4, h5⟩ := D
  exact pe_call h3 hr hg h1 h2 h4 h5 hx ha hdb he hpl
theorem pe_callD0 (D : DefOk X.prog X.w X.K X.mg X.base k x dvs sp) (hr : Room k X.A) (hg : Gl X x) (hx : Passes (CXX X.prog X.w) X E) (hdb : (x == ("__debug__" : Str)) = false := by decide) :
    PE X (.Call (.Name x p) [] [] pos) (tCall sp dvs E tNil) := by
  obtain ⟨f, fd, ps, ds, h1, h2, h3, h4, h5⟩ := D
  exact pe_call0 h3 hr hg h1 h2 h4 h5 hx hdb
theorem pe_makeD (D : MakeOk X.prog X.w X.K X.mg X.base k x C dvs sp) (hr : Room (k + 1) X.A) (hg : Gl X x) (hx : Passes (CXX X.prog X.w) X E)
    (ha : PA X (e :: es) t) (hdb : (x == ("__debug__" : Str)) = false := by decide) (he : starEach (e :: es) X.env = (false, eval e X.env) :: starEach es X.env := by rfl) (hpl : (backTo pos (starEach es X.env)).any (·.1) = false := by rfl) :
    PE X (.Call (.Name x p) (e :: es) [] pos) (tMake C sp dvs E t) := by
  obtain ⟨f, fd, ps, ds, h1, h2, h3, h4, h5⟩ := D
  exact pe_make h2 h3 hr hg h1 h4 h5 hx ha hdb he hpl
theorem pe_methD {pl : Sem Bool} (he : PE X o ta) (D : MethOk X.prog X.w X.K X.mg X.base k C m dvs sp) (hr : Room k X.A) (hx : Passes (CXX X.prog X.w) X E) (ha : PA X (e :: es) t)
    (hst : starEach (e :: es) X.env = (false, eval e X.env) :: starEach es X.env := by rfl) (hpl : (backTo pos (starEach es X.env)).any (·.1) = false := by rfl)
    (ht : eval (.Call (.Attribute o m apos) (e :: es) [] pos) X.env = (do
      let ov ← eval o X.env
      standAt apos.atName
      let (f, first) ← holding [ov] (getMethod ov m pl)
      callWith pos f first (backTo pos (starEach (e :: es) X.env)) (backToKw pos (keywordEach [] X.env))) := by rfl) :
    PE X (.Call (.Attribute o m apos) (e :: es) [] pos) (tMeth C m sp dvs E ta t) := by
  obtain ⟨f, fd, ps, ds, h1, h2, h3, h4, h5⟩ := D
  exact pe_meth he h1 h2 h3 hr h4 h5 hx ha hst hpl ht
theorem pe_methD0 {pl : Sem Bool} (he : PE X o ta) (D : MethOk X.prog X.w X.K X.mg X.base k C m dvs sp) (hr : Room k X.A) (hx : Passes (CXX X.prog X.w) X E)
    (ht : eval (.Call (.Attribute o m apos) [] [] pos) X.env = (do
      let ov ← eval o X.env
      standAt apos.atName
      let (f, first) ← holding [ov] (getMethod ov m pl)
      callWith pos f first (backTo pos (starEach [] X.env)) (backToKw pos (keywordEach [] X.env))) := by rfl) :
    PE X (.Call (.Attribute o m apos) [] [] pos) (tMeth C m sp dvs E ta tNil) := by
  obtain ⟨f, fd, ps, ds, h1, h2, h3, h4, h5⟩ := D
  exact pe_meth0 he h1 h2 h3 hr h4 h5 hx ht
/-- within a try: what is raised is wished for at the slots -/
def tMakeS (C : Addr) (sp : Sp) (dvs : List V) (E : L2.St → XK) (t : TA) : TE := fun σ H Q => t σ H fun vs H1 => ∀ x dx, H1 x = none → H1 dx = none → dx ≠ x →
  sp (.ref x :: (vs ++ dvs)) (upd (upd H1 dx (.own x)) x (.ins C dx [])) (fun v H2 => v = .non ∧ Q (.ref x) H2) (E σ)
theorem pe_callDS {E : L2.St → XK} (D : DefOk X.prog X.w X.K X.mg X.base k x dvs sp) (hr : Room k X.A) (hg : Gl X x) (hx : ∀ σ, PassesAt (CXX X.prog X.w) X σ (E σ))
    (ha : PA X (e :: es) t) (hdb : (x == ("__debug__" : Str)) = false := by decide) (he : starEach (e :: es) X.env = (false, eval e X.env) :: starEach es X.env := by rfl) (hpl : (backTo pos (starEach es X.env)).any (·.1) = false := by rfl) :
    PE X (.Call (.Name x p) (e :: es) [] pos) (tCallSD sp dvs E t) := by
  obtain ⟨f, fd, ps, ds, h1, h2, h3, h4, h5⟩ := D
  exact pe_callSD h3 hr hg h1 h2 h4 h5 hx ha hdb he hpl
theorem run_makeS {E : L2.St → XK} {f : Addr} {fd : FuncData} {ps : List Str} {ds : List Value} {pins : List (Addr × Obj)} {σ : L2.St} {H : Hp} {s : Shared} {Q : VK} {us : List Value} {vs : List V} (M : Mk X.K C f) (F : FnOk X.prog X.w X.K X.mg X.base (CXX X.prog X.w) k f fd ps sp) (hr : Room (k + 1) X.A) (hb : Binds X.K fd ps ds) (hd : Vals dvs ds)
    (hx : PassesAt (CXX X.prog X.w) X σ (E σ)) (I : Inv X pins σ H s) (r : Vals vs us)
    (h : ∀ x dx, H x = none → H dx = none → dx ≠ x → sp (.ref x :: (vs ++ dvs)) (upd (upd H dx (.own x)) x (.ins C dx [])) (fun v H2 => v = .non ∧ Q (.ref x) H2) (E σ)) :
    wpAny (model X.prog X.w) X.A (call (.ref C) us) (EP X pins σ Q) X.xe s := by
  have hq := h (s.heap.objs.size + 1) s.heap.objs.size (I.hok.fresh (Nat.le_succ _)) (I.hok.fresh (Nat.le_refl _)) (Nat.ne_of_lt (Nat.lt_succ_self _))
  have J := Inv.made (C := C) I
  have rr : Vals (V.ref (s.heap.objs.size + 1) :: (vs ++ dvs)) (Value.ref (s.heap.objs.size + 1) :: (us ++ ds)) := .cons rfl (r.append hd)
  have len : (Value.ref (s.heap.objs.size + 1) :: us ++ ds).length = ps.length := rr.length.symm.trans (F.len _ _ _ _ hq)
  refine wpAny_call (make_map (f := f) I.kIn M.makes M.init (beq_iff_eq.mp M.fn) (codeAny_mono (F.run _ X.stack _ _ ⟨Value.ref (s.heap.objs.size + 1) :: us, []⟩ (Value.ref (s.heap.objs.size + 1) :: (us ++ ds)) _ _ (E σ) (hr.make C us []) (J.env0.make C us []) (hb _ (Value.ref (s.heap.objs.size + 1) :: us) J.kIn len) rr hq) fun res s' z => ?_))
  match res, z with
  | .error er, z => exact hx pins _ _ er s' J z
  | .ok (.ret u), z =>
    obtain ⟨v, H', J', rv, ev, q⟩ := J.after z
    subst ev
    exact ⟨rv, ⟨V.ref (s.heap.objs.size + 1), H', J', rfl, q⟩⟩
  | .ok .next, z => exact False.elim z
  | .ok .brk, z => exact False.elim z
  | .ok .cont, z => exact False.elim z
theorem pe_makeDS {E : L2.St → XK} (D : MakeOk X.prog X.w X.K X.mg X.base k x C dvs sp) (hr : Room (k + 1) X.A) (hg : Gl X x) (hx : ∀ σ, PassesAt (CXX X.prog X.w) X σ (E σ))
    (ha : PA X (e :: es) t) (hdb : (x == ("__debug__" : Str)) = false := by decide) (he : starEach (e :: es) X.env = (false, eval e X.env) :: starEach es X.env := by rfl) (hpl : (backTo pos (starEach es X.env)).any (·.1) = false := by rfl) :
    PE X (.Call (.Name x p) (e :: es) [] pos) (tMakeS C sp dvs E t) := by
  obtain ⟨f, fd, ps, ds, h1, h2, h3, h4, h5⟩ := D
  refine ⟨fun pins s σ H Q I h => ?_⟩
  refine wpAny_Call_Name_kw (ld_glob I hg h1 ?_ hdb)
  refine PySem.W.callWith_K (h₀ := X.base) I.ok.mod.kin h2.kp (thn (ha.run pos pins s σ H _ I h) fun us s1 hh => ?_) he hpl
  obtain ⟨vs, H1, I1, r, q⟩ := hh
  exact ⟨I1.kIn, run_makeS h2 h3 hr h4 h5 (hx σ) I1 r q⟩
theorem pe_makeKD0 {ks : List Str} {gV : List V → List V → List V} {kws : List Keyword} {tk : TA} (D : MakeKOk X.prog X.w X.K X.mg X.base k x C 0 ks gV sp) (hr : Room (k + 1) X.A) (hg : Gl X x) (hx : Passes (CXX X.prog X.w) X E) (hkw : PK X kws tk)
    (hall : (backToKw pos (keywordEach kws X.env)).all (·.1.isSome) = true := by rfl) (hks : (backToKw pos (keywordEach kws X.env)).filterMap (·.1) = ks := by rfl) (hdb : (x == ("__debug__" : Str)) = false := by decide)
    (hpl : ((backTo pos (starEach [] X.env)).any (·.1) || (backToKw pos (keywordEach kws X.env)).any (·.1.isNone)) = false := by rfl) : PE X (.Call (.Name x p) [] kws pos) (tMakeK C 0 ks.length sp gV E tNil tk) := by
  obtain ⟨f, fd, ps, g, h1, h2, h3, h4⟩ := D
  exact pe_makeK0 h2 h3 hr hg h1 h4 hx hkw hall hks hdb hpl
/-- what leaves a def's body by a call -/
theorem pass_on {W : WX} (tk : Takes X W) (hW : ∀ cls d σ H, E cls d H → W cls d σ H) : Passes (CXX X.prog X.w) X E := passes_call tk hW
end
/-! ### ints -/
def CDivZ (_ j : Int) : Prop := j ≠ 0 ∧ j.natAbs.log2 < 9000
section
variable {X : Cx}
theorem op_fdivZ : OpR X (binaryOp .FloorDiv) (rI CDivZ fun i j => .int (i.fdiv j)) := opI fun _ _ _ _ _ _ _ hc q => floordiv_int hc.1 q (.inl (PyProof.noPylong_of_log2 hc.2))
/-- xs[i] read on the way of xs[i] += e -/
theorem get_list : PGet X (fun x y H Q => ∃ p xs i v, x = .ref p ∧ y = .int i ∧ 0 ≤ i ∧ SqL X.K H p xs ∧ xs[i.toNat]? = some v ∧ Q v H) := by
  intro pins s σ H x y v u Q I rx ry h
  obtain ⟨p, xs, i, z, rfl, rfl, h0, hq, he, q⟩ := h
  cases rx
  obtain ⟨t, rfl⟩ := ry
  obtain ⟨its, r, pl, hz⟩ := I.list hq
  obtain ⟨w, ew, rw'⟩ := r.get he
  have hn := line63
  have hlt : i.toNat < xs.length := (List.getElem?_eq_some_iff.mp he).1
  exact wpAny_getItem_list pl.isList h0 (by omega) (by simpa using ew) ⟨z, H, I, rw', q⟩
end
end MR
namespace MR
open PySem PySem.Spec PyProof.Rows L2
/-! ### short names of readings -/
abbrev rAdd0 : R2 := rI0 fun i j => .int (i + j)
abbrev rSub0 : R2 := rI0 fun i j => .int (i - j)
abbrev rMulI : R2 := rI IntMulOk fun i j => .int (i * j)
abbrev rDivZ : R2 := rI CDivZ fun i j => .int (i.fdiv j)
abbrev rModN : R2 := rI (fun _ j => j ≠ 0) fun i j => .int (i.fmod j)
abbrev rPow0 : R2 := rI CPow fun i j => .int (i ^ j.toNat)
abbrev rLt0 : R2 := rI0 fun i j => .bl (decide (i < j))
abbrev rLe0 : R2 := rI0 fun i j => .bl (decide (i ≤ j))
abbrev rGt0 : R2 := rI0 fun i j => .bl (decide (j < i))
abbrev rGe0 : R2 := rI0 fun i j => .bl (decide (j ≤ i))
abbrev rIsN0 : R2 := fun x y H Q => y = .non ∧ Q (.bl (decide (x = .non))) H
abbrev rNotN0 : R2 := fun x y H Q => y = .non ∧ Q (.bl (!decide (x = .non))) H
abbrev rNeg0 : V → Hp → VK → Prop := rU fun i => .int (-i)
abbrev rAddS : R2 := fun x y H Q => ∃ i j, x = .str i ∧ y = .str j ∧ i.length + j.length ≤ sizeLine ∧ Q (.str (i ++ j)) H
abbrev rAbs0 : List V → Hp → VK → Prop := fun xs H Q => ∃ i, xs = [.int i] ∧ Q (.int (if i < 0 then -i else i)) H
abbrev rMax0 : List V → Hp → VK → Prop := fun xs H Q => ∃ i j, xs = [.int i, .int j] ∧ Q (.int (if j > i then j else i)) H
abbrev rMin0 : List V → Hp → VK → Prop := fun xs H Q => ∃ i j, xs = [.int i, .int j] ∧ Q (.int (if j < i then j else i)) H
abbrev rInt0 : List V → Hp → VK → Prop := fun xs H Q => (∃ i, xs = [.int i] ∧ Q (.int i) H) ∨ ∃ k, xs = [.bl k] ∧ Q (.int (if k then 1 else 0)) H
abbrev rGetL (K : PySem.W.Frag) : V → V → Hp → VK → Prop := fun x y H Q => ∃ p xs i v, x = .ref p ∧ y = .int i ∧ 0 ≤ i ∧ SqL K H p xs ∧ xs[i.toNat]? = some v ∧ Q v H
abbrev rListOf0 (K : PySem.W.Frag) : List V → Hp → VK → Prop := fun xs H Q => ∃ p ys, xs = [.ref p] ∧ (SqL K H p ys ∨ SqT K H p ys) ∧ ∀ l, H l = none → Q (.ref l) (upd H l (.lst ys))
abbrev rLenA (K : PySem.W.Frag) : List V → Hp → VK → Prop := fun xs H Q => ∃ x n, xs = [x] ∧ LenV K x H n ∧ Q (.int n) H
abbrev tTruA (K : PySem.W.Frag) (ta : TE) : TT := fun σ H Q => ta σ H fun x H1 => ∃ k, TruV K x H1 k ∧ Q k H1
theorem op_mulI {X : Cx} : OpR X (binaryOp .Mult) rMulI := opI fun _ _ _ _ _ _ _ hc q => mul_int q hc
/-! ### sizes -/
theorem mul_ok {i j : Int} {a b : Nat} (ha : i.natAbs < 2 ^ a) (hb : j.natAbs < 2 ^ b) (h0 : 0 < a) (h1 : 0 < b) (h : a + b ≤ 1000000) : IntMulOk i j := (wide_mul ha hb h0 h1 h).ok
theorem mul_okL {i j : Int} (h : i.natAbs < 2 ^ 64) : IntMulOk i j := CMul.ok (.inl (by omega))
theorem mul_okR {i j : Int} (h : j.natAbs < 2 ^ 64) : IntMulOk i j := CMul.ok (.inr (by omega))
theorem div_ok {i j : Int} {b : Nat} (h : j ≠ 0) (hb : j.natAbs < 2 ^ b) (h0 : 0 < b) (h9 : b ≤ 9000) : CDivZ i j := ⟨h, Nat.lt_of_lt_of_le (PySem.Flt.log2_lt_of h0 hb) h9⟩
/-! ### heaps -/
theorem same_new {H : Hp} {p : Addr} {o : HO} (h : H p = none) : Same H (upd H p o) := fun b u e => by
  rw [upd_ne (ne_of_none e h)]
  exact e
/-- all but f is as it was -/
def Keep (f : Addr) (H H' : Hp) : Prop := ∀ b o, H b = some o → b ≠ f → H' b = some o
theorem Keep.refl (f : Addr) (H : Hp) : Keep f H H := fun _ _ h _ => h
theorem Keep.trans {f : Addr} {H H1 H2 : Hp} (a : Keep f H H1) (b : Keep f H1 H2) : Keep f H H2 := fun c o h n => b c o (a c o h n) n
theorem Same.keep {f : Addr} {H H1 : Hp} (a : Same H H1) : Keep f H H1 := fun c o h _ => a c o h
theorem keep_upd {f : Addr} {H : Hp} {o : HO} : Keep f H (upd H f o) := fun b u e n => by rw [upd_ne n]; exact e
end MR

/-! MR: the mathematics of fractions -/
namespace MR
theorem fdiv_num {a b : Int} (hb : 0 < b) : a.fdiv (a.gcd b : Int) = (Rat.divInt a b).num := by
  have hg : (a.gcd b : Int) ∣ a := Int.gcd_dvd_left ..
  rw [Rat.num_divInt, Int.fdiv_eq_ediv_of_dvd hg, Int.sign_eq_one_of_pos hb, Int.one_mul, Int.gcd_comm]
theorem fdiv_den {a b : Int} (hb : 0 < b) : b.fdiv (a.gcd b : Int) = ((Rat.divInt a b).den : Int) := by
  have hg : (a.gcd b : Int) ∣ b := Int.gcd_dvd_right ..
  have hn : b ≠ 0 := by omega
  rw [Rat.den_divInt, if_neg hn, Int.fdiv_eq_ediv_of_dvd hg, Int.gcd_comm, Int.natCast_ediv]
  congr 1
  omega
theorem fdiv_numN {a b : Int} (hb : b < 0) : a.fdiv (-(a.gcd b : Int)) = (Rat.divInt a b).num := by
  have h := fdiv_num (a := -a) (b := -b) (by omega)
  rw [Rat.neg_divInt_neg, Int.gcd_neg, Int.neg_gcd] at h
  have e := Int.neg_fdiv_neg (-a) (a.gcd b : Int)
  rw [Int.neg_neg] at e
  rw [e, h]
theorem fdiv_denN {a b : Int} (hb : b < 0) : b.fdiv (-(a.gcd b : Int)) = ((Rat.divInt a b).den : Int) := by
  have h := fdiv_den (a := -a) (b := -b) (by omega)
  rw [Rat.neg_divInt_neg, Int.gcd_neg, Int.neg_gcd] at h
  have e := Int.neg_fdiv_neg (-b) (a.gcd b : Int)
  rw [Int.neg_neg] at e
  rw [e, h]
theorem divInt_parts {a b : Int} (hb : b ≠ 0) : ∃ m : Int, m ≠ 0 ∧ a = (Rat.divInt a b).num * m ∧ b = ((Rat.divInt a b).den : Int) * m := by
  obtain ⟨m, h1, h2, h3⟩ := Rat.divInt_num_den (n := a) (d := b) (n' := (Rat.divInt a b).num) (d' := (Rat.divInt a b).den) (z' := (Rat.divInt a b).den_nz) (c := (Rat.divInt a b).reduced) hb rfl
  exact ⟨m, h1, h2, h3⟩
theorem divInt_cross {a b : Int} (hb : b ≠ 0) : (Rat.divInt a b).num * b = a * ((Rat.divInt a b).den : Int) := by
  have hd : ((Rat.divInt a b).den : Int) ≠ 0 := by
    have := (Rat.divInt a b).den_nz
    omega
  exact (Rat.divInt_eq_divInt_iff hd hb).mp (Rat.num_divInt_den _)
theorem num_le {a b : Int} (hb : b ≠ 0) : (Rat.divInt a b).num.natAbs ≤ a.natAbs := by
  obtain ⟨m, h1, h2, _⟩ := divInt_parts (a := a) hb
  have e : a.natAbs = (Rat.divInt a b).num.natAbs * m.natAbs := by
    rw [← Int.natAbs_mul, ← h2]
  rw [e]
  exact Nat.le_mul_of_pos_right _ (by omega)
theorem den_le {a b : Int} (hb : b ≠ 0) : (Rat.divInt a b).den ≤ b.natAbs := by
  obtain ⟨m, h1, _, h3⟩ := divInt_parts (a := a) hb
  have e : b.natAbs = ((Rat.divInt a b).den : Int).natAbs * m.natAbs := by
    rw [← Int.natAbs_mul, ← h3]
  rw [e, Int.natAbs_natCast]
  exact Nat.le_mul_of_pos_right _ (by omega)
theorem rat_gcd (q : Rat) : q.num.gcd (q.den : Int) = 1 := q.reduced
end MR

set_option Elab.async false
set_option linter.all false
set_option maxRecDepth 100000
set_option maxHeartbeats 4000000
/-! MR: is_integer, common_part, Ratio() -/
namespace MR
open PySem PySem.Spec PyProof.Rows L2
/-- b is the answer to: is x an integer? -/
def IntQ (K : PySem.W.Frag) (H : Hp) (x : V) (b : Bool) : Prop := ∃ (t : Value) (b1 : Bool), TyX K H x t ∧ PySem.W.kitOne K t (.type "int") = some b1 ∧ (b1 = false → b = false) ∧ (b1 = true → ∃ b2, PySem.W.kitOne K t (.type "bool") = some b2 ∧ b = !b2)
theorem intQ_int {K : PySem.W.Frag} {H : Hp} {i : Int} : IntQ K H (.int i) true := ⟨_, true, .base (.int i), kit_ty (by decide +kernel), fun z => (by cases z), fun _ => ⟨false, kit_ty (by decide +kernel), rfl⟩⟩
theorem intQ_bl {K : PySem.W.Frag} {H : Hp} {i : Bool} : IntQ K H (.bl i) false := ⟨_, true, .base (.bl i), kit_ty (by decide +kernel), fun z => (by cases z), fun _ => ⟨true, kit_ty (by decide +kernel), rfl⟩⟩
theorem intQ_non {K : PySem.W.Frag} {H : Hp} : IntQ K H .non false := ⟨_, false, .base .non, kit_ty (by decide +kernel), fun _ => rfl, fun z => nomatch z⟩
theorem intQ_str {K : PySem.W.Frag} {H : Hp} {x : Str} : IntQ K H (.str x) false := ⟨_, false, .base (.str x), kit_ty (by decide +kernel), fun _ => rfl, fun z => nomatch z⟩
theorem intQ_lst {K : PySem.W.Frag} {H : Hp} {a : Addr} {xs : List V} (h : H a = some (.lst xs)) : IntQ K H (.ref a) false := ⟨_, false, .base (.lst h), kit_ty (by decide +kernel), fun _ => rfl, fun z => nomatch z⟩
theorem intQ_tup {K : PySem.W.Frag} {H : Hp} {a : Addr} {xs : List V} (h : H a = some (.tup xs)) : IntQ K H (.ref a) false := ⟨_, false, .base (.tup h), kit_ty (by decide +kernel), fun _ => rfl, fun z => nomatch z⟩
/-- what the written part says of an own class without surprises -/
structure OwnC (K : PySem.W.Frag) (C : Addr) : Prop where
  cl : Cls K C
  ha : PySem.W.findIn K (.ref C) "__class__" = some (some (.builtin "object.__class__"))
  hn : PySem.W.specialIn K (.builtin "object.__class__") "__get__" = some (some (.builtin "getset_descriptor.__get__"))
  ht : PySem.W.takesIn K (.builtin "object.__class__") = some true
  hm : PySem.W.mroIn K C (.type "object") = some true
  ki : PySem.W.kitOne K (.ref C) (.type "int") = some false
theorem OwnC.ty {K : PySem.W.Frag} {H : Hp} {C a dx : Addr} {fs : List (Str × V)} (T : OwnC K C) (h : H a = some (.ins C dx fs)) : TyX K H (.ref a) (.ref C) := .base (.ins h T.cl T.ha T.hn T.ht T.hm)
theorem intQ_ins {K : PySem.W.Frag} {H : Hp} {C a dx : Addr} {fs : List (Str × V)} (T : OwnC K C) (h : H a = some (.ins C dx fs)) : IntQ K H (.ref a) false := ⟨_, false, T.ty h, T.ki, fun _ => rfl, fun z => nomatch z⟩
def spIsInt (K : PySem.W.Frag) : Sp := fun vs H Q _ => ∃ (x : V) (b : Bool), vs = [x] ∧ IntQ K H x b ∧ Q (.bl b) H
def t_is_integer (K : PySem.W.Frag) : TS :=
  (tRet (tAndV (tCB (rIsi K) (tCons (tVar 0) (tCons (tC (.ty "int")) tNil))) (tNotV (tCB (rIsi K) (tCons (tVar 0) (tCons (tC (.ty "bool")) tNil))))))
theorem pure_is_integer {K : PySem.W.Frag} (vs : List V) (H : Hp) (Q : VK) (E : XK) (h : spIsInt K vs H Q E) : t_is_integer K { nx := fun _ H' => Q .non H', rt := Q } (start ["value"] vs) H := by
  obtain ⟨x, b, rfl, ⟨t, b1, ty, k1, c1, c2⟩, q⟩ := h
  refine ⟨_, rfl, x, _, t, _, b1, rfl, .ty "int", ty, k1, b1, rfl, ?_⟩
  cases b1 with
  | false =>
    rw [c1 rfl] at q
    exact iteF q
  | true =>
    obtain ⟨b2, k2, rfl⟩ := c2 rfl
    exact iteT ⟨_, rfl, x, _, t, _, b2, rfl, .ty "bool", ty, k2, b2, rfl, q⟩
def spGcd : Sp := fun vs H Q _ => ∃ a b : Int, vs = [.int a, .int b] ∧ Q (.int (a.gcd b : Nat)) H
def t_common_part (K : PySem.W.Frag) : TS :=
  (tSeq (tPar 0 1 (tCons (tCB rAbs0 (tCons (tVar 0) tNil)) (tCons (tCB rAbs0 (tCons (tVar 1) tNil)) tNil)))
  (tSeq (tWhile (tTest (tOp rGt0 (tVar 1) (tC (.int 0)))) (tPar 0 1 (tCons (tVar 1) (tCons (tOp rModN (tVar 0) (tVar 1)) tNil))))
  (tRet (tVar 0))))
theorem abs_if (i : Int) : (if i < 0 then -i else i) = (i.natAbs : Int) := by omega
theorem pure_common_part {K : PySem.W.Frag} (vs : List V) (H : Hp) (Q : VK) (E : XK) (h : spGcd vs H Q E) : t_common_part K { nx := fun _ H' => Q .non H', rt := Q } (start ["one", "other"] vs) H := by
  obtain ⟨a, b, rfl, q⟩ := h
  refine ⟨_, rfl, _, rfl, _, rfl, _, rfl, _, _, rfl, ?_⟩
  rw [abs_if, abs_if]
  refine while_by (fun σ H' => H' = H ∧ ∃ x y : Nat, σ = [some (.int x), some (.int y)] ∧ x.gcd y = a.gcd b) (fun σ _ => match σ with | [_, some (.int y)] => y.toNat | _ => 0) ⟨rfl, _, _, rfl, rfl⟩ ?_ ?_
  · rintro σ H' ⟨rfl, x, y, rfl, hg⟩
    refine ⟨_, rfl, _, _, rfl, rfl, _, rfl, ?_⟩
    refine ite2 (fun c => ?_) (fun c => ?_)
    · have hy : 0 < y := by
        have := of_decide_eq_true c
        omega
      refine ⟨_, rfl, _, rfl, _, rfl, _, _, rfl, rfl, (by omega), _, _, rfl, ⟨rfl, y, x % y, ?_, ?_⟩, ?_⟩
      · show [some (V.int y), some (V.int ((x : Int).fmod y))] = _
        rw [Int.fmod_eq_emod_of_nonneg _ (by omega)]
        rfl
      · rw [← hg, Nat.gcd_comm x y, Nat.gcd_rec y x, Nat.gcd_comm]
      · show ((x : Int).fmod y).toNat < (y : Int).toNat
        rw [Int.fmod_eq_emod_of_nonneg _ (by omega)]
        have := Nat.mod_lt x hy
        omega
    · have hy : y = 0 := by
        rw [decide_eq_true_eq] at c
        omega
      subst hy
      refine ⟨_, rfl, ?_⟩
      rw [Nat.gcd_zero_right] at hg
      rw [hg]
      exact q
  · rintro σ H' Q1 Q2 hq ⟨v, e1, i, j, e2, e3, k, e4, h4⟩
    exact ⟨v, e1, i, j, e2, e3, k, e4, hq _ _ h4⟩
/-! ### Ratio(top, bottom) -/
abbrev CR (K : PySem.W.Frag) : Addr := He.ga K "Ratio"
/-- the fields of a fraction -/
def ratF (q : Rat) : List (Str × V) := [("top", .int q.num), ("bottom", .int (q.den : Nat))]
def IsRat (K : PySem.W.Frag) (H : Hp) (p : Addr) (q : Rat) : Prop := ∃ dx, H p = some (.ins (CR K) dx (ratF q))
theorem IsRat.same {K : PySem.W.Frag} {H H' : Hp} {p : Addr} {q : Rat} (h : IsRat K H p q) (s : Same H H') : IsRat K H' p q := let ⟨dx, e⟩ := h; ⟨dx, s _ _ e⟩
theorem tb_ne : ¬ (("bottom" : Str) = "top") := by decide +kernel
theorem ratF_top (q : Rat) : (ratF q).lookup ("top" : Str) = some (.int q.num) := by simp [ratF, List.lookup]
theorem ratF_bot (q : Rat) : (ratF q).lookup ("bottom" : Str) = some (.int (q.den : Nat)) := by
  have h : (("bottom" : Str) == ("top" : Str)) = false := by decide +kernel
  simp [ratF, List.lookup, h]
/-- what the walk asks of the class Ratio -/
structure RTxt (K : PySem.W.Frag) : Prop where
  own : OwnC K (CR K)
  nT : NoAttr K (CR K) "top"
  nB : NoAttr K (CR K) "bottom"
/-- an error of the class at C with the field p = v -/
def Err (K : PySem.W.Frag) (C p w : Str) (H : Hp) (E : XK) : Prop := ∀ d : Addr, H d = none → E (.ref (He.ga K C)) (some d) (upd H d (.xd [(p, .str w)]))
def spRInit (K : PySem.W.Frag) : Sp := fun vs H Q E => ∃ (p dx : Addr) (x y : V) (bx : Bool), vs = [.ref p, x, y] ∧ H p = some (.ins (CR K) dx []) ∧ IntQ K H x bx ∧ (bx = false → Err K "NoRatio" "word" "top" H E) ∧
  (bx = true → ∃ bY, IntQ K H y bY ∧ (bY = false → Err K "NoRatio" "word" "bottom" H E) ∧ (bY = true → ∃ a b : Int, x = .int a ∧ y = .int b ∧ (b = 0 → Err K "NoRatio" "word" "zero" H E) ∧
    (b ≠ 0 → b.natAbs < 2 ^ 9000 ∧ Q .non (upd H p (.ins (CR K) dx (ratF (Rat.divInt a b)))))))
def t_Ratio_init (K : PySem.W.Frag) (E : XK) : TS :=
  (tSeq (tIfS (tNot (tB (tCall (spIsInt K) [] E0 (tCons (tVar 1) tNil)))) (tRaiseS (He.ga K "NoRatio") "word" (fun cls d _ H => E cls d H) (tCons (tC (.str "top")) tNil)) tNext)
  (tSeq (tIfS (tNot (tB (tCall (spIsInt K) [] E0 (tCons (tVar 2) tNil)))) (tRaiseS (He.ga K "NoRatio") "word" (fun cls d _ H => E cls d H) (tCons (tC (.str "bottom")) tNil)) tNext)
  (tSeq (tIfS (tTest (tOp rEq (tVar 2) (tC (.int 0)))) (tRaiseS (He.ga K "NoRatio") "word" (fun cls d _ H => E cls d H) (tCons (tC (.str "zero")) tNil)) tNext)
  (tSeq (tAsg (tCall spGcd [] E0 (tCons (tVar 1) (tCons (tVar 2) tNil))) (gName 3))
  (tSeq (tIfS (tTest (tOp rLt0 (tVar 2) (tC (.int 0)))) (tAsg (tUn rNeg0 (tVar 3)) (gName 3)) tNext)
  (tSeq (sFld K (tVar 0) (tOp rDivZ (tVar 1) (tVar 3)) "top")
  (sFld K (tVar 0) (tOp rDivZ (tVar 2) (tVar 3)) "bottom")))))))
theorem gcd_small {a b : Int} (hb : b ≠ 0) (h : b.natAbs < 2 ^ 9000) : a.gcd b ≠ 0 ∧ a.gcd b < 2 ^ 9000 := by
  have h1 : a.gcd b ≤ b.natAbs := Nat.le_of_dvd (by omega) (Int.gcd_dvd_natAbs_right a b)
  have h2 : a.gcd b ≠ 0 := fun e => hb (Int.gcd_eq_zero_iff.mp e).2
  exact ⟨h2, Nat.lt_of_le_of_lt h1 h⟩
theorem pure_Ratio_init {K : PySem.W.Frag} (T : RTxt K) (vs : List V) (H : Hp) (Q : VK) (E : XK) (h : spRInit K vs H Q E) : t_Ratio_init K E { nx := fun _ H' => Q .non H', rt := Q } (start ["self", "top", "bottom", "divisor"] vs) H := by
  obtain ⟨p, dx, x, y, bx, rfl, hp, ix, e1, k1⟩ := h
  refine ⟨_, rfl, x, bx, rfl, ix, _, rfl, ?_⟩
  cases bx with
  | false => exact iteT ⟨_, rfl, e1 rfl⟩
  | true =>
    refine iteF ?_
    obtain ⟨bY, iy, e2, k2⟩ := k1 rfl
    refine ⟨_, rfl, y, bY, rfl, iy, _, rfl, ?_⟩
    cases bY with
    | false => exact iteT ⟨_, rfl, e2 rfl⟩
    | true =>
      refine iteF ?_
      obtain ⟨a, b, rfl, rfl, e3, k3⟩ := k2 rfl
      refine ⟨_, rfl, rfl, _, rfl, ?_⟩
      refine ite2 (fun c => ?_) (fun c => ?_)
      · have hb : b = 0 := by
          have := of_decide_eq_true c
          injection this
        exact ⟨_, rfl, e3 hb⟩
      · have hb : b ≠ 0 := fun z => c (by rw [z]; exact decide_eq_true rfl)
        obtain ⟨hs, q⟩ := k3 hb
        obtain ⟨g0, g9⟩ := gcd_small (a := a) hb hs
        refine ⟨_, rfl, _, rfl, a, b, rfl, ?_⟩
        refine ⟨_, rfl, _, _, rfl, rfl, _, rfl, ?_⟩
        have fin : ∀ d : Int, d ≠ 0 → d.natAbs < 2 ^ 9000 → a.fdiv d = (Rat.divInt a b).num → b.fdiv d = ((Rat.divInt a b).den : Nat) →
            tSeq (sFld K (tVar 0) (tOp rDivZ (tVar 1) (tVar 3)) "top") (sFld K (tVar 0) (tOp rDivZ (tVar 2) (tVar 3)) "bottom") { nx := fun _ H' => Q .non H', rt := Q } [some (.ref p), some (.int a), some (.int b), some (.int d)] H := by
          intro d d0 d9 en ed
          refine ⟨_, rfl, _, rfl, _, _, rfl, rfl, div_ok d0 d9 (by decide) (by decide), _, rfl, p, CR K, dx, [], rfl, hp, T.own.cl, T.nT, (by show 0 < 1000; decide), ?_⟩
          refine ⟨_, rfl, _, rfl, _, _, rfl, rfl, div_ok d0 d9 (by decide) (by decide), _, rfl, p, CR K, dx, _, rfl, upd_same, T.own.cl, T.nB, (by show 1 < 1000; decide), ?_⟩
          rw [upd_upd]
          dsimp only
          rw [en, ed]
          have ef : putF "bottom" (V.int ((Rat.divInt a b).den : Nat)) (putF "top" (V.int (Rat.divInt a b).num) []) = ratF (Rat.divInt a b) := by
            show (if ("top" : Str) = "bottom" then _ else _ :: putF "bottom" _ []) = _
            rw [if_neg (fun z => tb_ne z.symm)]
            rfl
          rw [ef]
          exact q
        refine ite2 (fun c => ?_) (fun c => ?_)
        · have hn : b < 0 := of_decide_eq_true c
          refine ⟨_, rfl, _, rfl, ?_⟩
          exact fin (-(a.gcd b : Int)) (by omega) (by omega) (fdiv_numN hn) (fdiv_denN hn)
        · have hn : 0 < b := by
            rw [decide_eq_true_eq] at c
            omega
          exact fin (a.gcd b : Int) (by omega) (by omega) (fdiv_num hn) (fdiv_den hn)
/-- Ratio(a, b), a fraction comes out: all that was stands, the new object holds it -/
theorem mk_rat {K : PySem.W.Frag} {H : Hp} {R : Hp → Prop} {E : XK} {a b : Int} {x dx : Addr} (nx : H x = none) (nd : H dx = none) (hb : b ≠ 0) (hs : b.natAbs < 2 ^ 9000) (k : ∀ H', Same H H' → IsRat K H' x (Rat.divInt a b) → R H') :
    spRInit K [.ref x, .int a, .int b] (upd (upd H dx (.own x)) x (.ins (CR K) dx [])) (fun v H2 => v = .non ∧ R H2) E := by
  refine ⟨x, dx, _, _, true, rfl, upd_same, intQ_int, fun z => (by cases z), fun _ => ⟨true, intQ_int, fun z => (by cases z), fun _ => ⟨a, b, rfl, rfl, fun z => absurd z hb, fun _ => ⟨hs, rfl, ?_⟩⟩⟩⟩
  rw [upd_upd]
  refine k _ (fun c o e => ?_) ⟨dx, upd_same⟩
  rw [upd_ne (ne_of_none e nx), upd_ne (ne_of_none e nd)]
  exact e
theorem tyX_same {K : PySem.W.Frag} {H H' : Hp} {x : V} {t : Value} (s : Same H H') (h : TyX K H x t) : TyX K H' x t := by
  cases h with
  | base h =>
    refine .base ?_
    cases h with
    | non => exact .non
    | bl x => exact .bl x
    | int i => exact .int i
    | str x => exact .str x
    | flt x => exact .flt x
    | lst e => exact .lst (s _ _ e)
    | frz e => exact .frz (s _ _ e)
    | tup e => exact .tup (s _ _ e)
    | dK e => exact .dK (s _ _ e)
    | dT e => exact .dT (s _ _ e)
    | ins e cl ha hn htk hm => exact .ins (s _ _ e) cl ha hn htk hm
  | byt b => exact .byt b
  | set e => exact .set (s _ _ e)
  | kList e c => exact .kList e c
  | kTuple e c => exact .kTuple e c
  | kDict e c => exact .kDict e c
  | fTuple e => exact .fTuple (s _ _ e)
  | fDict e => exact .fDict (s _ _ e)
theorem IntQ.same {K : PySem.W.Frag} {H H' : Hp} {x : V} {b : Bool} (h : IntQ K H x b) (s : Same H H') : IntQ K H' x b := let ⟨t, b1, h1, h2⟩ := h; ⟨t, b1, tyX_same s h1, h2⟩
/-- the fields of a fraction, read -/
theorem rd_top {K : PySem.W.Frag} (T : RTxt K) {H : Hp} {p : Addr} {q : Rat} {R : V → Prop} (h : IsRat K H p q) (k : R (.int q.num)) : ∃ a C dx fs v, V.ref p = .ref a ∧ H a = some (.ins C dx fs) ∧ Cls K C ∧ NoAttr K C "top" ∧ fs.lookup ("top" : Str) = some v ∧ R v := by
  obtain ⟨dx, e⟩ := h
  exact ⟨p, _, dx, _, _, rfl, e, T.own.cl, T.nT, ratF_top q, k⟩
theorem rd_bot {K : PySem.W.Frag} (T : RTxt K) {H : Hp} {p : Addr} {q : Rat} {R : V → Prop} (h : IsRat K H p q) (k : R (.int (q.den : Nat))) : ∃ a C dx fs v, V.ref p = .ref a ∧ H a = some (.ins C dx fs) ∧ Cls K C ∧ NoAttr K C "bottom" ∧ fs.lookup ("bottom" : Str) = some v ∧ R v := by
  obtain ⟨dx, e⟩ := h
  exact ⟨p, _, dx, _, _, rfl, e, T.own.cl, T.nB, ratF_bot q, k⟩
theorem keep_tyX {K : PySem.W.Frag} {H H' : Hp} {f : Addr} {x : V} {t : Value} (s : Keep f H H') (n : x ≠ .ref f) (h : TyX K H x t) : TyX K H' x t := by
  have nn : ∀ {a : Addr}, V.ref a ≠ .ref f → a ≠ f := fun h e => h (by rw [e])
  cases h with
  | base h =>
    refine .base ?_
    cases h with
    | non => exact .non
    | bl x => exact .bl x
    | int i => exact .int i
    | str x => exact .str x
    | flt x => exact .flt x
    | lst e => exact .lst (s _ _ e (nn n))
    | frz e => exact .frz (s _ _ e (nn n))
    | tup e => exact .tup (s _ _ e (nn n))
    | dK e => exact .dK (s _ _ e (nn n))
    | dT e => exact .dT (s _ _ e (nn n))
    | ins e cl ha hn htk hm => exact .ins (s _ _ e (nn n)) cl ha hn htk hm
  | byt b => exact .byt b
  | set e => exact .set (s _ _ e (nn n))
  | kList e c => exact .kList e c
  | kTuple e c => exact .kTuple e c
  | kDict e c => exact .kDict e c
  | fTuple e => exact .fTuple (s _ _ e (nn n))
  | fDict e => exact .fDict (s _ _ e (nn n))
theorem IntQ.keep {K : PySem.W.Frag} {H H' : Hp} {f : Addr} {x : V} {b : Bool} (h : IntQ K H x b) (s : Keep f H H') (n : x ≠ .ref f) : IntQ K H' x b := let ⟨t, b1, h1, h2⟩ := h; ⟨t, b1, keep_tyX s n h1, h2⟩
theorem not_ite {A B : Prop} (h : B) : if (!true) = true then A else B := iteF h
def t__law_is_integer (K : PySem.W.Frag) : TS := t_is_integer K
theorem pure__law_is_integer {K : PySem.W.Frag} (vs : List V) (H : Hp) (Q : VK) (E : XK) (h : spIsInt K vs H Q E) : t__law_is_integer K { nx := fun _ H' => Q .non H', rt := Q } (start ["_law_value"] vs) H := pure_is_integer vs H Q E h
end MR

set_option Elab.async false
set_option linter.all false
set_option maxRecDepth 100000
set_option maxHeartbeats 4000000
/-! MR: the draws that the laws make of their script -/
namespace MR
open PySem PySem.Spec PyProof.Rows L2
/-- the list at f is the law's feed: cells at c, place, rest, left, count, sum -/
structure FeedAt (K : PySem.W.Frag) (H : Hp) (f c : Addr) (ns : List Int) (p b l n s : Int) : Prop where
  ob : H f = some (.lst [.ref c, .int p, .int b, .int l, .int n, .int s])
  cs : SqL K H c (ns.map V.int)
  ne : c ≠ f
  nn : ∀ x ∈ ns, 0 ≤ x
  p0 : 0 ≤ p
  b0 : 0 ≤ b
  l0 : 0 ≤ l
  n0 : 0 ≤ n
  s0 : 0 ≤ s
def Feed (K : PySem.W.Frag) (H : Hp) (f : Addr) : Prop := ∃ c ns p b l n s, FeedAt K H f c ns p b l n s
theorem sq_keep {K : PySem.W.Frag} {H H' : Hp} {f a : Addr} {xs : List V} (k : Keep f H H') (ne : a ≠ f) (h : SqL K H a xs) : SqL K H' a xs := by
  rcases h with (h | ⟨o, h⟩) | h
  · exact .inl (.inl (k _ _ h ne))
  · exact .inl (.inr ⟨o, k _ _ h ne⟩)
  · exact .inr h
theorem FeedAt.upd {K : PySem.W.Frag} {H : Hp} {f c : Addr} {ns : List Int} {p b l n s p' b' l' n' s' : Int} (F : FeedAt K H f c ns p b l n s) (h1 : 0 ≤ p') (h2 : 0 ≤ b') (h3 : 0 ≤ l') (h4 : 0 ≤ n') (h5 : 0 ≤ s') :
    FeedAt K (upd H f (.lst [.ref c, .int p', .int b', .int l', .int n', .int s'])) f c ns p' b' l' n' s' := ⟨upd_same, sq_keep keep_upd F.ne F.cs, F.ne, F.nn, h1, h2, h3, h4, h5⟩
theorem FeedAt.same {K : PySem.W.Frag} {H H' : Hp} {f c : Addr} {ns : List Int} {p b l n s : Int} (F : FeedAt K H f c ns p b l n s) (h : Same H H') : FeedAt K H' f c ns p b l n s := ⟨h _ _ F.ob, h.seq F.cs, F.ne, F.nn, F.p0, F.b0, F.l0, F.n0, F.s0⟩
theorem Feed.same {K : PySem.W.Frag} {H H' : Hp} {f : Addr} (F : Feed K H f) (h : Same H H') : Feed K H' f := let ⟨c, ns, p, b, l, n, s, G⟩ := F; ⟨c, ns, p, b, l, n, s, G.same h⟩
/-- _law_take(feed, size) -/
def spTake (K : PySem.W.Frag) : Sp := fun vs H Q _ => ∃ (f : Addr) (z : Int), vs = [.ref f, .int z] ∧ Feed K H f ∧ 0 < z ∧ z.natAbs < 2 ^ 9000 ∧ ∀ (d : Int) (H' : Hp), 0 ≤ d → d < z → Feed K H' f → Keep f H H' → Q (.int d) H'
def t_take2 (K : PySem.W.Frag) : TS :=
  (tSeq (tIfS (tTest (tOp rGt0 (tOp (rIxL K) (tVar 0) (tC (.int 2))) (tC (.int 0)))) (tSeq (tAsg (tOp rModN (tCB rInt0 (tCons (tOp (rIxL K) (tVar 0) (tC (.int 2))) tNil)) (tVar 1)) (gName 4))
  (tSeq (tAsg (tOp rDivZ (tOp (rIxL K) (tVar 0) (tC (.int 2))) (tVar 1)) (gSub (tVar 0) (tC (.int 2)) rSetL))
  (tRet (tVar 4)))) tNext)
  (tSeq (tAsg (tCB rMax0 (tCons (tC (.int 0)) (tCons (tOp rSub0 (tOp (rIxL K) (tVar 0) (tC (.int 3))) (tC (.int 1))) tNil))) (gSub (tVar 0) (tC (.int 3)) rSetL))
  (tSeq (tAsg (tOp rModN (tCB rInt0 (tCons (tOp rMulI (tOp rAdd0 (tOp rAdd0 (tOp (rIxL K) (tVar 0) (tC (.int 5))) (tOp rMulI (tC (.int 7919)) (tOp (rIxL K) (tVar 0) (tC (.int 4))))) (tC (.int 1))) (tC (.int 48271))) tNil)) (tC (.int 2147483647))) (gName 2))
  (tSeq (tAsg (tOp rModN (tCB rInt0 (tCons (tOp rMulI (tVar 2) (tOp rAdd0 (tOp rDivZ (tVar 2) (tC (.int 1009))) (tC (.int 69621)))) tNil)) (tC (.int 2147483647))) (gName 2))
  (tSeq (tAsg (tOp rModN (tCB rInt0 (tCons (tOp rMulI (tVar 2) (tOp rAdd0 (tOp rDivZ (tVar 2) (tC (.int 2003))) (tC (.int 40692)))) tNil)) (tC (.int 2147483399))) (gName 2))
  (tRet (tOp rModN (tVar 2) (tVar 1))))))))
def t__law_take (K : PySem.W.Frag) : TS :=
  (tSeq (tAugS (tVar 0) (tC (.int 4)) (tC (.int 1)) (rGetL K) (ipI fun i j => i + j) rSetL)
  (tSeq (tIfS (tAnd (tTest (tOp rEq (tOp (rIxL K) (tVar 0) (tC (.int 2))) (tC (.int 0)))) (tAnd (tTest (tOp rEq (tOp (rIxL K) (tVar 0) (tC (.int 3))) (tC (.int 0)))) (tTest (tOp rLt0 (tOp (rIxL K) (tVar 0) (tC (.int 1))) (tCB (rLenA K) (tCons (tOp (rIxL K) (tVar 0) (tC (.int 0))) tNil)))))) (tSeq (tAsg (tOp (rIxL K) (tOp (rIxL K) (tVar 0) (tC (.int 0))) (tOp (rIxL K) (tVar 0) (tC (.int 1)))) (gName 3))
  (tSeq (tAugS (tVar 0) (tC (.int 1)) (tC (.int 1)) (rGetL K) (ipI fun i j => i + j) rSetL)
  (tIfS (tTest (tOp rGe0 (tVar 3) (tOp rPow0 (tC (.int 10)) (tC (.int 18))))) (tAsg (tVar 3) (gSub (tVar 0) (tC (.int 2)) rSetL)) (tSeq (tAsg (tC (.int 7)) (gSub (tVar 0) (tC (.int 3)) rSetL))
  (tAsg (tOp rAdd0 (tOp (rIxL K) (tVar 0) (tC (.int 5))) (tVar 3)) (gSub (tVar 0) (tC (.int 5)) rSetL)))))) tNext)
  (t_take2 K)))
theorem fmod_lt {a z : Int} (h : 0 < z) : 0 ≤ a.fmod z ∧ a.fmod z < z := by
  rw [Int.fmod_eq_emod_of_nonneg _ (by omega)]
  exact ⟨Int.emod_nonneg _ (by omega), Int.emod_lt_of_pos _ h⟩
theorem take2_ok {K : PySem.W.Frag} {H H0 : Hp} {f c : Addr} {ns : List Int} {p b l n s z : Int} {v2 v3 v4 : Option V} {D : L2.Ends} (F : FeedAt K H f c ns p b l n s) (hz : 0 < z) (hz9 : z.natAbs < 2 ^ 9000) (kp : Keep f H0 H)
    (k : ∀ (d : Int) (H' : Hp), 0 ≤ d → d < z → Feed K H' f → Keep f H0 H' → D.rt (.int d) H') : t_take2 K D [some (.ref f), some (.int z), v2, v3, v4] H := by
  have ob := F.ob
  refine ⟨_, rfl, f, _, _, _, rfl, rfl, SqL.of ob, rfl, _, _, rfl, rfl, _, rfl, ?_⟩
  refine ite2 (fun c1 => ?_) (fun c1 => ?_)
  · refine ⟨_, rfl, f, _, _, _, rfl, rfl, SqL.of ob, rfl, .inl ⟨_, rfl, _, rfl, _, _, rfl, rfl, (by omega), ?_⟩⟩
    refine ⟨_, rfl, f, _, _, _, rfl, rfl, SqL.of ob, rfl, _, rfl, _, _, rfl, rfl, div_ok (by omega) hz9 (by decide) (by decide), _, rfl, f, _, _, 2, rfl, rfl, ob, rfl, ?_⟩
    refine ⟨_, rfl, ?_⟩
    have hq : 0 ≤ b.fdiv z := Int.fdiv_nonneg F.b0 (by omega)
    exact k _ _ (fmod_lt hz).1 (fmod_lt hz).2 ⟨c, ns, p, b.fdiv z, l, n, s, F.upd F.p0 hq F.l0 F.n0 F.s0⟩ (kp.trans keep_upd)
  · refine ⟨_, rfl, f, _, _, _, rfl, rfl, SqL.of ob, rfl, _, _, rfl, rfl, _, _, rfl, _, rfl, f, _, _, 3, rfl, rfl, ob, rfl, ?_⟩
    have hl : 0 ≤ (if l - 1 > 0 then l - 1 else 0) := by omega
    have F1 := F.upd F.p0 F.b0 hl F.n0 F.s0
    have k1 : Keep f H0 _ := kp.trans (keep_upd (f := f) (H := H) (o := .lst [.ref c, .int p, .int b, .int (if l - 1 > 0 then l - 1 else 0), .int n, .int s]))
    have ob1 := F1.ob
    have m7 : ∀ x : Int, IntMulOk 7919 x := fun x => mul_okL (by decide)
    have m4 : ∀ x : Int, IntMulOk x 48271 := fun x => mul_okR (by decide)
    refine ⟨_, rfl, f, _, _, _, rfl, rfl, SqL.of ob1, rfl, _, rfl, f, _, _, _, rfl, rfl, SqL.of ob1, rfl, _, _, rfl, rfl, m7 _, _, _, rfl, rfl, _, _, rfl, rfl, _, _, rfl, rfl, m4 _, .inl ⟨_, rfl, _, _, rfl, rfl, (by decide : (2147483647 : Int) ≠ 0), ?_⟩⟩
    have step : ∀ (y m1 m2 m3 : Int), 0 ≤ y → y < 2147483647 → 0 < m1 → 0 < m2 → 0 ≤ y.fdiv m1 + m2 ∧ IntMulOk y (y.fdiv m1 + m2) := fun y m1 m2 m3 h0 h1 h2 h3 => by
      have hq : 0 ≤ y.fdiv m1 := Int.fdiv_nonneg h0 (by omega)
      exact ⟨by omega, mul_okL (by omega)⟩
    have hy2 := fmod_lt (a := (s + 7919 * n + 1) * 48271) (z := 2147483647) (by decide)
    refine ⟨_, rfl, _, rfl, _, _, rfl, rfl, div_ok (b := 30) (by decide) (by decide) (by decide) (by decide), _, _, rfl, rfl, _, _, rfl, rfl, (step _ 1009 69621 0 hy2.1 hy2.2 (by decide) (by decide)).2, .inl ⟨_, rfl, _, _, rfl, rfl, (by decide : (2147483647 : Int) ≠ 0), ?_⟩⟩
    have hu2 := fmod_lt (a := ((s + 7919 * n + 1) * 48271).fmod 2147483647 * ((((s + 7919 * n + 1) * 48271).fmod 2147483647).fdiv 1009 + 69621)) (z := 2147483647) (by decide)
    refine ⟨_, rfl, _, rfl, _, _, rfl, rfl, div_ok (b := 30) (by decide) (by decide) (by decide) (by decide), _, _, rfl, rfl, _, _, rfl, rfl, (step _ 2003 40692 0 hu2.1 hu2.2 (by decide) (by decide)).2, .inl ⟨_, rfl, _, _, rfl, rfl, (by decide : (2147483399 : Int) ≠ 0), ?_⟩⟩
    refine ⟨_, rfl, _, rfl, _, _, rfl, rfl, (by omega), ?_⟩
    exact k _ _ (fmod_lt hz).1 (fmod_lt hz).2 ⟨c, ns, _, _, _, _, _, F1⟩ k1
theorem pure__law_take {K : PySem.W.Frag} (vs : List V) (H : Hp) (Q : VK) (E : XK) (h : spTake K vs H Q E) : t__law_take K { nx := fun _ H' => Q .non H', rt := Q } (start ["_law_feed_here", "_law_size_here", "_law_number_here", "_law_cell", "_law_digit"] vs) H := by
  obtain ⟨f, z, rfl, ⟨c, ns, p, b, l, n, s, F⟩, hz, hz9, k⟩ := h
  refine ⟨_, rfl, f, _, _, _, rfl, rfl, (by decide), SqL.of F.ob, rfl, _, _, rfl, rfl, f, _, _, 4, rfl, rfl, F.ob, rfl, ?_⟩
  have F1 := F.upd F.p0 F.b0 F.l0 (n' := n + 1) (by have := F.n0; omega) F.s0
  have k1 : Keep f H _ := keep_upd (f := f) (H := H) (o := .lst [.ref c, .int p, .int b, .int l, .int (n + 1), .int s])
  have ob := F1.ob
  refine ⟨_, rfl, f, _, _, _, rfl, rfl, SqL.of ob, rfl, rfl, _, rfl, ?_⟩
  refine ite2 (fun _ => ?_) (fun _ => iteF (take2_ok F1 hz hz9 k1 k))
  refine ⟨_, rfl, f, _, _, _, rfl, rfl, SqL.of ob, rfl, rfl, _, rfl, ?_⟩
  refine ite2 (fun _ => ?_) (fun _ => iteF (take2_ok F1 hz hz9 k1 k))
  refine ⟨_, rfl, f, _, _, _, rfl, rfl, SqL.of ob, rfl, _, rfl, f, _, _, _, rfl, rfl, SqL.of ob, rfl, .ref c, (ns.map V.int).length, rfl, .inl ⟨_, F1.cs, rfl⟩, _, _, rfl, rfl, _, rfl, ?_⟩
  refine ite2 (fun c3 => ?_) (fun _ => take2_ok F1 hz hz9 k1 k)
  have hlt : p < ns.length := by
    have e := of_decide_eq_true c3
    rw [List.length_map] at e
    exact e
  have p0 := F.p0
  obtain ⟨x, hx⟩ : ∃ x, ns[p.toNat]? = some x := ⟨_, List.getElem?_eq_getElem (by omega)⟩
  have hx0 : 0 ≤ x := F.nn x (List.mem_of_getElem? hx)
  have hat : atI (ns.map V.int) p = some (.int x) := by
    have e : p = ((p.toNat : Nat) : Int) := by omega
    rw [e]
    exact atI_nat (by rw [List.getElem?_map, hx]; rfl)
  refine ⟨_, rfl, f, _, _, _, rfl, rfl, SqL.of ob, rfl, _, rfl, f, _, _, _, rfl, rfl, SqL.of ob, rfl, c, _, p, _, rfl, rfl, F1.cs, hat, ?_⟩
  refine ⟨_, rfl, f, _, _, _, rfl, rfl, (by decide), SqL.of ob, rfl, _, _, rfl, rfl, f, _, _, 1, rfl, rfl, ob, rfl, ?_⟩
  have F2 := F1.upd (p' := p + 1) (by omega) F.b0 F.l0 F1.n0 F.s0
  have k2 := k1.trans (keep_upd (f := f) (H := _) (o := .lst [.ref c, .int (p + 1), .int b, .int l, .int (n + 1), .int s]))
  have ob2 := F2.ob
  refine ⟨_, rfl, _, _, rfl, rfl, ⟨by decide, by decide, by decide⟩, _, _, rfl, rfl, _, rfl, ?_⟩
  refine ite2 (fun _ => ?_) (fun _ => ?_)
  · refine ⟨_, rfl, _, rfl, f, _, _, 2, rfl, rfl, ob2, rfl, ?_⟩
    exact take2_ok (F2.upd F2.p0 hx0 F.l0 F1.n0 F.s0) hz hz9 (k2.trans keep_upd) k
  · refine ⟨_, rfl, f, _, _, 3, rfl, rfl, ob2, rfl, ?_⟩
    have F3 := F2.upd F2.p0 F.b0 (l' := 7) (by decide) F1.n0 F.s0
    refine ⟨_, rfl, f, _, _, _, rfl, rfl, SqL.of F3.ob, rfl, _, rfl, _, _, rfl, rfl, _, rfl, f, _, _, 5, rfl, rfl, F3.ob, rfl, ?_⟩
    exact take2_ok (F3.upd F2.p0 F.b0 F3.l0 F1.n0 (s' := s + x) (by have := F.s0; omega)) hz hz9 ((k2.trans keep_upd).trans keep_upd) k
/-- _law_number(feed, size) -/
def spNumber (K : PySem.W.Frag) : Sp := fun vs H Q _ => ∃ (f : Addr) (z : Int), vs = [.ref f, .int z] ∧ Feed K H f ∧ 0 < z ∧ z.natAbs < 2 ^ 9000 ∧ ∀ (d : Int) (H' : Hp), -z < d → d < z → Feed K H' f → Keep f H H' → Q (.int d) H'
def t__law_number (K : PySem.W.Frag) : TS :=
  (tSeq (tAsg (tOp rSub0 (tC (.int 1)) (tOp rMulI (tC (.int 2)) (tCall (spTake K) [] E0 (tCons (tVar 0) (tCons (tC (.int 2)) tNil))))) (gName 2))
  (tRet (tOp rMulI (tVar 2) (tCall (spTake K) [] E0 (tCons (tVar 0) (tCons (tVar 1) tNil))))))
theorem pure__law_number {K : PySem.W.Frag} (vs : List V) (H : Hp) (Q : VK) (E : XK) (h : spNumber K vs H Q E) : t__law_number K { nx := fun _ H' => Q .non H', rt := Q } (start ["_law_feed_here", "_law_size_here", "_law_sign"] vs) H := by
  obtain ⟨f, z, rfl, F, hz, hz9, k⟩ := h
  refine ⟨_, rfl, f, 2, rfl, F, by decide, by decide, fun d H1 d0 d1 F1 k1 => ?_⟩
  refine ⟨_, _, rfl, rfl, mul_okL (by decide), _, _, rfl, rfl, ?_⟩
  refine ⟨_, rfl, _, rfl, _, rfl, f, z, rfl, F1, hz, hz9, fun u H2 u0 u1 F2 k2 => ?_⟩
  refine ⟨_, _, rfl, rfl, mul_okL (by omega), ?_⟩
  have e : d = 0 ∨ d = 1 := by omega
  rcases e with rfl | rfl
  · exact k _ H2 (by omega) (by omega) F2 (k1.trans k2)
  · exact k _ H2 (by omega) (by omega) F2 (k1.trans k2)
/-! ### _law_feed(script) -/
def spFeed (K : PySem.W.Frag) : Sp := fun vs H Q _ => ∃ (a : Addr) (ns : List Int), vs = [.ref a] ∧ SqL K H a (ns.map V.int) ∧ ns.length ≤ 63 ∧ ∀ (f : Addr) (H' : Hp), H f = none → Same H H' → Feed K H' f → Q (.ref f) H'
def t__law_feed (K : PySem.W.Frag) : TS :=
  (tRet (tLst (tCons (tLc (iList K (tSl (rSlL K) (tVar 0) tNoPart (tPart (tC (.int 63))))) (gName 1) tYes (tCB rAbs0 (tCons (tCB rInt0 (tCons (tVar 1) tNil)) tNil)) [1]) (tCons (tC (.int 0)) (tCons (tC (.int 0)) (tCons (tC (.int 0)) (tCons (tC (.int 0)) (tCons (tC (.int 0)) tNil))))))))
theorem cut_ints (ns : List Int) (lo hi : Option Int) : ∃ ms : List Int, cutV (ns.map V.int) lo hi = ms.map V.int ∧ ms.length ≤ ns.length := by
  unfold cutV
  refine ⟨(ns.drop (HT.sIx (ns.map V.int).length 0 lo)).take (HT.sIx (ns.map V.int).length (ns.map V.int).length hi - HT.sIx (ns.map V.int).length 0 lo), ?_, ?_⟩
  · rw [List.map_take, List.map_drop]
  · rw [List.length_take, List.length_drop]
    omega
theorem map_get {ms : List Int} {i : Nat} {x : V} (h : (ms.map V.int)[i]? = some x) : ∃ z, ms[i]? = some z ∧ x = .int z := by
  rw [List.getElem?_map] at h
  cases e : ms[i]? with
  | none =>
    rw [e] at h
    cases h
  | some z =>
    rw [e] at h
    exact ⟨z, rfl, (Option.some.inj h).symm⟩
theorem take_succ_get {α : Type} {l : List α} {i : Nat} {x : α} (h : l[i]? = some x) : l.take (i + 1) = l.take i ++ [x] := by
  rw [List.take_add_one, h]
  rfl
theorem pure__law_feed {K : PySem.W.Frag} (vs : List V) (H : Hp) (Q : VK) (E : XK) (h : spFeed K vs H Q E) : t__law_feed K { nx := fun _ H' => Q .non H', rt := Q } (start ["_law_script", "_law_cell"] vs) H := by
  obtain ⟨a, ns, rfl, hS, hl, k⟩ := h
  refine ⟨_, rfl, _, rfl, a, _, rfl, hS, fun p0 np => ?_⟩
  obtain ⟨ms, em, hm⟩ := cut_ints ns none (some 63)
  rw [em]
  have s0 : Same H (upd H p0 (.lst (ms.map V.int))) := same_new np
  refine ⟨p0, rfl, ⟨_, SqL.of upd_same⟩, fun D hD => ?_⟩
  have nD : H D = none := s0.free hD
  have ne : D ≠ p0 := fun e => by rw [e, upd_same] at hD; cases hD
  refine lc_list (K := K) (a := p0) (xs := ms.map V.int) (fun i H' => Same H H' ∧ H' p0 = some (.lst (ms.map V.int)) ∧ H' D = some (.lst ((ms.take i).map fun z => V.int (z.natAbs : Nat))))
    ⟨fun b o e => ?_, ?_, upd_same⟩ (fun i H' _ q => SqL.of q.2.1) ?_ ?_
  · rw [upd_ne (ne_of_none e nD)]
    exact s0 b o e
  · rw [upd_ne (Ne.symm ne), upd_same]
  · rintro i x H' hx ⟨s1, q1, q2⟩
    obtain ⟨z, hz, rfl⟩ := map_get hx
    have hi : i < ms.length := (List.getElem?_eq_some_iff.mp hz).1
    refine ⟨rfl, _, rfl, .inl ⟨_, rfl, _, rfl, _, q2, ?_, ?_, ?_, ?_⟩⟩
    · rw [List.length_map, List.length_take]
      exact small1000 (by omega)
    · intro b o e
      rw [upd_ne (ne_of_none e nD)]
      exact s1 b o e
    · rw [upd_ne (Ne.symm ne)]
      exact q1
    · rw [upd_same, take_succ_get hz, List.map_append, abs_if]
      rfl
  · rintro H' ⟨s1, q1, q2⟩
    rw [List.length_map, List.take_length] at q2
    refine ⟨(by show 6 ≤ sizeLine; decide), fun f nf => ?_⟩
    have s2 : Same H' _ := same_new (o := .lst [.ref D, .int 0, .int 0, .int 0, .int 0, .int 0]) nf
    refine k f _ (s1.free nf) (s1.trans s2) ⟨D, ms.map fun z => ((z.natAbs : Nat) : Int), 0, 0, 0, 0, 0, upd_same, ?_, ne_of_none q2 nf, ?_, by decide, by decide, by decide, by decide, by decide⟩
    · rw [List.map_map]
      exact SqL.of (s2 _ _ q2)
    · intro x hx
      obtain ⟨z, _, rfl⟩ := List.mem_map.mp hx
      omega
/-! ### _law_divisor(a, b): four hundred turns are enough -/
def spLDiv : Sp := fun vs H Q _ => ∃ a b : Int, vs = [.int a, .int b] ∧ a.natAbs * b.natAbs < 2 ^ 399 ∧ Q (.int (a.gcd b : Nat)) H
def t__law_divisor (K : PySem.W.Frag) : TS :=
  (tSeq (tAsg (tCB rAbs0 (tCons (tVar 0) tNil)) (gName 0))
  (tSeq (tAsg (tCB rAbs0 (tCons (tVar 1) tNil)) (gName 1))
  (tSeq (tFor (iRng1 (tCons (tC (.int 400)) tNil)) (gName 2) (tSeq (tIfS (tTest (tOp rEq (tVar 1) (tC (.int 0)))) tBreak tNext)
  (tSeq (tAsg (tOp rModN (tCB rInt0 (tCons (tVar 0) tNil)) (tVar 1)) (gName 3))
  (tSeq (tAsg (tVar 1) (gName 0))
  (tAsg (tVar 3) (gName 1))))))
  (tRet (tVar 0)))))
theorem euclid_half {x y : Nat} (hy : 0 < y) (h : y ≤ x) : y * (x % y) * 2 ≤ x * y := by
  have h1 := Nat.mod_add_div x y
  have h2 := Nat.mod_lt x hy
  have h3 : 0 < x / y := Nat.div_pos h hy
  have h4 : y * 1 ≤ y * (x / y) := Nat.mul_le_mul_left y h3
  have h5 : (x % y) * 2 ≤ x := by omega
  calc y * (x % y) * 2 = y * (x % y * 2) := Nat.mul_assoc ..
    _ ≤ y * x := Nat.mul_le_mul_left y h5
    _ = x * y := Nat.mul_comm ..
/-- behind i turns -/
structure Eu (g P i x y : Nat) : Prop where
  gc : x.gcd y = g
  lt : 1 ≤ i → y < x ∨ y = 0
  pr : x * y * 2 ^ (i - 1) ≤ P
theorem Eu.turn {g P i x y : Nat} (h : Eu g P i x y) (hy : 0 < y) : Eu g P (i + 1) y (x % y) := by
  refine ⟨by rw [← h.gc, Nat.gcd_comm x y, Nat.gcd_rec y x, Nat.gcd_comm], fun _ => .inl (Nat.mod_lt x hy), ?_⟩
  by_cases hi : 1 ≤ i
  · have hlt : y ≤ x := by
      rcases h.lt hi with z | z <;> omega
    have e : 2 ^ (i + 1 - 1) = 2 * 2 ^ (i - 1) := by
      rw [show i + 1 - 1 = (i - 1) + 1 by omega, Nat.pow_succ, Nat.mul_comm]
    rw [e, ← Nat.mul_assoc]
    exact Nat.le_trans (Nat.mul_le_mul_right _ (euclid_half hy hlt)) h.pr
  · have e : i = 0 := by omega
    subst e
    have h3 := h.pr
    simp only [Nat.zero_sub, Nat.pow_zero, Nat.mul_one, Nat.zero_add, Nat.sub_self] at h3 ⊢
    have h5 : y * (x % y) ≤ y * x := Nat.mul_le_mul_left y (Nat.mod_le x y)
    rw [Nat.mul_comm y x] at h5
    omega
theorem Eu.fin {g P x y : Nat} (h : Eu g P 400 x y) (hP : P < 2 ^ 399) : y = 0 := by
  rcases Nat.eq_zero_or_pos y with e | hy
  · exact e
  · exfalso
    have hx : 0 < x := by
      rcases h.lt (by decide) with z | z <;> omega
    have h1 : 1 ≤ x * y := Nat.mul_pos hx hy
    have h2 := h.pr
    have h3 : 1 * 2 ^ (400 - 1) ≤ x * y * 2 ^ (400 - 1) := Nat.mul_le_mul_right _ h1
    rw [Nat.one_mul, show 400 - 1 = 399 by decide] at h3
    rw [show 400 - 1 = 399 by decide] at h2
    exact absurd (Nat.lt_of_le_of_lt (Nat.le_trans h3 h2) hP) (Nat.lt_irrefl _)
theorem pure__law_divisor {K : PySem.W.Frag} (vs : List V) (H : Hp) (Q : VK) (E : XK) (h : spLDiv vs H Q E) : t__law_divisor K { nx := fun _ H' => Q .non H', rt := Q } (start ["_law_a", "_law_b", "_law_k", "_law_rest"] vs) H := by
  obtain ⟨a, b, rfl, hP, q⟩ := h
  refine ⟨_, rfl, _, rfl, _, rfl, _, rfl, 400, rfl, by decide, by decide, ?_⟩
  refine for_range (lo := 0) (n := 400) (fun i σ H' => H' = H ∧ ∃ (x y : Nat) (v w : Option V), σ = [some (.int x), some (.int y), v, w] ∧ Eu (a.gcd b) (a.natAbs * b.natAbs) i x y) ⟨rfl, a.natAbs, b.natAbs, none, none, ?_, rfl, fun z => absurd z (by decide), by simp⟩ ?_ ?_
  · rw [abs_if, abs_if]
    rfl
  · rintro i σ H' hi ⟨rfl, x, y, v, w, rfl, I⟩
    refine ⟨_, rfl, rfl, _, rfl, ?_⟩
    refine ite2 (fun c => ?_) (fun c => ?_)
    · have hy : y = 0 := by
        have e := of_decide_eq_true c
        injection e with e
        omega
      subst hy
      have e := I.gc
      rw [Nat.gcd_zero_right] at e
      refine ⟨_, rfl, ?_⟩
      rw [e]
      exact q
    · have hy : 0 < y := by
        rcases Nat.eq_zero_or_pos y with e | e
        · exact absurd (by rw [e]; exact decide_eq_true rfl) c
        · exact e
      refine ⟨_, rfl, .inl ⟨_, rfl, _, rfl, _, _, rfl, rfl, (by omega), _, rfl, _, rfl, rfl, y, x % y, some (.int (0 + (i : Nat))), some (.int ((x % y : Nat) : Int)), ?_, I.turn hy⟩⟩
      show [some (V.int y), some (V.int ((x : Int).fmod y)), some (V.int (0 + (i : Nat))), some (V.int ((x : Int).fmod y))] = _
      rw [Int.fmod_eq_emod_of_nonneg _ (by omega)]
      rfl
  · rintro σ H' ⟨rfl, x, y, v, w, rfl, I⟩
    have hy := I.fin hP
    subst hy
    have e := I.gc
    rw [Nat.gcd_zero_right] at e
    refine ⟨_, rfl, ?_⟩
    rw [e]
    exact q
end MR

set_option Elab.async false
set_option linter.all false
set_option maxRecDepth 100000
set_option maxHeartbeats 4000000
/-! MR: operators that an own class defines -/
namespace MR
open PySem PySem.Spec PyProof.Rows PySem.W
/-- the int's own operator hands back NotImplemented for an instance -/
structure IntDecl (name : Str) (id : String) (B : Builtin) : Prop where
  slot : Slot "int" name id
  entry : entryFor table id = some B
  args : ∀ a b, argsOk id ⟨[a, b], []⟩
  dec : ∀ (prog : Program) (w : World) (A : Around) (E : Value → Shared → Prop) (s : Shared) (a : Int) (t : Tok) (x C dx : Addr) (P : Fin → Shared → Prop), s.heap.get? x = some (instObj C dx) → P (.done (.ret .notImplemented)) s → wpAny (model prog w) A (B ⟨[.int a t, .ref x], []⟩) P E s
theorem decl_add : IntDecl (PySem.dunder "add") "int.__add__" Builtin.«int.__add__» := ⟨F.slot_int_add, F.entry_int_add, F.args_int_add_2, fun prog w A E s a t x C dx P hx h => by
  obtain ⟨hp, g, d, tk, os⟩ := s
  wp_walk
  exact h⟩
theorem decl_sub : IntDecl (PySem.dunder "sub") "int.__sub__" Builtin.«int.__sub__» := ⟨F.slot_int_sub, F.entry_int_sub, F.args_int_sub_2, fun prog w A E s a t x C dx P hx h => by
  obtain ⟨hp, g, d, tk, os⟩ := s
  wp_walk
  exact h⟩
theorem decl_mul : IntDecl (PySem.dunder "mul") "int.__mul__" Builtin.«int.__mul__» := ⟨F.slot_int_mul, F.entry_int_mul, F.args_int_mul_2, fun prog w A E s a t x C dx P hx h => by
  obtain ⟨hp, g, d, tk, os⟩ := s
  wp_walk
  exact h⟩
theorem decl_floordiv : IntDecl (PySem.dunder "floordiv") "int.__floordiv__" Builtin.«int.__floordiv__» := ⟨F.slot_int_floordiv, F.entry_int_floordiv, F.args_int_floordiv_2, fun prog w A E s a t x C dx P hx h => by
  obtain ⟨hp, g, d, tk, os⟩ := s
  wp_walk
  exact h⟩
theorem decl_mod : IntDecl (PySem.dunder "mod") "int.__mod__" Builtin.«int.__mod__» := ⟨F.slot_int_mod, F.entry_int_mod, F.args_int_mod_2, fun prog w A E s a t x C dx P hx h => by
  obtain ⟨hp, g, d, tk, os⟩ := s
  wp_walk
  exact h⟩
theorem decl_eq : IntDecl "__eq__" "int.__eq__" Builtin.«int.__eq__» := ⟨F.slot_int_eq, F.entry_int_eq, F.args_int_eq_2, fun prog w A E s a t x C dx P hx h => by
  obtain ⟨hp, g, d, tk, os⟩ := s
  wp_walk
  exact h⟩
theorem decl_ne : IntDecl "__ne__" "int.__ne__" Builtin.«int.__ne__» := ⟨F.slot_int_ne, F.entry_int_ne, F.args_int_ne_2, fun prog w A E s a t x C dx P hx h => by
  obtain ⟨hp, g, d, tk, os⟩ := s
  wp_walk
  exact h⟩
theorem decl_lt : IntDecl "__lt__" "int.__lt__" Builtin.«int.__lt__» := ⟨F.slot_int_lt, F.entry_int_lt, F.args_int_lt_2, fun prog w A E s a t x C dx P hx h => by
  obtain ⟨hp, g, d, tk, os⟩ := s
  wp_walk
  exact h⟩
theorem decl_le : IntDecl "__le__" "int.__le__" Builtin.«int.__le__» := ⟨F.slot_int_le, F.entry_int_le, F.args_int_le_2, fun prog w A E s a t x C dx P hx h => by
  obtain ⟨hp, g, d, tk, os⟩ := s
  wp_walk
  exact h⟩
theorem decl_gt : IntDecl "__gt__" "int.__gt__" Builtin.«int.__gt__» := ⟨F.slot_int_gt, F.entry_int_gt, F.args_int_gt_2, fun prog w A E s a t x C dx P hx h => by
  obtain ⟨hp, g, d, tk, os⟩ := s
  wp_walk
  exact h⟩
theorem decl_ge : IntDecl "__ge__" "int.__ge__" Builtin.«int.__ge__» := ⟨F.slot_int_ge, F.entry_int_ge, F.args_int_ge_2, fun prog w A E s a t x C dx P hx h => by
  obtain ⟨hp, g, d, tk, os⟩ := s
  wp_walk
  exact h⟩
/-- a call of it -/
theorem IntDecl.call {name : Str} {id : String} {B : Builtin} (D : IntDecl name id B) {prog : Program} {w : World} {A : Around} {E : Value → Shared → Prop} {s : Shared} {a : Int} {t : Tok} {x C dx : Addr} {Q : Value → Shared → Prop} (hx : s.heap.get? x = some (instObj C dx)) (h : Q .notImplemented s) :
    wpAny (model prog w) A (PySem.call (.builtin id) [.int a t, .ref x]) Q E s :=
  wpAny_call_entry D.slot (typeIs_int s a t) D.entry (D.dec prog w _ _ s a t x C dx _ hx ⟨_, rfl, h⟩) (D.args _ _)
section
variable {prog : Program} {w : World} {A : Around} {E : Value → Shared → Prop} {s : Shared} {K : Frag} {x C dx f : Addr} {od : Option Obj} {n : Int} {t : Tok}
/-- n op x, the class's own reflected operator is asked -/
theorem refl_own {op : Operator} {nm : String} {id : String} {B : Builtin} {g : Addr} {Q : Value → Shared → Prop} (X : K.In s.heap) (I : InstAt s.heap x (instObj C dx) C od) (hi : op.info.2 = nm) (D : IntDecl (PySem.dunder nm) id B) (hF : fillsNumberSlot (.type "int") nm = pure true) (hc : selfFirst K C = true)
    (hs : findIn K (.ref C) (PySem.dunder nm) = some (some (.ref g))) (hr : findIn K (.ref C) (dunderR nm) = some (some (.ref f))) (hf : isFn K (.ref f) = true) (hsub : subIn K (.ref C) (.type "int") = some false)
    (h : wpAny (model prog w) A (call (.ref f) [.ref x, .int n t]) (W.CmpBack Q) E s) : wpAny (model prog w) A (binaryOp op (.int n t) (.ref x)) Q E s := by
  obtain ⟨cd, rest, hcd, hm⟩ := ksp_first hc
  rcases hi' : op.info with ⟨sym, nm'⟩
  rw [hi'] at hi
  dsimp only at hi
  subst hi
  have one := ksp_try X I hr hf h
  have hx : s.heap.get? x = some (instObj C dx) := I.at_
  have L1 : Looks (model prog w) s.heap (typeOf (.ref x)) (.ref C) := I.type
  have L3 : Looks (model prog w) s.heap (fillsNumberSlot (.ref C) nm') true := fills_K X hcd hm hs
  have L5 : Looks (model prog w) s.heap (isSubtype (.ref C) (.type "int")) false := looks_subIn X hsub
  have hne : (Value.type "int" == Value.ref C) = false := Bool.eq_false_iff.mpr fun q => by cases beq_iff_eq.mp q
  simp only [binaryOp, hi']
  refine wpAny_holding (wpAny_bind ?_)
  unfold binaryOp1
  refine wpAny_bind (wpAny_typeOf (typeIs_int s n t) (wpAny_bind (L1.here (wpAny_bind (wpAny_of_eq hF ?_)))))
  simp only [hne, Bool.false_eq_true, if_false]
  refine wpAny_bind (L3.here ?_)
  simp only [Bool.and_self, if_true]
  refine wpAny_bind (L5.here ?_)
  simp only [Bool.false_eq_true, if_false, Bool.not_false, if_true]
  refine wpAny_bind (wpAny_of_eq (show numberSlotInPython (.type "int") nm' = pure false from rfl) ?_)
  simp only [Bool.false_eq_true, if_false]
  refine wpAny_bind (wpAny_tryMethod_declines (typeIs_int s n t) D.slot (D.call hx ⟨rfl, ?_⟩))
  dsimp only
  refine wpAny_bind (wpAny_mono one (fun r s' z => ?_) fun _ _ e => e)
  obtain ⟨v, rfl, q⟩ := z
  exact wpAny_bind (wpAny_rule (wpAny_pure (wpAny_pure q)))
/-- n < x and its like -/
theorem cmp_refl {op : CmpOp} {id : String} {B : Builtin} {Q : Value → Shared → Prop} (hu : A.units < cLine) (X : K.In s.heap) (I : InstAt s.heap x (instObj C dx) C od) (D : IntDecl (cmpInfo op).2.1 id B) (hsub : subIn K (.ref C) (.type "int") = some false)
    (hr : findIn K (.ref C) (cmpInfo op).2.2 = some (some (.ref f))) (hf : isFn K (.ref f) = true)
    (h : wpAny (model prog w) A (call (.ref f) [.ref x, .int n t]) (W.CmpBack Q) E s) : wpAny (model prog w) A (richCompare op (.int n t) (.ref x)) Q E s := by
  have hx : s.heap.get? x = some (instObj C dx) := I.at_
  have one : wpAny (model prog w) A (tryCompare (.ref x) (cmpInfo op).2.2 (.int n t)) (fun r s' => ∃ v, r = some v ∧ Q v s') E s := by
    unfold tryCompare
    refine wpAny_bind (ifBound_K X I hr hf (wpAny_mono h (fun v s' hv => ?_) fun _ _ e => e))
    cases v <;> first | exact False.elim hv | exact wpAny_pure ⟨_, rfl, hv⟩
  have L1 : Looks (model prog w) s.heap (typeOf (.ref x)) (.ref C) := I.type
  have L5 : Looks (model prog w) s.heap (isSubtype (.ref C) (.type "int")) false := looks_subIn X hsub
  have hne : (Value.type "int" != Value.ref C) = true := by simp
  unfold richCompare
  simp only [(typeIs_int s n t).oneThing_none]
  refine wpAny_holding (wpAny_bind (wpAny_cRoomFor hu ?_))
  refine wpAny_bind (wpAny_typeOf (typeIs_int s n t) (wpAny_bind (L1.here ?_)))
  rw [if_pos hne]
  refine wpAny_bind (L5.here ?_)
  simp only [Bool.false_eq_true, if_false]
  refine wpAny_bind (wpAny_tryCompare_declines (typeIs_int s n t) D.slot (D.call hx ⟨rfl, ?_⟩))
  dsimp only
  simp only [Bool.not_false, if_true]
  refine wpAny_bind (wpAny_mono one (fun r s' z => ?_) fun _ _ e => e)
  obtain ⟨v, rfl, q⟩ := z
  exact wpAny_pure q
end
end MR

set_option Elab.async false
set_option linter.all false
set_option maxRecDepth 100000
set_option maxHeartbeats 4000000
/-! MR: .. as rules of the layer -/
namespace MR
open PySem PySem.Spec PyProof.Rows L2
/-- what the written part says of an own class's operator nm -/
structure OpC (K : PySem.W.Frag) (C : Addr) (nm : String) : Prop where
  sf : PySem.W.selfFirst K C = true
  sub : PySem.W.subIn K (.type "int") (.ref C) = some false
  subR : PySem.W.subIn K (.ref C) (.type "int") = some false
  fo : ∃ fo ro rc, PySem.W.findIn K (.type "int") (PySem.dunder nm) = some fo ∧ PySem.W.findIn K (.type "int") (dunderR nm) = some ro ∧ PySem.W.findIn K (.ref C) (dunderR nm) = some rc ∧ (rc = none ∨ ∃ g : Addr, rc = some (.ref g))
theorem inst_at {X : Cx} {pins : List (Addr × Obj)} {σ : L2.St} {H : Hp} {s : Shared} {p C dx : Addr} {fs : List (Str × V)} (I : Inv X pins σ H s) (e : H p = some (.ins C dx fs)) : ∃ od, PySem.W.InstAt s.heap p (PySem.W.instObj C dx) C (some od) := by
  obtain ⟨mA, O, _⟩ := ins_get I.hok e
  obtain ⟨od, h, _⟩ := O.look
  exact ⟨od, h⟩
theorem back_of {X : Cx} {pins : List (Addr × Obj)} {σ : L2.St} {Q : VK} {v : Value} {s : Shared} (h : EP X pins σ Q v s) : PySem.W.CmpBack (EP X pins σ Q) v s := by
  obtain ⟨x, H, I, r, q⟩ := h
  cases v with
  | notImplemented =>
    cases x <;> first | exact nomatch (show Value.notImplemented = _ from r) | (obtain ⟨_, e⟩ := r; cases e) | cases r
  | _ => exact ⟨x, H, I, r, q⟩
section
variable {X : Cx} {k : Nat} {C : Addr} {sp : Sp} {E : XK}
/-- x op y: x an instance of C, y another or an int -/
def rOwn (C : Addr) (sp : Sp) (E : XK) : R2 := fun x y H Q => ∃ p dx fs, x = .ref p ∧ H p = some (.ins C dx fs) ∧ ((∃ n, y = .int n) ∨ ∃ q dy gs, y = .ref q ∧ H q = some (.ins C dy gs)) ∧ sp [x, y] H Q E
def rRefl (C : Addr) (sp : Sp) (E : XK) : R2 := fun x y H Q => ∃ n p dx fs, x = .int n ∧ y = .ref p ∧ H p = some (.ins C dx fs) ∧ sp [y, x] H Q E
theorem op_own {op : Operator} (nm : String) (D : MethOk X.prog X.w X.K X.mg X.base k C (PySem.dunder nm) [] sp) (O : OpC X.K C nm) (hr : Room k X.A) (hx : Passes (CXX X.prog X.w) X E) (hi : op.info.2 = nm := by rfl) : OpR X (binaryOp op) (rOwn C sp E) := by
  subst hi
  obtain ⟨f, fd, ps, ds, h1, h2, h3, h4, h5⟩ := D
  intro pins s σ H x y v u Q I rx ry h
  obtain ⟨p, dx, fs, rfl, e, hy, q⟩ := h
  cases rx
  cases h5
  obtain ⟨od, J⟩ := inst_at I e
  obtain ⟨m, Fm⟩ := I.fr
  have run : wpAny (model X.prog X.w) X.A (call (.ref f) [.ref p, u]) (PySem.W.CmpBack (EP X pins σ Q)) X.xe s :=
    thn (run_fn (us := [.ref p, u]) (vs := [.ref p, y]) h3 hr h4 .nil hx I (.cons rfl (.cons ry .nil)) q) fun _ _ z => back_of z
  rcases hy with ⟨n, rfl⟩ | ⟨r, dy, gs, rfl, ey⟩
  · obtain ⟨t, rfl⟩ := ry
    obtain ⟨fo, ro, rc, g1, g2, g3, g4⟩ := O.fo
    exact PySem.W.ksp_binT Fm I.mod.kin J (T := "int") rfl O.sf h2.at_ h2.fn g3 g4 g1 g2 O.sub run
  · cases ry
    obtain ⟨od2, J2⟩ := inst_at I ey
    exact PySem.W.binop_K Fm I.mod.kin J J2.type O.sf h2.at_ h2.fn run
theorem op_refl {op : Operator} (nm : String) {id : String} {B : Builtin} {k' : Nat} {sp' : Sp} (D : MethOk X.prog X.w X.K X.mg X.base k C (dunderR nm) [] sp) (D' : MethOk X.prog X.w X.K X.mg X.base k' C (PySem.dunder nm) [] sp') (O : OpC X.K C nm) (N : IntDecl (PySem.dunder nm) id B) (hF : fillsNumberSlot (.type "int") nm = pure true) (hr : Room k X.A) (hx : Passes (CXX X.prog X.w) X E) (hi : op.info.2 = nm := by rfl) : OpR X (binaryOp op) (rRefl C sp E) := by
  obtain ⟨f, fd, ps, ds, h1, h2, h3, h4, h5⟩ := D
  obtain ⟨f', _, _, _, _, h2', _⟩ := D'
  intro pins s σ H x y v u Q I rx ry h
  obtain ⟨n, p, dx, fs, rfl, rfl, e, q⟩ := h
  obtain ⟨t, rfl⟩ := rx
  cases ry
  cases h5
  obtain ⟨od, J⟩ := inst_at I e
  have run : wpAny (model X.prog X.w) X.A (call (.ref f) [.ref p, .int n t]) (PySem.W.CmpBack (EP X pins σ Q)) X.xe s :=
    thn (run_fn (us := [.ref p, .int n t]) (vs := [.ref p, .int n]) h3 hr h4 .nil hx I (.cons rfl (.cons ⟨t, rfl⟩ .nil)) q) fun _ _ z => back_of z
  exact refl_own I.kIn J hi N hF O.sf h2'.at_ h2.at_ h2.fn O.subR run
theorem cmp_own {op : CmpOp} (D : MethOk X.prog X.w X.K X.mg X.base k C (cmpInfo op).2.1 [] sp) (O : OpC X.K C "add") (hr : Room k X.A) (hx : Passes (CXX X.prog X.w) X E) (ho : compareOp op = richCompare op := by rfl) : OpR X (compareOp op) (rOwn C sp E) := by
  rw [ho]
  obtain ⟨f, fd, ps, ds, h1, h2, h3, h4, h5⟩ := D
  intro pins s σ H x y v u Q I rx ry h
  obtain ⟨p, dx, fs, rfl, e, hy, q⟩ := h
  cases rx
  cases h5
  obtain ⟨od, J⟩ := inst_at I e
  obtain ⟨m, Fm⟩ := I.fr
  have run : wpAny (model X.prog X.w) X.A (call (.ref f) [.ref p, u]) (PySem.W.CmpBack (EP X pins σ Q)) X.xe s :=
    thn (run_fn (us := [.ref p, u]) (vs := [.ref p, y]) h3 hr h4 .nil hx I (.cons rfl (.cons ry .nil)) q) fun _ _ z => back_of z
  rcases hy with ⟨n, rfl⟩ | ⟨r, dy, gs, rfl, ey⟩
  · obtain ⟨t, rfl⟩ := ry
    have nf : PySem.W.notFirst X.K C (.type "int") = true := by
      unfold PySem.W.notFirst
      rw [O.sub]
      simp
    exact PySem.W.cmp_K hr.units0 Fm I.mod.kin J (PySem.W.Looks.of_pure (show typeOf (.int n t) = pure (.type "int") from rfl)) nf h2.at_ h2.fn run
  · cases ry
    obtain ⟨od2, J2⟩ := inst_at I ey
    have nf : PySem.W.notFirst X.K C (.ref C) = true := by
      unfold PySem.W.notFirst
      simp
    exact PySem.W.cmp_K hr.units0 Fm I.mod.kin J J2.type nf h2.at_ h2.fn run
theorem cmp_reflR {op : CmpOp} {id : String} {B : Builtin} (D : MethOk X.prog X.w X.K X.mg X.base k C (cmpInfo op).2.2 [] sp) (O : OpC X.K C "add") (N : IntDecl (cmpInfo op).2.1 id B) (hr : Room k X.A) (hx : Passes (CXX X.prog X.w) X E) (ho : compareOp op = richCompare op := by rfl) : OpR X (compareOp op) (rRefl C sp E) := by
  rw [ho]
  obtain ⟨f, fd, ps, ds, h1, h2, h3, h4, h5⟩ := D
  intro pins s σ H x y v u Q I rx ry h
  obtain ⟨n, p, dx, fs, rfl, rfl, e, q⟩ := h
  obtain ⟨t, rfl⟩ := rx
  cases ry
  cases h5
  obtain ⟨od, J⟩ := inst_at I e
  have run : wpAny (model X.prog X.w) X.A (call (.ref f) [.ref p, .int n t]) (PySem.W.CmpBack (EP X pins σ Q)) X.xe s :=
    thn (run_fn (us := [.ref p, .int n t]) (vs := [.ref p, .int n]) h3 hr h4 .nil hx I (.cons rfl (.cons ⟨t, rfl⟩ .nil)) q) fun _ _ z => back_of z
  exact cmp_refl hr.units0 I.kIn J N O.subR h2.at_ h2.fn run
/-- -x -/
def rNegO (C : Addr) (sp : Sp) (E : XK) : V → Hp → VK → Prop := fun x H Q => ∃ p dx fs, x = .ref p ∧ H p = some (.ins C dx fs) ∧ sp [x] H Q E
theorem un_own (D : MethOk X.prog X.w X.K X.mg X.base k C "__neg__" [] sp) (hr : Room k X.A) (hx : Passes (CXX X.prog X.w) X E) : UnR X (unaryOp .USub) (rNegO C sp E) := by
  obtain ⟨f, fd, ps, ds, h1, h2, h3, h4, h5⟩ := D
  intro pins s σ H x v Q I rx h
  obtain ⟨p, dx, fs, rfl, e, q⟩ := h
  cases rx
  cases h5
  obtain ⟨od, J⟩ := inst_at I e
  obtain ⟨m, Fm⟩ := I.fr
  exact PySem.W.ksp_neg Fm I.mod.kin J h2.at_ h2.fn (run_fn (us := [.ref p]) (vs := [.ref p]) h3 hr h4 .nil hx I (.cons rfl .nil) q)
/-- the callee runs below a built-in -/
theorem run_fn1 {f : Addr} {fd : FuncData} {ps : List Str} {pins : List (Addr × Obj)} {σ : L2.St} {H : Hp} {s : Shared} {Q : VK} {us : List Value} {vs : List V} (F : FnOk X.prog X.w X.K X.mg X.base (CXX X.prog X.w) k f fd ps sp) (hr : Room (k + 1) X.A) (hb : Binds X.K fd ps []) (hx : Passes (CXX X.prog X.w) X E)
    (I : Inv X pins σ H s) (r : Vals vs us) (h : sp vs H Q E) : wpAny (model X.prog X.w) X.A.in1 (call (.ref f) us) (EP X pins σ Q) X.xe s := by
  have len : (us ++ []).length = ps.length := by
    rw [List.append_nil, ← r.length]
    exact F.len _ _ _ _ h
  have b := hb s us I.kIn len
  rw [List.append_nil] at b
  refine wpAny_call (codeAny_mono (F.run X.A.in1 X.stack s H ⟨us, []⟩ us vs Q E hr.in1 I.env0.in1 b r h) fun res s' z => ?_)
  match res, z with
  | .error er, z => exact hx pins σ H s er s' I z
  | .ok (.ret u), z => exact I.after z
  | .ok .next, z => exact False.elim z
  | .ok .brk, z => exact False.elim z
  | .ok .cont, z => exact False.elim z
def rAbsO (C : Addr) (sp : Sp) (E : XK) : List V → Hp → VK → Prop := fun xs H Q => ∃ p dx fs, xs = [.ref p] ∧ H p = some (.ins C dx fs) ∧ sp xs H Q E
theorem call_absO (D : MethOk X.prog X.w X.K X.mg X.base k C "__abs__" [] sp) (hr : Room (k + 1) X.A) (hx : Passes (CXX X.prog X.w) X E) : CallR X (.builtin "abs") (rAbsO C sp E) := by
  obtain ⟨f, fd, ps, ds, h1, h2, h3, h4, h5⟩ := D
  intro pins s σ H xs us Q I r h
  obtain ⟨p, dx, fs, rfl, e, q⟩ := h
  obtain ⟨u, rfl, ru⟩ := vals1 r
  cases ru
  cases h5
  obtain ⟨od, J⟩ := inst_at I e
  refine PySem.Calls.call_function_entry kind_abs plain_abs entry_abs (args_abs _) ?_
  unfold Builtin.«abs»
  refine wpAny_bind (m := oneArg "abs" _) (wpAny_pure ?_)
  refine wpAny_bind (PySem.W.special_fn I.kIn J h2.at_ (beq_iff_eq.mp h2.fn) (thn (run_fn1 (us := [.ref p]) (vs := [.ref p]) h3 hr h4 hx I (.cons rfl .nil) q) fun v s' z => ?_))
  exact wpAny_pure ⟨_, rfl, z⟩
end
end MR

set_option Elab.async false
set_option linter.all false
set_option maxRecDepth 100000
set_option maxHeartbeats 4000000
/-! MR: enumerate over a tuple; a walk over a list or a tuple -/
namespace PySem
theorem meets_enumerate_new1 {v : Value} {o : Obj} {H : Heap → Prop} (B : Begins v o H) :
    Meets (Builtin.«enumerate.__new__» ⟨[.type "enumerate", v], []⟩) (fun _ R s => H s.heap ∧
      R (.ok (.ret (.ref (s.heap.push o).objs.size))) { s with heap := (s.heap.push o).push { cls := .type "enumerate", data := .fields #[.none, .bool false, .ref s.heap.objs.size, rawInt 0, .none, .none] } }) :=
  .of_wp fun prog w A R s h => by
    obtain ⟨hp, g, d, tk, os⟩ := s; obtain ⟨h1, h⟩ := h
    have hsub := sub_enumerate
    have q1 : ∀ {A' : Around} {E : Value → Shared → Prop} {Q : Value → Shared → Prop}, Q (.ref hp.objs.size) ⟨hp.push o, g, d, tk, os⟩ → wpAny (model prog w) A' (pyIter v) Q E ⟨hp, g, d, tk, os⟩ :=
      fun q => B.iter prog w _ _ ⟨hp, g, d, tk, os⟩ _ h1 q
    wp_walk using q1
    refine wpAny_stack_any fun st => wpAny_pure ?_
    split
    · rename_i c _ _ _ _ _
      cases (c == Value.type "enumerate")
      · wp_walk using q1
        exact ⟨_, rfl, h⟩
      · wp_walk using q1
        exact ⟨_, rfl, h⟩
    · wp_walk using q1
      exact ⟨_, rfl, h⟩
section
variable {prog : Program} {w : World} {A : Around} {E : Value → Shared → Prop} {s : Shared}
theorem enum_begins1 {v : Value} {o : Obj} {H : Heap → Prop} {Q : Value → Shared → Prop} (B : Begins v o H) (h1 : H s.heap)
    (h : ∀ h', IsEnum h' (s.heap.objs.size + 1) s.heap.objs.size 0 .none → h'.get? s.heap.objs.size = some o → h'.objs.size = s.heap.objs.size + 2 →
      (∀ b o, s.heap.get? b = some o → h'.get? b = some o) → Q (.ref (s.heap.objs.size + 1)) { s with heap := h' }) :
    wpAny (model prog w) A (call (.type "enumerate") [v]) Q E s := by
  refine callType_new F.called_enumerate (by decide) (F.typeCall_enumerate_1 _) (F.newCall_enumerate_1 _) (fun obj => F.args_object_init_2 obj _) F.entry_enumerate_new
    (meets_enumerate_new1 B) ⟨h1, ?_⟩
  have hz : (s.heap.push o).objs.size = s.heap.objs.size + 1 := Heap.size_push ..
  show _ ∧ _
  rw [hz]
  have he : IsEnum ((s.heap.push o).push { cls := .type "enumerate", data := .fields #[.none, .bool false, .ref s.heap.objs.size, rawInt 0, .none, .none] }) (s.heap.objs.size + 1) s.heap.objs.size 0 .none := by
    have := Heap.get?_push_size (s.heap.push o) (o := { cls := .type "enumerate", data := .fields #[.none, .bool false, .ref s.heap.objs.size, rawInt 0, .none, .none] }) rfl
    rw [hz] at this; exact this
  refine ⟨⟨_, he, rfl⟩, h _ he (Heap.get?_push_of_some _ (Heap.get?_push_size _ B.free)) (by rw [Heap.size_push, hz]) fun b o x => Heap.get?_push_of_some _ (Heap.get?_push_of_some _ x)⟩
theorem wpAny_pyNext_enum_endT {e it t : Addr} {n : Nat} {items : Array Value} {i : Int} {old : Value} {Q : Option Value → Shared → Prop}
    (hh : A.in1.handled = none) (he : IsEnum s.heap e it i old) (hit : s.heap.IsTupleIter it t n) (ht : s.heap.IsTuple t items) (hx : items[n]? = none)
    (hQ : ∀ h', Heap.ExtBut it s.heap h' → Q none { s with heap := h' }) : wpAny (model prog w) A (pyNext (.ref e)) Q E s := by
  have hT : s.TypeIs (.ref e) "enumerate" := ⟨_, he, rfl⟩
  unfold pyNext
  refine wpAny_bind (wpAny_attempt (wpAny_callSpecial?_slot (name := Str.ofString "__next__") hT F.slot_enumerate_next
    (wpAny_call_entry F.slot_enumerate_next hT F.entry_enumerate_next ?_ (F.args_enumerate_next_1 _))))
  show wpAny _ _ (field (.ref e) 2 >>= _) _ _ _
  refine wpAny_bind (wpAny_field he rfl (x := .ref it) rfl ?_)
  refine wpAny_bind (wpAny_nextOf_tuple_end hh hit ht hx fun h' x he' hx' => ?_)
  obtain ⟨o, ho, hc⟩ := hx'
  refine wpAny_bind (wpAny_isInstance (T := "StopIteration") (b := true) ⟨o, ho, hc⟩ isSubtype_stop ?_)
  exact wpAny_pure (hQ _ he')
end
end PySem
namespace MR
open PySem PySem.Spec PyProof.Rows L2
/-- the tuple at a, each item in a new pair -/
def ItE (K : PySem.W.Frag) (a : Addr) : It :=
  ⟨fun i H => ∃ (xs : List V) (x : V), SqT K H a xs ∧ xs[i]? = some x, fun i H v H' => ∃ T x, v = .ref T ∧ H T = none ∧ H' = upd H T (.tup [.int (i : Nat), x]) ∧ ∀ xs, SqT K H a xs → xs[i]? = some x, fun i H => ∃ xs : List V, SqT K H a xs ∧ xs.length ≤ i⟩
theorem turn_enumT {P : Program} {w : World} {K : PySem.W.Frag} {elts : List Expr} {kk : Nat} {tpos : Pos} (a e it : Addr) :
    Turn P w K (.Tuple elts kk tpos) (ItE K a) [e, it] e (fun i h => (∃ old, IsEnum h e it ((i : Nat) : Int) old) ∧ h.IsTupleIter it a i ∧ e ≠ it) where
  mem := by simp
  obj := fun i h st b hb => by
    obtain ⟨⟨old, he⟩, ⟨o, ho, hc, hd⟩, _⟩ := st
    have e' : b = e ∨ b = it := by simpa using hb
    rcases e' with z | z
    · rw [z]; exact ⟨_, he, fun v q => nomatch q⟩
    · rw [z]; exact ⟨o, ho, fun v q => by rw [hd] at q; cases q⟩
  keep := fun i h h' st k => let ⟨⟨old, he⟩, hi, hne⟩ := st; ⟨⟨old, k e (by simp) _ he⟩, hi.at fun o q => k it (by simp) o q, hne⟩
  item := by
    intro X hP hw hK hc i pins s σ H E I hf st hg
    subst hP hw hK
    obtain ⟨⟨old, he⟩, hit, hne⟩ := st
    obtain ⟨xs, x, hq, hx⟩ := hg
    obtain ⟨its, rv, p, hz⟩ := I.tuple hq
    obtain ⟨u, hu, ru⟩ := rv.get hx
    have hT0 : s.heap.IsTuple a its.toArray := p
    have hel : e < s.heap.objs.size := Heap.lt_size he
    have hil : it < s.heap.objs.size := by obtain ⟨_, q, _⟩ := hit; exact Heap.lt_size q
    obtain ⟨oa, ha, hca, _⟩ := id hT0
    have hai : a ≠ it := fun z => by
      obtain ⟨oi, hi, hci, _⟩ := hit
      rw [z, hi] at ha
      cases ha
      rw [hci] at hca
      exact absurd hca (by decide)
    have hae : e ≠ a := fun z => by
      have he' : s.heap.get? e = some _ := he
      rw [z, ha] at he'
      cases he'
      have hca' : Value.type "enumerate" = Value.type "tuple" := hca
      exact absurd hca' (by decide)
    have hef : e ∉ [it, a] := fun z => by
      rcases List.mem_cons.mp z with z | z
      · exact hne z
      · exact hae (List.mem_singleton.mp z)
    have hlt : i < its.toArray.size := by
      have := (List.getElem?_eq_some_iff.mp hu).1
      simpa using this
    refine wpAny_pyNext_enum_itemC (Draws.tuple (prog := X.prog) (w := X.w) (A := X.A.in1) (I.ok.hd hc) it a hai its.toArray) he ⟨hit, hT0⟩ hlt hne hef fun v h' tk hv ho hs' hT hsz hk => ?_
    have ev : v = u := by
      have : its.toArray[i]? = some u := by simpa using hu
      rw [this] at hv
      exact (Option.some.inj hv).symm
    subst ev
    refine ⟨_, rfl, wpAny_letOwnedTupleGo_enum (s := { s with heap := h', toks := tk + 1 }) ho fun h'' he' sb => ?_⟩
    have hT2 : h''.get? s.heap.objs.size = some { cls := .type "tuple", data := .seq #[.int i tk, v] } := (sb.2 _ (Nat.ne_of_gt hel)).trans hT
    have new : ObjOk X.prog X.w (upd H s.heap.objs.size (.tup [.int (i : Nat), x])) h'' s.heap.objs.size (.tup [.int (i : Nat), x]) :=
      ⟨by show 2 ≤ sizeLine; decide, [.int i tk, v], .cons ⟨_, rfl⟩ (.cons ru .nil), ⟨_, hT2, rfl, _, rfl⟩⟩
    have I1 : Inv X pins σ (upd H s.heap.objs.size (.tup [.int (i : Nat), x])) { s with heap := h'', toks := tk + 1 } :=
      I.turnedNew (ch := [e, it]) (fun b ob hb q => (sb.2 b (fun z => hb (by simp [z]))).trans (hk b ob (fun z => hb (by simp [z])) (fun z => hb (by simp [z])) q)) hf (Nat.le_refl _) new
    refine ⟨.ref s.heap.objs.size, _, I1, rfl, ⟨_, x, rfl, I.hok.fresh (Nat.le_refl _), rfl, fun ys hy => by rw [I.tuple_inj hy hq]; exact hx⟩, ⟨⟨v, ?_⟩, hs'.1.at fun o q => (sb.2 it (Ne.symm hne)).trans q, hne⟩, fun b hb => ?_⟩
    · have e1 : ((i + 1 : Nat) : Int) = (i : Int) + 1 := by omega
      rw [e1]; exact he'
    · have hb' : b < s.heap.objs.size := by
        have e' : b = e ∨ b = it := by simpa using hb
        rcases e' with z | z
        · rw [z]; exact hel
        · rw [z]; exact hil
      rw [upd_ne (Nat.ne_of_lt hb')]
      exact (hf b hb).1
  done := by
    intro X hP hw hK hc i pins s σ H E I hf st hg
    subst hP hw hK
    obtain ⟨⟨old, he⟩, hit, hne⟩ := st
    obtain ⟨xs, hq, hx⟩ := hg
    obtain ⟨its, rv, p, hz⟩ := I.tuple hq
    obtain ⟨f0, f1, f2, f3, f4, f5⟩ := hf it (by simp)
    have hl := rv.length
    have hT0 : s.heap.IsTuple a its.toArray := p
    obtain ⟨oa, ha, hca, _⟩ := id hT0
    have hai : a ≠ it := fun z => by
      obtain ⟨oi, hi, hci, _⟩ := hit
      rw [z, hi] at ha
      cases ha
      rw [hci] at hca
      exact absurd hca (by decide)
    exact wpAny_pyNext_enum_endT (I.ok.hd hc) he hit hT0 (by simp; omega) fun h' eb => ⟨rfl, I.turned (t' := s.toks) (fun b o hb q => eb b o hb q) f0 f1 f3 f4 f5⟩
  self := fun A i s Q E st h => let ⟨⟨_, he⟩, _⟩ := st; wpAny_pyIter_enum he h
def iEnumT (K : PySem.W.Frag) (ta : TA) : TI := fun σ H R => ta σ H fun vs H1 => ∃ a xs, vs = [.ref a] ∧ SqT K H1 a xs ∧ R (ItE K a) H1
theorem pi_enumT {X : Cx} {e : Expr} {ta : TA} {p pos tpos : Pos} {elts : List Expr} {kk : Nat} (hg : Gl X "enumerate") (hm : X.mg "enumerate" = none) (ha : PA X [e] ta) (hs : starEach [e] X.env = [(false, eval e X.env)] := by rfl) :
    PI X (.Tuple elts kk tpos) (.Call (.Name "enumerate" p) [e] [] pos) (iEnumT X.K ta) := by
  refine ⟨fun pins s σ H R I h => ?_⟩
  refine Call_ (ld_blt I hg hm boot_enumerate (PyProof.Rows.callWith_type1 (thn (ha.run pos pins s σ H _ I h) fun us s1 ⟨vs, H1, I1, r1, q1⟩ => ?_) hs rfl))
  obtain ⟨a, xs, ex, hq, q⟩ := q1
  subst ex
  cases r1 with
  | cons r rr =>
    cases rr
    cases r
    obtain ⟨its, rv, p', hz⟩ := I1.tuple hq
    have hT0 : s1.heap.IsTuple a its.toArray := p'
    refine enum_begins1 (begins_tuple a its.toArray) hT0 fun h' he hit hsz hk => wpAny_pyIter_enum he ?_
    have I2 : Inv X pins σ H1 { s1 with heap := h' } := I1.kept (t' := s1.toks) hk
    refine ⟨s1.heap.objs.size + 1, [s1.heap.objs.size + 1, s1.heap.objs.size], _, _, H1, rfl, I2, turn_enumT a (s1.heap.objs.size + 1) s1.heap.objs.size, ⟨⟨.none, he⟩, ⟨_, hit, rfl, rfl⟩, Nat.succ_ne_self _⟩, fun b hb => ?_, q⟩
    have e' : b = s1.heap.objs.size + 1 ∨ b = s1.heap.objs.size := by simpa using hb
    have hle : s1.heap.objs.size ≤ b := by
      rcases e' with z | z
      · rw [z]; exact Nat.le_add_right _ _
      · rw [z]; exact Nat.le_refl _
    exact I1.fpOk hle (I1.hok.fresh hle)
theorem PI.or {X : Cx} {tg it : Expr} {w w' : TI} (h : PI X tg it w) (h' : PI X tg it w') : PI X tg it (fun σ H R => w σ H R ∨ w' σ H R) :=
  ⟨fun pins s σ H R I q => q.elim (h.run pins s σ H R I) (h'.run pins s σ H R I)⟩
end MR

set_option exponentiation.threshold 20000
/-! MR: the mathematics of fractions: operators, sizes -/
namespace MR
def rabs (a : Rat) : Rat := if a < 0 then -a else a
theorem den_ne (q : Rat) : ((q.den : Int) : Rat) ≠ 0 := by
  rw [Rat.intCast_natCast]
  exact fun h => q.den_nz (Rat.natCast_eq_zero_iff.mp h)
theorem num_den (q : Rat) : ((q.num : Int) : Rat) / ((q.den : Int) : Rat) = q := by
  rw [← Rat.divInt_eq_div, Rat.num_divInt_den]
theorem di_add (a b : Rat) : Rat.divInt (a.num * b.den + b.num * a.den) (a.den * b.den) = a + b := by
  have h1 := den_ne a
  have h2 := den_ne b
  have e1 := num_den a
  have e2 := num_den b
  rw [Rat.divInt_eq_div, Rat.intCast_add, Rat.intCast_mul, Rat.intCast_mul, Rat.intCast_mul]
  grind
theorem di_sub (a b : Rat) : Rat.divInt (a.num * b.den - b.num * a.den) (a.den * b.den) = a - b := by
  have h1 := den_ne a
  have h2 := den_ne b
  have e1 := num_den a
  have e2 := num_den b
  rw [Rat.divInt_eq_div, Rat.intCast_sub, Rat.intCast_mul, Rat.intCast_mul, Rat.intCast_mul]
  grind
theorem di_mul (a b : Rat) : Rat.divInt (a.num * b.num) (a.den * b.den) = a * b := by
  have h1 := den_ne a
  have h2 := den_ne b
  have e1 := num_den a
  have e2 := num_den b
  rw [Rat.divInt_eq_div, Rat.intCast_mul, Rat.intCast_mul]
  grind
theorem di_addI (a : Rat) (n : Int) : Rat.divInt (a.num + n * a.den) a.den = a + (n : Rat) := by
  have h1 := den_ne a
  have e1 := num_den a
  rw [Rat.divInt_eq_div, Rat.intCast_add, Rat.intCast_mul]
  grind
theorem di_raddI (a : Rat) (n : Int) : Rat.divInt (n * a.den + a.num) a.den = (n : Rat) + a := by
  rw [Int.add_comm, di_addI, Rat.add_comm]
theorem di_subI (a : Rat) (n : Int) : Rat.divInt (a.num - n * a.den) a.den = a - (n : Rat) := by
  have h1 := den_ne a
  have e1 := num_den a
  rw [Rat.divInt_eq_div, Rat.intCast_sub, Rat.intCast_mul]
  grind
theorem di_rsubI (a : Rat) (n : Int) : Rat.divInt (n * a.den - a.num) a.den = (n : Rat) - a := by
  have h1 := den_ne a
  have e1 := num_den a
  rw [Rat.divInt_eq_div, Rat.intCast_sub, Rat.intCast_mul]
  grind
theorem di_mulI (a : Rat) (n : Int) : Rat.divInt (a.num * n) a.den = a * (n : Rat) := by
  have h1 := den_ne a
  have e1 := num_den a
  rw [Rat.divInt_eq_div, Rat.intCast_mul]
  grind
theorem di_neg (a : Rat) : Rat.divInt (-a.num) a.den = -a := by
  rw [← Rat.neg_divInt, Rat.num_divInt_den]
theorem di_abs (a : Rat) : Rat.divInt (if a.num < 0 then -a.num else a.num) a.den = rabs a := by
  unfold rabs
  have hi : a < 0 ↔ a.num < 0 := by
    have := Rat.num_nonneg (q := a)
    constructor
    · intro h
      rcases Int.lt_or_le a.num 0 with z | z
      · exact z
      · exact absurd (this.mp z) (Rat.not_le.mpr h)
    · intro h
      exact Rat.not_le.mp fun z => absurd (this.mpr z) (by omega)
  by_cases h : a.num < 0
  · rw [if_pos h, if_pos (hi.mpr h), di_neg]
  · rw [if_neg h, if_neg (fun z => h (hi.mp z)), Rat.num_divInt_den]
theorem den_pos (a : Rat) : (0 : Int) < a.den := by
  have := a.den_nz
  omega
/-! ### sizes: below 2 ^ n above and below the bar -/
structure Sz (n : Nat) (q : Rat) : Prop where
  num : q.num.natAbs < 2 ^ n
  den : q.den < 2 ^ n
theorem Sz.mono {n m : Nat} {q : Rat} (h : Sz n q) (hn : n ≤ m) : Sz m q := ⟨Nat.lt_of_lt_of_le h.num (Nat.pow_le_pow_right (by decide) hn), Nat.lt_of_lt_of_le h.den (Nat.pow_le_pow_right (by decide) hn)⟩
theorem Sz.pos {n : Nat} {q : Rat} (h : Sz n q) : 0 < n := by
  rcases Nat.eq_zero_or_pos n with e | e
  · have := h.den
    rw [e] at this
    have := q.den_nz
    omega
  · exact e
theorem sz_div {a b : Int} {n : Nat} (hb : b ≠ 0) (h1 : a.natAbs < 2 ^ n) (h2 : b.natAbs < 2 ^ n) : Sz n (Rat.divInt a b) := ⟨Nat.lt_of_le_of_lt (num_le hb) h1, Nat.lt_of_le_of_lt (den_le hb) h2⟩
theorem sz_int {a : Int} {n : Nat} (hn : 0 < n) (h1 : a.natAbs < 2 ^ n) : Sz n (a : Rat) := ⟨by rw [Rat.num_intCast]; exact h1, by rw [Rat.den_intCast]; exact Nat.one_lt_two_pow (by omega)⟩
theorem lt_mul_pow {x y a b : Nat} (h1 : x < 2 ^ a) (h2 : y < 2 ^ b) : x * y < 2 ^ (a + b) := by
  rw [Nat.pow_add]
  exact Nat.mul_lt_mul'' h1 h2
theorem absmul {x : Int} {y a b : Nat} (h1 : x.natAbs < 2 ^ a) (h2 : y < 2 ^ b) : (x * (y : Int)).natAbs < 2 ^ (a + b) := by
  rw [Int.natAbs_mul, Int.natAbs_natCast]
  exact lt_mul_pow h1 h2
theorem absadd {x y : Int} {n : Nat} (h1 : x.natAbs < 2 ^ n) (h2 : y.natAbs < 2 ^ n) : (x + y).natAbs < 2 ^ (n + 1) := by
  rw [Nat.pow_succ]
  omega
theorem abssub {x y : Int} {n : Nat} (h1 : x.natAbs < 2 ^ n) (h2 : y.natAbs < 2 ^ n) : (x - y).natAbs < 2 ^ (n + 1) := by
  rw [Nat.pow_succ]
  omega
theorem Sz.add {n m : Nat} {a b : Rat} (h1 : Sz n a) (h2 : Sz m b) : Sz (n + m + 1) (a + b) := by
  rw [← di_add]
  refine sz_div (Int.ne_of_gt (Int.mul_pos (den_pos a) (den_pos b))) (absadd (absmul h1.num h2.den) ?_) ?_
  · have := absmul h2.num h1.den
    rw [Nat.add_comm m n] at this
    exact this
  · have := absmul (x := (a.den : Int)) (by rw [Int.natAbs_natCast]; exact h1.den) h2.den
    exact Nat.lt_of_lt_of_le this (Nat.pow_le_pow_right (by decide) (by omega))
theorem Sz.neg {n : Nat} {a : Rat} (h : Sz n a) : Sz n (-a) := ⟨by rw [Rat.neg_num, Int.natAbs_neg]; exact h.num, by rw [Rat.neg_den]; exact h.den⟩
theorem Sz.sub {n m : Nat} {a b : Rat} (h1 : Sz n a) (h2 : Sz m b) : Sz (n + m + 1) (a - b) := by
  rw [Rat.sub_eq_add_neg]
  exact h1.add h2.neg
theorem Sz.mul {n m : Nat} {a b : Rat} (h1 : Sz n a) (h2 : Sz m b) : Sz (n + m) (a * b) := by
  rw [← di_mul]
  refine sz_div (Int.ne_of_gt (Int.mul_pos (den_pos a) (den_pos b))) ?_ ?_
  · rw [Int.natAbs_mul]
    exact lt_mul_pow h1.num h2.num
  · exact absmul (x := (a.den : Int)) (by rw [Int.natAbs_natCast]; exact h1.den) h2.den
theorem lt_intR (a : Rat) (k : Int) : a < (k : Rat) ↔ a.num < k * a.den := by rw [Rat.lt_iff, Rat.num_intCast, Rat.den_intCast, Int.natCast_one, Int.mul_one]
theorem le_intR (a : Rat) (k : Int) : a ≤ (k : Rat) ↔ a.num ≤ k * a.den := by rw [Rat.le_iff, Rat.num_intCast, Rat.den_intCast, Int.natCast_one, Int.mul_one]
theorem lt_intL (k : Int) (a : Rat) : (k : Rat) < a ↔ k * a.den < a.num := by rw [Rat.lt_iff, Rat.num_intCast, Rat.den_intCast, Int.natCast_one, Int.mul_one]
theorem le_intL (k : Int) (a : Rat) : (k : Rat) ≤ a ↔ k * a.den ≤ a.num := by rw [Rat.le_iff, Rat.num_intCast, Rat.den_intCast, Int.natCast_one, Int.mul_one]
end MR

set_option Elab.async false
set_option linter.all false
set_option maxRecDepth 100000
set_option maxHeartbeats 4000000
/-! MR: rows of rationals, plain -/
namespace MR
def coef (cs : List Rat) (k : Nat) : Rat := cs[k]?.getD 0
theorem coef_lt {cs : List Rat} {k : Nat} (h : k < cs.length) : cs[k]? = some (coef cs k) := by
  unfold coef
  rw [List.getElem?_eq_getElem h]
  rfl
theorem coef_ge {cs : List Rat} {k : Nat} (h : cs.length ≤ k) : coef cs k = 0 := by
  unfold coef
  rw [List.getElem?_eq_none h]
  rfl
theorem coef_some {cs : List Rat} {k : Nat} {c : Rat} (h : cs[k]? = some c) : coef cs k = c := by
  unfold coef
  rw [h]
  rfl
/-- the size without the zeros at the end of the first n -/
def szN (f : Nat → Rat) : Nat → Nat
  | 0 => 0
  | n + 1 => if f n = 0 then szN f n else n + 1
theorem szN_le (f : Nat → Rat) : ∀ n, szN f n ≤ n
  | 0 => Nat.le_refl _
  | n + 1 => by
    unfold szN
    split
    · exact Nat.le_succ_of_le (szN_le f n)
    · exact Nat.le_refl _
theorem szN_zero (f : Nat → Rat) : ∀ n k, szN f n ≤ k → k < n → f k = 0
  | 0, k, _, h => absurd h (Nat.not_lt_zero _)
  | n + 1, k, h, hk => by
    unfold szN at h
    split at h
    · rename_i e
      by_cases hn : k = n
      · rw [hn]; exact e
      · exact szN_zero f n k h (by omega)
    · omega
theorem szN_last (f : Nat → Rat) : ∀ n, 0 < szN f n → f (szN f n - 1) ≠ 0
  | 0, h => absurd h (Nat.lt_irrefl _)
  | n + 1, h => by
    unfold szN at h ⊢
    split
    · rename_i e
      rw [if_pos e] at h
      exact szN_last f n h
    · rename_i e
      exact e
/-- beyond n all is zero, so the size is one -/
theorem szN_eq {f g : Nat → Rat} {n m : Nat} (hf : ∀ k, n ≤ k → f k = 0) (hg : ∀ k, m ≤ k → g k = 0) (h : ∀ k, f k = g k) : szN f n = szN g m := by
  have zf : ∀ k, szN f n ≤ k → f k = 0 := fun k hk => by
    by_cases e : k < n
    · exact szN_zero f n k hk e
    · exact hf k (by omega)
  have zg : ∀ k, szN g m ≤ k → g k = 0 := fun k hk => by
    by_cases e : k < m
    · exact szN_zero g m k hk e
    · exact hg k (by omega)
  rcases Nat.lt_trichotomy (szN f n) (szN g m) with e | e | e
  · have := szN_last g m (by omega)
    rw [← h] at this
    exact absurd (zf _ (by omega)) this
  · exact e
  · have := szN_last f n (by omega)
    rw [h] at this
    exact absurd (zg _ (by omega)) this
def strip (cs : List Rat) : List Rat := cs.take (szN (coef cs) cs.length)
theorem strip_len (cs : List Rat) : (strip cs).length = szN (coef cs) cs.length := by
  unfold strip
  rw [List.length_take]
  exact Nat.min_eq_left (szN_le _ _)
theorem coef_take {cs : List Rat} {n k : Nat} (h : k < n) : coef (cs.take n) k = coef cs k := by
  unfold coef
  rw [List.getElem?_take_of_lt h]
theorem coef_strip (cs : List Rat) (k : Nat) : coef (strip cs) k = coef cs k := by
  by_cases h : k < szN (coef cs) cs.length
  · exact coef_take h
  · rw [coef_ge (by rw [strip_len]; omega)]
    by_cases e : k < cs.length
    · exact (szN_zero _ _ k (by omega) e).symm
    · exact (coef_ge (by omega)).symm
theorem list_coef {cs ds : List Rat} (hl : cs.length = ds.length) (h : ∀ k, coef cs k = coef ds k) : cs = ds := by
  refine List.ext_getElem? fun k => ?_
  by_cases e : k < cs.length
  · rw [coef_lt e, coef_lt (by omega), h]
  · rw [List.getElem?_eq_none (by omega), List.getElem?_eq_none (by omega)]
theorem strip_eq {cs ds : List Rat} (h : ∀ k, coef cs k = coef ds k) : strip cs = strip ds := by
  refine list_coef ?_ fun k => ?_
  · rw [strip_len, strip_len]
    exact szN_eq (fun k hk => coef_ge hk) (fun k hk => coef_ge hk) h
  · rw [coef_strip, coef_strip, h]
/-- no zero at the end -/
def Nrm (cs : List Rat) : Prop := strip cs = cs
theorem nrm_strip (cs : List Rat) : Nrm (strip cs) := strip_eq (coef_strip cs)
theorem nrm_nil : Nrm [] := rfl
/-- the last one, or 0 -/
def leadOf (cs : List Rat) : Rat := coef cs (cs.length - 1)
theorem nrm_lead {cs : List Rat} (h : Nrm cs) (hl : 0 < cs.length) : leadOf cs ≠ 0 := by
  have e := strip_len cs
  rw [h] at e
  have := szN_last (coef cs) cs.length (by omega)
  rw [← e] at this
  exact this
theorem lead_nil : leadOf [] = 0 := rfl
/-! ### sums -/
def addL (cs ds : List Rat) : List Rat := (List.range (max cs.length ds.length)).map fun k => coef cs k + coef ds k
theorem addL_len (cs ds : List Rat) : (addL cs ds).length = max cs.length ds.length := by simp [addL]
theorem coef_map {n : Nat} {f : Nat → Rat} {k : Nat} : coef ((List.range n).map f) k = if k < n then f k else 0 := by
  unfold coef
  split
  · rename_i h
    rw [List.getElem?_map, List.getElem?_range h]
    rfl
  · rename_i h
    rw [List.getElem?_eq_none (by simp; omega)]
    rfl
theorem coef_add (cs ds : List Rat) (k : Nat) : coef (addL cs ds) k = coef cs k + coef ds k := by
  unfold addL
  rw [coef_map]
  split
  · rfl
  · rename_i h
    rw [coef_ge (by omega), coef_ge (by omega), Rat.add_zero]
def negL (cs : List Rat) : List Rat := cs.map fun c => -c
theorem negL_len (cs : List Rat) : (negL cs).length = cs.length := by simp [negL]
theorem coef_neg (cs : List Rat) (k : Nat) : coef (negL cs) k = -coef cs k := by
  unfold coef negL
  rw [List.getElem?_map]
  cases cs[k]? with
  | none => rfl
  | some c => rfl
/-! ### products -/
/-- the first i rows of the product at k -/
def conv (f g : Nat → Rat) : Nat → Nat → Rat
  | 0, _ => 0
  | i + 1, k => conv f g i k + if i ≤ k then f i * g (k - i) else 0
def mulL (cs ds : List Rat) : List Rat := if cs.length = 0 ∨ ds.length = 0 then [] else (List.range (cs.length + ds.length - 1)).map fun k => conv (coef cs) (coef ds) cs.length k
theorem conv_ge {f g : Nat → Rat} {m : Nat} (hg : ∀ k, m ≤ k → g k = 0) : ∀ i k, i + m ≤ k + 1 → conv f g i k = 0
  | 0, _, _ => rfl
  | i + 1, k, h => by
    unfold conv
    rw [conv_ge hg i k (by omega), if_pos (by omega), hg _ (by omega), Rat.mul_zero, Rat.add_zero]
theorem conv_nil {f g : Nat → Rat} (hg : ∀ k, g k = 0) : ∀ i k, conv f g i k = 0
  | 0, _ => rfl
  | i + 1, k => by
    unfold conv
    rw [conv_nil hg i k, hg, Rat.mul_zero]
    split <;> exact Rat.add_zero _
theorem coef_mul (cs ds : List Rat) (k : Nat) : coef (mulL cs ds) k = conv (coef cs) (coef ds) cs.length k := by
  unfold mulL
  split
  · rename_i h
    rcases h with h | h
    · rw [h]
      rfl
    · rw [conv_nil (fun k => coef_ge (by omega))]
      rfl
  · rename_i h
    rw [coef_map]
    split
    · rfl
    · rw [conv_ge (m := ds.length) (fun k hk => coef_ge hk) _ _ (by omega)]
theorem conv_congr {f f' g g' : Nat → Rat} (hf : ∀ k, f k = f' k) (hg : ∀ k, g k = g' k) (i k : Nat) : conv f g i k = conv f' g' i k := by
  rw [show f = f' from funext hf, show g = g' from funext hg]
/-- rows that are zero add nothing -/
theorem conv_more {f g : Nat → Rat} {n : Nat} (hf : ∀ k, n ≤ k → f k = 0) : ∀ m, n ≤ m → ∀ k, conv f g m k = conv f g n k := by
  intro m hm k
  induction m with
  | zero => rw [show n = 0 by omega]
  | succ m ih =>
    by_cases e : n ≤ m
    · rw [show conv f g (m + 1) k = conv f g m k + if m ≤ k then f m * g (k - m) else 0 from rfl, ih e, hf m e, Rat.zero_mul]
      split <;> exact Rat.add_zero _
    · rw [show n = m + 1 by omega]
end MR

set_option Elab.async false
set_option linter.all false
set_option maxRecDepth 100000
set_option maxHeartbeats 4000000
set_option exponentiation.threshold 20000
/-! FL: a layer without a heap: data, what represents them -/
namespace MR
open PySem PySem.Spec PyProof.Rows L2
/-- a datum -/
inductive D where
  | non | bl (b : Bool) | int (i : Int) | str (x : Str) | rat (q : Rat) | poly (cs : List Rat)
  | lst (ds : List D) | tup (ds : List D) | ins (C : Str) (ns : List Str) (ds : List D) | feed | exc | adr (a : Addr)
/-- an exception: its class, its fields -/
structure Exn where
  cls : Str
  fs : List (Str × D)
abbrev Env := List (Option D)
def FeedC (K : PySem.W.Frag) (H : Hp) (f c : Addr) : Prop := ∃ ns p b l n s o, FeedAt K H f c ns p b l n s ∧ H c = some o
/-- the place p may be used: it is not the feed's, nobody owns it -/
def Ok (F : Option Addr) (M : Addr → Prop) (p : Addr) : Prop := F ≠ some p ∧ ¬ M p
section
variable (K : PySem.W.Frag) (F : Option Addr) (M : Addr → Prop) (H : Hp)
def RRat (q : Rat) (v : V) : Prop := ∃ p, v = .ref p ∧ Ok F M p ∧ IsRat K H p q
def RRats : List Rat → List V → Prop
  | [], vs => vs = []
  | q :: qs, vs => ∃ v us, vs = v :: us ∧ RRat K F M H q v ∧ RRats qs us
abbrev CP (K : PySem.W.Frag) : Addr := He.ga K "Poly"
def polyF (t l : Addr) (n : Nat) : List (Str × V) := [("coefficients", .ref t), ("degree", .int ((n : Int) - 1)), ("lead", .ref l)]
mutual
/-- v is the datum -/
def Rep : D → V → Prop
  | .non, v => v = .non
  | .bl b, v => v = .bl b
  | .int i, v => v = .int i
  | .str x, v => v = .str x
  | .rat q, v => RRat K F M H q v
  | .poly cs, v => ∃ p dx t l vs, v = .ref p ∧ Ok F M p ∧ H p = some (.ins (CP K) dx (polyF t l cs.length)) ∧ Ok F M t ∧ H t = some (.tup vs) ∧ RRats K F M H cs vs ∧ RRat K F M H (leadOf cs) (.ref l) ∧ Nrm cs
  | .lst ds, v => ∃ p vs, v = .ref p ∧ Ok F M p ∧ H p = some (.lst vs) ∧ Reps ds vs
  | .tup ds, v => ∃ p vs, v = .ref p ∧ Ok F M p ∧ H p = some (.tup vs) ∧ Reps ds vs
  | .ins C ns ds, v => ∃ p dx gs, v = .ref p ∧ Ok F M p ∧ H p = some (.ins (He.ga K C) dx gs) ∧ gs.map Prod.fst = ns ∧ Reps ds (gs.map Prod.snd)
  | .feed, v => ∃ f, F = some f ∧ v = .ref f
  | .exc, v => ∃ a, v = .ref a
  | .adr a, v => v = .ref a
def Reps : List D → List V → Prop
  | [], vs => vs = []
  | d :: ds, vs => ∃ v us, vs = v :: us ∧ Rep d v ∧ Reps ds us
end
/-- an object that one name alone holds -/
def RepO : D → HO → Prop
  | .lst ds, o => ∃ vs, o = .lst vs ∧ Reps K F M H ds vs
  | .ins C ns ds, o => ∃ dx gs, o = .ins (He.ga K C) dx gs ∧ gs.map Prod.fst = ns ∧ Reps K F M H ds (gs.map Prod.snd)
  | _, _ => False
end
section
variable {K : PySem.W.Frag} {F : Option Addr} {M M' : Addr → Prop} {H H' : Hp}
/-- what was usable stands, and is usable -/
def Goes (F : Option Addr) (M : Addr → Prop) (H : Hp) (M' : Addr → Prop) (H' : Hp) : Prop := ∀ p o, H p = some o → F ≠ some p → ¬ M p → H' p = some o ∧ ¬ M' p
theorem RRat.goes (g : Goes F M H M' H') {q : Rat} {v : V} (h : RRat K F M H q v) : RRat K F M' H' q v := by
  obtain ⟨p, rfl, ok, dx, e⟩ := h
  obtain ⟨e', n⟩ := g p _ e ok.1 ok.2
  exact ⟨p, rfl, ⟨ok.1, n⟩, dx, e'⟩
theorem RRats.goes (g : Goes F M H M' H') : ∀ {qs : List Rat} {vs : List V}, RRats K F M H qs vs → RRats K F M' H' qs vs
  | [], _, h => h
  | _ :: _, _, h => by
    obtain ⟨v, us, rfl, h1, h2⟩ := h
    exact ⟨v, us, rfl, h1.goes g, RRats.goes g h2⟩
mutual
theorem Rep.goes (g : Goes F M H M' H') : ∀ (d : D) (v : V), Rep K F M H d v → Rep K F M' H' d v
  | .non, v, h => h
  | .bl b, v, h => h
  | .int i, v, h => h
  | .str x, v, h => h
  | .feed, v, h => h
  | .exc, v, h => h
  | .adr a, v, h => h
  | .rat q, v, h => RRat.goes g h
  | .poly cs, v, h => by
    obtain ⟨p, dx, t, l, vs, rfl, ok, e, okt, et, r, rl, n⟩ := h
    obtain ⟨e', n1⟩ := g p _ e ok.1 ok.2
    obtain ⟨et', n2⟩ := g t _ et okt.1 okt.2
    exact ⟨p, dx, t, l, vs, rfl, ⟨ok.1, n1⟩, e', ⟨okt.1, n2⟩, et', r.goes g, rl.goes g, n⟩
  | .lst ds, v, h => by
    obtain ⟨p, vs, rfl, ok, e, r⟩ := h
    obtain ⟨e', n1⟩ := g p _ e ok.1 ok.2
    exact ⟨p, vs, rfl, ⟨ok.1, n1⟩, e', Reps.goes g ds vs r⟩
  | .tup ds, v, h => by
    obtain ⟨p, vs, rfl, ok, e, r⟩ := h
    obtain ⟨e', n1⟩ := g p _ e ok.1 ok.2
    exact ⟨p, vs, rfl, ⟨ok.1, n1⟩, e', Reps.goes g ds vs r⟩
  | .ins C ns ds, v, h => by
    obtain ⟨p, dx, gs, rfl, ok, e, en, r⟩ := h
    obtain ⟨e', n1⟩ := g p _ e ok.1 ok.2
    exact ⟨p, dx, gs, rfl, ⟨ok.1, n1⟩, e', en, Reps.goes g ds _ r⟩
theorem Reps.goes (g : Goes F M H M' H') : ∀ (ds : List D) (vs : List V), Reps K F M H ds vs → Reps K F M' H' ds vs
  | [], _, h => h
  | d :: ds, _, h => by
    obtain ⟨v, us, rfl, h1, h2⟩ := h
    exact ⟨v, us, rfl, Rep.goes g d v h1, Reps.goes g ds us h2⟩
end
theorem RepO.goes (g : Goes F M H M' H') {d : D} {o : HO} (h : RepO K F M H d o) : RepO K F M' H' d o := by
  cases d with
  | lst ds => obtain ⟨vs, rfl, r⟩ := h; exact ⟨vs, rfl, Reps.goes g _ _ r⟩
  | ins C ns ds => obtain ⟨dx, gs, rfl, en, r⟩ := h; exact ⟨dx, gs, rfl, en, Reps.goes g _ _ r⟩
  | _ => exact h.elim
mutual
/-- no list within -/
def D.noL : D → Bool
  | .lst _ => false
  | .tup ds => D.noLs ds
  | .ins _ _ ds => D.noLs ds
  | .feed => false
  | .exc => false
  | .adr _ => false
  | _ => true
def D.noLs : List D → Bool
  | [] => true
  | d :: ds => d.noL && D.noLs ds
end
/-- M' has lists only -/
def Lists (M' : Addr → Prop) (H : Hp) : Prop := ∀ p, M' p → ∃ xs, H p = some (.lst xs)
theorem RRat.noL (g : Lists M' H) {q : Rat} {v : V} (h : RRat K F M H q v) : RRat K F (fun p => M p ∨ M' p) H q v := by
  obtain ⟨p, rfl, ok, dx, e⟩ := h
  refine ⟨p, rfl, ⟨ok.1, fun z => z.elim ok.2 fun m => ?_⟩, dx, e⟩
  obtain ⟨xs, y⟩ := g p m
  rw [e] at y; cases y
theorem RRats.noL (g : Lists M' H) : ∀ {qs : List Rat} {vs : List V}, RRats K F M H qs vs → RRats K F (fun p => M p ∨ M' p) H qs vs
  | [], _, h => h
  | _ :: _, _, h => by
    obtain ⟨v, us, rfl, h1, h2⟩ := h
    exact ⟨v, us, rfl, h1.noL g, RRats.noL g h2⟩
theorem ok_noL (g : Lists M' H) {p : Addr} {o : HO} (ok : Ok F M p) (e : H p = some o) (n : ∀ xs, o ≠ .lst xs) : Ok F (fun p => M p ∨ M' p) p := ⟨ok.1, fun z => z.elim ok.2 fun m => by
  obtain ⟨xs, y⟩ := g p m
  rw [e] at y
  exact n xs (Option.some.inj y)⟩
mutual
theorem Rep.noL (g : Lists M' H) : ∀ (d : D) (v : V), d.noL = true → Rep K F M H d v → Rep K F (fun p => M p ∨ M' p) H d v
  | .non, v, _, h => h
  | .bl b, v, _, h => h
  | .int i, v, _, h => h
  | .str x, v, _, h => h
  | .feed, v, n, h => h
  | .exc, v, n, h => h
  | .adr a, v, n, h => h
  | .rat q, v, _, h => RRat.noL g h
  | .poly cs, v, _, h => by
    obtain ⟨p, dx, t, l, vs, rfl, ok, e, okt, et, r, rl, n⟩ := h
    exact ⟨p, dx, t, l, vs, rfl, ok_noL g ok e (fun _ z => by cases z), e, ok_noL g okt et (fun _ z => by cases z), et, r.noL g, rl.noL g, n⟩
  | .lst ds, v, n, h => by simp [D.noL] at n
  | .tup ds, v, n, h => by
    obtain ⟨p, vs, rfl, ok, e, r⟩ := h
    exact ⟨p, vs, rfl, ok_noL g ok e (fun _ z => by cases z), e, Reps.noL g ds vs (by simpa [D.noL] using n) r⟩
  | .ins C ns ds, v, n, h => by
    obtain ⟨p, dx, gs, rfl, ok, e, en, r⟩ := h
    exact ⟨p, dx, gs, rfl, ok_noL g ok e (fun _ z => by cases z), e, en, Reps.noL g ds _ (by simpa [D.noL] using n) r⟩
theorem Reps.noL (g : Lists M' H) : ∀ (ds : List D) (vs : List V), D.noLs ds = true → Reps K F M H ds vs → Reps K F (fun p => M p ∨ M' p) H ds vs
  | [], _, _, h => h
  | d :: ds, _, n, h => by
    obtain ⟨v, us, rfl, h1, h2⟩ := h
    simp only [D.noLs, Bool.and_eq_true] at n
    exact ⟨v, us, rfl, Rep.noL g d v n.1 h1, Reps.noL g ds us n.2 h2⟩
end
/-! ### lists of data -/
theorem Reps.length : ∀ {ds : List D} {vs : List V}, Reps K F M H ds vs → vs.length = ds.length
  | [], _, h => by rw [show _ = [] from h]; rfl
  | d :: ds, _, h => by
    obtain ⟨v, us, rfl, _, h2⟩ := h
    rw [List.length_cons, List.length_cons, Reps.length h2]
theorem Reps.get : ∀ {ds : List D} {vs : List V} {i : Nat} {d : D}, Reps K F M H ds vs → ds[i]? = some d → ∃ v, vs[i]? = some v ∧ Rep K F M H d v
  | [], _, i, d, _, h => by simp at h
  | e :: ds, _, i, d, h, hi => by
    obtain ⟨v, us, rfl, h1, h2⟩ := h
    cases i with
    | zero => simp at hi; subst hi; exact ⟨v, rfl, h1⟩
    | succ i =>
      simp at hi
      obtain ⟨w, e1, e2⟩ := Reps.get h2 hi
      exact ⟨w, by simpa using e1, e2⟩
theorem Reps.append : ∀ {ds es : List D} {vs ws : List V}, Reps K F M H ds vs → Reps K F M H es ws → Reps K F M H (ds ++ es) (vs ++ ws)
  | [], _, _, _, h, h' => by rw [show _ = [] from h]; exact h'
  | d :: ds, _, _, _, h, h' => by
    obtain ⟨v, us, rfl, h1, h2⟩ := h
    exact ⟨v, us ++ _, rfl, h1, Reps.append h2 h'⟩
theorem Reps.one {d : D} {v : V} (h : Rep K F M H d v) : Reps K F M H [d] [v] := ⟨v, [], rfl, h, rfl⟩
theorem Reps.cons {d : D} {v : V} {ds : List D} {vs : List V} (h : Rep K F M H d v) (h' : Reps K F M H ds vs) : Reps K F M H (d :: ds) (v :: vs) := ⟨v, vs, rfl, h, h'⟩
theorem Reps.set : ∀ {ds : List D} {vs : List V} {i : Nat} {d : D} {v : V}, Reps K F M H ds vs → Rep K F M H d v → Reps K F M H (ds.set i d) (vs.set i v)
  | [], _, i, d, v, h, _ => by rw [show _ = [] from h]; exact rfl
  | e :: ds, _, i, d, v, h, hd => by
    obtain ⟨w, us, rfl, h1, h2⟩ := h
    cases i with
    | zero => exact ⟨v, us, rfl, hd, h2⟩
    | succ i => exact ⟨w, us.set i v, rfl, h1, Reps.set h2 hd⟩
theorem Reps.drop : ∀ {ds : List D} {vs : List V} (n : Nat), Reps K F M H ds vs → Reps K F M H (ds.drop n) (vs.drop n)
  | _, _, 0, h => h
  | [], _, n + 1, h => by rw [show _ = [] from h]; exact rfl
  | e :: ds, _, n + 1, h => by
    obtain ⟨w, us, rfl, h1, h2⟩ := h
    exact Reps.drop n h2
theorem Reps.take : ∀ {ds : List D} {vs : List V} (n : Nat), Reps K F M H ds vs → Reps K F M H (ds.take n) (vs.take n)
  | _, _, 0, h => rfl
  | [], _, n + 1, h => by rw [show _ = [] from h]; exact rfl
  | e :: ds, _, n + 1, h => by
    obtain ⟨w, us, rfl, h1, h2⟩ := h
    exact ⟨w, us.take n, rfl, h1, Reps.take n h2⟩
theorem Reps.ints : ∀ {ns : List Int} {vs : List V}, Reps K F M H (ns.map D.int) vs → vs = ns.map V.int
  | [], _, h => h
  | n :: ns, _, h => by
    obtain ⟨w, us, rfl, h1, h2⟩ := h
    rw [show w = V.int n from h1, Reps.ints h2]
    rfl
theorem RRats.reps : ∀ {qs : List Rat} {vs : List V}, RRats K F M H qs vs → Reps K F M H (qs.map D.rat) vs
  | [], _, h => h
  | q :: qs, _, h => by
    obtain ⟨w, us, rfl, h1, h2⟩ := h
    exact ⟨w, us, rfl, h1, RRats.reps h2⟩
theorem RRats.of : ∀ {qs : List Rat} {vs : List V}, Reps K F M H (qs.map D.rat) vs → RRats K F M H qs vs
  | [], _, h => h
  | q :: qs, _, h => by
    obtain ⟨w, us, rfl, h1, h2⟩ := h
    exact ⟨w, us, rfl, h1, RRats.of h2⟩
end
/-! ### heaps -/
/-- all but the feed stands, the feed is one -/
structure Gr (K : PySem.W.Frag) (F : Option Addr) (H H' : Hp) : Prop where
  old : ∀ b o, H b = some o → F ≠ some b → H' b = some o
  feed : ∀ f c, F = some f → FeedC K H f c → FeedC K H' f c
theorem FeedC.same {K : PySem.W.Frag} {H H' : Hp} {f c : Addr} (s : Same H H') (h : FeedC K H f c) : FeedC K H' f c := let ⟨ns, p, b, l, n, z, o, G, e⟩ := h; ⟨ns, p, b, l, n, z, o, G.same s, s _ _ e⟩
theorem Gr.refl {K : PySem.W.Frag} {F : Option Addr} {H : Hp} : Gr K F H H := ⟨fun _ _ h _ => h, fun _ _ _ h => h⟩
theorem Gr.trans {K : PySem.W.Frag} {F : Option Addr} {H H1 H2 : Hp} (a : Gr K F H H1) (b : Gr K F H1 H2) : Gr K F H H2 := ⟨fun c o h n => b.old c o (a.old c o h n) n, fun f c e h => b.feed f c e (a.feed f c e h)⟩
theorem Gr.same {K : PySem.W.Frag} {F : Option Addr} {H H' : Hp} (s : Same H H') : Gr K F H H' := ⟨fun b o h _ => s b o h, fun _ _ _ h => h.same s⟩
theorem Gr.new {K : PySem.W.Frag} {F : Option Addr} {H : Hp} {p : Addr} {o : HO} (n : H p = none) : Gr K F H (upd H p o) := .same (same_new n)
theorem Gr.goes {K : PySem.W.Frag} {F : Option Addr} {H H' : Hp} {M : Addr → Prop} (g : Gr K F H H') : Goes F M H M H' := fun p o h n m => ⟨g.old p o h n, m⟩
theorem FeedC.keep {K : PySem.W.Frag} {H : Hp} {f c p : Addr} {o : HO} (h : FeedC K H f c) (n : p ≠ f) (m : p ≠ c) : FeedC K (upd H p o) f c := by
  obtain ⟨ns, x, b, l, k, s, o', G, e⟩ := h
  refine ⟨ns, x, b, l, k, s, o', ⟨by rw [upd_ne (Ne.symm n)]; exact G.ob, ?_, G.ne, G.nn, G.p0, G.b0, G.l0, G.n0, G.s0⟩, by rw [upd_ne (Ne.symm m)]; exact e⟩
  exact sq_keep (f := p) keep_upd (Ne.symm m) G.cs
/-! ### the names of a def -/
/-- the places that the names of ow hold -/
def Mo (ow : List Nat) (σ : L2.St) (p : Addr) : Prop := ∃ i, i ∈ ow ∧ σ[i]? = some (some (.ref p))
def Sl (R : D → V → Prop) : Option (Option D) → Option (Option V) → Prop
  | some (some d), some (some v) => R d v
  | some none, some none => True
  | none, none => True
  | _, _ => False
/-- a world: the feed's place, what the callers own, the heap at the start -/
structure Wd where
  F : Option Addr
  M : Addr → Prop
  H0 : Hp
abbrev Wd.Mx (w : Wd) (ow : List Nat) (σ : L2.St) (p : Addr) : Prop := w.M p ∨ Mo ow σ p
structure REnv (K : PySem.W.Frag) (w : Wd) (ow : List Nat) (H : Hp) (σ : L2.St) (ρ : Env) : Prop where
  gr : Gr K w.F w.H0 H
  live : ∀ p, w.M p → ∃ o, w.H0 p = some o
  nf : ∀ p, w.M p → w.F ≠ some p
  imm : ∀ i, i ∉ ow → Sl (Rep K w.F (w.Mx ow σ) H) ρ[i]? σ[i]?
  own : ∀ i, i ∈ ow → ∃ p o d, σ[i]? = some (some (.ref p)) ∧ ρ[i]? = some (some d) ∧ H p = some o ∧ RepO K w.F (w.Mx ow σ) H d o ∧ w.F ≠ some p ∧ w.H0 p = none
  inj : ∀ i, i ∈ ow → ∀ j, j ∈ ow → i ≠ j → ∀ p, σ[i]? = some (some (.ref p)) → σ[j]? ≠ some (some (.ref p))
  feed : ∀ f, w.F = some f → ∃ c, FeedC K H f c ∧ ¬ w.Mx ow σ c
theorem Sl.mono {R R' : D → V → Prop} (h : ∀ d v, R d v → R' d v) : ∀ {a : Option (Option D)} {b : Option (Option V)}, Sl R a b → Sl R' a b
  | some (some d), some (some v), z => h d v z
  | some none, some none, z => z
  | none, none, z => z
section
variable {K : PySem.W.Frag} {w : Wd} {ow ow' : List Nat} {H H' : Hp} {σ : L2.St} {ρ : Env}
theorem REnv.grow (e : REnv K w ow H σ ρ) (g : Gr K w.F H H') : REnv K w ow H' σ ρ where
  gr := e.gr.trans g
  live := e.live
  nf := e.nf
  imm i hi := (e.imm i hi).mono fun d v => Rep.goes g.goes d v
  own i hi := by
    obtain ⟨p, o, d, h1, h2, h3, h4, h5, h6⟩ := e.own i hi
    exact ⟨p, o, d, h1, h2, g.old _ _ h3 h5, h4.goes g.goes, h5, h6⟩
  inj := e.inj
  feed f hf := by
    obtain ⟨c, h1, h2⟩ := e.feed f hf
    exact ⟨c, g.feed f c hf h1, h2⟩
/-- names of ow are let go -/
theorem REnv.free (e : REnv K w ow H σ ρ) (hs : ∀ i, i ∈ ow' → i ∈ ow) : REnv K w ow' H σ ρ := by
  have sub : ∀ p, w.Mx ow' σ p → w.Mx ow σ p := fun p h => h.elim .inl fun ⟨i, h1, h2⟩ => .inr ⟨i, hs i h1, h2⟩
  have go : Goes w.F (w.Mx ow σ) H (w.Mx ow' σ) H := fun p o h _ m => ⟨h, fun z => m (sub p z)⟩
  refine ⟨e.gr, e.live, e.nf, fun i hi => ?_, fun i hi => ?_, fun i hi j hj => e.inj i (hs i hi) j (hs j hj), fun f hf => ?_⟩
  · by_cases hm : i ∈ ow
    · obtain ⟨p, o, d, h1, h2, h3, h4, h5, h6⟩ := e.own i hm
      rw [h1, h2]
      have nm : ¬ w.Mx ow' σ p := fun z => by
        rcases z with z | ⟨j, hj, z⟩
        · obtain ⟨o', y⟩ := e.live p z
          rw [h6] at y; cases y
        · by_cases hij : i = j
          · rw [hij] at hi; exact hi hj
          · exact e.inj i hm j (hs j hj) hij p h1 z
      have h4 := h4.goes go
      cases d with
      | lst ds => obtain ⟨vs, rfl, r⟩ := h4; exact ⟨p, vs, rfl, ⟨h5, nm⟩, h3, r⟩
      | ins C ns ds => obtain ⟨dx, gs, rfl, en, r⟩ := h4; exact ⟨p, dx, gs, rfl, ⟨h5, nm⟩, h3, en, r⟩
      | _ => exact h4.elim
    · exact (e.imm i hm).mono fun d v => Rep.goes go d v
  · obtain ⟨p, o, d, h1, h2, h3, h4, h5⟩ := e.own i (hs i hi)
    exact ⟨p, o, d, h1, h2, h3, h4.goes go, h5⟩
  · obtain ⟨c, h1, h2⟩ := e.feed f hf
    exact ⟨c, h1, fun z => h2 (sub c z)⟩
end
end MR

set_option Elab.async false
set_option linter.all false
set_option maxRecDepth 100000
set_option maxHeartbeats 4000000
set_option exponentiation.threshold 20000
/-! FL: readings without a heap, expressions -/
namespace MR
open PySem PySem.Spec PyProof.Rows L2
abbrev XP := Exn → Prop
abbrev FE := Env → (D → Prop) → XP → Prop
abbrev FT := Env → (Bool → Prop) → XP → Prop
abbrev FA := Env → (List D → Prop) → XP → Prop
def RepXs (K : PySem.W.Frag) (F : Option Addr) (H : Hp) : List (Str × D) → List (Str × V) → Prop
  | [], gs => gs = []
  | (n, d) :: r, gs => ∃ v gr, gs = (n, v) :: gr ∧ Rep K F (fun _ => False) H d v ∧ RepXs K F H r gr
/-- an exception as it lies there -/
def RepX (K : PySem.W.Frag) (F : Option Addr) (H : Hp) (cls : Value) (dd : Option Addr) (x : Exn) : Prop :=
  cls = .ref (He.ga K x.cls) ∧ ((x.fs = [] ∧ dd = none) ∨ ∃ a gs, dd = some a ∧ F ≠ some a ∧ H a = some (.xd gs) ∧ RepXs K F H x.fs gs)
abbrev Post (K : PySem.W.Frag) (F : Option Addr) (M : Addr → Prop) (H : Hp) (P : D → Prop) (Q : VK) : Prop := ∀ d v H', P d → Gr K F H H' → Rep K F M H' d v → Q v H'
abbrev PostX (K : PySem.W.Frag) (F : Option Addr) (H : Hp) (X : XP) (E : XK) : Prop := ∀ x cls dd H', X x → Gr K F H H' → RepX K F H' cls dd x → E cls dd H'
def SE (K : PySem.W.Frag) (ow : List Nat) (E : L2.St → XK) (ta : TE) (fa : FE) : Prop :=
  ∀ (w : Wd) (H : Hp) (σ : L2.St) (ρ : Env) (P : D → Prop) (X : XP) (Q : VK), REnv K w ow H σ ρ → fa ρ P X → Post K w.F (w.Mx ow σ) H P Q → PostX K w.F H X (E σ) → ta σ H Q
def STt (K : PySem.W.Frag) (ow : List Nat) (E : L2.St → XK) (ta : TT) (fa : FT) : Prop :=
  ∀ (w : Wd) (H : Hp) (σ : L2.St) (ρ : Env) (P : Bool → Prop) (X : XP) (Q : Bool → Hp → Prop), REnv K w ow H σ ρ → fa ρ P X → (∀ b H', P b → Gr K w.F H H' → Q b H') → PostX K w.F H X (E σ) → ta σ H Q
def SA (K : PySem.W.Frag) (ow : List Nat) (E : L2.St → XK) (ta : TA) (fa : FA) : Prop :=
  ∀ (w : Wd) (H : Hp) (σ : L2.St) (ρ : Env) (P : List D → Prop) (X : XP) (Q : List V → Hp → Prop), REnv K w ow H σ ρ → fa ρ P X → (∀ ds vs H', P ds → Gr K w.F H H' → Reps K w.F (w.Mx ow σ) H' ds vs → Q vs H') → PostX K w.F H X (E σ) → ta σ H Q
/-- all of M and the feed is there -/
structure Lv (K : PySem.W.Frag) (F : Option Addr) (M : Addr → Prop) (H : Hp) : Prop where
  m : ∀ p, M p → ∃ o, H p = some o
  f : ∀ f, F = some f → ∃ c, FeedC K H f c ∧ ¬ M c
  nf : ∀ p, M p → F ≠ some p
section
variable {K : PySem.W.Frag} {F : Option Addr} {M : Addr → Prop} {H H' : Hp}
theorem FeedC.some {f c : Addr} (h : FeedC K H f c) : ∃ o, H f = some o := let ⟨_, _, _, _, _, _, _, G, _⟩ := h; ⟨_, G.ob⟩
theorem Lv.ok (l : Lv K F M H) {p : Addr} (n : H p = none) : Ok F M p := by
  refine ⟨fun z => ?_, fun z => ?_⟩
  · obtain ⟨c, h, _⟩ := l.f p z
    obtain ⟨o, e⟩ := h.some
    rw [n] at e; cases e
  · obtain ⟨o, e⟩ := l.m p z
    rw [n] at e; cases e
theorem Lv.gr (l : Lv K F M H) (g : Gr K F H H') : Lv K F M H' := ⟨fun p m => let ⟨o, e⟩ := l.m p m; ⟨o, g.old _ _ e (l.nf p m)⟩, fun f e => let ⟨c, h, n⟩ := l.f f e; ⟨c, g.feed f c e h, n⟩, l.nf⟩
end
section
variable {K : PySem.W.Frag} {w : Wd} {ow : List Nat} {H H' : Hp} {σ : L2.St} {ρ : Env} {E : L2.St → XK}
theorem REnv.lv (e : REnv K w ow H σ ρ) : Lv K w.F (w.Mx ow σ) H := by
  refine ⟨fun p m => ?_, e.feed, fun p m => ?_⟩
  · rcases m with m | ⟨i, hi, z⟩
    · obtain ⟨o, h⟩ := e.live p m
      exact ⟨o, e.gr.old _ _ h (e.nf p m)⟩
    · obtain ⟨p', o, d, h1, _, h3, _⟩ := e.own i hi
      rw [h1] at z; cases z
      exact ⟨o, h3⟩
  · rcases m with m | ⟨i, hi, z⟩
    · exact e.nf p m
    · obtain ⟨p', o, d, h1, _, h3, _, h5, _⟩ := e.own i hi
      rw [h1] at z; cases z
      exact h5
theorem PostX.gr {F : Option Addr} {X : XP} {E : XK} (h : PostX K F H X E) (g : Gr K F H H') : PostX K F H' X E := fun x cls dd H2 hx g2 r => h x cls dd H2 hx (g.trans g2) r
/-! ### names, constants -/
def fVar (i : Nat) : FE := fun ρ P _ => ∃ d, ρ[i]? = some (some d) ∧ P d
theorem se_var {i : Nat} (hi : i ∉ ow) : SE K ow E (tVar i) (fVar i) := by
  intro w H σ ρ P X Q e h q x
  obtain ⟨d, hd, p⟩ := h
  have := e.imm i hi
  rw [hd] at this
  cases hv : σ[i]? with
  | none => rw [hv] at this; exact this.elim
  | some o =>
    rw [hv] at this
    cases o with
    | none => exact this.elim
    | some v => exact ⟨v, hv, q d v H p .refl this⟩
def fC (d : D) : FE := fun _ P _ => P d
theorem se_int {i : Int} : SE K ow E (tC (.int i)) (fC (.int i)) := fun w H σ ρ P X Q e h q x => q _ _ _ h .refl rfl
theorem se_bl {i : Bool} : SE K ow E (tC (.bl i)) (fC (.bl i)) := fun w H σ ρ P X Q e h q x => q _ _ _ h .refl rfl
theorem se_str {i : Str} : SE K ow E (tC (.str i)) (fC (.str i)) := fun w H σ ρ P X Q e h q x => q _ _ _ h .refl rfl
theorem se_non : SE K ow E (tC .non) (fC .non) := fun w H σ ρ P X Q e h q x => q _ _ _ h .refl rfl
/-! ### operators by values -/
abbrev O2 := D → D → (D → Prop) → XP → Prop
abbrev O1 := D → (D → Prop) → XP → Prop
abbrev OL := List D → (D → Prop) → XP → Prop
def OpS (K : PySem.W.Frag) (E : XK) (r : R2) (o : O2) : Prop := ∀ (F : Option Addr) (M : Addr → Prop) (H : Hp) (x y : V) (a b : D) (P : D → Prop) (X : XP) (Q : VK), Lv K F M H → Rep K F M H a x → Rep K F M H b y → o a b P X → Post K F M H P Q → PostX K F H X E → r x y H Q
def UnS (K : PySem.W.Frag) (E : XK) (r : V → Hp → VK → Prop) (o : O1) : Prop := ∀ (F : Option Addr) (M : Addr → Prop) (H : Hp) (x : V) (a : D) (P : D → Prop) (X : XP) (Q : VK), Lv K F M H → Rep K F M H a x → o a P X → Post K F M H P Q → PostX K F H X E → r x H Q
def LsS (K : PySem.W.Frag) (E : XK) (r : List V → Hp → VK → Prop) (o : OL) : Prop := ∀ (F : Option Addr) (M : Addr → Prop) (H : Hp) (xs : List V) (as : List D) (P : D → Prop) (X : XP) (Q : VK), Lv K F M H → Reps K F M H as xs → o as P X → Post K F M H P Q → PostX K F H X E → r xs H Q
def fOp (o : O2) (fa fb : FE) : FE := fun ρ P X => fa ρ (fun a => fb ρ (fun b => o a b P X) X) X
def fUn (o : O1) (fa : FE) : FE := fun ρ P X => fa ρ (fun a => o a P X) X
def fLs (o : OL) (fa : FA) : FE := fun ρ P X => fa ρ (fun as => o as P X) X
theorem se_op {r : R2} {o : O2} {ta tb : TE} {fa fb : FE} (ho : ∀ σ, OpS K (E σ) r o) (ha : SE K ow E ta fa) (hb : SE K ow E tb fb) : SE K ow E (tOp r ta tb) (fOp o fa fb) := by
  intro w H σ ρ P X Q e h q x
  refine ha w H σ ρ _ X _ e h (fun a va H1 h1 g1 r1 => ?_) x
  refine hb w H1 σ ρ _ X _ (e.grow g1) h1 (fun b vb H2 h2 g2 r2 => ?_) (x.gr g1)
  exact ho σ _ _ H2 _ _ _ _ P X Q ((e.grow g1).grow g2).lv (Rep.goes g2.goes _ _ r1) r2 h2 (fun d v H3 hd g3 r3 => q d v H3 hd ((g1.trans g2).trans g3) r3) (x.gr (g1.trans g2))
theorem se_un {r : V → Hp → VK → Prop} {o : O1} {ta : TE} {fa : FE} (ho : ∀ σ, UnS K (E σ) r o) (ha : SE K ow E ta fa) : SE K ow E (tUn r ta) (fUn o fa) := by
  intro w H σ ρ P X Q e h q x
  refine ha w H σ ρ _ X _ e h (fun a va H1 h1 g1 r1 => ?_) x
  exact ho σ _ _ H1 _ _ P X Q (e.grow g1).lv r1 h1 (fun d v H3 hd g3 r3 => q d v H3 hd (g1.trans g3) r3) (x.gr g1)
theorem se_cb {r : List V → Hp → VK → Prop} {o : OL} {ta : TA} {fa : FA} (ho : ∀ σ, LsS K (E σ) r o) (ha : SA K ow E ta fa) : SE K ow E (tCB r ta) (fLs o fa) := by
  intro w H σ ρ P X Q e h q x
  refine ha w H σ ρ _ X _ e h (fun a va H1 h1 g1 r1 => ?_) x
  exact ho σ _ _ H1 _ _ P X Q (e.grow g1).lv r1 h1 (fun d v H3 hd g3 r3 => q d v H3 hd (g1.trans g3) r3) (x.gr g1)
/-! ### arguments -/
def fNil : FA := fun _ P _ => P []
def fCons (fa : FE) (fr : FA) : FA := fun ρ P X => fa ρ (fun a => fr ρ (fun as => P (a :: as)) X) X
theorem sa_nil : SA K ow E tNil fNil := fun w H σ ρ P X Q e h q x => q _ _ _ h .refl rfl
theorem sa_cons {ta : TE} {tr : TA} {fa : FE} {fr : FA} (ha : SE K ow E ta fa) (hr : SA K ow E tr fr) : SA K ow E (tCons ta tr) (fCons fa fr) := by
  intro w H σ ρ P X Q e h q x
  refine ha w H σ ρ _ X _ e h (fun a va H1 h1 g1 r1 => ?_) x
  refine hr w H1 σ ρ _ X _ (e.grow g1) h1 (fun b vb H2 h2 g2 r2 => ?_) (x.gr g1)
  exact q _ _ H2 h2 (g1.trans g2) (.cons (Rep.goes g2.goes _ _ r1) r2)
/-! ### truth -/
def toB (k : Bool → Prop) : D → Prop
  | .bl b => k b
  | _ => False
theorem toB_of {k : Bool → Prop} {d : D} (h : toB k d) : ∃ b, d = .bl b ∧ k b := by
  cases d with
  | bl b => exact ⟨b, rfl, h⟩
  | _ => exact h.elim
def fB (fa : FE) : FT := fun ρ P X => fa ρ (toB P) X
theorem st_b {ta : TE} {fa : FE} (ha : SE K ow E ta fa) : STt K ow E (tB ta) (fB fa) := by
  intro w H σ ρ P X Q e h q x
  refine ha w H σ ρ _ X _ e h (fun a va H1 h1 g1 r1 => ?_) x
  obtain ⟨b, rfl, p⟩ := toB_of h1
  exact ⟨b, r1, q b H1 p g1⟩
theorem st_test {ta : TE} {fa : FE} (ha : SE K ow E ta fa) : STt K ow E (tTest ta) (fB fa) := by
  intro w H σ ρ P X Q e h q x
  refine ha w H σ ρ _ X _ e h (fun a va H1 h1 g1 r1 => ?_) x
  obtain ⟨b, rfl, p⟩ := toB_of h1
  exact ⟨b, r1, q b H1 p g1⟩
def fNot (fa : FT) : FT := fun ρ P X => fa ρ (fun b => P (!b)) X
theorem st_not {ta : TT} {fa : FT} (ha : STt K ow E ta fa) : STt K ow E (tNot ta) (fNot fa) := by
  intro w H σ ρ P X Q e h q x
  exact ha w H σ ρ _ X _ e h (fun b H1 h1 g1 => q _ H1 h1 g1) x
def fAnd (fa fb : FT) : FT := fun ρ P X => fa ρ (fun c => if c = true then fb ρ P X else P false) X
theorem st_and {ta tb : TT} {fa fb : FT} (ha : STt K ow E ta fa) (hb : STt K ow E tb fb) : STt K ow E (tAnd ta tb) (fAnd fa fb) := by
  intro w H σ ρ P X Q e h q x
  refine ha w H σ ρ _ X _ e h (fun b H1 h1 g1 => ?_) x
  cases b with
  | true => exact hb w H1 σ ρ _ X _ (e.grow g1) h1 (fun b2 H2 h2 g2 => q _ H2 h2 (g1.trans g2)) (x.gr g1)
  | false => exact q _ H1 h1 g1
def fOr (fa fb : FT) : FT := fun ρ P X => fa ρ (fun c => if c = true then P true else fb ρ P X) X
theorem st_or {ta tb : TT} {fa fb : FT} (ha : STt K ow E ta fa) (hb : STt K ow E tb fb) : STt K ow E (tOr ta tb) (fOr fa fb) := by
  intro w H σ ρ P X Q e h q x
  refine ha w H σ ρ _ X _ e h (fun b H1 h1 g1 => ?_) x
  cases b with
  | false => exact hb w H1 σ ρ _ X _ (e.grow g1) h1 (fun b2 H2 h2 g2 => q _ H2 h2 (g1.trans g2)) (x.gr g1)
  | true => exact q _ H1 h1 g1
def fAndV (fa fb : FE) : FE := fun ρ P X => fa ρ (toB fun c => if c = true then fb ρ P X else P (.bl false)) X
theorem se_andV {ta tb : TE} {fa fb : FE} (ha : SE K ow E ta fa) (hb : SE K ow E tb fb) : SE K ow E (tAndV ta tb) (fAndV fa fb) := by
  intro w H σ ρ P X Q e h q x
  refine ha w H σ ρ _ X _ e h (fun a va H1 h1 g1 r1 => ?_) x
  obtain ⟨b, rfl, p⟩ := toB_of h1
  refine ⟨b, r1, ?_⟩
  cases b with
  | true => exact hb w H1 σ ρ _ X _ (e.grow g1) p (fun d v H2 h2 g2 r2 => q _ _ H2 h2 (g1.trans g2) r2) (x.gr g1)
  | false => exact q _ _ H1 p g1 rfl
def fOrV (fa fb : FE) : FE := fun ρ P X => fa ρ (toB fun c => if c = true then P (.bl true) else fb ρ P X) X
theorem se_orV {ta tb : TE} {fa fb : FE} (ha : SE K ow E ta fa) (hb : SE K ow E tb fb) : SE K ow E (tOrV ta tb) (fOrV fa fb) := by
  intro w H σ ρ P X Q e h q x
  refine ha w H σ ρ _ X _ e h (fun a va H1 h1 g1 r1 => ?_) x
  obtain ⟨b, rfl, p⟩ := toB_of h1
  refine ⟨b, r1, ?_⟩
  cases b with
  | false => exact hb w H1 σ ρ _ X _ (e.grow g1) p (fun d v H2 h2 g2 r2 => q _ _ H2 h2 (g1.trans g2) r2) (x.gr g1)
  | true => exact q _ _ H1 p g1 rfl
def fNotV (fa : FE) : FE := fun ρ P X => fa ρ (toB fun c => P (.bl (!c))) X
theorem se_notV {ta : TE} {fa : FE} (ha : SE K ow E ta fa) : SE K ow E (tNotV ta) (fNotV fa) := by
  intro w H σ ρ P X Q e h q x
  refine ha w H σ ρ _ X _ e h (fun a va H1 h1 g1 r1 => ?_) x
  obtain ⟨b, rfl, p⟩ := toB_of h1
  exact ⟨b, r1, q _ _ H1 p g1 rfl⟩
def fIf (fc : FT) (fa fb : FE) : FE := fun ρ P X => fc ρ (fun c => if c = true then fa ρ P X else fb ρ P X) X
theorem se_if {tc : TT} {ta tb : TE} {fc : FT} {fa fb : FE} (hc : STt K ow E tc fc) (ha : SE K ow E ta fa) (hb : SE K ow E tb fb) : SE K ow E (tIf tc ta tb) (fIf fc fa fb) := by
  intro w H σ ρ P X Q e h q x
  refine hc w H σ ρ _ X _ e h (fun b H1 h1 g1 => ?_) x
  cases b with
  | false => exact hb w H1 σ ρ _ X _ (e.grow g1) h1 (fun d v H2 h2 g2 r2 => q _ _ H2 h2 (g1.trans g2) r2) (x.gr g1)
  | true => exact ha w H1 σ ρ _ X _ (e.grow g1) h1 (fun d v H2 h2 g2 r2 => q _ _ H2 h2 (g1.trans g2) r2) (x.gr g1)
def truD : D → Option Bool
  | .non => some false
  | .bl b => some b
  | .int i => some (i != 0)
  | .lst ds => some !ds.isEmpty
  | .tup ds => some !ds.isEmpty
  | _ => none
theorem reps_empty {F : Option Addr} {M : Addr → Prop} : ∀ {ds : List D} {vs : List V}, Reps K F M H ds vs → vs.isEmpty = ds.isEmpty
  | [], _, h => by rw [show _ = [] from h]; rfl
  | _ :: _, _, h => by obtain ⟨v, us, rfl, _, _⟩ := h; rfl
def fTru (fa : FE) : FT := fun ρ P X => fa ρ (fun d => ∃ k, truD d = some k ∧ P k) X
theorem st_tru {ta : TE} {fa : FE} (ha : SE K ow E ta fa) : STt K ow E (tTruA K ta) (fTru fa) := by
  intro w H σ ρ P X Q e h q x
  refine ha w H σ ρ _ X _ e h (fun a va H1 h1 g1 r1 => ?_) x
  obtain ⟨k, hk, p⟩ := h1
  refine ⟨k, ?_, q k H1 p g1⟩
  cases a with
  | non => rw [show va = .non from r1]; exact (Option.some.inj hk).symm
  | bl b => rw [show va = .bl b from r1]; exact (Option.some.inj hk).symm
  | int b => rw [show va = .int b from r1]; exact (Option.some.inj hk).symm
  | lst ds =>
    obtain ⟨p', vs, rfl, ok, e1, r⟩ := r1
    cases hk
    exact .inl ⟨vs, SqL.of e1, by rw [reps_empty r]⟩
  | tup ds =>
    obtain ⟨p', vs, rfl, ok, e1, r⟩ := r1
    cases hk
    exact .inr (.inl ⟨vs, SqT.of e1, by rw [reps_empty r]⟩)
  | _ => cases hk
/-! ### displays -/
def fLst (fa : FA) : FE := fun ρ P X => fa ρ (fun ds => ds.length ≤ sizeLine ∧ P (.lst ds)) X
def fTup (fa : FA) : FE := fun ρ P X => fa ρ (fun ds => ds.length ≤ sizeLine ∧ P (.tup ds)) X
theorem rep_newL {F : Option Addr} {M : Addr → Prop} {p : Addr} {ds : List D} {vs : List V} (l : Lv K F M H) (np : H p = none) (r : Reps K F M H ds vs) : Rep K F M (upd H p (.lst vs)) (.lst ds) (.ref p) :=
  ⟨p, vs, rfl, l.ok np, upd_same, Reps.goes (Gr.new (K := K) np).goes _ _ r⟩
theorem rep_newT {F : Option Addr} {M : Addr → Prop} {p : Addr} {ds : List D} {vs : List V} (l : Lv K F M H) (np : H p = none) (r : Reps K F M H ds vs) : Rep K F M (upd H p (.tup vs)) (.tup ds) (.ref p) :=
  ⟨p, vs, rfl, l.ok np, upd_same, Reps.goes (Gr.new (K := K) np).goes _ _ r⟩
theorem se_lst {ta : TA} {fa : FA} (ha : SA K ow E ta fa) : SE K ow E (tLst ta) (fLst fa) := by
  intro w H σ ρ P X Q e h q x
  refine ha w H σ ρ _ X _ e h (fun ds vs H1 h1 g1 r1 => ⟨by rw [r1.length]; exact h1.1, fun p np => ?_⟩) x
  exact q _ _ _ h1.2 (g1.trans (.new np)) (rep_newL (e.grow g1).lv np r1)
theorem se_tup {ta : TA} {fa : FA} (ha : SA K ow E ta fa) : SE K ow E (tTup ta) (fTup fa) := by
  intro w H σ ρ P X Q e h q x
  refine ha w H σ ρ _ X _ e h (fun ds vs H1 h1 g1 r1 => ⟨by rw [r1.length]; exact h1.1, fun p np => ?_⟩) x
  exact q _ _ _ h1.2 (g1.trans (.new np)) (rep_newT (e.grow g1).lv np r1)
/-! ### calls -/
abbrev FSp := List D → (D → Prop) → XP → Prop
/-- the promise that a heapless promise means -/
def lift (K : PySem.W.Frag) (fsp : FSp) : Sp := fun vs H Q E => ∃ (F : Option Addr) (M : Addr → Prop) (ds : List D) (P : D → Prop) (X : XP), Lv K F M H ∧ Reps K F M H ds vs ∧ fsp ds P X ∧ Post K F M H P Q ∧ PostX K F H X E
def Lift (K : PySem.W.Frag) (sp : Sp) (fsp : FSp) : Prop := ∀ vs H Q E, lift K fsp vs H Q E → sp vs H Q E
theorem Lift.refl {fsp : FSp} : Lift K (lift K fsp) fsp := fun _ _ _ _ h => h
def fCall (fsp : FSp) (es : List D) (fa : FA) : FE := fun ρ P X => fa ρ (fun ds => fsp (ds ++ es) P X) X
def fCall0 (fsp : FSp) (es : List D) (fa : FA) : FE := fun ρ P X => fa ρ (fun ds => fsp (ds ++ es) P (fun _ => False)) X
/-- constants -/
def Cst : List D → List V → Prop
  | [], vs => vs = []
  | d :: ds, vs => ∃ v us, vs = v :: us ∧ (∀ (F : Option Addr) (M : Addr → Prop) (H : Hp), Rep K F M H d v) ∧ Cst ds us
theorem Cst.reps {F : Option Addr} {M : Addr → Prop} {H : Hp} : ∀ {ds : List D} {vs : List V}, Cst (K := K) ds vs → Reps K F M H ds vs
  | [], _, h => h
  | _ :: _, _, h => by obtain ⟨v, us, rfl, h1, h2⟩ := h; exact ⟨v, us, rfl, h1 F M H, Cst.reps h2⟩
theorem cst_nil : Cst (K := K) [] [] := rfl
theorem cst_int {i : Int} {ds : List D} {vs : List V} (h : Cst (K := K) ds vs) : Cst (K := K) (.int i :: ds) (.int i :: vs) := ⟨_, _, rfl, fun _ _ _ => rfl, h⟩
theorem cst_non {ds : List D} {vs : List V} (h : Cst (K := K) ds vs) : Cst (K := K) (.non :: ds) (.non :: vs) := ⟨_, _, rfl, fun _ _ _ => rfl, h⟩
theorem se_call {sp : Sp} {fsp : FSp} {dvs : List V} {es : List D} {ta : TA} {fa : FA} {E1 : XK} (L : Lift K sp fsp) (c : Cst (K := K) es dvs) (ha : SA K ow (fun _ => E1) ta fa) : SE K ow (fun _ => E1) (tCall sp dvs E1 ta) (fCall fsp es fa) := by
  intro w H σ ρ P X Q e h q x
  refine ha w H σ ρ _ X _ e h (fun ds vs H1 h1 g1 r1 => L _ _ _ _ ?_) x
  exact ⟨_, _, _, P, X, (e.grow g1).lv, r1.append c.reps, h1, fun d v H2 hd g2 r2 => q d v H2 hd (g1.trans g2) r2, x.gr g1⟩
theorem se_call0 {sp : Sp} {fsp : FSp} {dvs : List V} {es : List D} {ta : TA} {fa : FA} (L : Lift K sp fsp) (c : Cst (K := K) es dvs) (ha : SA K ow E ta fa) : SE K ow E (tCall sp dvs E0 ta) (fCall0 fsp es fa) := by
  intro w H σ ρ P X Q e h q x
  refine ha w H σ ρ _ X _ e h (fun ds vs H1 h1 g1 r1 => L _ _ _ _ ?_) x
  exact ⟨_, _, _, P, _, (e.grow g1).lv, r1.append c.reps, h1, fun d v H2 hd g2 r2 => q d v H2 hd (g1.trans g2) r2, fun x' _ _ _ z _ _ => z⟩
/-- within a try -/
theorem se_callS {sp : Sp} {fsp : FSp} {dvs : List V} {es : List D} {ta : TA} {fa : FA} (L : Lift K sp fsp) (c : Cst (K := K) es dvs) (ha : SA K ow E ta fa) : SE K ow E (tCallSD sp dvs E ta) (fCall fsp es fa) := by
  intro w H σ ρ P X Q e h q x
  refine ha w H σ ρ _ X _ e h (fun ds vs H1 h1 g1 r1 => L _ _ _ _ ?_) x
  exact ⟨_, _, _, P, X, (e.grow g1).lv, r1.append c.reps, h1, fun d v H2 hd g2 r2 => q d v H2 hd (g1.trans g2) r2, x.gr g1⟩
/-- C(..): what the class's maker promises -/
def MkL (K : PySem.W.Frag) (C : Addr) (sp : Sp) (fsp : FSp) : Prop := ∀ (F : Option Addr) (M : Addr → Prop) (H : Hp) (ds : List D) (vs : List V) (P : D → Prop) (X : XP) (Q : VK) (E : XK) (x dx : Addr), Lv K F M H → Reps K F M H ds vs → fsp ds P X → Post K F M H P Q → PostX K F H X E → H x = none → H dx = none → dx ≠ x →
  sp (.ref x :: vs) (upd (upd H dx (.own x)) x (.ins C dx [])) (fun v H2 => v = .non ∧ Q (.ref x) H2) E
theorem se_make {C : Addr} {sp : Sp} {fsp : FSp} {dvs : List V} {es : List D} {ta : TA} {fa : FA} {E1 : XK} (L : MkL K C sp fsp) (c : Cst (K := K) es dvs) (ha : SA K ow (fun _ => E1) ta fa) : SE K ow (fun _ => E1) (tMake C sp dvs E1 ta) (fCall fsp es fa) := by
  intro w H σ ρ P X Q e h q x
  refine ha w H σ ρ _ X _ e h (fun ds vs H1 h1 g1 r1 xx dx n1 n2 ne => ?_) x
  exact L _ _ H1 _ _ P X Q _ xx dx (e.grow g1).lv (r1.append c.reps) h1 (fun d v H2 hd g2 r2 => q d v H2 hd (g1.trans g2) r2) (x.gr g1) n1 n2 ne
theorem se_make0 {C : Addr} {sp : Sp} {fsp : FSp} {dvs : List V} {es : List D} {ta : TA} {fa : FA} (L : MkL K C sp fsp) (c : Cst (K := K) es dvs) (ha : SA K ow E ta fa) : SE K ow E (tMake C sp dvs E0 ta) (fCall0 fsp es fa) := by
  intro w H σ ρ P X Q e h q x
  refine ha w H σ ρ _ X _ e h (fun ds vs H1 h1 g1 r1 xx dx n1 n2 ne => ?_) x
  exact L _ _ H1 _ _ P _ Q _ xx dx (e.grow g1).lv (r1.append c.reps) h1 (fun d v H2 hd g2 r2 => q d v H2 hd (g1.trans g2) r2) (fun x' _ _ _ z _ _ => z) n1 n2 ne
theorem se_makeS {C : Addr} {sp : Sp} {fsp : FSp} {dvs : List V} {es : List D} {ta : TA} {fa : FA} (L : MkL K C sp fsp) (c : Cst (K := K) es dvs) (ha : SA K ow E ta fa) : SE K ow E (tMakeS C sp dvs E ta) (fCall fsp es fa) := by
  intro w H σ ρ P X Q e h q x
  refine ha w H σ ρ _ X _ e h (fun ds vs H1 h1 g1 r1 xx dx n1 n2 ne => ?_) x
  exact L _ _ H1 _ _ P X Q _ xx dx (e.grow g1).lv (r1.append c.reps) h1 (fun d v H2 hd g2 r2 => q d v H2 hd (g1.trans g2) r2) (x.gr g1) n1 n2 ne
/-- the datum is an instance of the class C, without an attribute m -/
def InsD (C m : Str) : D → Prop
  | .rat _ => C = "Ratio" ∧ m ≠ "top" ∧ m ≠ "bottom"
  | .poly _ => C = "Poly" ∧ m ≠ "coefficients" ∧ m ≠ "degree" ∧ m ≠ "lead"
  | .ins C' ns _ => C' = C ∧ m ∉ ns
  | _ => False
theorem lookup_notin {m : Str} : ∀ {gs : List (Str × V)}, m ∉ gs.map Prod.fst → gs.lookup m = none
  | [], _ => rfl
  | (n, v) :: gs, h => by
    simp only [List.map_cons, List.mem_cons, not_or] at h
    have hb : (m == n) = false := beq_eq_false_iff_ne.mpr h.1
    simp only [List.lookup, hb]
    exact lookup_notin h.2
theorem InsD.at {C m : Str} {F : Option Addr} {M : Addr → Prop} {d : D} {v : V} (h : InsD C m d) (r : Rep K F M H d v) : ∃ a dx fs, v = .ref a ∧ H a = some (.ins (He.ga K C) dx fs) ∧ fs.lookup m = none := by
  cases d with
  | rat q =>
    obtain ⟨rfl, n1, n2⟩ := h
    obtain ⟨p, rfl, _, dx, e⟩ := r
    exact ⟨p, dx, _, rfl, e, lookup_notin (by simp [ratF, n1, n2])⟩
  | poly cs =>
    obtain ⟨rfl, n1, n2, n3⟩ := h
    obtain ⟨p, dx, t, l, vs, rfl, _, e, _⟩ := r
    exact ⟨p, dx, _, rfl, e, lookup_notin (by simp [polyF, n1, n2, n3])⟩
  | ins C' ns ds =>
    obtain ⟨rfl, n1⟩ := h
    obtain ⟨p, dx, gs, rfl, _, e, en, _⟩ := r
    exact ⟨p, dx, _, rfl, e, lookup_notin (by rw [en]; exact n1)⟩
  | _ => exact h.elim
def fMeth (C m : Str) (fsp : FSp) (fo : FE) (fa : FA) : FE := fun ρ P X => fo ρ (fun o => InsD C m o ∧ fa ρ (fun ds => fsp (o :: ds) P X) X) X
def fMeth0 (C m : Str) (fsp : FSp) (fo : FE) (fa : FA) : FE := fun ρ P X => fo ρ (fun o => InsD C m o ∧ fa ρ (fun ds => fsp (o :: ds) P (fun _ => False)) X) X
theorem se_meth {C m : Str} {sp : Sp} {fsp : FSp} {to : TE} {ta : TA} {fo : FE} {fa : FA} {E1 : XK} (L : Lift K sp fsp) (ho : SE K ow (fun _ => E1) to fo) (ha : SA K ow (fun _ => E1) ta fa) : SE K ow (fun _ => E1) (tMeth (He.ga K C) m sp [] E1 to ta) (fMeth C m fsp fo fa) := by
  intro w H σ ρ P X Q e h q x
  refine ho w H σ ρ _ X _ e h (fun o vo H1 h1 g1 r1 => ?_) x
  obtain ⟨a, dx, fs, e1, e2, e3⟩ := h1.1.at r1
  refine ⟨a, dx, fs, e1, e2, e3, ha w H1 σ ρ _ X _ (e.grow g1) h1.2 (fun ds vs H2 h2 g2 r2 => L _ _ _ _ ?_) (x.gr g1)⟩
  refine ⟨_, _, _, P, X, ((e.grow g1).grow g2).lv, .cons (Rep.goes g2.goes _ _ r1) (by rw [List.append_nil]; exact r2), h2, fun d v H2 hd g3 r2 => q d v H2 hd ((g1.trans g2).trans g3) r2, x.gr (g1.trans g2)⟩
theorem se_meth0 {C m : Str} {sp : Sp} {fsp : FSp} {to : TE} {ta : TA} {fo : FE} {fa : FA} (L : Lift K sp fsp) (ho : SE K ow E to fo) (ha : SA K ow E ta fa) : SE K ow E (tMeth (He.ga K C) m sp [] E0 to ta) (fMeth0 C m fsp fo fa) := by
  intro w H σ ρ P X Q e h q x
  refine ho w H σ ρ _ X _ e h (fun o vo H1 h1 g1 r1 => ?_) x
  obtain ⟨a, dx, fs, e1, e2, e3⟩ := h1.1.at r1
  refine ⟨a, dx, fs, e1, e2, e3, ha w H1 σ ρ _ X _ (e.grow g1) h1.2 (fun ds vs H2 h2 g2 r2 => L _ _ _ _ ?_) (x.gr g1)⟩
  refine ⟨_, _, _, P, _, ((e.grow g1).grow g2).lv, .cons (Rep.goes g2.goes _ _ r1) (by rw [List.append_nil]; exact r2), h2, fun d v H2 hd g3 r2 => q d v H2 hd ((g1.trans g2).trans g3) r2, fun x' _ _ _ z _ _ => z⟩
/-! ### fields -/
def fldD (f : Str) : D → Option D
  | .rat q => if f = "top" then some (.int q.num) else if f = "bottom" then some (.int (q.den : Nat)) else none
  | .poly cs => if f = "coefficients" then some (.tup (cs.map D.rat)) else if f = "degree" then some (.int ((cs.length : Int) - 1)) else if f = "lead" then some (.rat (leadOf cs)) else none
  | .ins _ ns ds => (ns.zip ds).lookup f
  | _ => none
def clsD : D → Option Str
  | .rat _ => some "Ratio"
  | .poly _ => some "Poly"
  | .ins C _ _ => some C
  | _ => none
theorem zip_lookup {F : Option Addr} {M : Addr → Prop} {f : Str} {d : D} : ∀ {gs : List (Str × V)} {ds : List D}, Reps K F M H ds (gs.map Prod.snd) → ((gs.map Prod.fst).zip ds).lookup f = some d → ∃ v, gs.lookup f = some v ∧ Rep K F M H d v
  | [], _, _, h => by simp at h
  | (n, v) :: gs, [], r, h => by simp at h
  | (n, v) :: gs, e :: ds, r, h => by
    obtain ⟨u, us, e1, r1, r2⟩ := r
    simp only [List.map_cons, List.cons.injEq] at e1
    obtain ⟨rfl, rfl⟩ := e1
    simp only [List.map_cons, List.zip_cons_cons, List.lookup] at h ⊢
    split at h
    · cases h
      exact ⟨v, rfl, r1⟩
    · exact zip_lookup r2 h
/-- what is asked to read fields f of instances of C -/
structure FldOk (K : PySem.W.Frag) (C f : Str) : Prop where
  cl : Cls K (He.ga K C)
  na : NoAttr K (He.ga K C) f
theorem fld_at {C f : Str} {F : Option Addr} {M : Addr → Prop} {a d : D} {x : V} (T : FldOk K C f) (hc : clsD a = some C) (hf : fldD f a = some d) (r : Rep K F M H a x) :
    ∃ (ad : Addr) (Ca dx : Addr) (fs : List (Str × V)) (v : V), x = .ref ad ∧ H ad = some (.ins Ca dx fs) ∧ Cls K Ca ∧ NoAttr K Ca f ∧ fs.lookup f = some v ∧ Rep K F M H d v := by
  cases a with
  | rat q =>
    cases hc
    obtain ⟨p, rfl, ok, dx, e⟩ := r
    refine ⟨p, CR K, dx, ratF q, ?_⟩
    simp only [fldD] at hf
    split at hf
    · rename_i h1
      cases hf
      exact ⟨_, rfl, e, T.cl, T.na, by rw [h1]; exact ratF_top q, rfl⟩
    · split at hf
      · rename_i h1 h2
        cases hf
        exact ⟨_, rfl, e, T.cl, T.na, by rw [h2]; exact ratF_bot q, rfl⟩
      · cases hf
  | poly cs =>
    cases hc
    obtain ⟨p, dx, t, l, vs, rfl, ok, e, okt, et, rs, rl, n⟩ := r
    refine ⟨p, CP K, dx, polyF t l cs.length, ?_⟩
    have n1 : (("degree" : Str) == ("coefficients" : Str)) = false := by decide +kernel
    have n2 : (("lead" : Str) == ("coefficients" : Str)) = false := by decide +kernel
    have n3 : (("lead" : Str) == ("degree" : Str)) = false := by decide +kernel
    simp only [fldD] at hf
    split at hf
    · rename_i h1
      cases hf
      exact ⟨_, rfl, e, T.cl, T.na, by rw [h1]; simp [polyF, List.lookup], t, vs, rfl, okt, et, rs.reps⟩
    · split at hf
      · rename_i h1 h2
        cases hf
        exact ⟨_, rfl, e, T.cl, T.na, by rw [h2]; simp [polyF, List.lookup, n1], rfl⟩
      · split at hf
        · rename_i h1 h2 h3
          cases hf
          exact ⟨_, rfl, e, T.cl, T.na, by rw [h3]; simp [polyF, List.lookup, n2, n3], rl⟩
        · cases hf
  | ins C' ns ds =>
    cases hc
    obtain ⟨p, dx, gs, rfl, ok, e, en, rs⟩ := r
    subst en
    obtain ⟨v, h1, h2⟩ := zip_lookup rs hf
    exact ⟨p, _, dx, gs, v, rfl, e, T.cl, T.na, h1, h2⟩
  | _ => cases hc
def fFld (C f : Str) (fa : FE) : FE := fun ρ P X => fa ρ (fun a => clsD a = some C ∧ ∃ d, fldD f a = some d ∧ P d) X
theorem se_fld {C f : Str} {ta : TE} {fa : FE} (T : FldOk K C f) (ha : SE K ow E ta fa) : SE K ow E (tFld K ta f) (fFld C f fa) := by
  intro w H σ ρ P X Q e h q x
  refine ha w H σ ρ _ X _ e h (fun a va H1 h1 g1 r1 => ?_) x
  obtain ⟨hc, d, hd, p⟩ := h1
  obtain ⟨ad, Ca, dx, fs, v, z1, z2, z3, z4, z5, z6⟩ := fld_at T hc hd r1
  exact ⟨ad, Ca, dx, fs, v, z1, z2, z3, z4, z5, q d v H1 p g1 z6⟩
/-- all is let go for an expression whose value has no list -/
def fBor (fa : FE) : FE := fun ρ P X => fa ρ (fun d => d.noL = true ∧ P d) X
/-- the names of ow hold lists -/
theorem REnv.lists {w : Wd} {σ : L2.St} {ρ : Env} (e : REnv K w ow H σ ρ) (hl : ∀ i, i ∈ ow → ∃ ds, ρ[i]? = some (some (.lst ds))) : Lists (Mo ow σ) H := fun p ⟨i, hi, z⟩ => by
  obtain ⟨p', o, d, h1, h2, h3, h4, _⟩ := e.own i hi
  obtain ⟨ds, h5⟩ := hl i hi
  rw [h1] at z; cases z
  rw [h2] at h5; cases h5
  obtain ⟨vs, rfl, _⟩ := h4
  exact ⟨vs, h3⟩
def LstAt (ow : List Nat) (ρ : Env) : Prop := ∀ i, i ∈ ow → ∃ ds, ρ[i]? = some (some (.lst ds))
theorem se_bor {ta : TE} {fa : FE} (ha : SE K [] E ta fa) : SE K ow E ta (fun ρ P X => LstAt ow ρ ∧ fBor fa ρ P X) := by
  intro w H σ ρ P X Q e h q x
  refine ha w H σ ρ _ X _ (e.free (fun _ h => nomatch h)) h.2 (fun d v H1 h1 g1 r1 => ?_) x
  have l := (e.grow g1).lists h.1
  refine q d v H1 h1.2 g1 ?_
  have r2 := Rep.noL l d v h1.1 r1
  refine Rep.goes (fun p o h1 _ m => ⟨h1, fun z => m ?_⟩) d v r2
  exact z.elim (fun y => .inl (.inl y)) .inr
end
end MR

set_option Elab.async false
set_option linter.all false
set_option maxRecDepth 100000
set_option maxHeartbeats 4000000
set_option exponentiation.threshold 20000
/-! FL: statements without a heap -/
namespace MR
open PySem PySem.Spec PyProof.Rows L2
structure FEnds where
  nx : Env → Prop
  rt : D → Prop
  bk : Env → Prop
  ct : Env → Prop
  ex : Exn → Env → Prop
abbrev FS := FEnds → Env → Prop
structure EOk (K : PySem.W.Frag) (w : Wd) (ow' owb owx : List Nat) (E : L2.St → XK) (N : L2.Ends) (FD : FEnds) : Prop where
  nx : ∀ ρ σ H, FD.nx ρ → REnv K w ow' H σ ρ → N.nx σ H
  rt : ∀ d v H, FD.rt d → Gr K w.F w.H0 H → Rep K w.F w.M H d v → N.rt v H
  bk : ∀ ρ σ H, FD.bk ρ → REnv K w owb H σ ρ → N.bk σ H
  ct : ∀ ρ σ H, FD.ct ρ → REnv K w owb H σ ρ → N.ct σ H
  ex : ∀ x ρ σ H cls dd, FD.ex x ρ → REnv K w owx H σ ρ → RepX K w.F H cls dd x → E σ cls dd H
def SS (K : PySem.W.Frag) (ow ow' owb owx : List Nat) (E : L2.St → XK) (ts : TS) (fs : FS) : Prop :=
  ∀ (w : Wd) (H : Hp) (σ : L2.St) (ρ : Env) (N : L2.Ends) (FD : FEnds), REnv K w ow H σ ρ → fs FD ρ → EOk K w ow' owb owx E N FD → ts N σ H
section
variable {K : PySem.W.Frag} {w : Wd} {ow ow' ow1 owb owx : List Nat} {H H' : Hp} {σ : L2.St} {ρ : Env} {E : L2.St → XK} {N : L2.Ends} {FD : FEnds}
abbrev Sub (a b : List Nat) : Prop := ∀ i, i ∈ a → i ∈ b
theorem EOk.px (k : EOk K w ow' owb owx E N FD) (e : REnv K w ow H σ ρ) (hs : Sub owx ow) : PostX K w.F H (fun x => FD.ex x ρ) (E σ) := fun x cls dd H' hx g r => k.ex x ρ σ H' cls dd hx ((e.grow g).free hs) r
def fNext : FS := fun FD ρ => FD.nx ρ
theorem ss_next (hs : Sub ow' ow) : SS K ow ow' owb owx E tNext fNext := fun w H σ ρ N FD e h k => k.nx ρ σ H h (e.free hs)
def fSeq (f g : FS) : FS := fun FD ρ => f { FD with nx := g FD } ρ
theorem ss_seq {t u : TS} {f g : FS} (h1 : SS K ow ow1 owb owx E t f) (h2 : SS K ow1 ow' owb owx E u g) : SS K ow ow' owb owx E (tSeq t u) (fSeq f g) :=
  fun w H σ ρ N FD e h k => h1 w H σ ρ _ _ e h ⟨fun ρ' σ' H' h' e' => h2 w H' σ' ρ' N FD e' h' k, k.rt, k.bk, k.ct, k.ex⟩
theorem ss_free {t : TS} {f : FS} (hs : Sub ow1 ow) (h : SS K ow1 ow' owb owx E t f) : SS K ow ow' owb owx E t f := fun w H σ ρ N FD e q k => h w H σ ρ N FD (e.free hs) q k
/-! ### a store into a name -/
theorem set_get {α : Type} {l : List α} {i j : Nat} {x : α} : (l.set i x)[j]? = if i = j then (if j < l.length then some x else none) else l[j]? := by
  rw [List.getElem?_set]
  split
  · rename_i h; subst h; rfl
  · rfl
theorem mo_set {i : Nat} {x : Option V} (hi : i ∉ ow) (p : Addr) : Mo ow (σ.set i x) p ↔ Mo ow σ p := by
  have : ∀ j, j ∈ ow → (σ.set i x)[j]? = σ[j]? := fun j hj => by
    rw [set_get, if_neg (fun z => hi (by rw [z]; exact hj))]
  exact ⟨fun ⟨j, hj, z⟩ => ⟨j, hj, by rw [← this j hj]; exact z⟩, fun ⟨j, hj, z⟩ => ⟨j, hj, by rw [this j hj]; exact z⟩⟩
theorem Sl.len {R : D → V → Prop} {i : Nat} (h : Sl R ρ[i]? σ[i]?) : i < ρ.length ↔ i < σ.length := by
  cases h1 : ρ[i]? with
  | none =>
    cases h2 : σ[i]? with
    | none =>
      have := List.getElem?_eq_none_iff.mp h1
      have := List.getElem?_eq_none_iff.mp h2
      omega
    | some b => rw [h1, h2] at h; exact h.elim
  | some a =>
    cases h2 : σ[i]? with
    | none => rw [h1, h2] at h; cases a <;> exact h.elim
    | some b =>
      have := (List.getElem?_eq_some_iff.mp h1).1
      have := (List.getElem?_eq_some_iff.mp h2).1
      omega
theorem REnv.put {i : Nat} {d : D} {v : V} (e : REnv K w ow H σ ρ) (hi : i ∉ ow) (r : Rep K w.F (w.Mx ow σ) H d v) : REnv K w ow H (σ.set i (some v)) (ρ.set i (some d)) := by
  have mm : ∀ p, w.Mx ow (σ.set i (some v)) p ↔ w.Mx ow σ p := fun p => or_congr .rfl (mo_set hi p)
  have go : Goes w.F (w.Mx ow σ) H (w.Mx ow (σ.set i (some v))) H := fun p o h _ m => ⟨h, fun z => m ((mm p).mp z)⟩
  have same : ∀ j, j ∈ ow → (σ.set i (some v))[j]? = σ[j]? ∧ (ρ.set i (some d))[j]? = ρ[j]? := fun j hj => by
    have : i ≠ j := fun z => hi (by rw [z]; exact hj)
    rw [set_get, set_get, if_neg this, if_neg this]
    exact ⟨rfl, rfl⟩
  refine ⟨e.gr, e.live, e.nf, fun j hj => ?_, fun j hj => ?_, fun j hj k hk n p => ?_, fun f hf => ?_⟩
  · rw [set_get, set_get]
    have z := e.imm j hj
    split
    · rename_i h
      have hl := z.len
      by_cases hlt : j < ρ.length
      · rw [if_pos hlt, if_pos (hl.mp hlt)]
        exact Rep.goes go d v r
      · rw [if_neg hlt, if_neg (fun y => hlt (hl.mpr y))]
        trivial
    · exact z.mono fun d' v' => Rep.goes go d' v'
  · obtain ⟨p, o, d', h1, h2, h3, h4, h5⟩ := e.own j hj
    exact ⟨p, o, d', by rw [(same j hj).1]; exact h1, by rw [(same j hj).2]; exact h2, h3, h4.goes go, h5⟩
  · rw [(same j hj).1, (same k hk).1]
    exact e.inj j hj k hk n p
  · obtain ⟨c, h1, h2⟩ := e.feed f hf
    exact ⟨c, h1, fun z => h2 ((mm c).mp z)⟩
/-- a new object is taken by the name i -/
theorem REnv.take {i : Nat} {d : D} {p : Addr} {o : HO} (e : REnv K w ow H σ ρ) (hi : i ∉ ow) (hl : i < σ.length) (np : H p = none) (g : Gr K w.F H H') (ho : H' p = some o) (r : RepO K w.F (fun q => w.Mx ow σ q ∨ q = p) H' d o) : REnv K w (i :: ow) H' (σ.set i (some (.ref p))) (ρ.set i (some d)) := by
  have ok := e.lv.ok np
  have n0 : w.H0 p = none := by
    cases z : w.H0 p with
    | none => rfl
    | some o' => rw [e.gr.old _ _ z ok.1] at np; cases np
  have mm : ∀ q, w.Mx (i :: ow) (σ.set i (some (.ref p))) q → w.Mx ow σ q ∨ q = p := fun q h => by
    rcases h with h | ⟨j, hj, z⟩
    · exact .inl (.inl h)
    · rw [set_get] at z
      by_cases hij : i = j
      · rw [if_pos hij, if_pos (by rw [← hij]; exact hl)] at z
        cases z; exact .inr rfl
      · rw [if_neg hij] at z
        exact .inl (.inr ⟨j, (List.mem_cons.mp hj).elim (fun y => absurd y.symm hij) id, z⟩)
  have e' := e.grow g
  have dif : ∀ q u, H q = some u → q ≠ p := fun q u h z => by rw [z, np] at h; cases h
  have go : Goes w.F (w.Mx ow σ) H (w.Mx (i :: ow) (σ.set i (some (.ref p)))) H' := fun q u h nf m => ⟨g.old _ _ h nf, fun z => (mm q z).elim m (dif q u h)⟩
  refine ⟨e'.gr, e.live, e.nf, fun j hj => ?_, fun j hj => ?_, fun j hj k hk n q => ?_, fun f hf => ?_⟩
  · have hij : i ≠ j := fun z => hj (by rw [z]; exact List.mem_cons_self)
    rw [set_get, set_get, if_neg hij, if_neg hij]
    exact (e.imm j fun z => hj (List.mem_cons_of_mem _ z)).mono fun d' v' => Rep.goes go d' v'
  · by_cases hij : i = j
    · subst hij
      have hlr : i < ρ.length := (e.imm i hi).len.mpr hl
      refine ⟨p, o, d, by rw [set_get, if_pos rfl, if_pos hl], by rw [set_get, if_pos rfl, if_pos hlr], ho, ?_, ok.1, n0⟩
      exact r.goes fun q u hq nf m => ⟨hq, fun z => m (mm q z)⟩
    · have hj' : j ∈ ow := (List.mem_cons.mp hj).elim (fun y => absurd y.symm hij) id
      obtain ⟨p', o', d', h1, h2, h3, h4, h5⟩ := e.own j hj'
      exact ⟨p', o', d', by rw [set_get, if_neg hij]; exact h1, by rw [set_get, if_neg hij]; exact h2, g.old _ _ h3 h5.1, h4.goes go, h5⟩
  · have at_ : ∀ k, k ∈ i :: ow → i ≠ k → k ∈ ow ∧ (σ.set i (some (.ref p)))[k]? = σ[k]? := fun k hk n => ⟨(List.mem_cons.mp hk).elim (fun y => absurd y.symm n) id, by rw [set_get, if_neg n]⟩
    have me : (σ.set i (some (V.ref p)))[i]? = some (some (.ref p)) := by rw [set_get, if_pos rfl, if_pos hl]
    have ne : ∀ k, k ∈ ow → σ[k]? ≠ some (some (.ref p)) := fun k hk z => by
      obtain ⟨p', o', d', h1, h2, h3, _⟩ := e.own k hk
      rw [h1] at z; cases z
      rw [np] at h3; cases h3
    by_cases hj' : i = j
    · subst hj'
      obtain ⟨k1, k2⟩ := at_ k hk n
      rw [me, k2]
      intro z; cases z
      exact ne k k1
    · obtain ⟨j1, j2⟩ := at_ j hj hj'
      by_cases hk' : i = k
      · subst hk'
        rw [me, j2]
        intro z y; cases y
        exact ne j j1 z
      · obtain ⟨k1, k2⟩ := at_ k hk hk'
        rw [j2, k2]
        exact e.inj j j1 k k1 n q
  · obtain ⟨c, h1, h2⟩ := e.feed f hf
    refine ⟨c, g.feed f c hf h1, fun z => (mm c z).elim h2 fun y => ?_⟩
    subst y
    obtain ⟨ns, a1, a2, a3, a4, a5, o', G, z'⟩ := h1
    rw [np] at z'; cases z'
/-- an owned object is changed -/
theorem REnv.chg {i : Nat} {d : D} {p : Addr} {o : HO} (e : REnv K w ow H σ ρ) (hi : i ∈ ow) (hp : σ[i]? = some (some (.ref p))) (r : RepO K w.F (w.Mx ow σ) H d o) : REnv K w ow (upd H p o) σ (ρ.set i (some d)) := by
  obtain ⟨p', o', d', h1, h2, h3, h4, h5, h6⟩ := e.own i hi
  have pe : p' = p := by
    rw [h1] at hp
    cases hp; rfl
  subst pe
  have mp : w.Mx ow σ p' := .inr ⟨i, hi, h1⟩
  have go : Goes w.F (w.Mx ow σ) H (w.Mx ow σ) (upd H p' o) := fun q u h nf m => ⟨by rw [upd_ne (fun z => m (by rw [z]; exact mp))]; exact h, m⟩
  have hlr : i < ρ.length := (List.getElem?_eq_some_iff.mp h2).1
  have fd : ∀ f, w.F = some f → p' ≠ f := fun f hf z => h5 (by rw [hf, z])
  refine ⟨⟨fun b u h n => ?_, fun f c hf h => ?_⟩, e.live, e.nf, fun j hj => ?_, fun j hj => ?_, e.inj, fun f hf => ?_⟩
  · rw [upd_ne (fun z => by rw [z, h6] at h; cases h)]
    exact e.gr.old b u h n
  · obtain ⟨c', k1, k2⟩ := e.feed f hf
    have k3 := e.gr.feed f c hf h
    have : c' = c := by
      obtain ⟨_, _, _, _, _, _, _, G, _⟩ := k1
      obtain ⟨_, _, _, _, _, _, _, G', _⟩ := k3
      have z := G.ob.symm.trans G'.ob
      simp only [Option.some.injEq, HO.lst.injEq, List.cons.injEq, V.ref.injEq] at z
      exact z.1
    subst this
    exact k3.keep (fd f hf) fun z => k2 (by rw [← z]; exact mp)
  · have hij : i ≠ j := fun z => hj (by rw [← z]; exact hi)
    rw [set_get, if_neg hij]
    exact (e.imm j hj).mono fun d' v' => Rep.goes go d' v'
  · by_cases hij : i = j
    · subst hij
      exact ⟨p', o, d, h1, by rw [set_get, if_pos rfl, if_pos hlr], upd_same, r.goes go, h5, h6⟩
    · obtain ⟨q, u, d2, k1, k2, k3, k4, k5⟩ := e.own j hj
      refine ⟨q, u, d2, k1, by rw [set_get, if_neg hij]; exact k2, ?_, k4.goes go, k5⟩
      rw [upd_ne (fun z => e.inj i hi j hj hij p' h1 (by rw [k1, z]))]
      exact k3
  · obtain ⟨c, k1, k2⟩ := e.feed f hf
    exact ⟨c, k1.keep (fd f hf) fun z => k2 (by rw [← z]; exact mp), k2⟩
/-! ### a new base -/
open Classical in
noncomputable def Wd.re (w : Wd) (M : Addr → Prop) (H : Hp) : Wd := { w with H0 := fun p => if M p then none else H p }
theorem feed_inj {f c c' : Addr} (k1 : FeedC K H f c') (k3 : FeedC K H f c) : c' = c := by
  obtain ⟨_, _, _, _, _, _, _, G, _⟩ := k1
  obtain ⟨_, _, _, _, _, _, _, G', _⟩ := k3
  have z := G.ob.symm.trans G'.ob
  simp only [Option.some.injEq, HO.lst.injEq, List.cons.injEq, V.ref.injEq] at z
  exact z.1
theorem re_in {M : Addr → Prop} {p : Addr} (h : M p) : (w.re M H).H0 p = none := if_pos h
theorem re_out {M : Addr → Prop} {p : Addr} (h : ¬ M p) : (w.re M H).H0 p = H p := if_neg h
theorem REnv.nM (e : REnv K w ow H σ ρ) {p : Addr} {o : HO} (h : w.H0 p = some o) : ¬ Mo ow σ p := fun ⟨i, hi, z⟩ => by
  obtain ⟨p', o', d', h1, _, _, _, _, h6⟩ := e.own i hi
  rw [h1] at z; cases z
  rw [h6] at h; cases h
theorem FeedC.re {M : Addr → Prop} {f c : Addr} (h : FeedC K H f c) (h1 : ¬ M f) (h2 : ¬ M c) : FeedC K (w.re M H).H0 f c := by
  obtain ⟨ns, a1, a2, a3, a4, a5, o', G, e⟩ := h
  refine ⟨ns, a1, a2, a3, a4, a5, o', ⟨by rw [re_out h1]; exact G.ob, ?_, G.ne, G.nn, G.p0, G.b0, G.l0, G.n0, G.s0⟩, by rw [re_out h2]; exact e⟩
  rcases G.cs with (h | ⟨o, h⟩) | h
  · exact .inl (.inl (by rw [re_out h2]; exact h))
  · exact .inl (.inr ⟨o, by rw [re_out h2]; exact h⟩)
  · exact .inr h
theorem REnv.re (e : REnv K w ow H σ ρ) : REnv K (w.re (Mo ow σ) H) ow H σ ρ := by
  refine ⟨⟨fun b o h n => ?_, fun f c hf h => ?_⟩, fun p m => ?_, e.nf, e.imm, fun i hi => ?_, e.inj, e.feed⟩
  · by_cases hm : Mo ow σ b
    · rw [re_in hm] at h; cases h
    · rw [re_out hm] at h; exact h
  · obtain ⟨ns, a1, a2, a3, a4, a5, o', G, e'⟩ := h
    have out : ∀ {b : Addr} {u : HO}, (w.re (Mo ow σ) H).H0 b = some u → H b = some u := fun {b u} h => by
      by_cases hm : Mo ow σ b
      · rw [re_in hm] at h; cases h
      · rw [re_out hm] at h; exact h
    refine ⟨ns, a1, a2, a3, a4, a5, o', ⟨out G.ob, ?_, G.ne, G.nn, G.p0, G.b0, G.l0, G.n0, G.s0⟩, out e'⟩
    rcases G.cs with (h | ⟨o, h⟩) | h
    · exact .inl (.inl (out h))
    · exact .inl (.inr ⟨o, out h⟩)
    · exact .inr h
  · obtain ⟨o, h⟩ := e.live p m
    rw [re_out (e.nM h)]
    exact ⟨o, e.gr.old _ _ h (e.nf p m)⟩
  · obtain ⟨p, o, d, h1, h2, h3, h4, h5, h6⟩ := e.own i hi
    exact ⟨p, o, d, h1, h2, h3, h4, h5, re_in ⟨i, hi, h1⟩⟩
theorem gr_re (e : REnv K w ow H σ ρ) : Gr K w.F w.H0 (w.re (Mo ow σ) H).H0 := by
  refine ⟨fun b o h n => ?_, fun f c hf h => ?_⟩
  · rw [re_out (e.nM h)]
    exact e.gr.old b o h n
  · have k := e.gr.feed f c hf h
    obtain ⟨c', k1, k2⟩ := e.feed f hf
    have := feed_inj k1 k
    subst this
    refine k.re (fun ⟨i, hi, z⟩ => ?_) fun z => k2 (.inr z)
    obtain ⟨p', o', d', h1, _, _, _, h5, _⟩ := e.own i hi
    rw [h1] at z; cases z
    exact h5 hf
theorem REnv.un {H2 : Hp} {σ2 : L2.St} {ρ2 : Env} {ow2 : List Nat} (e : REnv K w ow H σ ρ) (e2 : REnv K (w.re (Mo ow σ) H) ow2 H2 σ2 ρ2) : REnv K w ow2 H2 σ2 ρ2 := by
  refine ⟨(gr_re e).trans e2.gr, e.live, e.nf, e2.imm, fun i hi => ?_, e2.inj, e2.feed⟩
  obtain ⟨p, o, d, h1, h2, h3, h4, h5, h6⟩ := e2.own i hi
  refine ⟨p, o, d, h1, h2, h3, h4, h5, ?_⟩
  cases z : w.H0 p with
  | none => rfl
  | some o' =>
    rw [(gr_re e).old p o' z h5] at h6
    cases h6
/-- what stood apart from the owned still stands -/
theorem REnv.goes {H2 : Hp} {σ2 : L2.St} {ρ2 : Env} {ow2 : List Nat} (e2 : REnv K (w.re (Mo ow σ) H) ow2 H2 σ2 ρ2) : Goes w.F (w.Mx ow σ) H (w.Mx ow2 σ2) H2 := by
  intro p o h nf m
  have n : ¬ Mo ow σ p := fun z => m (.inr z)
  have h0 : (w.re (Mo ow σ) H).H0 p = some o := by rw [re_out n]; exact h
  refine ⟨e2.gr.old p o h0 nf, fun z => ?_⟩
  rcases z with z | z
  · exact m (.inl z)
  · exact e2.nM h0 z
end
end MR

set_option Elab.async false
set_option linter.all false
set_option maxRecDepth 100000
set_option maxHeartbeats 4000000
set_option exponentiation.threshold 20000
/-! FL: statements and loops without a heap -/
namespace MR
open PySem PySem.Spec PyProof.Rows L2
/-- an expression that makes a new object -/
def SF (K : PySem.W.Frag) (ow : List Nat) (E : L2.St → XK) (ta : TE) (fa : FE) : Prop :=
  ∀ (w : Wd) (H : Hp) (σ : L2.St) (ρ : Env) (P : D → Prop) (X : XP) (Q : VK), REnv K w ow H σ ρ → fa ρ P X →
    (∀ d p o H', P d → Gr K w.F H H' → H p = none → H' p = some o → RepO K w.F (fun q => w.Mx ow σ q ∨ q = p) H' d o → Q (.ref p) H') → PostX K w.F H X (E σ) → ta σ H Q
section
variable {K : PySem.W.Frag} {w : Wd} {ow ow' ow1 owb owx : List Nat} {H H' : Hp} {σ : L2.St} {ρ : Env} {E : L2.St → XK} {N : L2.Ends} {FD : FEnds}
theorem RepO.rep {F : Option Addr} {M : Addr → Prop} {d : D} {o : HO} {p : Addr} (r : RepO K F M H d o) (ok : Ok F M p) (h : H p = some o) : Rep K F M H d (.ref p) := by
  cases d with
  | lst ds => obtain ⟨vs, rfl, r⟩ := r; exact ⟨p, vs, rfl, ok, h, r⟩
  | ins C ns ds => obtain ⟨dx, gs, rfl, en, r⟩ := r; exact ⟨p, dx, gs, rfl, ok, h, en, r⟩
  | _ => exact r.elim
theorem SF.se {ta : TE} {fa : FE} (h : SF K ow E ta fa) : SE K ow E ta fa := by
  intro w H σ ρ P X Q e hf q x
  refine h w H σ ρ P X Q e hf (fun d p o H' hd g np ho r => q d _ H' hd g ?_) x
  have r2 : RepO K w.F (w.Mx ow σ) H' d o := r.goes fun a u h _ m => ⟨h, fun z => m (.inl z)⟩
  exact r2.rep (e.lv.ok np) ho
theorem sf_lst {ta : TA} {fa : FA} (ha : SA K ow E ta fa) : SF K ow E (tLst ta) (fLst fa) := by
  intro w H σ ρ P X Q e h q x
  refine ha w H σ ρ _ X _ e h (fun ds vs H1 h1 g1 r1 => ⟨by rw [r1.length]; exact h1.1, fun p np => ?_⟩) x
  have n0 : H p = none := by
    cases z : H p with
    | none => rfl
    | some o => rw [g1.old p o z ((e.grow g1).lv.ok np).1] at np; cases np
  refine q _ p _ _ h1.2 (g1.trans (.new np)) n0 upd_same ⟨vs, rfl, Reps.goes (fun a u h nf m => ?_) _ _ r1⟩
  have ne : a ≠ p := fun z => by rw [z, np] at h; cases h
  exact ⟨by rw [upd_ne ne]; exact h, fun z => z.elim m ne⟩
/-! ### stores -/
def fSet (i : Nat) (fe : FE) : FS := fun FD ρ => fe ρ (fun d => FD.nx (ρ.set i (some d))) (fun x => FD.ex x ρ)
theorem ss_set {i : Nat} {te : TE} {fe : FE} (hi : i ∉ ow) (hs : Sub owx ow) (he : SE K ow E te fe) : SS K ow ow owb owx E (tAsg te (gName i)) (fSet i fe) := by
  intro w H σ ρ N FD e h k
  exact he w H σ ρ _ _ _ e h (fun d v H' hd g r => k.nx _ _ _ hd ((e.grow g).put hi r)) (k.px e hs)
/-- the name i takes a new object -/
theorem ss_own {i : Nat} {te : TE} {fe : FE} (hi : i ∉ ow) (hs : Sub owx ow) (he : SF K ow E te fe) : SS K ow (i :: ow) owb owx E (tAsg te (gName i)) (fun FD ρ => i < ρ.length ∧ fSet i fe FD ρ) := by
  intro w H σ ρ N FD e h k
  have hl : i < σ.length := (e.imm i hi).len.mp h.1
  exact he w H σ ρ _ _ _ e h.2 (fun d p o H' hd g np ho r => k.nx _ _ _ hd (e.take hi hl np g ho r)) (k.px e hs)
def fPar (i j : Nat) (fa : FA) : FS := fun FD ρ => fa ρ (fun ds => ∃ a b, ds = [a, b] ∧ FD.nx ((ρ.set i (some a)).set j (some b))) (fun x => FD.ex x ρ)
theorem ss_par {i j : Nat} {ta : TA} {fa : FA} (hi : i ∉ ow) (hj : j ∉ ow) (hs : Sub owx ow) (ha : SA K ow E ta fa) : SS K ow ow owb owx E (tPar i j ta) (fPar i j fa) := by
  intro w H σ ρ N FD e h k
  refine ha w H σ ρ _ _ _ e h (fun ds vs H' hd g r => ?_) (k.px e hs)
  obtain ⟨a, b, rfl, q⟩ := hd
  obtain ⟨va, us, rfl, r1, r2⟩ := r
  obtain ⟨vb, us, rfl, r2, r3⟩ := r2
  rw [show us = [] from r3]
  have e1 := (e.grow g).put hi r1
  refine ⟨va, vb, rfl, k.nx _ _ _ q (e1.put hj (Rep.goes (fun p o h _ m => ⟨h, fun z => m ?_⟩) _ _ r2))⟩
  exact z.elim .inl fun y => .inr ((mo_set hi p).mp y)
def fRet (fe : FE) : FS := fun FD ρ => fe ρ FD.rt (fun x => FD.ex x ρ)
theorem ss_ret {te : TE} {fe : FE} (hs : Sub owx ow) (he : SE K [] E te fe) : SS K ow ow' owb owx E (tRet te) (fRet fe) := by
  intro w H σ ρ N FD e h k
  refine he w H σ ρ _ _ _ (e.free (fun _ z => nomatch z)) h (fun d v H' hd g r => k.rt d v H' hd (e.gr.trans g) ?_) (k.px e hs)
  exact Rep.goes (fun p o h _ m => ⟨h, fun z => m (.inl z)⟩) _ _ r
def fRetN : FS := fun FD _ => FD.rt .non
theorem ss_retN : SS K ow ow' owb owx E tRetN fRetN := fun w H σ ρ N FD e h k => k.rt _ _ _ h e.gr rfl
def fDrop (fe : FE) : FS := fun FD ρ => fe ρ (fun _ => FD.nx ρ) (fun x => FD.ex x ρ)
theorem ss_drop {te : TE} {fe : FE} (hs : Sub owx ow) (he : SE K ow E te fe) : SS K ow ow owb owx E (tDrop te) (fDrop fe) := by
  intro w H σ ρ N FD e h k
  exact he w H σ ρ _ _ _ e h (fun d v H' hd g r => k.nx _ _ _ hd (e.grow g)) (k.px e hs)
def fIfS (fc : FT) (f g : FS) : FS := fun FD ρ => fc ρ (fun b => if b = true then f FD ρ else g FD ρ) (fun x => FD.ex x ρ)
theorem ss_if {tc : TT} {t u : TS} {fc : FT} {f g : FS} (hs : Sub owx ow) (hc : STt K ow E tc fc) (h1 : SS K ow ow' owb owx E t f) (h2 : SS K ow ow' owb owx E u g) : SS K ow ow' owb owx E (tIfS tc t u) (fIfS fc f g) := by
  intro w H σ ρ N FD e h k
  refine hc w H σ ρ _ _ _ e h (fun b H' hb g => ?_) (k.px e hs)
  cases b with
  | true => exact h1 w H' σ ρ N FD (e.grow g) hb k
  | false => exact h2 w H' σ ρ N FD (e.grow g) hb k
def fBrk : FS := fun FD ρ => FD.bk ρ
def fCnt : FS := fun FD ρ => FD.ct ρ
theorem ss_brk (hs : Sub owb ow) : SS K ow ow' owb owx E tBreak fBrk := fun w H σ ρ N FD e h k => k.bk ρ σ H h (e.free hs)
theorem ss_cnt (hs : Sub owb ow) : SS K ow ow' owb owx E tCont fCnt := fun w H σ ρ N FD e h k => k.ct ρ σ H h (e.free hs)
def fNev : FS := fun _ _ => False
theorem ss_nev : SS K ow ow' owb owx E tNever fNev := fun w H σ ρ N FD e h k => h.elim
/-! ### owned lists -/
theorem REnv.lstAt {i : Nat} {ds : List D} (e : REnv K w ow H σ ρ) (hi : i ∈ ow) (hd : ρ[i]? = some (some (.lst ds))) : ∃ p vs, σ[i]? = some (some (.ref p)) ∧ H p = some (.lst vs) ∧ Reps K w.F (w.Mx ow σ) H ds vs := by
  obtain ⟨p, o, d, h1, h2, h3, h4, h5, h6⟩ := e.own i hi
  rw [h2] at hd; cases hd
  obtain ⟨vs, rfl, r⟩ := h4
  exact ⟨p, vs, h1, h3, r⟩
def fApp (i : Nat) (fe : FE) : FS := fun FD ρ => ∃ ds, ρ[i]? = some (some (.lst ds)) ∧ fe ρ (fun d => ds.length < sizeLine ∧ FD.nx (ρ.set i (some (.lst (ds ++ [d]))))) (fun x => FD.ex x ρ)
theorem ss_app {i : Nat} {te : TE} {fe : FE} (hi : i ∈ ow) (hs : Sub owx ow) (he : SE K ow E te fe) : SS K ow ow owb owx E (tDrop (tBM K "list" rAppend (tVar i) (tCons te tNil))) (fApp i fe) := by
  intro w H σ ρ N FD e h k
  obtain ⟨ds, hd, h⟩ := h
  obtain ⟨p, vs, h1, h2, h3⟩ := e.lstAt hi hd
  refine ⟨_, h1, .inl ⟨rfl, _, SqL.of h2⟩, ?_⟩
  refine he w H σ ρ _ _ _ e h (fun d v H' hd' g r => ?_) (k.px e hs)
  have e' := e.grow g
  obtain ⟨p', vs', k1, k2, k3⟩ := e'.lstAt hi hd
  rw [h1] at k1; cases k1
  refine ⟨p, vs', v, rfl, rfl, k2, by rw [k3.length]; exact hd'.1, k.nx _ _ _ hd'.2 (e'.chg hi h1 ⟨_, rfl, k3.append (.one r)⟩)⟩
/-- x.extend(e) -/
def fExt (i : Nat) (fe : FE) : FS := fun FD ρ => ∃ ds, ρ[i]? = some (some (.lst ds)) ∧ fe ρ (fun d => ∃ es, d = .lst es ∧ ds.length + es.length ≤ sizeLine ∧ FD.nx (ρ.set i (some (.lst (ds ++ es))))) (fun x => FD.ex x ρ)
theorem ss_ext {i : Nat} {te : TE} {fe : FE} (hi : i ∈ ow) (hs : Sub owx ow) (he : SE K ow E te fe) : SS K ow ow owb owx E (tDrop (tBM K "list" rExtend (tVar i) (tCons te tNil))) (fExt i fe) := by
  intro w H σ ρ N FD e h k
  obtain ⟨ds, hd, h⟩ := h
  obtain ⟨p, vs, h1, h2, h3⟩ := e.lstAt hi hd
  refine ⟨_, h1, .inl ⟨rfl, _, SqL.of h2⟩, ?_⟩
  refine he w H σ ρ _ _ _ e h (fun d v H' hd' g r => ?_) (k.px e hs)
  have e' := e.grow g
  obtain ⟨p', vs', k1, k2, k3⟩ := e'.lstAt hi hd
  rw [h1] at k1; cases k1
  obtain ⟨es, rfl, hl, nx⟩ := hd'
  obtain ⟨b, us, rfl, _, hb, rb⟩ := r
  refine ⟨p, b, vs', us, rfl, rfl, k2, hb, by rw [k3.length, rb.length]; exact hl, k.nx _ _ _ nx (e'.chg hi h1 ⟨_, rfl, k3.append rb⟩)⟩
/-- x[j] = e -/
def fSetI (i : Nat) (fe fj : FE) : FS := fun FD ρ => fe ρ (fun d => fj ρ (fun j => ∃ ds n m, ρ[i]? = some (some (.lst ds)) ∧ j = .int n ∧ ixN ds.length n = some m ∧ FD.nx (ρ.set i (some (.lst (ds.set m d))))) (fun x => FD.ex x ρ)) (fun x => FD.ex x ρ)
theorem ss_setI {i : Nat} {te tj : TE} {fe fj : FE} (hi : i ∈ ow) (hs : Sub owx ow) (he : SE K ow E te fe) (hj : SE K ow E tj fj) : SS K ow ow owb owx E (tAsg te (gSub (tVar i) tj rSetL)) (fSetI i fe fj) := by
  intro w H σ ρ N FD e h k
  refine he w H σ ρ _ _ _ e h (fun d v H' hd g r => ?_) (k.px e hs)
  have e' := e.grow g
  obtain ⟨p, o, d0, z1, _⟩ := e'.own i hi
  refine ⟨_, z1, ?_⟩
  refine hj w H' σ ρ _ _ _ e' hd (fun dj vj H2 hd2 g2 r2 => ?_) (k.px e' hs)
  have e2 := e'.grow g2
  obtain ⟨ds, n, m, hds, rfl, hm, nx⟩ := hd2
  obtain ⟨p', vs', k1, k2, k3⟩ := e2.lstAt hi hds
  rw [z1] at k1; cases k1
  refine ⟨p, vs', n, m, rfl, r2, k2, by rw [k3.length]; exact hm, k.nx _ _ _ nx (e2.chg hi z1 ⟨_, rfl, k3.set (Rep.goes g2.goes _ _ r)⟩)⟩
/-- x[j], x owned -/
def oIx : O2 := fun a b P _ => ∃ ds n d, (a = .lst ds ∨ a = .tup ds) ∧ b = .int n ∧ atI ds n = some d ∧ P d
theorem reps_at {F : Option Addr} {M : Addr → Prop} {ds : List D} {vs : List V} {n : Int} {d : D} (r : Reps K F M H ds vs) (h : atI ds n = some d) : ∃ v, atI vs n = some v ∧ Rep K F M H d v := by
  unfold atI at h ⊢
  rw [r.length]
  cases z : ixN ds.length n with
  | none => rw [z] at h; cases h
  | some j =>
    rw [z] at h
    exact r.get h
theorem se_ixO {i : Nat} {tj : TE} {fj : FE} (hi : i ∈ ow) (hj : SE K ow E tj fj) : SE K ow E (tOp (rIxL K) (tVar i) tj) (fOp oIx (fVar i) fj) := by
  intro w H σ ρ P X Q e h q x
  obtain ⟨d, hd, h⟩ := h
  obtain ⟨p, o, d0, z1, z2, z3, z4, _⟩ := e.own i hi
  refine ⟨_, z1, hj w H σ ρ _ _ _ e h (fun dj vj H' hd' g r => ?_) x⟩
  have e' := e.grow g
  obtain ⟨ds, n, dr, hl, rfl, ha, hp⟩ := hd'
  rw [z2] at hd; cases hd
  rcases hl with rfl | rfl
  · obtain ⟨p', vs', k1, k2, k3⟩ := e'.lstAt hi z2
    rw [z1] at k1; cases k1
    obtain ⟨v, a1, a2⟩ := reps_at k3 ha
    exact ⟨p, vs', n, v, rfl, r, SqL.of k2, a1, q dr v H' hp g a2⟩
  · exact z4.elim
/-! ### for -/
abbrev FI := Env → (List D → Prop) → XP → Prop
abbrev FG := D → Env → (Env → Prop) → Prop
/-- the iterator yields the data ds, as long as what was usable at the start stands -/
def ItOk (K : PySem.W.Frag) (F : Option Addr) (M : Addr → Prop) (H1 : Hp) (J : It) (ds : List D) : Prop :=
  ∀ (M2 : Addr → Prop) (H2 : Hp) (i : Nat), Goes F M H1 M2 H2 → Lv K F M2 H2 → (ds.length ≤ i → J.stop i H2) ∧ (∀ d, ds[i]? = some d → J.go i H2 ∧ ∀ x H3, J.yld i H2 x H3 → Gr K F H2 H3 ∧ Rep K F M2 H3 d x)
def SI (K : PySem.W.Frag) (ow : List Nat) (E : L2.St → XK) (wi : TI) (fi : FI) : Prop :=
  ∀ (w : Wd) (H : Hp) (σ : L2.St) (ρ : Env) (P : List D → Prop) (X : XP) (R : It → Hp → Prop), REnv K w ow H σ ρ → fi ρ P X → (∀ ds J H1, P ds → Gr K w.F H H1 → ItOk K w.F (w.Mx ow σ) H1 J ds → R J H1) → PostX K w.F H X (E σ) → wi σ H R
/-- a target; sl: its slots -/
def SG (K : PySem.W.Frag) (ow sl : List Nat) (g : TG) (g' : FG) : Prop :=
  ∀ (w : Wd) (H : Hp) (σ : L2.St) (ρ : Env) (d : D) (v : V) (R : Env → Prop) (Q : L2.St → Hp → Prop), REnv K w ow H σ ρ → Rep K w.F (w.Mx ow σ) H d v → g' d ρ R → (∀ ρ' σ', R ρ' → REnv K w ow H σ' ρ' → σ'.length = σ.length → (∀ i, i ∉ sl → σ'[i]? = σ[i]?) → Q σ' H) → g v σ H Q
def fName (i : Nat) : FG := fun d ρ R => R (ρ.set i (some d))
theorem sg_name {i : Nat} (hi : i ∉ ow) : SG K ow [i] (gName i) (fName i) := by
  intro w H σ ρ d v R Q e r h k
  refine k _ _ h (e.put hi r) (by rw [List.length_set]) fun j hj => ?_
  rw [set_get, if_neg (fun z => hj (by rw [z]; exact List.mem_singleton_self _))]
abbrev FGs := List D → Env → (Env → Prop) → Prop
def SGs (K : PySem.W.Frag) (ow sl : List Nat) (g : TGs) (g' : FGs) : Prop :=
  ∀ (w : Wd) (H : Hp) (σ : L2.St) (ρ : Env) (ds : List D) (vs : List V) (R : Env → Prop) (Q : L2.St → Hp → Prop), REnv K w ow H σ ρ → Reps K w.F (w.Mx ow σ) H ds vs → g' ds ρ R → (∀ ρ' σ', R ρ' → REnv K w ow H σ' ρ' → σ'.length = σ.length → (∀ i, i ∉ sl → σ'[i]? = σ[i]?) → Q σ' H) → g vs σ H Q
def fNames : List Nat → FGs
  | [] => fun ds ρ R => ds = [] ∧ R ρ
  | i :: is => fun ds ρ R => ∃ d r, ds = d :: r ∧ fNames is r (ρ.set i (some d)) R
theorem sgs_nil : SGs K ow [] gNil (fNames []) := by
  intro w H σ ρ ds vs R Q e r h k
  obtain ⟨rfl, h⟩ := h
  exact ⟨r, k _ _ h e rfl fun _ _ => rfl⟩
theorem sgs_cons {i : Nat} {is : List Nat} {g : TGs} (hi : i ∉ ow) (hg : SGs K ow is g (fNames is)) : SGs K ow (i :: is) (gCons (gName i) g) (fNames (i :: is)) := by
  intro w H σ ρ ds vs R Q e r h k
  obtain ⟨d, rr, rfl, h⟩ := h
  obtain ⟨v, us, rfl, r1, r2⟩ := r
  refine ⟨v, us, rfl, hg w H _ _ rr us R Q (e.put hi r1) (Reps.goes (fun p o h _ m => ⟨h, fun z => m ?_⟩) _ _ r2) h fun ρ' σ' a1 a2 a3 a4 => k ρ' σ' a1 a2 (by rw [a3, List.length_set]) fun j hj => ?_⟩
  · exact z.elim .inl fun y => .inr ((mo_set hi p).mp y)
  · simp only [List.mem_cons, not_or] at hj
    rw [a4 j hj.2, set_get, if_neg (Ne.symm hj.1)]
def fTupG (is : List Nat) : FG := fun d ρ R => ∃ ds, d = .tup ds ∧ ds.length = is.length ∧ fNames is ds ρ R
theorem sg_tup {is : List Nat} {n : Nat} {g : TGs} (hn : is.length = n) (hg : SGs K ow is g (fNames is)) : SG K ow is (gTup K n g) (fTupG is) := by
  intro w H σ ρ d v R Q e r h k
  obtain ⟨ds, rfl, hl, h⟩ := h
  obtain ⟨p, vs, rfl, ok, hp, r⟩ := r
  exact ⟨p, vs, rfl, SqT.of hp, by rw [r.length, hl, hn], hg w H σ ρ ds vs R Q e r h k⟩
/-- the turns -/
def forGo (g : FG) (fb : FS) (FD : FEnds) : List D → Env → Prop
  | [], ρ => FD.nx ρ
  | d :: ds, ρ => g d ρ fun ρ' => fb { FD with nx := forGo g fb FD ds, ct := forGo g fb FD ds, bk := FD.nx } ρ'
def fFor (fi : FI) (g : FG) (fb : FS) : FS := fun FD ρ => fi ρ (fun ds => forGo g fb FD ds ρ) (fun x => FD.ex x ρ)
theorem ss_for {wi : TI} {g : TG} {tb : TS} {fi : FI} {g' : FG} {fb : FS} {sl : List Nat} (hs : Sub owx ow) (hi : SI K ow E wi fi) (hg : SG K ow sl g g') (hb : SS K ow ow ow owx E tb fb) : SS K ow ow owb owx E (tFor wi g tb) (fFor fi g' fb) := by
  intro w H σ ρ N FD e h k
  refine hi w H σ ρ _ _ _ e h (fun ds J H1 hd g1 it => ?_) (k.px e hs)
  have e1 := e.grow g1
  refine ⟨fun i m σ2 H2 => ∃ ρ2, REnv K (w.re (Mo ow σ) H1) ow H2 σ2 ρ2 ∧ m = ds.length - i ∧ i ≤ ds.length ∧ forGo g' fb FD (ds.drop i) ρ2, ⟨ds.length, ρ, e1.re, rfl, Nat.zero_le _, hd⟩, ?_⟩
  rintro i m σ2 H2 ⟨ρ2, e2, rfl, hle, go⟩
  obtain ⟨st, yl⟩ := it _ H2 i e2.goes e2.lv
  by_cases hlt : i < ds.length
  · right
    obtain ⟨dd, hdd⟩ : ∃ dd, ds[i]? = some dd := ⟨_, List.getElem?_eq_getElem hlt⟩
    obtain ⟨j1, j2⟩ := yl dd hdd
    have hdrop : ds.drop i = dd :: ds.drop (i + 1) := by
      rw [List.drop_eq_getElem_cons hlt]
      rw [List.getElem?_eq_getElem hlt] at hdd
      cases hdd; rfl
    rw [hdrop] at go
    refine ⟨j1, fun σ' H' => ∃ ρ', REnv K (w.re (Mo ow σ) H1) ow H' σ' ρ' ∧ forGo g' fb FD (ds.drop (i + 1)) ρ', fun σ' H' ⟨ρ', a, b⟩ => ⟨ds.length - (i + 1), by omega, ρ', a, rfl, hlt, b⟩, fun x H3 y => ?_⟩
    obtain ⟨g3, r3⟩ := j2 x H3 y
    refine hg _ H3 σ2 ρ2 dd x _ _ (e2.grow g3) r3 go fun ρ' σ' hr e3 _ _ => ?_
    refine hb _ H3 σ' ρ' _ _ e3 hr ⟨fun ρ4 σ4 H4 h4 e4 => ⟨ρ4, e4, h4⟩, fun d v H4 h4 g4 r4 => k.rt d v H4 h4 ((gr_re e1).trans g4) r4, fun ρ4 σ4 H4 h4 e4 => k.nx _ _ _ h4 (e1.un e4), fun ρ4 σ4 H4 h4 e4 => ⟨ρ4, e4, h4⟩, fun x ρ4 σ4 H4 cls dd h4 e4 r4 => k.ex x ρ4 σ4 H4 cls dd h4 (e1.un e4) r4⟩
  · left
    have : i = ds.length := by omega
    rw [this, List.drop_length] at go
    exact ⟨st (by omega), k.nx _ _ _ go (e1.un e2)⟩
/-! ### while -/
def fWhile (fc : FT) (fb : FS) : FS := fun FD ρ => ∃ W : Nat → Env → Prop, (∃ m, W m ρ) ∧ ∀ m ρ, W m ρ → fc ρ (fun b => if b = true then fb { FD with nx := fun ρ' => ∃ m', m' < m ∧ W m' ρ', ct := fun ρ' => ∃ m', m' < m ∧ W m' ρ', bk := FD.nx } ρ else FD.nx ρ) (fun x => FD.ex x ρ)
theorem ss_while {tc : TT} {tb : TS} {fc : FT} {fb : FS} (hs : Sub owx ow) (hc : STt K ow E tc fc) (hb : SS K ow ow ow owx E tb fb) : SS K ow ow owb owx E (tWhile tc tb) (fWhile fc fb) := by
  intro w H σ ρ N FD e h k
  obtain ⟨W, ⟨m0, w0⟩, turn⟩ := h
  refine ⟨fun m σ2 H2 => ∃ ρ2, REnv K w ow H2 σ2 ρ2 ∧ W m ρ2, ⟨m0, ρ, e, w0⟩, ?_⟩
  rintro m σ2 H2 ⟨ρ2, e2, w2⟩
  refine hc w H2 σ2 ρ2 _ _ _ e2 (turn m ρ2 w2) (fun b H3 h3 g3 => ?_) (k.px e2 hs)
  cases b with
  | false => exact k.nx _ _ _ h3 (e2.grow g3)
  | true =>
    refine ⟨fun σ' H' => ∃ m' ρ', m' < m ∧ REnv K w ow H' σ' ρ' ∧ W m' ρ', fun σ' H' ⟨m', ρ', a, b, c⟩ => ⟨m', a, ρ', b, c⟩, ?_⟩
    exact hb w H3 σ2 ρ2 _ _ (e2.grow g3) h3 ⟨fun ρ4 σ4 H4 ⟨m', a, b⟩ e4 => ⟨m', ρ4, a, e4, b⟩, k.rt, k.nx, fun ρ4 σ4 H4 ⟨m', a, b⟩ e4 => ⟨m', ρ4, a, e4, b⟩, k.ex⟩
/-! ### what a loop walks -/
def itD : D → Option (List D)
  | .lst ds => some ds
  | .tup ds => some ds
  | _ => none
def fIt (fe : FE) : FI := fun ρ P X => fe ρ (fun d => ∃ ds, itD d = some ds ∧ P ds) X
def fItL (fe : FE) : FI := fun ρ P X => fe ρ (fun d => ∃ ds, d = .lst ds ∧ P ds) X
def fItT (fe : FE) : FI := fun ρ P X => fe ρ (fun d => ∃ ds, d = .tup ds ∧ P ds) X
theorem si_list {te : TE} {fe : FE} (he : SE K ow E te fe) : SI K ow E (iList K te) (fItL fe) := by
  intro w H σ ρ P X R e h k x
  refine he w H σ ρ _ X _ e h (fun d v H1 hd g r => ?_) x
  obtain ⟨ds, rfl, p⟩ := hd
  obtain ⟨a, vs, rfl, ok, ha, rs⟩ := r
  refine ⟨a, rfl, ⟨vs, SqL.of ha⟩, k ds _ H1 p g fun M2 H2 i go lv => ?_⟩
  obtain ⟨ha2, _⟩ := go a _ ha ok.1 ok.2
  have rs2 := Reps.goes go _ _ rs
  refine ⟨fun hl => ⟨vs, SqL.of ha2, by rw [rs.length]; exact hl⟩, fun d hd => ?_⟩
  obtain ⟨v, hv, rv⟩ := rs2.get hd
  refine ⟨⟨vs, v, SqL.of ha2, hv⟩, fun y H3 hy => ?_⟩
  obtain ⟨rfl, hy⟩ := hy
  have := hy vs (SqL.of ha2)
  rw [hv] at this; cases this
  exact ⟨.refl, rv⟩
theorem si_tup {te : TE} {fe : FE} (he : SE K ow E te fe) : SI K ow E (iTup K te) (fItT fe) := by
  intro w H σ ρ P X R e h k x
  refine he w H σ ρ _ X _ e h (fun d v H1 hd g r => ?_) x
  obtain ⟨ds, rfl, p⟩ := hd
  obtain ⟨a, vs, rfl, ok, ha, rs⟩ := r
  refine ⟨a, rfl, ⟨vs, SqT.of ha⟩, k ds _ H1 p g fun M2 H2 i go lv => ?_⟩
  obtain ⟨ha2, _⟩ := go a _ ha ok.1 ok.2
  have rs2 := Reps.goes go _ _ rs
  refine ⟨fun hl => ⟨vs, SqT.of ha2, by rw [rs.length]; exact hl⟩, fun d hd => ?_⟩
  obtain ⟨v, hv, rv⟩ := rs2.get hd
  refine ⟨⟨vs, v, SqT.of ha2, hv⟩, fun y H3 hy => ?_⟩
  obtain ⟨rfl, hy⟩ := hy
  have := hy vs (SqT.of ha2)
  rw [hv] at this; cases this
  exact ⟨.refl, rv⟩
def rngD (lo : Int) (n : Nat) : List D := (List.range n).map fun (k : Nat) => D.int (lo + (k : Int))
theorem rng_get {lo : Int} {n i : Nat} {d : D} (h : (rngD lo n)[i]? = some d) : i < n ∧ d = .int (lo + (i : Int)) := by
  unfold rngD at h
  rw [List.getElem?_map] at h
  by_cases hi : i < n
  · rw [List.getElem?_range hi] at h
    cases h; exact ⟨hi, rfl⟩
  · rw [List.getElem?_eq_none (by simp; omega)] at h
    cases h
def fRng1 (fa : FA) : FI := fun ρ P X => fa ρ (fun as => ∃ j : Int, as = [.int j] ∧ -(2 ^ 62) ≤ j ∧ j < 2 ^ 62 ∧ P (rngD 0 j.toNat)) X
theorem si_rng1 {ta : TA} {fa : FA} (ha : SA K ow E ta fa) : SI K ow E (iRng1 ta) (fRng1 fa) := by
  intro w H σ ρ P X R e h k x
  refine ha w H σ ρ _ X _ e h (fun ds vs H1 hd g r => ?_) x
  obtain ⟨j, rfl, j0, j1, p⟩ := hd
  have := Reps.ints (ns := [j]) r
  refine ⟨j, this, j0, j1, k _ _ H1 p g fun M2 H2 i go lv => ⟨fun hl => ?_, fun d hd => ?_⟩⟩
  · simp only [rngD, List.length_map, List.length_range] at hl; exact hl
  · obtain ⟨h1, rfl⟩ := rng_get hd
    exact ⟨h1, fun y H3 ⟨h3, hy⟩ => by subst h3; exact ⟨.refl, hy⟩⟩
def fRng2 (fa : FA) : FI := fun ρ P X => fa ρ (fun as => ∃ i j : Int, as = [.int i, .int j] ∧ (-(2 ^ 62) ≤ i ∧ i < 2 ^ 62 ∧ -(2 ^ 62) ≤ j ∧ j < 2 ^ 62) ∧ P (rngD i (j - i).toNat)) X
theorem si_rng2 {ta : TA} {fa : FA} (ha : SA K ow E ta fa) : SI K ow E (iRng2 ta) (fRng2 fa) := by
  intro w H σ ρ P X R e h k x
  refine ha w H σ ρ _ X _ e h (fun ds vs H1 hd g r => ?_) x
  obtain ⟨i', j, rfl, j0, p⟩ := hd
  have := Reps.ints (ns := [i', j]) r
  refine ⟨i', j, this, j0, k _ _ H1 p g fun M2 H2 i go lv => ⟨fun hl => ?_, fun d hd => ?_⟩⟩
  · simp only [rngD, List.length_map, List.length_range] at hl; exact hl
  · obtain ⟨h1, rfl⟩ := rng_get hd
    exact ⟨h1, fun y H3 ⟨h3, hy⟩ => by subst h3; exact ⟨.refl, hy⟩⟩
end
end MR

set_option Elab.async false
set_option linter.all false
set_option maxRecDepth 100000
set_option maxHeartbeats 4000000
/-! MR: lists or tuples -/
namespace MR
open PySem PySem.Spec PyProof.Rows L2
def rIxA (K : PySem.W.Frag) : R2 := fun x y H Q => rIxL K x y H Q ∨ rIxT K x y H Q
theorem ix_any {X : Cx} : IxR X (rIxA X.K) := by
  intro value slice pins s σ H x y v u Q I rx ry h hs
  rcases h with h | h
  · exact ix_list value slice pins s σ H x y v u Q I rx ry h hs
  · exact ix_tup value slice pins s σ H x y v u Q I rx ry h hs
def iSeq (K : PySem.W.Frag) (tl : TE) : TI := fun σ H R => tl σ H fun x H1 => ∃ a, x = .ref a ∧ (((∃ xs, SqL K H1 a xs) ∧ R (Itl K a) H1) ∨ ((∃ xs, SqT K H1 a xs) ∧ R (Itt K a) H1))
theorem pi_seq {X : Cx} {tg l : Expr} {tl : TE} (hl : PE X l tl) : PI X tg l (iSeq X.K tl) := by
  refine ⟨fun pins s σ H R I h => ?_⟩
  refine thn (hl.run pins s σ H _ I h) fun v s1 ⟨x, H1, I1, r1, q1⟩ => ?_
  obtain ⟨a, e, q1⟩ := q1
  subst e
  cases r1
  rcases q1 with ⟨⟨xs, hq⟩, q⟩ | ⟨⟨xs, hq⟩, q⟩
  · obtain ⟨its, rv, p, hz⟩ := I1.list hq
    refine wpAny_pyIter_list p.isList ?_
    refine ⟨s1.heap.objs.size, [s1.heap.objs.size], _, _, H1, rfl, I1.kept (t' := s1.toks) fun b o e => Heap.get?_push_of_some _ e, turn_list a _, ⟨_, Heap.get?_push_size _ rfl, rfl, rfl⟩, fun b hb => ?_, q⟩
    have e : b = s1.heap.objs.size := by simpa using hb
    subst e
    exact I1.fpOk (Nat.le_refl _) (I1.hok.fresh (Nat.le_refl _))
  · obtain ⟨its, rv, p, hz⟩ := I1.tuple hq
    refine wpAny_pyIter_tuple (show s1.heap.IsTuple a its.toArray from p) ?_
    refine ⟨s1.heap.objs.size, [s1.heap.objs.size], _, _, H1, rfl, I1.kept (t' := s1.toks) fun b o e => Heap.get?_push_of_some _ e, turn_tuple a _, ⟨_, Heap.get?_push_size _ rfl, rfl, rfl⟩, fun b hb => ?_, q⟩
    have e : b = s1.heap.objs.size := by simpa using hb
    subst e
    exact I1.fpOk (Nat.le_refl _) (I1.hok.fresh (Nat.le_refl _))
def iEnumA (K : PySem.W.Frag) (ta : TA) : TI := fun σ H R => ta σ H fun vs H1 => ∃ a xs, vs = [.ref a] ∧ ((SqL K H1 a xs ∧ R (Ite K a) H1) ∨ (SqT K H1 a xs ∧ R (ItE K a) H1))
theorem pi_enumA {X : Cx} {e : Expr} {ta : TA} {p pos tpos : Pos} {elts : List Expr} {kk : Nat} (hg : Gl X "enumerate") (hm : X.mg "enumerate" = none) (ha : PA X [e] ta) (hs : starEach [e] X.env = [(false, eval e X.env)] := by rfl) :
    PI X (.Tuple elts kk tpos) (.Call (.Name "enumerate" p) [e] [] pos) (iEnumA X.K ta) := by
  refine ⟨fun pins s σ H R I h => ?_⟩
  refine Call_ (ld_blt I hg hm boot_enumerate (PyProof.Rows.callWith_type1 (thn (ha.run pos pins s σ H _ I h) fun us s1 ⟨vs, H1, I1, r1, q1⟩ => ?_) hs rfl))
  obtain ⟨a, xs, ex, q1⟩ := q1
  subst ex
  cases r1 with
  | cons r rr =>
    cases rr
    cases r
    have fin : ∀ b, b ∈ [s1.heap.objs.size + 1, s1.heap.objs.size] → FpOk X pins H1 b := fun b hb => by
      have e' : b = s1.heap.objs.size + 1 ∨ b = s1.heap.objs.size := by simpa using hb
      have hle : s1.heap.objs.size ≤ b := by
        rcases e' with z | z
        · rw [z]; exact Nat.le_add_right _ _
        · rw [z]; exact Nat.le_refl _
      exact I1.fpOk hle (I1.hok.fresh hle)
    rcases q1 with ⟨hq, q⟩ | ⟨hq, q⟩
    · obtain ⟨its, rv, p', hz⟩ := I1.list hq
      refine call_enumerate_list p'.isList fun h' he hit hsz hk => wpAny_pyIter_enum he ?_
      have I2 : Inv X pins σ H1 { s1 with heap := h' } := I1.kept (t' := s1.toks) hk
      exact ⟨s1.heap.objs.size + 1, [s1.heap.objs.size + 1, s1.heap.objs.size], _, _, H1, rfl, I2, turn_enum a (s1.heap.objs.size + 1) s1.heap.objs.size, ⟨⟨.none, he⟩, hit, Nat.succ_ne_self _⟩, fin, q⟩
    · obtain ⟨its, rv, p', hz⟩ := I1.tuple hq
      have hT0 : s1.heap.IsTuple a its.toArray := p'
      refine enum_begins1 (begins_tuple a its.toArray) hT0 fun h' he hit hsz hk => wpAny_pyIter_enum he ?_
      have I2 : Inv X pins σ H1 { s1 with heap := h' } := I1.kept (t' := s1.toks) hk
      exact ⟨s1.heap.objs.size + 1, [s1.heap.objs.size + 1, s1.heap.objs.size], _, _, H1, rfl, I2, turn_enumT a (s1.heap.objs.size + 1) s1.heap.objs.size, ⟨⟨.none, he⟩, ⟨_, hit, rfl, rfl⟩, Nat.succ_ne_self _⟩, fin, q⟩
end MR

set_option Elab.async false
set_option linter.all false
set_option maxRecDepth 100000
set_option maxHeartbeats 4000000
set_option exponentiation.threshold 20000
/-! FL: iterations, comprehensions, slices -/
namespace MR
open PySem PySem.Spec PyProof.Rows L2
section
variable {K : PySem.W.Frag} {w : Wd} {ow ow' ow1 owb owx : List Nat} {H H' : Hp} {σ : L2.St} {ρ : Env} {E : L2.St → XK} {N : L2.Ends} {FD : FEnds}
theorem itl_ok {F : Option Addr} {M : Addr → Prop} {a : Addr} {vs : List V} {ds : List D} (ok : Ok F M a) (ha : H a = some (.lst vs)) (rs : Reps K F M H ds vs) : ItOk K F M H (Itl K a) ds := by
  intro M2 H2 i go lv
  obtain ⟨ha2, _⟩ := go a _ ha ok.1 ok.2
  have rs2 := Reps.goes go _ _ rs
  refine ⟨fun hl => ⟨vs, SqL.of ha2, by rw [rs.length]; exact hl⟩, fun d hd => ?_⟩
  obtain ⟨v, hv, rv⟩ := rs2.get hd
  refine ⟨⟨vs, v, SqL.of ha2, hv⟩, fun y H3 hy => ?_⟩
  obtain ⟨rfl, hy⟩ := hy
  have := hy vs (SqL.of ha2)
  rw [hv] at this; cases this
  exact ⟨.refl, rv⟩
theorem itt_ok {F : Option Addr} {M : Addr → Prop} {a : Addr} {vs : List V} {ds : List D} (ok : Ok F M a) (ha : H a = some (.tup vs)) (rs : Reps K F M H ds vs) : ItOk K F M H (Itt K a) ds := by
  intro M2 H2 i go lv
  obtain ⟨ha2, _⟩ := go a _ ha ok.1 ok.2
  have rs2 := Reps.goes go _ _ rs
  refine ⟨fun hl => ⟨vs, SqT.of ha2, by rw [rs.length]; exact hl⟩, fun d hd => ?_⟩
  obtain ⟨v, hv, rv⟩ := rs2.get hd
  refine ⟨⟨vs, v, SqT.of ha2, hv⟩, fun y H3 hy => ?_⟩
  obtain ⟨rfl, hy⟩ := hy
  have := hy vs (SqT.of ha2)
  rw [hv] at this; cases this
  exact ⟨.refl, rv⟩
theorem si_seq {te : TE} {fe : FE} (he : SE K ow E te fe) : SI K ow E (iSeq K te) (fIt fe) := by
  intro w H σ ρ P X R e h k x
  refine he w H σ ρ _ X _ e h (fun d v H1 hd g r => ?_) x
  obtain ⟨ds, hds, p⟩ := hd
  cases d with
  | lst es =>
    cases hds
    obtain ⟨a, vs, rfl, ok, ha, rs⟩ := r
    exact ⟨a, rfl, .inl ⟨⟨vs, SqL.of ha⟩, k _ _ H1 p g (itl_ok ok ha rs)⟩⟩
  | tup es =>
    cases hds
    obtain ⟨a, vs, rfl, ok, ha, rs⟩ := r
    exact ⟨a, rfl, .inr ⟨⟨vs, SqT.of ha⟩, k _ _ H1 p g (itt_ok ok ha rs)⟩⟩
  | _ => cases hds
/-- a list that a name owns is walked (the loop does not change it) -/
theorem si_own {i : Nat} (hi : i ∈ ow) : SI K ow E (iList K (tVar i)) (fun ρ P X => False) := fun w H σ ρ P X R e h k x => h.elim
def enD (ds : List D) (k : Nat) : List D := match ds with
  | [] => []
  | d :: r => .tup [.int (k : Nat), d] :: enD r (k + 1)
theorem en_len : ∀ (ds : List D) (k : Nat), (enD ds k).length = ds.length
  | [], _ => rfl
  | d :: r, k => by
    unfold enD
    rw [List.length_cons, List.length_cons, en_len r]
theorem en_get : ∀ (ds : List D) (k i : Nat) (d : D), (enD ds k)[i]? = some d → ∃ e, ds[i]? = some e ∧ d = .tup [.int ((k + i : Nat) : Int), e]
  | [], k, i, d, h => by simp [enD] at h
  | e :: r, k, 0, d, h => by
    simp only [enD, List.getElem?_cons_zero, Option.some.injEq] at h
    exact ⟨e, rfl, h.symm⟩
  | e :: r, k, i + 1, d, h => by
    simp only [enD, List.getElem?_cons_succ] at h ⊢
    obtain ⟨e', h1, h2⟩ := en_get r (k + 1) i d h
    refine ⟨e', h1, ?_⟩
    rw [h2]
    have : k + 1 + i = k + (i + 1) := by omega
    rw [this]
def fEn (fa : FA) : FI := fun ρ P X => fa ρ (fun as => ∃ d ds, as = [d] ∧ itD d = some ds ∧ P (enD ds 0)) X
theorem rep_pair {F : Option Addr} {M : Addr → Prop} {T : Addr} {x y : V} {a b : D} (lv : Lv K F M H) (nT : H T = none) (ra : Rep K F M H a x) (rb : Rep K F M H b y) : Rep K F M (upd H T (.tup [x, y])) (.tup [a, b]) (.ref T) := rep_newT lv nT (.cons ra (.one rb))
theorem si_en {ta : TA} {fa : FA} (ha : SA K ow E ta fa) : SI K ow E (iEnumA K ta) (fEn fa) := by
  intro w H σ ρ P X R e h k x
  refine ha w H σ ρ _ X _ e h (fun as vs H1 hd g r => ?_) x
  obtain ⟨d, ds, rfl, hds, p⟩ := hd
  obtain ⟨v, us, rfl, r, hn⟩ := r
  rw [show us = [] from hn]
  cases d with
  | lst es =>
    cases hds
    obtain ⟨a, vs, rfl, ok, ha, rs⟩ := r
    refine ⟨a, vs, rfl, .inl ⟨SqL.of ha, k _ _ H1 p g fun M2 H2 i go lv => ?_⟩⟩
    obtain ⟨ha2, _⟩ := go a _ ha ok.1 ok.2
    have rs2 := Reps.goes go _ _ rs
    refine ⟨fun hl => ⟨vs, SqL.of ha2, by rw [rs.length]; rw [en_len] at hl; exact hl⟩, fun d hd => ?_⟩
    obtain ⟨e', h1, rfl⟩ := en_get _ _ _ _ hd
    obtain ⟨v, hv, rv⟩ := rs2.get h1
    refine ⟨⟨vs, v, SqL.of ha2, hv⟩, fun y H3 hy => ?_⟩
    obtain ⟨T, x', rfl, nT, rfl, hx⟩ := hy
    have := hx vs (SqL.of ha2)
    rw [hv] at this; cases this
    rw [Nat.zero_add]
    exact ⟨.new nT, rep_pair lv nT rfl rv⟩
  | tup es =>
    cases hds
    obtain ⟨a, vs, rfl, ok, ha, rs⟩ := r
    refine ⟨a, vs, rfl, .inr ⟨SqT.of ha, k _ _ H1 p g fun M2 H2 i go lv => ?_⟩⟩
    obtain ⟨ha2, _⟩ := go a _ ha ok.1 ok.2
    have rs2 := Reps.goes go _ _ rs
    refine ⟨fun hl => ⟨vs, SqT.of ha2, by rw [rs.length]; rw [en_len] at hl; exact hl⟩, fun d hd => ?_⟩
    obtain ⟨e', h1, rfl⟩ := en_get _ _ _ _ hd
    obtain ⟨v, hv, rv⟩ := rs2.get h1
    refine ⟨⟨vs, v, SqT.of ha2, hv⟩, fun y H3 hy => ?_⟩
    obtain ⟨T, x', rfl, nT, rfl, hx⟩ := hy
    have := hx vs (SqT.of ha2)
    rw [hv] at this; cases this
    rw [Nat.zero_add]
    exact ⟨.new nT, rep_pair lv nT rfl rv⟩
  | _ => cases hds
def zipD : List D → List D → List D
  | a :: as, b :: bs => .tup [a, b] :: zipD as bs
  | _, _ => []
theorem zip_len : ∀ (as bs : List D), (zipD as bs).length = min as.length bs.length
  | [], bs => by simp [zipD]
  | a :: as, [] => by simp [zipD]
  | a :: as, b :: bs => by
    simp only [zipD, List.length_cons, zip_len as bs]
    omega
theorem zip_get : ∀ (as bs : List D) (i : Nat) (d : D), (zipD as bs)[i]? = some d → ∃ a b, as[i]? = some a ∧ bs[i]? = some b ∧ d = .tup [a, b]
  | [], bs, i, d, h => by simp [zipD] at h
  | a :: as, [], i, d, h => by simp [zipD] at h
  | a :: as, b :: bs, 0, d, h => by
    simp only [zipD, List.getElem?_cons_zero, Option.some.injEq] at h
    exact ⟨a, b, rfl, rfl, h.symm⟩
  | a :: as, b :: bs, i + 1, d, h => by
    simp only [zipD, List.getElem?_cons_succ] at h ⊢
    exact zip_get as bs i d h
def fZip (fa : FA) : FI := fun ρ P X => fa ρ (fun xs => ∃ as bs, xs = [.lst as, .lst bs] ∧ P (zipD as bs)) X
theorem si_zip {ta : TA} {fa : FA} (ha : SA K ow E ta fa) : SI K ow E (iZip K ta) (fZip fa) := by
  intro w H σ ρ P X R e h k x
  refine ha w H σ ρ _ X _ e h (fun xs vs H1 hd g r => ?_) x
  obtain ⟨as, bs, rfl, p⟩ := hd
  obtain ⟨v, us, rfl, r, hn⟩ := r
  obtain ⟨v2, us, rfl, r2, hn⟩ := hn
  rw [show us = [] from hn]
  obtain ⟨a, va, rfl, oka, ha, rsa⟩ := r
  obtain ⟨b, vb, rfl, okb, hb, rsb⟩ := r2
  refine ⟨a, b, va, vb, rfl, SqL.of ha, SqL.of hb, k _ _ H1 p g fun M2 H2 i go lv => ?_⟩
  obtain ⟨ha2, _⟩ := go a _ ha oka.1 oka.2
  obtain ⟨hb2, _⟩ := go b _ hb okb.1 okb.2
  have rsa2 := Reps.goes go _ _ rsa
  have rsb2 := Reps.goes go _ _ rsb
  refine ⟨fun hl => ⟨va, vb, SqL.of ha2, SqL.of hb2, ?_⟩, fun d hd => ?_⟩
  · rw [zip_len] at hl
    rw [rsa.length, rsb.length]
    omega
  · obtain ⟨d1, d2, h1, h2, rfl⟩ := zip_get _ _ _ _ hd
    obtain ⟨v1, hv1, rv1⟩ := rsa2.get h1
    obtain ⟨v2, hv2, rv2⟩ := rsb2.get h2
    refine ⟨⟨va, vb, v1, v2, SqL.of ha2, SqL.of hb2, hv1, hv2⟩, fun y H3 hy => ?_⟩
    obtain ⟨T, x', y', rfl, nT, rfl, hx, hy⟩ := hy
    have := hx va (SqL.of ha2)
    rw [hv1] at this; cases this
    have := hy vb (SqL.of hb2)
    rw [hv2] at this; cases this
    exact ⟨.new nT, rep_pair lv nT rv1 rv2⟩
def fRev (fa : FA) : FI := fun ρ P X => fa ρ (fun xs => ∃ as, xs = [.lst as] ∧ P as.reverse) X
theorem si_rev {ta : TA} {fa : FA} (ha : SA K ow E ta fa) : SI K ow E (iRev K ta) (fRev fa) := by
  intro w H σ ρ P X R e h k x
  refine ha w H σ ρ _ X _ e h (fun xs vs H1 hd g r => ?_) x
  obtain ⟨as, rfl, p⟩ := hd
  obtain ⟨v, us, rfl, r, hn⟩ := r
  rw [show us = [] from hn]
  obtain ⟨a, va, rfl, oka, ha, rsa⟩ := r
  refine ⟨a, va, rfl, SqL.of ha, k _ _ H1 p g fun M2 H2 i go lv => ?_⟩
  obtain ⟨ha2, _⟩ := go a _ ha oka.1 oka.2
  have rsa2 := Reps.goes go _ _ rsa
  have hl := rsa.length
  refine ⟨fun hl' => ?_, fun d hd => ?_⟩
  · rw [List.length_reverse] at hl'
    show va.length ≤ i
    omega
  · have hi : i < as.length := by
      have := (List.getElem?_eq_some_iff.mp hd).1
      rwa [List.length_reverse] at this
    rw [List.getElem?_reverse hi] at hd
    obtain ⟨v1, hv1, rv1⟩ := rsa2.get hd
    rw [← hl] at hv1
    refine ⟨⟨by omega, va, v1, SqL.of ha2, hv1⟩, fun y H3 hy => ?_⟩
    obtain ⟨rfl, hy⟩ := hy
    have := hy va (SqL.of ha2)
    rw [hv1] at this; cases this
    exact ⟨.refl, rv1⟩
/-- reversed(range(e)) -/
def rrD (n : Nat) : List D := (List.range n).map fun (k : Nat) => D.int ((n : Int) - 1 - (k : Int))
def fRevR1 (fe : FE) : FI := fun ρ P X => fe ρ (fun d => ∃ j : Int, d = .int j ∧ 0 ≤ j ∧ j < 2 ^ 62 ∧ P (rrD j.toNat)) X
theorem si_revR1 {te : TE} {fe : FE} (he : SE K ow E te fe) : SI K ow E (iRevR (tRg1 te)) (fRevR1 fe) := by
  intro w H σ ρ P X R e h k x
  refine he w H σ ρ _ X _ e h (fun d v H1 hd g r => ?_) x
  obtain ⟨j, rfl, j0, j1, p⟩ := hd
  refine ⟨j, r, by omega, by omega, by omega, by omega, k _ _ H1 p g fun M2 H2 i go lv => ⟨fun hl => ?_, fun d hd => ?_⟩⟩
  · simp only [rrD, List.length_map, List.length_range] at hl
    show (j - 0).toNat ≤ i
    omega
  · unfold rrD at hd
    rw [List.getElem?_map] at hd
    by_cases hi : i < j.toNat
    · rw [List.getElem?_range hi] at hd
      cases hd
      refine ⟨by show i < (j - 0).toNat; omega, fun y H3 ⟨h3, hy⟩ => ?_⟩
      subst h3
      refine ⟨.refl, ?_⟩
      rw [hy]
      show V.int _ = V.int _
      congr 1
      omega
    · rw [List.getElem?_eq_none (by simp; omega)] at hd
      cases hd
/-! ### slices -/
abbrev FO := Env → (Option Int → Prop) → XP → Prop
def SO (K : PySem.W.Frag) (ow : List Nat) (E : L2.St → XK) (to : TO) (fo : FO) : Prop :=
  ∀ (w : Wd) (H : Hp) (σ : L2.St) (ρ : Env) (P : Option Int → Prop) (X : XP) (Q : Option Int → Hp → Prop), REnv K w ow H σ ρ → fo ρ P X → (∀ i H', P i → Gr K w.F H H' → Q i H') → PostX K w.F H X (E σ) → to σ H Q
def fNoPart : FO := fun _ P _ => P none
def fPart (fe : FE) : FO := fun ρ P X => fe ρ (fun d => ∃ i, d = .int i ∧ P (some i)) X
theorem so_none : SO K ow E tNoPart fNoPart := fun w H σ ρ P X Q e h q x => q _ _ h .refl
theorem so_some {te : TE} {fe : FE} (he : SE K ow E te fe) : SO K ow E (tPart te) (fPart fe) := by
  intro w H σ ρ P X Q e h q x
  refine he w H σ ρ _ X _ e h (fun d v H1 hd g r => ?_) x
  obtain ⟨i, rfl, p⟩ := hd
  exact ⟨i, r, q _ H1 p g⟩
def cutD {α : Type} (xs : List α) (lo hi : Option Int) : List α := (xs.drop (HT.sIx xs.length 0 lo)).take (HT.sIx xs.length xs.length hi - HT.sIx xs.length 0 lo)
end
end MR

set_option Elab.async false
set_option linter.all false
set_option maxRecDepth 100000
set_option maxHeartbeats 4000000
set_option exponentiation.threshold 20000
/-! FL: comprehensions, slices, operators -/
namespace MR
open PySem PySem.Spec PyProof.Rows L2
section
variable {K : PySem.W.Frag} {w : Wd} {ow ow' ow1 owb owx : List Nat} {H H' : Hp} {σ : L2.St} {ρ : Env} {E : L2.St → XK} {N : L2.Ends} {FD : FEnds}
/-! ### comprehensions -/
def wipeD (ρ : Env) : List Nat → Env
  | [] => ρ
  | v :: vs => (wipeD ρ vs).set v none
theorem REnv.clr {i : Nat} (e : REnv K w ow H σ ρ) (hi : i ∉ ow) : REnv K w ow H (σ.set i none) (ρ.set i none) := by
  have mm : ∀ p, w.Mx ow (σ.set i none) p ↔ w.Mx ow σ p := fun p => or_congr .rfl (mo_set hi p)
  have go : Goes w.F (w.Mx ow σ) H (w.Mx ow (σ.set i none)) H := fun p o h _ m => ⟨h, fun z => m ((mm p).mp z)⟩
  have same : ∀ j, j ∈ ow → (σ.set i none)[j]? = σ[j]? ∧ (ρ.set i none)[j]? = ρ[j]? := fun j hj => by
    have : i ≠ j := fun z => hi (by rw [z]; exact hj)
    rw [set_get, set_get, if_neg this, if_neg this]
    exact ⟨rfl, rfl⟩
  refine ⟨e.gr, e.live, e.nf, fun j hj => ?_, fun j hj => ?_, fun j hj k hk n p => ?_, fun f hf => ?_⟩
  · rw [set_get, set_get]
    have z := e.imm j hj
    split
    · rename_i h
      have hl := z.len
      by_cases hlt : j < ρ.length
      · rw [if_pos hlt, if_pos (hl.mp hlt)]
        trivial
      · rw [if_neg hlt, if_neg (fun y => hlt (hl.mpr y))]
        trivial
    · exact z.mono fun d' v' => Rep.goes go d' v'
  · obtain ⟨p, o, d', h1, h2, h3, h4, h5⟩ := e.own j hj
    exact ⟨p, o, d', by rw [(same j hj).1]; exact h1, by rw [(same j hj).2]; exact h2, h3, h4.goes go, h5⟩
  · rw [(same j hj).1, (same k hk).1]
    exact e.inj j hj k hk n p
  · obtain ⟨c, h1, h2⟩ := e.feed f hf
    exact ⟨c, h1, fun z => h2 ((mm c).mp z)⟩
theorem REnv.wipe (e : REnv K w ow H σ ρ) : ∀ {vs : List Nat}, (∀ i, i ∈ vs → i ∉ ow) → REnv K w ow H (L2.wipe σ vs) (wipeD ρ vs)
  | [], _ => e
  | v :: vs, h => (REnv.wipe e fun i hi => h i (List.mem_cons_of_mem _ hi)).clr (h v List.mem_cons_self)
theorem wipe_get (σ : L2.St) (j : Nat) : ∀ vs : List Nat, (L2.wipe σ vs)[j]? = if j ∈ vs then (if j < σ.length then some none else none) else σ[j]?
  | [] => by simp [L2.wipe]
  | v :: vs => by
    unfold L2.wipe
    rw [set_get, wipe_length, wipe_get σ j vs]
    by_cases h : v = j
    · subst h; simp
    · rw [if_neg h]
      have : j ∈ v :: vs ↔ j ∈ vs := by simp [List.mem_cons, Ne.symm h]
      simp only [this]
theorem mo_wipe {vs : List Nat} (h : ∀ i, i ∈ vs → i ∉ ow) (p : Addr) : Mo ow (L2.wipe σ vs) p ↔ Mo ow σ p := by
  have : ∀ j, j ∈ ow → (L2.wipe σ vs)[j]? = σ[j]? := fun j hj => by rw [wipe_get, if_neg (fun z => h j z hj)]
  exact ⟨fun ⟨j, hj, z⟩ => ⟨j, hj, by rw [← this j hj]; exact z⟩, fun ⟨j, hj, z⟩ => ⟨j, hj, by rw [this j hj]; exact z⟩⟩
abbrev X0 : XP := fun _ => False
def lcGo (g : FG) (ft : FT) (fe : FE) (ρ0 : Env) (P : D → Prop) : List D → List D → Prop
  | [], acc => P (.lst acc)
  | d :: ds, acc => g d ρ0 fun ρ2 => ft ρ2 (fun b => if b = true then fe ρ2 (fun y => acc.length < sizeLine ∧ lcGo g ft fe ρ0 P ds (acc ++ [y])) X0 else lcGo g ft fe ρ0 P ds acc) X0
def fLc (fi : FI) (g : FG) (ft : FT) (fe : FE) (vs : List Nat) : FE := fun ρ P X => fi ρ (fun ds => lcGo g ft fe (wipeD ρ vs) P ds []) X
def fYes : FT := fun _ P _ => P true
theorem st_yes : STt K ow E tYes fYes := fun w H σ ρ P X Q e h q x => q _ _ h .refl
/-- the world with one more owned place -/
def Wd.own1 (w : Wd) (p : Addr) (H : Hp) : Wd := { w with M := fun q => w.M q ∨ q = p, H0 := H }
/-- an environment beside an object that is being made at p -/
theorem REnv.beside {p : Addr} {o : HO} (e : REnv K w ow H σ ρ) (np : H p = none) : REnv K ((w.re (Mo ow σ) H).own1 p (upd (w.re (Mo ow σ) H).H0 p o)) ow (upd H p o) σ ρ := by
  have ok := e.lv.ok np
  have nm : ¬ Mo ow σ p := fun z => ok.2 (.inr z)
  have g : Gr K w.F H (upd H p o) := .new np
  have e1 := e.re
  have go : Goes w.F (w.Mx ow σ) H (((w.re (Mo ow σ) H).own1 p (upd (w.re (Mo ow σ) H).H0 p o)).Mx ow σ) (upd H p o) := fun q u h nf m => by
    have ne : q ≠ p := fun z => by rw [z, np] at h; cases h
    refine ⟨by rw [upd_ne ne]; exact h, fun z => ?_⟩
    rcases z with (z | z) | z
    · exact m (.inl z)
    · exact ne z
    · exact m (.inr z)
  have n0 : (w.re (Mo ow σ) H).H0 p = none := by rw [re_out nm]; exact np
  refine ⟨⟨fun b u h n => ?_, fun f c hf h => ?_⟩, fun q m => ?_, fun q m => ?_, fun i hi => (e.imm i hi).mono fun d v => Rep.goes go d v, fun i hi => ?_, e.inj, fun f hf => ?_⟩
  · by_cases hb : b = p
    · subst hb
      have h' : upd (w.re (Mo ow σ) H).H0 b o b = some u := h
      rw [upd_same] at h'
      rw [upd_same]; exact h'
    · have h' : upd (w.re (Mo ow σ) H).H0 p o b = some u := h
      rw [upd_ne hb] at h'
      rw [upd_ne hb]
      exact e1.gr.old b u h' n
  · obtain ⟨ns, a1, a2, a3, a4, a5, o', G, e'⟩ := h
    have fp : f ≠ p := fun z => ok.1 (by rw [← z]; exact hf)
    have hf0 : (w.re (Mo ow σ) H).H0 f = _ := (upd_ne fp).symm.trans G.ob
    obtain ⟨c', k1, k2⟩ := e.feed f hf
    have hc' : c' = c := by
      obtain ⟨_, _, _, _, _, _, _, G', _⟩ := k1
      have nf : ¬ Mo ow σ f := fun ⟨i, hi, z⟩ => by
        obtain ⟨p', o', d', h1, _, _, _, h5, _⟩ := e.own i hi
        rw [h1] at z; cases z
        exact h5 hf
      rw [re_out nf, G'.ob] at hf0
      simp only [Option.some.injEq, HO.lst.injEq, List.cons.injEq, V.ref.injEq] at hf0
      exact hf0.1
    subst hc'
    have cp : c' ≠ p := fun z => by
      obtain ⟨_, _, _, _, _, _, _, _, e''⟩ := k1
      rw [z, np] at e''; cases e''
    have nf : ¬ Mo ow σ f := fun ⟨i, hi, z⟩ => by
      obtain ⟨p', o', d', h1, _, _, _, h5, _⟩ := e.own i hi
      rw [h1] at z; cases z
      exact h5 hf
    exact k1.keep (Ne.symm fp) (Ne.symm cp)
  · rcases m with m | m
    · obtain ⟨u, h⟩ := e1.live q m
      exact ⟨u, (upd_ne (fun z => by rw [z, n0] at h; cases h)).trans h⟩
    · exact ⟨o, by rw [m]; exact upd_same⟩
  · rcases m with m | m
    · exact e.nf q m
    · rw [m]; exact ok.1
  · obtain ⟨q, u, d, h1, h2, h3, h4, h5, h6⟩ := e1.own i hi
    have ne : q ≠ p := fun z => by rw [z, np] at h3; cases h3
    exact ⟨q, u, d, h1, h2, by rw [upd_ne ne]; exact h3, h4.goes go, h5, (upd_ne ne).trans h6⟩
  · obtain ⟨c, k1, k2⟩ := e.feed f hf
    refine ⟨c, g.feed f c hf k1, fun z => ?_⟩
    rcases z with (z | z) | z
    · exact k2 (.inl z)
    · obtain ⟨_, _, _, _, _, _, _, _, e''⟩ := k1
      rw [z, np] at e''; cases e''
    · exact k2 (.inr z)
theorem gr_sub {w : Wd} {M : Addr → Prop} {F : Option Addr} : Gr K F (w.re M H).H0 H := by
  have out : ∀ {b : Addr} {u : HO}, (w.re M H).H0 b = some u → H b = some u := fun {b u} h => by
    by_cases hm : M b
    · rw [re_in hm] at h; cases h
    · rw [re_out hm] at h; exact h
  refine ⟨fun b o h n => out h, fun f c hf h => ?_⟩
  obtain ⟨ns, a1, a2, a3, a4, a5, o', G, e'⟩ := h
  refine ⟨ns, a1, a2, a3, a4, a5, o', ⟨out G.ob, ?_, G.ne, G.nn, G.p0, G.b0, G.l0, G.n0, G.s0⟩, out e'⟩
  rcases G.cs with (h | ⟨o, h⟩) | h
  · exact .inl (.inl (out h))
  · exact .inl (.inr ⟨o, out h⟩)
  · exact .inr h
/-- the object being made changes -/
theorem REnv.amb {p : Addr} {o o' : HO} (e : REnv K w ow H σ ρ) (mp : w.M p) (hp : H p = some o) : REnv K (w.re (Mo ow σ) (upd H p o')) ow (upd H p o') σ ρ := by
  have mx : w.Mx ow σ p := .inl mp
  have np : w.F ≠ some p := e.nf p mp
  have go : Goes w.F (w.Mx ow σ) H (w.Mx ow σ) (upd H p o') := fun q u h nf m => ⟨by rw [upd_ne (fun z => m (by rw [z]; exact mx))]; exact h, m⟩
  obtain ⟨op, hop⟩ := e.live p mp
  have nmp : ¬ Mo ow σ p := e.nM hop
  have keepf : ∀ f c, w.F = some f → FeedC K H f c → FeedC K (upd H p o') f c := fun f c hf k => by
    obtain ⟨c', k1, k2⟩ := e.feed f hf
    have := feed_inj k1 k
    subst this
    exact k.keep (fun z => np (by rw [z]; exact hf)) (fun z => k2 (by rw [← z]; exact mx))
  refine ⟨gr_sub, fun q m => ?_, e.nf, fun i hi => (e.imm i hi).mono fun d v => Rep.goes go d v, fun i hi => ?_, e.inj, fun f hf => ?_⟩
  · by_cases hq : q = p
    · rw [hq]; exact ⟨o', by rw [re_out nmp]; exact upd_same⟩
    · obtain ⟨u, h⟩ := e.live q m
      refine ⟨u, ?_⟩
      rw [re_out (e.nM h), upd_ne hq]
      exact e.gr.old _ _ h (e.nf q m)
  · obtain ⟨q, u, d, h1, h2, h3, h4, h5, h6⟩ := e.own i hi
    have ne : q ≠ p := fun z => by rw [z, hop] at h6; cases h6
    exact ⟨q, u, d, h1, h2, by rw [upd_ne ne]; exact h3, h4.goes go, h5, re_in ⟨i, hi, h1⟩⟩
  · obtain ⟨c, k1, k2⟩ := e.feed f hf
    exact ⟨c, keepf f c hf k1, k2⟩
theorem sf_lc {wi : TI} {g : TG} {tt : TT} {te : TE} {vs sl : List Nat} {fi : FI} {g' : FG} {ft : FT} {fe : FE} (hv : ∀ i, i ∈ vs → i ∉ ow) (hsl : ∀ i, i ∈ sl → i ∈ vs) (hi : SI K ow E wi fi) (hg : SG K ow sl g g') (ht : STt K ow (fun _ => E0) tt ft) (he : SE K ow (fun _ => E0) te fe) :
    SF K ow E (tLc wi g tt te vs) (fLc fi g' ft fe vs) := by
  intro w H σ ρ P X Q e h q x
  refine hi w H σ ρ _ _ _ e h (fun ds J H1 hd g1 it p np => ?_) x
  have e1 := e.grow g1
  have okp := e1.lv.ok np
  have n0 : H p = none := by
    cases z : H p with
    | none => rfl
    | some o => rw [g1.old p o z okp.1] at np; cases np
  have mw : ∀ q, Mo ow (L2.wipe σ vs) q ↔ Mo ow σ q := mo_wipe hv
  let M3 : Addr → Prop := fun q => w.M q ∨ q = p
  refine ⟨fun i m H2 => ∃ (H0 : Hp) (ad : List D) (av : List V), REnv K ⟨w.F, M3, H0⟩ ow H2 (L2.wipe σ vs) (wipeD ρ vs) ∧ H2 p = some (.lst av) ∧ Reps K w.F (fun q => M3 q ∨ Mo ow σ q) H2 ad av ∧ Gr K w.F H1 H2 ∧ m = ds.length - i ∧ i ≤ ds.length ∧ lcGo g' ft fe (wipeD ρ vs) P (ds.drop i) ad, ⟨ds.length, _, [], [], (e1.wipe hv).beside (o := .lst []) np, upd_same, rfl, .new np, rfl, Nat.zero_le _, hd⟩, ?_⟩
  rintro i m H2 ⟨H0, ad, av, e2, hp, ra, g2, rfl, hle, go⟩
  have mx : ∀ q, (⟨w.F, M3, H0⟩ : Wd).Mx ow (L2.wipe σ vs) q ↔ (M3 q ∨ Mo ow σ q) := fun q => or_congr .rfl (mw q)
  have goes : Goes w.F (w.Mx ow σ) H1 ((⟨w.F, M3, H0⟩ : Wd).Mx ow (L2.wipe σ vs)) H2 := fun a u h nf n => ⟨g2.old a u h nf, fun z => by
    rcases (mx a).mp z with (z | z) | z
    · exact n (.inl z)
    · rw [z, np] at h; cases h
    · exact n (.inr z)⟩
  obtain ⟨st, yl⟩ := it _ H2 i goes e2.lv
  by_cases hlt : i < ds.length
  · right
    obtain ⟨dd, hdd⟩ : ∃ dd, ds[i]? = some dd := ⟨_, List.getElem?_eq_getElem hlt⟩
    obtain ⟨j1, j2⟩ := yl dd hdd
    have hdrop : ds.drop i = dd :: ds.drop (i + 1) := by
      rw [List.drop_eq_getElem_cons hlt]
      rw [List.getElem?_eq_getElem hlt] at hdd
      cases hdd; rfl
    rw [hdrop] at go
    refine ⟨j1, fun H' => ∃ (H0 : Hp) (ad : List D) (av : List V), REnv K ⟨w.F, M3, H0⟩ ow H' (L2.wipe σ vs) (wipeD ρ vs) ∧ H' p = some (.lst av) ∧ Reps K w.F (fun q => M3 q ∨ Mo ow σ q) H' ad av ∧ Gr K w.F H1 H' ∧ lcGo g' ft fe (wipeD ρ vs) P (ds.drop (i + 1)) ad, ?_, fun y H3 hy => ?_⟩
    · rintro H' ⟨H0', ad', av', a1, a2, a3, a4, a5⟩
      exact ⟨ds.length - (i + 1), by omega, H0', ad', av', a1, a2, a3, a4, rfl, hlt, a5⟩
    · obtain ⟨g3, r3⟩ := j2 y H3 hy
      have e3 := e2.grow g3
      refine hg _ H3 _ _ dd y _ _ e3 r3 go fun ρ2 σ2 hr e4 hl4 hs4 => ⟨?_, ?_⟩
      · refine List.ext_getElem? fun j => ?_
        rw [wipe_get, wipe_get, hl4, wipe_length]
        by_cases hj : j ∈ vs
        · rw [if_pos hj, if_pos hj]
        · rw [if_neg hj, if_neg hj, hs4 j (fun z => hj (hsl j z)), wipe_get, if_neg hj]
      · have mo4 : ∀ q, Mo ow σ2 q ↔ Mo ow σ q := fun q => by
          have : ∀ j, j ∈ ow → σ2[j]? = σ[j]? := fun j hj => by
            have hjv : j ∉ vs := fun z => hv j z hj
            rw [hs4 j (fun z => hjv (hsl j z)), wipe_get, if_neg hjv]
          exact ⟨fun ⟨j, hj, z⟩ => ⟨j, hj, by rw [← this j hj]; exact z⟩, fun ⟨j, hj, z⟩ => ⟨j, hj, by rw [this j hj]; exact z⟩⟩
        have hp3 : H3 p = some (.lst av) := g3.old _ _ hp okp.1
        refine ht _ H3 σ2 ρ2 _ _ _ e4 hr (fun b H4 hb g4 => ?_) (fun _ _ _ _ z _ _ => z)
        have e5 := e3.grow g4
        have hp4 : H4 p = some (.lst av) := g4.old _ _ hp3 okp.1
        have ra4 := Reps.goes (g3.trans g4).goes _ _ ra
        cases b with
        | false => exact ⟨_, ad, av, e5, hp4, ra4, (g2.trans g3).trans g4, hb⟩
        | true =>
          refine he _ H4 σ2 ρ2 _ _ _ (e4.grow g4) hb (fun d v H5 hd5 g5 r5 => ?_) (fun _ _ _ _ z _ _ => z)
          have hp5 : H5 p = some (.lst av) := g5.old _ _ hp4 okp.1
          have ra5 := Reps.goes g5.goes _ _ ra4
          refine ⟨av, hp5, by rw [ra5.length]; exact hd5.1, ?_⟩
          have e6 := (e5.grow g5).amb (o' := .lst (av ++ [v])) (.inr rfl) hp5
          refine ⟨_, ad ++ [d], av ++ [v], e6, upd_same, ?_, ?_, hd5.2⟩
          · refine Reps.goes (M := fun q => M3 q ∨ Mo ow σ q) (H := H5) (fun a u h nf n => ⟨by rw [upd_ne (fun z => n (.inl (.inr z)))]; exact h, n⟩) _ _ (ra5.append (.one ?_))
            exact Rep.goes (fun a u h nf n => ⟨h, fun z => n (z.elim .inl fun y => .inr ((mo4 a).mpr y))⟩) _ _ r5
          · have gg := ((g2.trans g3).trans g4).trans g5
            refine ⟨fun b u h n => ?_, fun f c hf hc => ?_⟩
            · rw [upd_ne (fun z => by rw [z, np] at h; cases h)]
              exact gg.old b u h n
            · refine (gg.feed f c hf hc).keep (fun z => okp.1 (by rw [z]; exact hf)) (fun z => ?_)
              obtain ⟨_, _, _, _, _, _, _, _, e''⟩ := hc
              rw [← z, np] at e''; cases e''
  · left
    have : i = ds.length := by omega
    rw [this, List.drop_length] at go
    refine ⟨st (by omega), q _ p _ H2 go (g1.trans g2) n0 hp ⟨av, rfl, ?_⟩⟩
    refine Reps.goes (fun a u h nf n => ⟨h, fun z => n ?_⟩) _ _ ra
    rcases z with (z | z) | z
    · exact .inl (.inl z)
    · exact .inr z
    · exact .inl (.inr z)
theorem se_lc {wi : TI} {g : TG} {tt : TT} {te : TE} {vs sl : List Nat} {fi : FI} {g' : FG} {ft : FT} {fe : FE} (hv : ∀ i, i ∈ vs → i ∉ ow) (hsl : ∀ i, i ∈ sl → i ∈ vs) (hi : SI K ow E wi fi) (hg : SG K ow sl g g') (ht : STt K ow (fun _ => E0) tt ft) (he : SE K ow (fun _ => E0) te fe) :
    SE K ow E (tLc wi g tt te vs) (fLc fi g' ft fe vs) := (sf_lc hv hsl hi hg ht he).se
end
end MR

set_option Elab.async false
set_option linter.all false
set_option maxRecDepth 100000
set_option maxHeartbeats 4000000
/-! MR: X(), X an own exception class without an __init__ of its own -/
namespace MR
open PySem PySem.Spec PyProof.Rows L2
theorem pmk_own0 {X : Cx} {C : Addr} {bmB : List Value} {B newId initId : String} {x : Str} {p pos : Pos} (F : ExcBaseFacts B newId initId bmB) (q : PySem.W.excIn X.K C bmB newId = true) (gC : X.mg x = some (.ref C))
    (kC : PySem.W.keepIn X.K (.ref C) = true) (r : Raises X (.ref C)) (hg : Gl X x) (hdb : (x == ("__debug__" : Str)) = false := by decide) :
    PMk X (.Call (.Name x p) [] [] pos) (fun σ H Q => Q (.ref C) none H) := by
  intro pins s σ H Q I h
  refine wpAny_Call_Name_kw (ld_glob I hg gC ?_ hdb)
  refine PySem.W.callWith_K0 I.kIn kC ?_
  show wpAny _ _ (call (.ref C) []) _ _ _
  obtain ⟨bm, N, nm, qn, bs, hdct, sn, sub, ab, col, dd, k0, k1, k2, k3, k5, mN, hC, hN, hni, T⟩ := exc_obj I.kIn q
  refine wpAny_call_exc_subT F T hC hN hni (fun h' e hm => ?_) (Nat.zero_le _)
  exact mk_of I hm r h (I.hok.gone hm.new)
end MR

set_option Elab.async false
set_option linter.all false
set_option maxRecDepth 100000
set_option maxHeartbeats 4000000
set_option exponentiation.threshold 20000
/-! FL: slices, operators by values -/
namespace MR
open PySem PySem.Spec PyProof.Rows L2
section
variable {K : PySem.W.Frag} {w : Wd} {ow ow' ow1 owb owx : List Nat} {H H' : Hp} {σ : L2.St} {ρ : Env} {E : L2.St → XK} {E1 : XK} {N : L2.Ends} {FD : FEnds} {F : Option Addr} {M : Addr → Prop}
/-! ### slices of lists -/
theorem Reps.cut {ds : List D} {vs : List V} {lo hi : Option Int} (r : Reps K F M H ds vs) : Reps K F M H (cutD ds lo hi) (cutV vs lo hi) := by
  unfold cutD cutV
  rw [r.length]
  exact (r.drop _).take _
def fSl (fe : FE) (fl fh : FO) : FE := fun ρ P X => fe ρ (fun d => fl ρ (fun l => fh ρ (fun h => ∃ ds, d = .lst ds ∧ P (.lst (cutD ds l h))) X) X) X
theorem newL_own {p : Addr} {ds : List D} {vs : List V} (np : H p = none) (r : Reps K F M H ds vs) : RepO K F (fun q => M q ∨ q = p) (upd H p (.lst vs)) (.lst ds) (.lst vs) := by
  refine ⟨vs, rfl, Reps.goes (fun a u h nf m => ?_) _ _ r⟩
  have ne : a ≠ p := fun z => by rw [z, np] at h; cases h
  exact ⟨by rw [upd_ne ne]; exact h, fun z => z.elim m ne⟩
theorem newer {p : Addr} (lv : Lv K F M H') (g : Gr K F H H') (np : H' p = none) : H p = none := by
  cases z : H p with
  | none => rfl
  | some o => rw [g.old p o z (lv.ok np).1] at np; cases np
theorem sf_sl {te : TE} {tl th : TO} {fe : FE} {fl fh : FO} (he : SE K ow E te fe) (hl : SO K ow E tl fl) (hh : SO K ow E th fh) : SF K ow E (tSl (rSlL K) te tl th) (fSl fe fl fh) := by
  intro w H σ ρ P X Q e h q x
  refine he w H σ ρ _ X _ e h (fun d v H1 hd g1 r => ?_) x
  have e1 := e.grow g1
  refine hl w H1 σ ρ _ X _ e1 hd (fun l H2 hd2 g2 => ?_) (x.gr g1)
  have e2 := e1.grow g2
  refine hh w H2 σ ρ _ X _ e2 hd2 (fun hh H3 hd3 g3 => ?_) (x.gr (g1.trans g2))
  have e3 := e2.grow g3
  obtain ⟨ds, rfl, p⟩ := hd3
  obtain ⟨a, vs, rfl, ok, ha, rs⟩ := Rep.goes (g2.trans g3).goes _ _ r
  refine ⟨a, vs, rfl, SqL.of ha, fun pp np => ?_⟩
  exact q _ pp _ _ p (((g1.trans g2).trans g3).trans (.new np)) (newer e3.lv ((g1.trans g2).trans g3) np) upd_same (newL_own np rs.cut)
/-- x[l:h], x owned -/
theorem sf_slO {i : Nat} {tl th : TO} {fl fh : FO} (hi : i ∈ ow) (hl : SO K ow E tl fl) (hh : SO K ow E th fh) : SF K ow E (tSl (rSlL K) (tVar i) tl th) (fSl (fVar i) fl fh) := by
  intro w H σ ρ P X Q e h q x
  obtain ⟨d, hd, h⟩ := h
  obtain ⟨p, o, d0, z1, z2, z3, z4, _⟩ := e.own i hi
  rw [z2] at hd; cases hd
  refine ⟨_, z1, hl w H σ ρ _ X _ e h (fun l H2 hd2 g2 => ?_) x⟩
  have e2 := e.grow g2
  refine hh w H2 σ ρ _ X _ e2 hd2 (fun hh H3 hd3 g3 => ?_) (x.gr g2)
  have e3 := e2.grow g3
  obtain ⟨ds, rfl, hp⟩ := hd3
  obtain ⟨p', vs', k1, k2, k3⟩ := e3.lstAt hi z2
  rw [z1] at k1; cases k1
  refine ⟨p, vs', rfl, SqL.of k2, fun pp np => ?_⟩
  exact q _ pp _ _ hp ((g2.trans g3).trans (.new np)) (newer e3.lv (g2.trans g3) np) upd_same (newL_own np k3.cut)
/-! ### ints -/
def oI (C : Int → Int → Prop) (g : Int → Int → D) : O2 := fun a b P _ => match a, b with
  | .int i, .int j => C i j ∧ P (g i j)
  | _, _ => False
def oI0 (g : Int → Int → D) : O2 := fun a b P _ => match a, b with
  | .int i, .int j => P (g i j)
  | _, _ => False
theorem os_I {C : Int → Int → Prop} {g : Int → Int → V} {g' : Int → Int → D} (hg : ∀ i j (F : Option Addr) (M : Addr → Prop) (H : Hp), Rep K F M H (g' i j) (g i j)) : OpS K E1 (rI C g) (oI C g') := by
  intro F M H x y a b P X Q lv ra rb h q x'
  cases a <;> cases b <;> first | exact h.elim | skip
  exact ⟨_, _, ra, rb, h.1, q _ _ _ h.2 .refl (hg _ _ _ _ _)⟩
theorem os_I0 {g : Int → Int → V} {g' : Int → Int → D} (hg : ∀ i j (F : Option Addr) (M : Addr → Prop) (H : Hp), Rep K F M H (g' i j) (g i j)) : OpS K E1 (rI0 g) (oI0 g') := by
  intro F M H x y a b P X Q lv ra rb h q x'
  cases a <;> cases b <;> first | exact h.elim | skip
  exact ⟨_, _, ra, rb, q _ _ _ h .refl (hg _ _ _ _ _)⟩
abbrev oAdd : O2 := oI0 fun i j => .int (i + j)
abbrev oSub : O2 := oI0 fun i j => .int (i - j)
abbrev oMul : O2 := oI IntMulOk fun i j => .int (i * j)
abbrev oDiv : O2 := oI CDivZ fun i j => .int (i.fdiv j)
abbrev oMod : O2 := oI (fun _ j => j ≠ 0) fun i j => .int (i.fmod j)
abbrev oPow : O2 := oI CPow fun i j => .int (i ^ j.toNat)
abbrev oLt : O2 := oI0 fun i j => .bl (decide (i < j))
abbrev oLe : O2 := oI0 fun i j => .bl (decide (i ≤ j))
abbrev oGt : O2 := oI0 fun i j => .bl (decide (j < i))
abbrev oGe : O2 := oI0 fun i j => .bl (decide (j ≤ i))
theorem os_add : OpS K E1 rAdd0 oAdd := os_I0 fun _ _ _ _ _ => rfl
theorem os_sub : OpS K E1 rSub0 oSub := os_I0 fun _ _ _ _ _ => rfl
theorem os_mul : OpS K E1 rMulI oMul := os_I fun _ _ _ _ _ => rfl
theorem os_div : OpS K E1 rDivZ oDiv := os_I fun _ _ _ _ _ => rfl
theorem os_mod : OpS K E1 rModN oMod := os_I fun _ _ _ _ _ => rfl
theorem os_pow : OpS K E1 rPow0 oPow := os_I fun _ _ _ _ _ => rfl
theorem os_lt : OpS K E1 rLt0 oLt := os_I0 fun _ _ _ _ _ => rfl
theorem os_le : OpS K E1 rLe0 oLe := os_I0 fun _ _ _ _ _ => rfl
theorem os_gt : OpS K E1 rGt0 oGt := os_I0 fun _ _ _ _ _ => rfl
theorem os_ge : OpS K E1 rGe0 oGe := os_I0 fun _ _ _ _ _ => rfl
def eqD : D → D → Option Bool
  | .int i, .int j => some (decide (i = j))
  | .str i, .str j => some (decide (i = j))
  | .bl i, .bl j => some (decide (i = j))
  | .non, .non => some true
  | .non, .int _ => some false
  | .int _, .non => some false
  | .non, .str _ => some false
  | .str _, .non => some false
  | .non, .bl _ => some false
  | .bl _, .non => some false
  | .int _, .str _ => some false
  | .str _, .int _ => some false
  | _, _ => none
theorem eq_scal {a b : D} {x y : V} {k : Bool} (ra : Rep K F M H a x) (rb : Rep K F M H b y) (h : eqD a b = some k) : scal x y = true ∧ decide (x = y) = k := by
  cases a <;> cases b <;> first | (cases h; done) | skip
  all_goals
    simp only [Rep] at ra rb
    subst ra rb
    simp only [eqD, Option.some.injEq] at h
    subst h
    refine ⟨rfl, ?_⟩
    simp
def oEq : O2 := fun a b P _ => ∃ k, eqD a b = some k ∧ P (.bl k)
def oNe : O2 := fun a b P _ => ∃ k, eqD a b = some k ∧ P (.bl !k)
theorem os_eq : OpS K E1 rEq oEq := by
  intro F M H x y a b P X Q lv ra rb h q x'
  obtain ⟨k, hk, p⟩ := h
  obtain ⟨h1, h2⟩ := eq_scal ra rb hk
  exact ⟨h1, by rw [h2]; exact q _ _ _ p .refl rfl⟩
theorem os_ne : OpS K E1 rNe oNe := by
  intro F M H x y a b P X Q lv ra rb h q x'
  obtain ⟨k, hk, p⟩ := h
  obtain ⟨h1, h2⟩ := eq_scal ra rb hk
  exact ⟨h1, by rw [h2]; exact q _ _ _ p .refl rfl⟩
def isN : D → Bool
  | .non => true
  | _ => false
theorem isN_of {a : D} {x : V} (r : Rep K F M H a x) : decide (x = .non) = isN a := by
  cases a with
  | non => rw [show x = .non from r]; rfl
  | bl b => rw [show x = .bl b from r]; rfl
  | int b => rw [show x = .int b from r]; rfl
  | str b => rw [show x = .str b from r]; rfl
  | rat q => obtain ⟨p, rfl, _⟩ := r; rfl
  | poly q => obtain ⟨p, _, _, _, _, rfl, _⟩ := r; rfl
  | lst q => obtain ⟨p, _, rfl, _⟩ := r; rfl
  | tup q => obtain ⟨p, _, rfl, _⟩ := r; rfl
  | ins C ns q => obtain ⟨p, _, _, rfl, _⟩ := r; rfl
  | feed => obtain ⟨p, _, rfl⟩ := r; rfl
  | exc => obtain ⟨p, rfl⟩ := r; rfl
  | adr p => rw [show x = .ref p from r]; rfl
def oIsN : O2 := fun a b P _ => b = .non ∧ P (.bl (isN a))
def oNotN : O2 := fun a b P _ => b = .non ∧ P (.bl (!isN a))
theorem os_isN : OpS K E1 rIsN0 oIsN := by
  intro F M H x y a b P X Q lv ra rb h q x'
  obtain ⟨rfl, p⟩ := h
  exact ⟨rb, by rw [isN_of ra]; exact q _ _ _ p .refl rfl⟩
theorem os_notN : OpS K E1 rNotN0 oNotN := by
  intro F M H x y a b P X Q lv ra rb h q x'
  obtain ⟨rfl, p⟩ := h
  exact ⟨rb, by rw [isN_of ra]; exact q _ _ _ p .refl rfl⟩
def oNeg : O1 := fun a P _ => match a with
  | .int i => P (.int (-i))
  | _ => False
theorem us_neg : UnS K E1 rNeg0 oNeg := by
  intro F M H x a P X Q lv ra h q x'
  cases a <;> first | exact h.elim | skip
  exact ⟨_, ra, q _ _ _ h .refl rfl⟩
/-! ### subscripts -/
theorem os_ixL : OpS K E1 (rIxL K) (fun a b P X => (∃ ds, a = .lst ds) ∧ oIx a b P X) := by
  intro F M H x y a b P X Q lv ra rb h q x'
  obtain ⟨⟨_, rfl⟩, ds, n, d, hl, rfl, ha, p⟩ := h
  rcases hl with z | z <;> cases z
  obtain ⟨p', vs, rfl, ok, hp, rs⟩ := ra
  obtain ⟨v, h1, h2⟩ := reps_at rs ha
  exact ⟨p', vs, n, v, rfl, rb, SqL.of hp, h1, q _ _ _ p .refl h2⟩
theorem os_ixT : OpS K E1 (rIxT K) (fun a b P X => (∃ ds, a = .tup ds) ∧ oIx a b P X) := by
  intro F M H x y a b P X Q lv ra rb h q x'
  obtain ⟨⟨_, rfl⟩, ds, n, d, hl, rfl, ha, p⟩ := h
  rcases hl with z | z <;> cases z
  obtain ⟨p', vs, rfl, ok, hp, rs⟩ := ra
  obtain ⟨v, h1, h2⟩ := reps_at rs ha
  exact ⟨p', vs, n, v, rfl, rb, SqT.of hp, h1, q _ _ _ p .refl h2⟩
theorem os_ixA : OpS K E1 (rIxA K) oIx := by
  intro F M H x y a b P X Q lv ra rb h q x'
  obtain ⟨ds, n, d, hl, hb, ha, p⟩ := h
  rcases hl with rfl | rfl
  · exact .inl (os_ixL (E1 := E1) F M H x y _ _ P X Q lv ra rb ⟨⟨_, rfl⟩, ds, n, d, .inl rfl, hb, ha, p⟩ q x')
  · exact .inr (os_ixT (E1 := E1) F M H x y _ _ P X Q lv ra rb ⟨⟨_, rfl⟩, ds, n, d, .inr rfl, hb, ha, p⟩ q x')
/-! ### built-ins -/
def oAbs : OL := fun as P _ => match as with
  | [.int i] => P (.int (i.natAbs : Nat))
  | _ => False
theorem reps1 {ds : D} {vs : List V} (r : Reps K F M H [ds] vs) : ∃ v, vs = [v] ∧ Rep K F M H ds v := by
  obtain ⟨v, us, rfl, h, z⟩ := r
  rw [show us = [] from z]
  exact ⟨v, rfl, h⟩
theorem reps2 {a b : D} {vs : List V} (r : Reps K F M H [a, b] vs) : ∃ v u, vs = [v, u] ∧ Rep K F M H a v ∧ Rep K F M H b u := by
  obtain ⟨v, us, rfl, h, z⟩ := r
  obtain ⟨u, rfl, h2⟩ := reps1 z
  exact ⟨v, u, rfl, h, h2⟩
theorem ls_abs : LsS K E1 rAbs0 oAbs := by
  intro F M H xs as P X Q lv ra h q x'
  match as, h with
  | [.int i], h =>
    obtain ⟨v, rfl, r⟩ := reps1 ra
    exact ⟨i, by rw [show v = .int i from r], by rw [abs_if]; exact q _ _ _ h .refl rfl⟩
def oMax : OL := fun as P _ => match as with
  | [.int i, .int j] => P (.int (max i j))
  | _ => False
theorem ls_max : LsS K E1 rMax0 oMax := by
  intro F M H xs as P X Q lv ra h q x'
  match as, h with
  | [.int i, .int j], h =>
    obtain ⟨v, u, rfl, r, r2⟩ := reps2 ra
    refine ⟨i, j, by rw [show v = .int i from r, show u = .int j from r2], q (.int (max i j)) _ _ h .refl ?_⟩
    show V.int _ = V.int _
    congr 1
    split <;> omega
def oMin : OL := fun as P _ => match as with
  | [.int i, .int j] => P (.int (min i j))
  | _ => False
theorem ls_min : LsS K E1 rMin0 oMin := by
  intro F M H xs as P X Q lv ra h q x'
  match as, h with
  | [.int i, .int j], h =>
    obtain ⟨v, u, rfl, r, r2⟩ := reps2 ra
    refine ⟨i, j, by rw [show v = .int i from r, show u = .int j from r2], q (.int (min i j)) _ _ h .refl ?_⟩
    show V.int _ = V.int _
    congr 1
    split <;> omega
def oInt : OL := fun as P _ => match as with
  | [.int i] => P (.int i)
  | [.bl b] => P (.int (if b then 1 else 0))
  | _ => False
theorem ls_int : LsS K E1 rInt0 oInt := by
  intro F M H xs as P X Q lv ra h q x'
  match as, h with
  | [.int i], h =>
    obtain ⟨v, rfl, r⟩ := reps1 ra
    exact .inl ⟨i, by rw [show v = .int i from r], q _ _ _ h .refl rfl⟩
  | [.bl i], h =>
    obtain ⟨v, rfl, r⟩ := reps1 ra
    exact .inr ⟨i, by rw [show v = .bl i from r], q _ _ _ h .refl rfl⟩
def oLen : OL := fun as P _ => match as with
  | [.lst ds] => P (.int (ds.length : Nat))
  | [.tup ds] => P (.int (ds.length : Nat))
  | [.str x] => x.length ≤ sizeLine ∧ P (.int (x.length : Nat))
  | _ => False
theorem ls_len : LsS K E1 (rLenA K) oLen := by
  intro F M H xs as P X Q lv ra h q x'
  match as, h with
  | [.lst ds], h =>
    obtain ⟨v, rfl, r⟩ := reps1 ra
    obtain ⟨p, vs, rfl, ok, hp, rs⟩ := r
    exact ⟨.ref p, ds.length, rfl, .inl ⟨vs, SqL.of hp, rs.length.symm⟩, q _ _ _ h .refl rfl⟩
  | [.tup ds], h =>
    obtain ⟨v, rfl, r⟩ := reps1 ra
    obtain ⟨p, vs, rfl, ok, hp, rs⟩ := r
    exact ⟨.ref p, ds.length, rfl, .inr ⟨vs, SqT.of hp, rs.length.symm⟩, q _ _ _ h .refl rfl⟩
  | [.str z], h =>
    obtain ⟨v, rfl, r⟩ := reps1 ra
    exact ⟨v, z.length, rfl, by rw [show v = .str z from r]; exact ⟨h.1, rfl⟩, q _ _ _ h.2 .refl rfl⟩
def oList : OL := fun as P _ => match as with
  | [.lst ds] => P (.lst ds)
  | [.tup ds] => P (.lst ds)
  | _ => False
theorem sf_listof {ta : TA} {fa : FA} (ha : SA K ow E ta fa) : SF K ow E (tCB (rListOf0 K) ta) (fLs oList fa) := by
  intro w H σ ρ P X Q e h q x
  refine ha w H σ ρ _ X _ e h (fun as vs H1 hd g r => ?_) x
  have e1 := e.grow g
  match as, hd with
  | [.lst ds], hd =>
    obtain ⟨v, rfl, r1⟩ := reps1 r
    obtain ⟨p, vs, rfl, ok, hp, rs⟩ := r1
    exact ⟨p, vs, rfl, .inl (SqL.of hp), fun pp np => q _ pp _ _ hd (g.trans (.new np)) (newer e1.lv g np) upd_same (newL_own np rs)⟩
  | [.tup ds], hd =>
    obtain ⟨v, rfl, r1⟩ := reps1 r
    obtain ⟨p, vs, rfl, ok, hp, rs⟩ := r1
    exact ⟨p, vs, rfl, .inr (SqT.of hp), fun pp np => q _ pp _ _ hd (g.trans (.new np)) (newer e1.lv g np) upd_same (newL_own np rs)⟩
abbrev rTupOf0 (K : PySem.W.Frag) : List V → Hp → VK → Prop := fun xs H Q => ∃ p ys, xs = [.ref p] ∧ ((SqL K H p ys ∧ ∀ l, H l = none → Q (.ref l) (upd H l (.tup ys))) ∨ (SqT K H p ys ∧ Q (.ref p) H))
def oTuple : OL := fun as P _ => match as with
  | [.lst ds] => P (.tup ds)
  | [.tup ds] => P (.tup ds)
  | _ => False
theorem ls_tuple : LsS K E1 (rTupOf0 K) oTuple := by
  intro F M H xs as P X Q lv ra h q x'
  match as, h with
  | [.lst ds], h =>
    obtain ⟨v, rfl, r⟩ := reps1 ra
    obtain ⟨p, vs, rfl, ok, hp, rs⟩ := r
    exact ⟨p, vs, rfl, .inl ⟨SqL.of hp, fun pp np => q _ _ _ h (.new np) (rep_newT lv np rs)⟩⟩
  | [.tup ds], h =>
    obtain ⟨v, rfl, r⟩ := reps1 ra
    obtain ⟨p, vs, rfl, ok, hp, rs⟩ := r
    exact ⟨p, vs, rfl, .inr ⟨SqT.of hp, q _ _ _ h .refl ⟨p, vs, rfl, ok, hp, rs⟩⟩⟩
def oCat : O2 := fun a b P _ => match a, b with
  | .lst x, .lst y => x.length + y.length ≤ sizeLine ∧ P (.lst (x ++ y))
  | _, _ => False
theorem os_cat : OpS K E1 rCat oCat := by
  intro F M H x y a b P X Q lv ra rb h q x'
  cases a <;> cases b <;> first | exact h.elim | skip
  obtain ⟨p, vs, rfl, ok, hp, rs⟩ := ra
  obtain ⟨p2, vs2, rfl, ok2, hp2, rs2⟩ := rb
  exact ⟨p, p2, vs, vs2, rfl, rfl, hp, hp2, by rw [rs.length, rs2.length]; exact h.1, fun pp np => q _ _ _ h.2 (.new np) (rep_newL lv np (rs.append rs2))⟩
def oRep : O2 := fun a b P _ => match a, b with
  | .lst x, .int k => (-(2 ^ 63) ≤ k ∧ k < 2 ^ 63) ∧ x.length * k.toNat ≤ sizeLine ∧ P (.lst (List.replicate k.toNat x).flatten)
  | _, _ => False
theorem Reps.rep {ds : List D} {vs : List V} (r : Reps K F M H ds vs) : ∀ n : Nat, Reps K F M H (List.replicate n ds).flatten (List.replicate n vs).flatten
  | 0 => rfl
  | n + 1 => by
    rw [List.replicate_succ, List.replicate_succ, List.flatten_cons, List.flatten_cons]
    exact r.append (Reps.rep r n)
theorem os_rep : OpS K E1 rRep oRep := by
  intro F M H x y a b P X Q lv ra rb h q x'
  cases a <;> cases b <;> first | exact h.elim | skip
  obtain ⟨p, vs, rfl, ok, hp, rs⟩ := ra
  exact ⟨p, _, vs, rfl, rb, hp, h.1.1, h.1.2, by rw [rs.length]; exact h.2.1, fun pp np => q _ _ _ h.2.2 (.new np) (rep_newL lv np (rs.rep _))⟩
/-! ### isinstance -/
inductive Cl where
  | ty (n : String) | own (C : Str)
def Cl.v (K : PySem.W.Frag) : Cl → V
  | .ty n => .ty n
  | .own C => .ref (He.ga K C)
def Cl.u (K : PySem.W.Frag) : Cl → Value
  | .ty n => .type n
  | .own C => .ref (He.ga K C)
def tyN : D → Option String
  | .non => some "NoneType"
  | .bl _ => some "bool"
  | .int _ => some "int"
  | .str _ => some "str"
  | .lst _ => some "list"
  | .tup _ => some "tuple"
  | _ => none
def subN (a b : String) : Bool := a == b || (a == "bool" && b == "int")
def isD (cs : List Str) (c : Cl) (d : D) : Option Bool :=
  match tyN d with
  | some t => (match c with
    | .ty n => if n ∈ ["int", "bool", "str", "list", "tuple"] then some (subN t n) else none
    | .own C => if C ∈ cs then some false else none)
  | none => (match clsD d with
    | some C => if C ∈ cs then (match c with
      | .ty n => if n ∈ ["int", "bool", "str", "list", "tuple"] then some false else none
      | .own C' => if C' ∈ cs then some (decide (C = C')) else none) else none
    | none => none)
/-- what the written part says of the own classes cs -/
structure KT (K : PySem.W.Frag) (cs : List Str) : Prop where
  own : ∀ C, C ∈ cs → OwnC K (He.ga K C)
  ob : ∀ C, C ∈ cs → ∀ n, n ∈ ["int", "bool", "str", "list", "tuple"] → PySem.W.kitOne K (.ref (He.ga K C)) (.type n) = some false
  bo : ∀ C, C ∈ cs → ∀ n, n ∈ ["NoneType", "int", "bool", "str", "list", "tuple"] → PySem.W.kitOne K (.type n) (.ref (He.ga K C)) = some false
  oo : ∀ C, C ∈ cs → ∀ C', C' ∈ cs → PySem.W.kitOne K (.ref (He.ga K C)) (.ref (He.ga K C')) = some (decide (C = C'))
theorem tyN_ok {d : D} {v : V} {t : String} (r : Rep K F M H d v) (h : tyN d = some t) : TyX K H v (.type t) ∧ t ∈ ["NoneType", "int", "bool", "str", "list", "tuple"] := by
  cases d <;> first | (cases h; done) | skip
  · cases h; rw [show v = .non from r]; exact ⟨.base .non, by simp⟩
  · cases h; rw [show v = _ from r]; exact ⟨.base (.bl _), by simp⟩
  · cases h; rw [show v = _ from r]; exact ⟨.base (.int _), by simp⟩
  · cases h; rw [show v = _ from r]; exact ⟨.base (.str _), by simp⟩
  · cases h; obtain ⟨p, vs, rfl, _, e, _⟩ := r; exact ⟨.base (.lst e), by simp⟩
  · cases h; obtain ⟨p, vs, rfl, _, e, _⟩ := r; exact ⟨.base (.tup e), by simp⟩
theorem clsD_ok {cs : List Str} {d : D} {v : V} {C : Str} (T : KT K cs) (r : Rep K F M H d v) (h : clsD d = some C) (hC : C ∈ cs) : TyX K H v (.ref (He.ga K C)) := by
  cases d <;> first | (cases h; done) | skip
  · cases h; obtain ⟨p, rfl, _, dx, e⟩ := r; exact (T.own _ hC).ty e
  · cases h; obtain ⟨p, dx, t, l, vs, rfl, _, e, _⟩ := r; exact (T.own _ hC).ty e
  · cases h; obtain ⟨p, dx, gs, rfl, _, e, _⟩ := r; exact (T.own _ hC).ty e
theorem kit_bb {a b : String} (ha : a ∈ ["NoneType", "int", "bool", "str", "list", "tuple"]) (hb : b ∈ ["int", "bool", "str", "list", "tuple"]) : PySem.W.kitOne K (.type a) (.type b) = some (subN a b) := by
  simp only [List.mem_cons, List.not_mem_nil, or_false] at ha hb
  rcases ha with rfl | rfl | rfl | rfl | rfl | rfl <;> rcases hb with rfl | rfl | rfl | rfl | rfl <;> exact kit_ty (by decide +kernel)
theorem isD_ok {cs : List Str} {c : Cl} {d : D} {v : V} {b : Bool} (T : KT K cs) (r : Rep K F M H d v) (h : isD cs c d = some b) : ∃ t, TyX K H v t ∧ PySem.W.kitOne K t (c.u K) = some b := by
  unfold isD at h
  cases ht : tyN d with
  | some t =>
    rw [ht] at h
    obtain ⟨h1, h2⟩ := tyN_ok r ht
    cases c with
    | ty n =>
      dsimp only at h
      split at h
      · rename_i hn
        cases h
        exact ⟨_, h1, kit_bb h2 hn⟩
      · cases h
    | own C =>
      dsimp only at h
      split at h
      · rename_i hn
        cases h
        exact ⟨_, h1, T.bo C hn t h2⟩
      · cases h
  | none =>
    rw [ht] at h
    dsimp only at h
    cases hc : clsD d with
    | none => rw [hc] at h; cases h
    | some C =>
      rw [hc] at h
      dsimp only at h
      split at h
      · rename_i hC
        have h1 := clsD_ok T r hc hC
        cases c with
        | ty n =>
          dsimp only at h
          split at h
          · rename_i hn
            cases h
            exact ⟨_, h1, T.ob C hC n hn⟩
          · cases h
        | own C' =>
          dsimp only at h
          split at h
          · rename_i hn
            cases h
            exact ⟨_, h1, T.oo C hC C' hn⟩
          · cases h
      · cases h
def fIsi (cs : List Str) (c : Cl) (fe : FE) : FE := fun ρ P X => fe ρ (fun d => ∃ b, isD cs c d = some b ∧ P (.bl b)) X
theorem cl_clsV (c : Cl) : ClsV (c.v K) (c.u K) := by
  cases c with
  | ty n => exact .ty n
  | own C => exact .own _
theorem se_isi {cs : List Str} {c : Cl} {te : TE} {fe : FE} (T : KT K cs) (he : SE K ow E te fe) : SE K ow E (tCB (rIsi K) (tCons te (tCons (tC (c.v K)) tNil))) (fIsi cs c fe) := by
  intro w H σ ρ P X Q e h q x
  refine he w H σ ρ _ X _ e h (fun d v H1 hd g r => ?_) x
  obtain ⟨b, hb, p⟩ := hd
  obtain ⟨t, h1, h2⟩ := isD_ok T r hb
  exact ⟨v, _, t, c.u K, b, rfl, cl_clsV c, h1, h2, q _ _ _ p g rfl⟩
/-- isinstance(e, (list, tuple)) -/
def fIsLT (cs : List Str) (fe : FE) : FE := fun ρ P X => fe ρ (fun d => ∃ b b', isD cs (.ty "list") d = some b ∧ isD cs (.ty "tuple") d = some b' ∧ P (.bl (b || b'))) X
theorem isD_ok2 {cs : List Str} {c c' : Cl} {d : D} {v : V} {b b' : Bool} (T : KT K cs) (r : Rep K F M H d v) (h : isD cs c d = some b) (h' : isD cs c' d = some b') : ∃ t, TyX K H v t ∧ PySem.W.kitOne K t (c.u K) = some b ∧ PySem.W.kitOne K t (c'.u K) = some b' := by
  have key : ∀ {c : Cl} {b : Bool}, isD cs c d = some b → (∃ t, tyN d = some t) ∨ ∃ C, C ∈ cs ∧ clsD d = some C := fun {c b} h => by
    unfold isD at h
    cases ht : tyN d with
    | some t => exact .inl ⟨t, rfl⟩
    | none =>
      rw [ht] at h
      dsimp only at h
      cases hc : clsD d with
      | none => rw [hc] at h; cases h
      | some C =>
        rw [hc] at h
        dsimp only at h
        split at h
        · rename_i hC; exact .inr ⟨C, hC, rfl⟩
        · cases h
  have uniq : ∃ t, TyX K H v t ∧ ∀ {c : Cl} {b : Bool}, isD cs c d = some b → PySem.W.kitOne K t (c.u K) = some b := by
    rcases key h with ⟨t, ht⟩ | ⟨C, hC, hc⟩
    · obtain ⟨h1, h2⟩ := tyN_ok r ht
      refine ⟨_, h1, fun {c b} h => ?_⟩
      unfold isD at h
      rw [ht] at h
      cases c with
      | ty n =>
        dsimp only at h
        split at h
        · rename_i hn; cases h; exact kit_bb h2 hn
        · cases h
      | own C =>
        dsimp only at h
        split at h
        · rename_i hn; cases h; exact T.bo C hn t h2
        · cases h
    · refine ⟨_, clsD_ok T r hc hC, fun {c b} h => ?_⟩
      have ht : tyN d = none := by cases d <;> first | rfl | cases hc
      unfold isD at h
      rw [ht, hc] at h
      dsimp only at h
      rw [if_pos hC] at h
      cases c with
      | ty n =>
        dsimp only at h
        split at h
        · rename_i hn; cases h; exact T.ob C hC n hn
        · cases h
      | own C' =>
        dsimp only at h
        split at h
        · rename_i hn; cases h; exact T.oo C hC C' hn
        · cases h
  obtain ⟨t, h1, h2⟩ := uniq
  exact ⟨t, h1, h2 h, h2 h'⟩
theorem se_isLT {cs : List Str} {te : TE} {fe : FE} (T : KT K cs) (he : SE K ow E te fe) : SE K ow E (tCB (rIsiT K) (tCons te (tCons (tTup (tCons (tC (.ty "list")) (tCons (tC (.ty "tuple")) tNil))) tNil))) (fIsLT cs fe) := by
  intro w H σ ρ P X Q e h q x
  refine he w H σ ρ _ X _ e h (fun d v H1 hd g r => ?_) x
  obtain ⟨b, b', hb, hb', p⟩ := hd
  refine ⟨by decide, fun tp np => ?_⟩
  have g2 := g.trans (Gr.new (K := K) (F := w.F) (o := .tup [.ty "list", .ty "tuple"]) np)
  obtain ⟨t, h1, h2, h3⟩ := isD_ok2 T (Rep.goes (Gr.new (K := K) np).goes _ _ r) hb hb'
  refine ⟨v, tp, [.ty "list", .ty "tuple"], t, [.type "list", .type "tuple"], b || b', rfl, upd_same, .cons (.ty _) (.cons (.ty _) .nil), h1, ?_, q _ _ _ p g2 rfl⟩
  have h2' : PySem.W.kitOne K t (.type "list") = some b := h2
  have h3' : PySem.W.kitOne K t (.type "tuple") = some b' := h3
  simp only [PySem.W.kitAny, h2', h3']
  cases b <;> cases b' <;> rfl
end
end MR

set_option Elab.async false
set_option linter.all false
set_option maxRecDepth 100000
set_option maxHeartbeats 4000000
set_option exponentiation.threshold 20000
/-! FL: own operators, raise, try, whole defs -/
namespace MR
open PySem PySem.Spec PyProof.Rows L2
section
variable {K : PySem.W.Frag} {w : Wd} {ow ow' ow1 owb owx : List Nat} {H H' : Hp} {σ : L2.St} {ρ : Env} {E : L2.St → XK} {E1 : XK} {N : L2.Ends} {FD : FEnds} {F : Option Addr} {M : Addr → Prop}
theorem clsD_at {d : D} {v : V} {C : Str} (r : Rep K F M H d v) (h : clsD d = some C) : ∃ p dx fs, v = .ref p ∧ H p = some (.ins (He.ga K C) dx fs) := by
  cases d <;> first | (cases h; done) | skip
  · cases h; obtain ⟨p, rfl, _, dx, e⟩ := r; exact ⟨p, dx, _, rfl, e⟩
  · cases h; obtain ⟨p, dx, t, l, vs, rfl, _, e, _⟩ := r; exact ⟨p, dx, _, rfl, e⟩
  · cases h; obtain ⟨p, dx, gs, rfl, _, e, _⟩ := r; exact ⟨p, dx, _, rfl, e⟩
def isInt : D → Prop
  | .int _ => True
  | _ => False
def oOwn (C : Str) (fsp : FSp) : O2 := fun a b P X => clsD a = some C ∧ (isInt b ∨ clsD b = some C) ∧ fsp [a, b] P X
def oOwn0 (C : Str) (fsp : FSp) : O2 := fun a b P X => clsD a = some C ∧ (isInt b ∨ clsD b = some C) ∧ fsp [a, b] P X0
def oRfl (C : Str) (fsp : FSp) : O2 := fun a b P X => isInt a ∧ clsD b = some C ∧ fsp [b, a] P X
def oRfl0 (C : Str) (fsp : FSp) : O2 := fun a b P X => isInt a ∧ clsD b = some C ∧ fsp [b, a] P X0
theorem isInt_at {b : D} {y : V} (h : isInt b) (r : Rep K F M H b y) : ∃ n, y = .int n := by
  cases b <;> first | exact h.elim | skip
  exact ⟨_, r⟩
theorem os_own {C : Str} {sp : Sp} {fsp : FSp} (L : Lift K sp fsp) : OpS K E1 (rOwn (He.ga K C) sp E1) (oOwn C fsp) := by
  intro F M H x y a b P X Q lv ra rb h q x'
  obtain ⟨h1, h2, h3⟩ := h
  obtain ⟨p, dx, fs, rfl, e⟩ := clsD_at ra h1
  refine ⟨p, dx, fs, rfl, e, ?_, L _ _ _ _ ⟨F, M, [a, b], P, X, lv, .cons ra (.one rb), h3, q, x'⟩⟩
  rcases h2 with h2 | h2
  · exact .inl (isInt_at h2 rb)
  · obtain ⟨p', dx', fs', rfl, e'⟩ := clsD_at rb h2
    exact .inr ⟨p', dx', fs', rfl, e'⟩
theorem px0 : PostX K F H X0 E0 := fun x cls dd H' hx _ _ => hx
theorem os_own0 {C : Str} {sp : Sp} {fsp : FSp} (L : Lift K sp fsp) : OpS K E1 (rOwn (He.ga K C) sp E0) (oOwn0 C fsp) := fun F M H x y a b P X Q lv ra rb h q _ => os_own (E1 := E0) L F M H x y a b P X0 Q lv ra rb h q px0
theorem os_rfl {C : Str} {sp : Sp} {fsp : FSp} (L : Lift K sp fsp) : OpS K E1 (rRefl (He.ga K C) sp E1) (oRfl C fsp) := by
  intro F M H x y a b P X Q lv ra rb h q x'
  obtain ⟨h1, h2, h3⟩ := h
  obtain ⟨p, dx, fs, rfl, e⟩ := clsD_at rb h2
  obtain ⟨n, rfl⟩ := isInt_at h1 ra
  exact ⟨n, p, dx, fs, rfl, rfl, e, L _ _ _ _ ⟨F, M, [b, a], P, X, lv, .cons rb (.one ra), h3, q, x'⟩⟩
theorem os_rfl0 {C : Str} {sp : Sp} {fsp : FSp} (L : Lift K sp fsp) : OpS K E1 (rRefl (He.ga K C) sp E0) (oRfl0 C fsp) := fun F M H x y a b P X Q lv ra rb h q _ => os_rfl (E1 := E0) L F M H x y a b P X0 Q lv ra rb h q px0
def oNegO (C : Str) (fsp : FSp) : O1 := fun a P X => clsD a = some C ∧ fsp [a] P X0
theorem us_negO {C : Str} {sp : Sp} {fsp : FSp} (L : Lift K sp fsp) : UnS K E1 (rNegO (He.ga K C) sp E0) (oNegO C fsp) := by
  intro F M H x a P X Q lv ra h q x'
  obtain ⟨h1, h3⟩ := h
  obtain ⟨p, dx, fs, rfl, e⟩ := clsD_at ra h1
  exact ⟨p, dx, fs, rfl, e, L _ _ _ _ ⟨F, M, [a], P, X0, lv, .one ra, h3, q, px0⟩⟩
def oAbsO (C : Str) (fsp : FSp) : OL := fun as P X => ∃ a, as = [a] ∧ clsD a = some C ∧ fsp [a] P X0
theorem ls_absO {C : Str} {sp : Sp} {fsp : FSp} (L : Lift K sp fsp) : LsS K E1 (rAbsO (He.ga K C) sp E0) (oAbsO C fsp) := by
  intro F M H xs as P X Q lv ra h q x'
  obtain ⟨a, rfl, h1, h3⟩ := h
  obtain ⟨v, rfl, r⟩ := reps1 ra
  obtain ⟨p, dx, fs, rfl, e⟩ := clsD_at r h1
  exact ⟨p, dx, fs, rfl, e, L _ _ _ _ ⟨F, M, [a], P, X0, lv, ra, h3, q, px0⟩⟩
/-! ### a chain of two comparisons -/
def fChain (o o' : O2) (fa fb fc : FE) : FE := fun ρ P X => fa ρ (fun a => fb ρ (fun b => o a b (toB fun k => if k = true then fc ρ (fun c => o' b c P X) X else P (.bl false)) X) X) X
/-! ### raise -/
def fRaise (C p : Str) (fe : FE) : FS := fun FD ρ => fe ρ (fun d => FD.ex ⟨C, [(p, d)]⟩ ρ) (fun x => FD.ex x ρ)
theorem ss_raise {C p : Str} {te : TE} {fe : FE} (hs : Sub owx ow) (he : SE K ow E te fe) : SS K ow ow' owb owx E (tRaiseS (He.ga K C) p (fun cls d σ H => E σ cls d H) (tCons te tNil)) (fRaise C p fe) := by
  intro w H σ ρ N FD e h k
  refine he w H σ ρ _ _ _ e h (fun d v H1 hd g r => ?_) (k.px e hs)
  refine ⟨v, rfl, fun a na => ?_⟩
  have e1 := e.grow g
  have g2 : Gr K w.F H1 (upd H1 a (.xd [(p, v)])) := .new na
  refine k.ex _ ρ σ _ _ _ hd ((e1.grow g2).free hs) ⟨rfl, .inr ⟨a, _, rfl, (e1.lv.ok na).1, upd_same, v, [], rfl, ?_, rfl⟩⟩
  exact Rep.goes (fun q o h nf m => ⟨h, fun z => z⟩) _ _ (Rep.goes g2.goes _ _ r)
def tRaise0 (C : Addr) (W : WX) : TS := fun _ σ H => W (.ref C) none σ H
def fRaise0 (C : Str) : FS := fun FD ρ => FD.ex ⟨C, []⟩ ρ
theorem ss_raise0 {C : Str} (hs : Sub owx ow) : SS K ow ow' owb owx E (tRaise0 (He.ga K C) (fun cls d σ H => E σ cls d H)) (fRaise0 C) := fun w H σ ρ N FD e h k => k.ex _ ρ σ H _ _ h (e.free hs) ⟨rfl, .inl ⟨rfl, rfl⟩⟩
/-! ### try -/
/-- of which own classes x.cls is: by names -/
abbrev XTab := List (Str × Str × Bool)
def XOk (K : PySem.W.Frag) (T : XTab) : Prop := ∀ a b k, (a, b, k) ∈ T → PySem.W.exmOne K (.ref (He.ga K a)) (.ref (He.ga K b)) = some k
/-- an expression of an except suite; the error at a, named by slot i -/
def SEH (K : PySem.W.Frag) (ow : List Nat) (i : Nat) (a : Addr) (cls : Value) (dd : Option Addr) (x : Exn) (ta : TE) (fa : FE) : Prop :=
  ∀ (w : Wd) (H : Hp) (σ : L2.St) (ρ : Env) (P : D → Prop) (Q : VK), REnv K w ow H σ ρ → RepX K w.F H cls dd x → σ[i]? = some (some (.ref a)) → fa ρ P X0 → Post K w.F (w.Mx ow σ) H P Q → ta σ H Q
theorem SE.sh {i : Nat} {a : Addr} {cls : Value} {dd : Option Addr} {x : Exn} {ta : TE} {fa : FE} (h : SE K ow (fun _ => E0) ta fa) : SEH K ow i a cls dd x ta fa := fun w H σ ρ P Q e _ _ hf q => h w H σ ρ P X0 Q e hf q px0
def flat : D → Prop
  | .int _ => True
  | .str _ => True
  | .bl _ => True
  | .non => True
  | _ => False
theorem Rep.flat {M' : Addr → Prop} {d : D} {v : V} (hd : flat d) (r : Rep K F M H d v) : Rep K F M' H d v := by
  cases d <;> first | exact hd.elim | exact r
theorem xs_get {f : Str} {d : D} : ∀ {fs : List (Str × D)} {gs : List (Str × V)}, RepXs K F H fs gs → fs.lookup f = some d → ∃ v, gs.lookup f = some v ∧ Rep K F (fun _ => False) H d v
  | [], _, _, h => by cases h
  | (n, e) :: r, gs, h, hl => by
    obtain ⟨v, gr, rfl, r1, r2⟩ := h
    simp only [List.lookup] at hl ⊢
    split at hl
    · cases hl; exact ⟨v, rfl, r1⟩
    · exact xs_get r2 hl
def fXf (x : Exn) (C f : Str) : FE := fun ρ P _ => x.cls = C ∧ ∃ d, x.fs.lookup f = some d ∧ flat d ∧ P d
theorem sh_xf {i : Nat} {a : Addr} {cls : Value} {dd : Option Addr} {x : Exn} {C f : Str} : SEH K ow i a cls dd x (tXf a cls dd (He.ga K C) f (tVar i)) (fXf x C f) := by
  intro w H σ ρ P Q e r hi h q
  obtain ⟨hc, d, hd, fl, p⟩ := h
  obtain ⟨r1, r2⟩ := r
  refine ⟨_, hi, rfl, by rw [r1, hc], ?_⟩
  rcases r2 with ⟨r2, _⟩ | ⟨ad, gs, r2, r3, r4, r5⟩
  · rw [r2] at hd; cases hd
  · obtain ⟨v, h1, h2⟩ := xs_get r5 hd
    exact ⟨ad, gs, v, r2, r4, h1, q _ _ _ p .refl (h2.flat fl)⟩
/-- isinstance(e, C2) -/
def fIsX (T : XTab) (x : Exn) (C : Str) : FE := fun ρ P _ => ∃ k, (x.cls, C, k) ∈ T ∧ P (.bl k)
def fTryAs (T : XTab) (C : Str) (i j : Nat) (fb : FS) (fh : Exn → FE) : FS := fun FD ρ => fb { FD with ex := fun x ρ' => (x.cls, C, true) ∈ T ∧ fh x (ρ'.set i (some .exc)) (fun d => FD.nx (((ρ'.set i (some .exc)).set j (some d)).set i none)) X0 } ρ
theorem ss_tryAs {T : XTab} {C : Str} {i j : Nat} {tb : WX → TS} {te : Addr → Value → Option Addr → TE} {fb : FS} {fh : Exn → FE} (XT : XOk K T) (hi : i ∉ ow') (hj : j ∉ ow')
    (hb : ∀ W : WX, SS K ow ow' owb ow' (WE W) (tb W) fb)
    (hh : ∀ (a : Addr) (cls : Value) (dd : Option Addr) (x : Exn), SEH K ow' i a cls dd x (te a cls dd) (fun ρ P X => i < ρ.length ∧ fh x ρ P X)) :
    SS K ow ow' owb owx E (fun D => tb (wAs K (.ref (He.ga K C)) i (fun a cls dd => tAsg (te a cls dd) (gName j)) (fun _ _ _ _ => False) D) D) (fun FD ρ => fTryAs T C i j fb (fun x ρ P X => i < ρ.length ∧ fh x ρ P X) FD ρ) := by
  intro w H σ ρ N FD e h k
  refine hb _ w H σ ρ N _ e h ⟨k.nx, k.rt, k.bk, k.ct, fun x ρ' σ' H1 cls dd hx e' r => ?_⟩
  obtain ⟨hT, hx⟩ := hx
  refine ⟨true, by rw [r.1]; exact XT _ _ _ hT, fun _ a na => ?_, fun z => by cases z⟩
  have e2 := e'.put (d := .exc) (v := .ref a) hi ⟨a, rfl⟩
  have hlt : i < σ'.length := by
    have := (e2.imm i hi).len.mp hx.1
    rwa [List.length_set] at this
  refine hh a cls dd x w H1 _ _ _ _ e2 r (by rw [set_get, if_pos rfl, if_pos hlt]) hx (fun d v H2 hd g2 r2 => ?_)
  exact k.nx _ _ _ hd (((e2.grow g2).put hj r2).clr hi)
def fTry (T : XTab) (C : Str) (j : Nat) (fb : FS) (fh : FE) : FS := fun FD ρ => fb { FD with ex := fun x ρ' => (x.cls, C, true) ∈ T ∧ fh ρ' (fun d => FD.nx (ρ'.set j (some d))) X0 } ρ
theorem ss_try {T : XTab} {C : Str} {j : Nat} {tb : WX → TS} {te : TE} {fb : FS} {fh : FE} (XT : XOk K T) (hj : j ∉ ow')
    (hb : ∀ W : WX, SS K ow ow' owb ow' (WE W) (tb W) fb) (hh : SE K ow' (fun _ => E0) te fh) :
    SS K ow ow' owb owx E (fun D => tb (wOnly K (.ref (He.ga K C)) (fun a cls dd => tAsg te (gName j)) (fun _ _ _ _ => False) D) D) (fTry T C j fb fh) := by
  intro w H σ ρ N FD e h k
  refine hb _ w H σ ρ N _ e h ⟨k.nx, k.rt, k.bk, k.ct, fun x ρ' σ' H1 cls dd hx e' r => ?_⟩
  obtain ⟨hT, hx⟩ := hx
  refine ⟨true, by rw [r.1]; exact XT _ _ _ hT, fun _ a na => ?_, fun z => by cases z⟩
  exact hh w H1 σ' ρ' _ X0 _ e' hx (fun d v H2 hd g2 r2 => k.nx _ _ _ hd ((e'.grow g2).put hj r2)) px0
/-! ### whole defs -/
def startD (n : Nat) (ds : List D) : Env := ds.map some ++ List.replicate (n - ds.length) none
def topE (P : D → Prop) (X : XP) : FEnds := ⟨fun _ => P .non, P, fun _ => False, fun _ => False, fun x _ => X x⟩
theorem start_sl {R : D → V → Prop} : ∀ {ds : List D} {vs : List V} (k i : Nat), Reps K F M H ds vs → (∀ d v, Rep K F M H d v → R d v) → Sl R (ds.map some ++ List.replicate k none)[i]? (vs.map some ++ List.replicate k none)[i]?
  | [], vs, k, i, r, h => by
    rw [show vs = [] from r]
    simp only [List.map_nil, List.nil_append]
    rw [List.getElem?_replicate, List.getElem?_replicate]
    split
    · trivial
    · trivial
  | d :: ds, vs, k, i, r, h => by
    obtain ⟨v, us, rfl, r1, r2⟩ := r
    cases i with
    | zero => exact h d v r1
    | succ i =>
      simp only [List.map_cons, List.cons_append, List.getElem?_cons_succ]
      exact start_sl k i r2 h
theorem start_env {names : List Str} {n : Nat} {ds : List D} {vs : List V} (lv : Lv K F M H) (r : Reps K F M H ds vs) (hn : names.length = n) : REnv K ⟨F, M, H⟩ [] H (start names vs) (startD n ds) := by
  refine ⟨.refl, lv.m, lv.nf, fun i _ => ?_, fun i hi => (nomatch hi), fun i hi => (nomatch hi), fun f hf => ?_⟩
  · unfold L2.start startD
    rw [hn, r.length]
    exact start_sl _ _ r fun d v h => Rep.goes (fun p o h _ m => ⟨h, fun z => m (z.elim id fun ⟨_, y, _⟩ => (nomatch y))⟩) _ _ h
  · obtain ⟨c, h1, h2⟩ := lv.f f hf
    exact ⟨c, h1, fun z => h2 (z.elim id fun ⟨_, y, _⟩ => (nomatch y))⟩
theorem fn_ok {names : List Str} {n : Nat} {fsp : FSp} {t : XK → TS} {fb : FS} (hn : names.length = n) (h : ∀ E, SS K [] [] [] [] (fun _ => E) (t E) fb) (pure : ∀ ds P X, fsp ds P X → fb (topE P X) (startD n ds)) (vs : List V) (H : Hp) (Q : VK) (E : XK) (l : lift K fsp vs H Q E) :
    t E { nx := fun _ H' => Q .non H', rt := Q } (start names vs) H := by
  obtain ⟨F, M, ds, P, X, lv, r, hs, q, x⟩ := l
  refine h E ⟨F, M, H⟩ H _ _ _ _ (start_env lv r hn) (pure ds P X hs) ⟨fun ρ σ H' hp e => q _ _ _ hp e.gr rfl, fun d v H' hd g r => q d v H' hd g r, fun _ _ _ z => z.elim, fun _ _ _ z => z.elim, fun x' ρ σ H' cls dd hx e r => x x' cls dd H' hx e.gr r⟩
theorem fn_ok0 {names : List Str} {n : Nat} {fsp : FSp} {t : TS} {fb : FS} (hn : names.length = n) (h : SS K [] [] [] [] (fun _ => E0) t fb) (pure : ∀ ds P X, fsp ds P X → fb (topE P X0) (startD n ds)) (vs : List V) (H : Hp) (Q : VK) (E : XK) (l : lift K fsp vs H Q E) :
    t { nx := fun _ H' => Q .non H', rt := Q } (start names vs) H := by
  obtain ⟨F, M, ds, P, X, lv, r, hs, q, x⟩ := l
  refine h ⟨F, M, H⟩ H _ _ _ _ (start_env lv r hn) (pure ds P X hs) ⟨fun ρ σ H' hp e => q _ _ _ hp e.gr rfl, fun d v H' hd g r => q d v H' hd g r, fun _ _ _ z => z.elim, fun _ _ _ z => z.elim, fun x' ρ σ H' cls dd hx e r => hx.elim⟩
/-! ### Ratio(..) -/
theorem mkl_rat_int : MkL K (CR K) (spRInit K) (fun ds P X => ∃ a b : Int, ds = [.int a, .int b] ∧ b ≠ 0 ∧ b.natAbs < 2 ^ 9000 ∧ P (.rat (Rat.divInt a b))) := by
  intro F M H ds vs P X Q E x dx lv r h q px nx nd ne
  obtain ⟨a, b, rfl, hb, h9, p⟩ := h
  have := Reps.ints (ns := [a, b]) r
  subst this
  refine mk_rat nx nd hb h9 fun H' s R => q _ _ _ p (.same s) ⟨x, rfl, lv.ok nx, R⟩
/-! ### fields of an object in the making -/
theorem self_set {te : TE} {fe : FE} {f : Str} {x C dx : Addr} {gs : List (Str × V)} {P : D → Prop} {X : XP} (he : SE K [] E te fe) (e : REnv K w [] H σ ρ) (m : w.M x) (hx : H x = some (.ins C dx gs)) (hσ : σ[0]? = some (some (.ref x))) (cl : Cls K C) (na : NoAttr K C f) (hl : gs.length < 1000) (hf : fe ρ P X) (px : PostX K w.F H X (E σ))
    (k : ∀ (d : D) (v : V) (H1 : Hp) (w' : Wd), P d → Gr K w.F H H1 → w'.F = w.F → w'.M = w.M → Rep K w.F w.M (upd H1 x (.ins C dx (putF f v gs))) d v → (∀ d' v', Rep K w.F w.M H d' v' → Rep K w.F w.M (upd H1 x (.ins C dx (putF f v gs))) d' v') → REnv K w' [] (upd H1 x (.ins C dx (putF f v gs))) σ ρ → N.nx σ (upd H1 x (.ins C dx (putF f v gs)))) :
    sFld K (tVar 0) te f N σ H := by
  refine he w H σ ρ P X _ e hf (fun d v H1 hd g r => ?_) px
  have hx1 : H1 x = some (.ins C dx gs) := g.old _ _ hx (e.nf x m)
  refine ⟨_, hσ, x, C, dx, gs, rfl, hx1, cl, na, hl, ?_⟩
  have e1 := (e.grow g).amb (o' := .ins C dx (putF f v gs)) m hx1
  have go : Goes w.F w.M H1 w.M (upd H1 x (.ins C dx (putF f v gs))) := fun q u h nf n => ⟨by rw [upd_ne (fun z => n (by rw [z]; exact m))]; exact h, n⟩
  have r' : Rep K w.F w.M H1 d v := Rep.goes (fun q u h _ n => ⟨h, fun z => n (.inl z)⟩) _ _ r
  exact k d v H1 (w.re (Mo [] σ) (upd H1 x (.ins C dx (putF f v gs)))) hd g rfl rfl (Rep.goes go _ _ r') (fun d' v' r0 => Rep.goes go _ _ (Rep.goes g.goes _ _ r0)) e1
end
end MR

set_option Elab.async false
set_option linter.all false
set_option maxRecDepth 100000
set_option maxHeartbeats 4000000
set_option exponentiation.threshold 20000
/-! FL: the draws -/
namespace MR
open PySem PySem.Spec PyProof.Rows L2
def FeedX (K : PySem.W.Frag) (H : Hp) (f c : Addr) : Prop := ∃ ns p b l n s, FeedAt K H f c ns p b l n s
def spTakeC (K : PySem.W.Frag) : Sp := fun vs H Q _ => ∃ (f : Addr) (z : Int) (c : Addr), vs = [.ref f, .int z] ∧ FeedX K H f c ∧ 0 < z ∧ z.natAbs < 2 ^ 9000 ∧ ∀ (d : Int) (H' : Hp), 0 ≤ d → d < z → FeedX K H' f c → Keep f H H' → Q (.int d) H'
theorem take2_okC {K : PySem.W.Frag} {H H0 : Hp} {f c : Addr} {ns : List Int} {p b l n s z : Int} {v2 v3 v4 : Option V} {D : L2.Ends} (F : FeedAt K H f c ns p b l n s) (hz : 0 < z) (hz9 : z.natAbs < 2 ^ 9000) (kp : Keep f H0 H)
    (k : ∀ (d : Int) (H' : Hp), 0 ≤ d → d < z → FeedX K H' f c → Keep f H0 H' → D.rt (.int d) H') : t_take2 K D [some (.ref f), some (.int z), v2, v3, v4] H := by
  have ob := F.ob
  refine ⟨_, rfl, f, _, _, _, rfl, rfl, SqL.of ob, rfl, _, _, rfl, rfl, _, rfl, ?_⟩
  refine ite2 (fun c1 => ?_) (fun c1 => ?_)
  · refine ⟨_, rfl, f, _, _, _, rfl, rfl, SqL.of ob, rfl, .inl ⟨_, rfl, _, rfl, _, _, rfl, rfl, (by omega), ?_⟩⟩
    refine ⟨_, rfl, f, _, _, _, rfl, rfl, SqL.of ob, rfl, _, rfl, _, _, rfl, rfl, div_ok (by omega) hz9 (by decide) (by decide), _, rfl, f, _, _, 2, rfl, rfl, ob, rfl, ?_⟩
    refine ⟨_, rfl, ?_⟩
    have hq : 0 ≤ b.fdiv z := Int.fdiv_nonneg F.b0 (by omega)
    exact k _ _ (fmod_lt hz).1 (fmod_lt hz).2 ⟨ns, p, b.fdiv z, l, n, s, F.upd F.p0 hq F.l0 F.n0 F.s0⟩ (kp.trans keep_upd)
  · refine ⟨_, rfl, f, _, _, _, rfl, rfl, SqL.of ob, rfl, _, _, rfl, rfl, _, _, rfl, _, rfl, f, _, _, 3, rfl, rfl, ob, rfl, ?_⟩
    have hl : 0 ≤ (if l - 1 > 0 then l - 1 else 0) := by omega
    have F1 := F.upd F.p0 F.b0 hl F.n0 F.s0
    have k1 : Keep f H0 _ := kp.trans (keep_upd (f := f) (H := H) (o := .lst [.ref c, .int p, .int b, .int (if l - 1 > 0 then l - 1 else 0), .int n, .int s]))
    have ob1 := F1.ob
    have m7 : ∀ x : Int, IntMulOk 7919 x := fun x => mul_okL (by decide)
    have m4 : ∀ x : Int, IntMulOk x 48271 := fun x => mul_okR (by decide)
    refine ⟨_, rfl, f, _, _, _, rfl, rfl, SqL.of ob1, rfl, _, rfl, f, _, _, _, rfl, rfl, SqL.of ob1, rfl, _, _, rfl, rfl, m7 _, _, _, rfl, rfl, _, _, rfl, rfl, _, _, rfl, rfl, m4 _, .inl ⟨_, rfl, _, _, rfl, rfl, (by decide : (2147483647 : Int) ≠ 0), ?_⟩⟩
    have step : ∀ (y m1 m2 m3 : Int), 0 ≤ y → y < 2147483647 → 0 < m1 → 0 < m2 → 0 ≤ y.fdiv m1 + m2 ∧ IntMulOk y (y.fdiv m1 + m2) := fun y m1 m2 m3 h0 h1 h2 h3 => by
      have hq : 0 ≤ y.fdiv m1 := Int.fdiv_nonneg h0 (by omega)
      exact ⟨by omega, mul_okL (by omega)⟩
    have hy2 := fmod_lt (a := (s + 7919 * n + 1) * 48271) (z := 2147483647) (by decide)
    refine ⟨_, rfl, _, rfl, _, _, rfl, rfl, div_ok (b := 30) (by decide) (by decide) (by decide) (by decide), _, _, rfl, rfl, _, _, rfl, rfl, (step _ 1009 69621 0 hy2.1 hy2.2 (by decide) (by decide)).2, .inl ⟨_, rfl, _, _, rfl, rfl, (by decide : (2147483647 : Int) ≠ 0), ?_⟩⟩
    have hu2 := fmod_lt (a := ((s + 7919 * n + 1) * 48271).fmod 2147483647 * ((((s + 7919 * n + 1) * 48271).fmod 2147483647).fdiv 1009 + 69621)) (z := 2147483647) (by decide)
    refine ⟨_, rfl, _, rfl, _, _, rfl, rfl, div_ok (b := 30) (by decide) (by decide) (by decide) (by decide), _, _, rfl, rfl, _, _, rfl, rfl, (step _ 2003 40692 0 hu2.1 hu2.2 (by decide) (by decide)).2, .inl ⟨_, rfl, _, _, rfl, rfl, (by decide : (2147483399 : Int) ≠ 0), ?_⟩⟩
    refine ⟨_, rfl, _, rfl, _, _, rfl, rfl, (by omega), ?_⟩
    exact k _ _ (fmod_lt hz).1 (fmod_lt hz).2 ⟨ns, _, _, _, _, _, F1⟩ k1
theorem pure_takeC {K : PySem.W.Frag} (vs : List V) (H : Hp) (Q : VK) (E : XK) (h : spTakeC K vs H Q E) : t__law_take K { nx := fun _ H' => Q .non H', rt := Q } (start ["_law_feed_here", "_law_size_here", "_law_number_here", "_law_cell", "_law_digit"] vs) H := by
  obtain ⟨f, z, c, rfl, ⟨ns, p, b, l, n, s, F⟩, hz, hz9, k⟩ := h
  refine ⟨_, rfl, f, _, _, _, rfl, rfl, (by decide), SqL.of F.ob, rfl, _, _, rfl, rfl, f, _, _, 4, rfl, rfl, F.ob, rfl, ?_⟩
  have F1 := F.upd F.p0 F.b0 F.l0 (n' := n + 1) (by have := F.n0; omega) F.s0
  have k1 : Keep f H _ := keep_upd (f := f) (H := H) (o := .lst [.ref c, .int p, .int b, .int l, .int (n + 1), .int s])
  have ob := F1.ob
  refine ⟨_, rfl, f, _, _, _, rfl, rfl, SqL.of ob, rfl, rfl, _, rfl, ?_⟩
  refine ite2 (fun _ => ?_) (fun _ => iteF (take2_okC F1 hz hz9 k1 k))
  refine ⟨_, rfl, f, _, _, _, rfl, rfl, SqL.of ob, rfl, rfl, _, rfl, ?_⟩
  refine ite2 (fun _ => ?_) (fun _ => iteF (take2_okC F1 hz hz9 k1 k))
  refine ⟨_, rfl, f, _, _, _, rfl, rfl, SqL.of ob, rfl, _, rfl, f, _, _, _, rfl, rfl, SqL.of ob, rfl, .ref c, (ns.map V.int).length, rfl, .inl ⟨_, F1.cs, rfl⟩, _, _, rfl, rfl, _, rfl, ?_⟩
  refine ite2 (fun c3 => ?_) (fun _ => take2_okC F1 hz hz9 k1 k)
  have hlt : p < ns.length := by
    have e := of_decide_eq_true c3
    rw [List.length_map] at e
    exact e
  have p0 := F.p0
  obtain ⟨x, hx⟩ : ∃ x, ns[p.toNat]? = some x := ⟨_, List.getElem?_eq_getElem (by omega)⟩
  have hx0 : 0 ≤ x := F.nn x (List.mem_of_getElem? hx)
  have hat : atI (ns.map V.int) p = some (.int x) := by
    have e : p = ((p.toNat : Nat) : Int) := by omega
    rw [e]
    exact atI_nat (by rw [List.getElem?_map, hx]; rfl)
  refine ⟨_, rfl, f, _, _, _, rfl, rfl, SqL.of ob, rfl, _, rfl, f, _, _, _, rfl, rfl, SqL.of ob, rfl, c, _, p, _, rfl, rfl, F1.cs, hat, ?_⟩
  refine ⟨_, rfl, f, _, _, _, rfl, rfl, (by decide), SqL.of ob, rfl, _, _, rfl, rfl, f, _, _, 1, rfl, rfl, ob, rfl, ?_⟩
  have F2 := F1.upd (p' := p + 1) (by omega) F.b0 F.l0 F1.n0 F.s0
  have k2 := k1.trans (keep_upd (f := f) (H := _) (o := .lst [.ref c, .int (p + 1), .int b, .int l, .int (n + 1), .int s]))
  have ob2 := F2.ob
  refine ⟨_, rfl, _, _, rfl, rfl, ⟨by decide, by decide, by decide⟩, _, _, rfl, rfl, _, rfl, ?_⟩
  refine ite2 (fun _ => ?_) (fun _ => ?_)
  · refine ⟨_, rfl, _, rfl, f, _, _, 2, rfl, rfl, ob2, rfl, ?_⟩
    exact take2_okC (F2.upd F2.p0 hx0 F.l0 F1.n0 F.s0) hz hz9 (k2.trans keep_upd) k
  · refine ⟨_, rfl, f, _, _, 3, rfl, rfl, ob2, rfl, ?_⟩
    have F3 := F2.upd F2.p0 F.b0 (l' := 7) (by decide) F1.n0 F.s0
    refine ⟨_, rfl, f, _, _, _, rfl, rfl, SqL.of F3.ob, rfl, _, rfl, _, _, rfl, rfl, _, rfl, f, _, _, 5, rfl, rfl, F3.ob, rfl, ?_⟩
    exact take2_okC (F3.upd F2.p0 F.b0 F3.l0 F1.n0 (s' := s + x) (by have := F.s0; omega)) hz hz9 ((k2.trans keep_upd).trans keep_upd) k
/-- _law_take(feed, size) -/
def fTake : FSp := fun ds P _ => ∃ z : Int, ds = [.feed, .int z] ∧ 0 < z ∧ z.natAbs < 2 ^ 9000 ∧ ∀ d : Int, 0 ≤ d → d < z → P (.int d)
theorem lift_take {K : PySem.W.Frag} : Lift K (spTakeC K) fTake := by
  intro vs H Q E h
  obtain ⟨F, M, ds, P, X, lv, r, ⟨z, rfl, hz, h9, hp⟩, q, x⟩ := h
  obtain ⟨v, u, rfl, r1, r2⟩ := reps2 r
  obtain ⟨f, hf, rfl⟩ := r1
  obtain ⟨c, ⟨ns, a1, a2, a3, a4, a5, o, G, e⟩, hc⟩ := lv.f f hf
  refine ⟨f, z, c, by rw [show u = .int z from r2], ⟨ns, a1, a2, a3, a4, a5, G⟩, hz, h9, fun d H' d0 d1 X' kp => q _ _ _ (hp d d0 d1) ⟨fun b o h n => kp b o h (fun y => n (by rw [y]; exact hf)), fun f' c' hf' h' => ?_⟩ rfl⟩
  have ef : f' = f := by rw [hf] at hf'; cases hf'; rfl
  subst ef
  have hcc : c' = c := feed_inj h' ⟨ns, a1, a2, a3, a4, a5, o, G, e⟩
  subst hcc
  obtain ⟨ns', b1, b2, b3, b4, b5, G'⟩ := X'
  exact ⟨ns', b1, b2, b3, b4, b5, o, G', kp _ _ e G.ne⟩
theorem pure__law_take' {K : PySem.W.Frag} (vs : List V) (H : Hp) (Q : VK) (E : XK) (h : lift K fTake vs H Q E) : t__law_take K { nx := fun _ H' => Q .non H', rt := Q } (start ["_law_feed_here", "_law_size_here", "_law_number_here", "_law_cell", "_law_digit"] vs) H := pure_takeC vs H Q E (lift_take vs H Q E h)
def spFeedC (K : PySem.W.Frag) : Sp := fun vs H Q _ => ∃ (a : Addr) (ns : List Int), vs = [.ref a] ∧ SqL K H a (ns.map V.int) ∧ ns.length ≤ 63 ∧ ∀ (f : Addr) (H' : Hp), H f = none → Same H H' → (∃ c, FeedC K H' f c) → Q (.ref f) H'
theorem pure_feedC {K : PySem.W.Frag} (vs : List V) (H : Hp) (Q : VK) (E : XK) (h : spFeedC K vs H Q E) : t__law_feed K { nx := fun _ H' => Q .non H', rt := Q } (start ["_law_script", "_law_cell"] vs) H := by
  obtain ⟨a, ns, rfl, hS, hl, k⟩ := h
  refine ⟨_, rfl, _, rfl, a, _, rfl, hS, fun p0 np => ?_⟩
  obtain ⟨ms, em, hm⟩ := cut_ints ns none (some 63)
  rw [em]
  have s0 : Same H (upd H p0 (.lst (ms.map V.int))) := same_new np
  refine ⟨p0, rfl, ⟨_, SqL.of upd_same⟩, fun D hD => ?_⟩
  have nD : H D = none := s0.free hD
  have ne : D ≠ p0 := fun e => by rw [e, upd_same] at hD; cases hD
  refine lc_list (K := K) (a := p0) (xs := ms.map V.int) (fun i H' => Same H H' ∧ H' p0 = some (.lst (ms.map V.int)) ∧ H' D = some (.lst ((ms.take i).map fun z => V.int (z.natAbs : Nat))))
    ⟨fun b o e => ?_, ?_, upd_same⟩ (fun i H' _ q => SqL.of q.2.1) ?_ ?_
  · rw [upd_ne (ne_of_none e nD)]
    exact s0 b o e
  · rw [upd_ne (Ne.symm ne), upd_same]
  · rintro i x H' hx ⟨s1, q1, q2⟩
    obtain ⟨z, hz, rfl⟩ := map_get hx
    have hi : i < ms.length := (List.getElem?_eq_some_iff.mp hz).1
    refine ⟨rfl, _, rfl, .inl ⟨_, rfl, _, rfl, _, q2, ?_, ?_, ?_, ?_⟩⟩
    · rw [List.length_map, List.length_take]
      exact small1000 (by omega)
    · intro b o e
      rw [upd_ne (ne_of_none e nD)]
      exact s1 b o e
    · rw [upd_ne (Ne.symm ne)]
      exact q1
    · rw [upd_same, take_succ_get hz, List.map_append, abs_if]
      rfl
  · rintro H' ⟨s1, q1, q2⟩
    rw [List.length_map, List.take_length] at q2
    refine ⟨(by show 6 ≤ sizeLine; decide), fun f nf => ?_⟩
    have s2 : Same H' _ := same_new (o := .lst [.ref D, .int 0, .int 0, .int 0, .int 0, .int 0]) nf
    refine k f _ (s1.free nf) (s1.trans s2) ⟨D, ms.map (fun z => ((z.natAbs : Nat) : Int)), 0, 0, 0, 0, 0, _, ⟨upd_same, ?_, ne_of_none q2 nf, ?_, by decide, by decide, by decide, by decide, by decide⟩, s2 _ _ q2⟩
    · rw [List.map_map]
      exact SqL.of (s2 _ _ q2)
    · intro x hx
      obtain ⟨z, _, rfl⟩ := List.mem_map.mp hx
      omega
def spLaw (K : PySem.W.Frag) : Sp := fun vs H Q _ => ∃ (a : Addr) (ns : List Int), vs = [.ref a] ∧ SqL K H a (ns.map V.int) ∧ ns.length ≤ 63 ∧ ∀ H', Q (.bl true) H'
def yes : D → Prop := fun d => d = .bl true
theorem law_ok {K : PySem.W.Frag} {names : List Str} {n : Nat} {t : TS} {f : FS} (hn : names.length = n + 2) (hs : SS K [] [] [] [] (fun _ => E0) t f) (hp : f (topE yes X0) (some .exc :: some .feed :: List.replicate n none)) (vs : List V) (H : Hp) (Q : VK) (E : XK) (h : spLaw K vs H Q E) :
    tSeq (tAsg (tCall (spFeedC K) [] E0 (tCons (tVar 0) tNil)) (gName 1)) t { nx := fun _ H' => Q .non H', rt := Q } (start names vs) H := by
  obtain ⟨a, ns, rfl, hS, hl, q⟩ := h
  have es : L2.start names [.ref a] = some (.ref a) :: none :: List.replicate n none := by
    unfold L2.start
    rw [hn]
    show some (V.ref a) :: List.replicate (n + 1) none = _
    rw [List.replicate_succ]
  rw [es]
  refine ⟨_, rfl, a, ns, rfl, hS, hl, fun fa H' nf sm ⟨c, hc⟩ => ?_⟩
  have lv : Lv K (some fa) (fun _ => False) H' := ⟨fun _ z => z.elim, fun f' hf => by cases hf; exact ⟨c, hc, fun z => z⟩, fun _ z => z.elim⟩
  refine hs ⟨some fa, fun _ => False, H'⟩ H' _ _ _ _ ?_ hp ⟨fun ρ σ H2 hx e => ?_, fun d v H2 hd g r => ?_, fun _ _ _ z => z.elim, fun _ _ _ z => z.elim, fun _ _ _ _ _ _ z => z.elim⟩
  · refine ⟨.refl, lv.m, lv.nf, fun i _ => ?_, fun i hi => (nomatch hi), fun i hi => (nomatch hi), fun f' hf => ?_⟩
    · show Sl _ (some D.exc :: some D.feed :: List.replicate n none)[i]? (some (V.ref a) :: some (V.ref fa) :: List.replicate n none)[i]?
      match i with
      | 0 => exact ⟨a, rfl⟩
      | 1 => exact ⟨fa, rfl, rfl⟩
      | i + 2 =>
        simp only [List.getElem?_cons_succ]
        rw [List.getElem?_replicate, List.getElem?_replicate]
        split <;> trivial
    · cases hf
      exact ⟨c, hc, fun z => z.elim id fun ⟨_, y, _⟩ => (nomatch y)⟩
  · cases hx
  · cases hd
    rw [show v = .bl true from r]
    exact q H2
end MR

set_option Elab.async false
set_option linter.all false
set_option maxRecDepth 100000
set_option maxHeartbeats 4000000
set_option exponentiation.threshold 20000
/-! FL: further rules -/
namespace MR
open PySem PySem.Spec PyProof.Rows L2
def fBr (ow : List Nat) (fa : FE) : FE := fun ρ P X => LstAt ow ρ ∧ fBor fa ρ P X
def fOwn (i : Nat) (fe : FE) : FS := fun FD ρ => i < ρ.length ∧ fSet i fe FD ρ
def oIxL : O2 := fun a b P X => (∃ ds, a = .lst ds) ∧ oIx a b P X
def oIxT : O2 := fun a b P X => (∃ ds, a = .tup ds) ∧ oIx a b P X
def fieldsOf (C : Str) : List Str :=
  if C = "Ratio" then ["top", "bottom"] else if C = "Poly" then ["coefficients", "degree", "lead"] else if C = "Place" then ["low", "high"] else if C = "Lot" then ["poly", "begin", "count"] else if C = "Bar" then ["factor", "base", "other"] else []
structure KF (K : PySem.W.Frag) (cs : List Str) : Prop extends KT K cs where
  fld : ∀ C, C ∈ cs → ∀ f, f ∈ fieldsOf C → FldOk K C f
section
variable {K : PySem.W.Frag} {w : Wd} {ow ow' ow1 owb owx : List Nat} {H H' : Hp} {σ : L2.St} {ρ : Env} {E : L2.St → XK} {E1 : XK} {N : L2.Ends} {FD : FEnds} {F : Option Addr} {M : Addr → Prop}
theorem st_bor {ta : TT} {fa : FT} (ha : STt K [] E ta fa) : STt K ow E ta fa := fun w H σ ρ P X Q e h q x => ha w H σ ρ P X Q (e.free fun _ z => nomatch z) h q x
theorem ss_end {t : TS} {f : FS} (hs : Sub ow' ow1) (h : SS K ow ow1 owb owx E t f) : SS K ow ow' owb owx E t f := fun w H σ ρ N FD e q k => h w H σ ρ N FD e q ⟨fun ρ' σ' H' h' e' => k.nx ρ' σ' H' h' (e'.free hs), k.rt, k.bk, k.ct, k.ex⟩
def fAsg (fe : FE) (g : FG) : FS := fun FD ρ => fe ρ (fun d => g d ρ FD.nx) (fun x => FD.ex x ρ)
theorem ss_asg {te : TE} {fe : FE} {g : TG} {g' : FG} {sl : List Nat} (hs : Sub owx ow) (he : SE K ow E te fe) (hg : SG K ow sl g g') : SS K ow ow owb owx E (tAsg te g) (fAsg fe g') := by
  intro w H σ ρ N FD e h k
  exact he w H σ ρ _ _ _ e h (fun d v H' hd g r => hg w H' σ ρ d v _ _ (e.grow g) r hd fun ρ' σ' h' e' _ _ => k.nx _ _ _ h' e') (k.px e hs)
def fAug (i : Nat) (g : Int → Int → Int) (fe : FE) : FS := fun FD ρ => ∃ a, ρ[i]? = some (some (.int a)) ∧ fe ρ (fun d => ∃ b, d = .int b ∧ FD.nx (ρ.set i (some (.int (g a b))))) (fun x => FD.ex x ρ)
theorem ss_aug {i : Nat} {te : TE} {fe : FE} {g : Int → Int → Int} (hi : i ∉ ow) (hs : Sub owx ow) (he : SE K ow E te fe) : SS K ow ow owb owx E (tAug i te (ipI g)) (fAug i g fe) := by
  intro w H σ ρ N FD e h k
  obtain ⟨a, ha, h⟩ := h
  have := e.imm i hi
  rw [ha] at this
  cases hv : σ[i]? with
  | none => rw [hv] at this; exact this.elim
  | some o =>
    rw [hv] at this
    cases o with
    | none => exact this.elim
    | some v =>
      have hva : v = .int a := this
      subst hva
      refine ⟨_, hv, he w H σ ρ _ _ _ e h (fun d v H' hd g r => ?_) (k.px e hs)⟩
      obtain ⟨b, rfl, hb⟩ := hd
      exact ⟨a, b, rfl, r, k.nx _ _ _ hb ((e.grow g).put hi rfl)⟩
theorem se_chain {r r' : R2} {o o' : O2} {ta tb tc : TE} {fa fb fc : FE} (ho : ∀ σ, OpS K (E σ) r o) (ho' : ∀ σ, OpS K (E σ) r' o') (ha : SE K ow E ta fa) (hb : SE K ow E tb fb) (hc : SE K ow E tc fc) : SE K ow E (tChain r r' ta tb tc) (fChain o o' fa fb fc) := by
  intro w H σ ρ P X Q e h q x
  refine ha w H σ ρ _ X _ e h (fun a va H1 h1 g1 r1 => ?_) x
  have e1 := e.grow g1
  refine hb w H1 σ ρ _ X _ e1 h1 (fun b vb H2 h2 g2 r2 => ?_) (x.gr g1)
  have e2 := e1.grow g2
  refine ho σ _ _ H2 _ _ _ _ _ X _ e2.lv (Rep.goes g2.goes _ _ r1) r2 h2 (fun d v H3 hd g3 r3 => ?_) (x.gr (g1.trans g2))
  obtain ⟨k, rfl, hk⟩ := toB_of hd
  refine ⟨k, r3, ?_⟩
  have g13 := (g1.trans g2).trans g3
  have e3 := e2.grow g3
  cases k with
  | false => exact q _ _ _ hk g13 rfl
  | true =>
    refine hc w H3 σ ρ _ X _ e3 hk (fun c vc H4 h4 g4 r4 => ?_) (x.gr g13)
    exact ho' σ _ _ H4 _ _ _ _ P X Q (e3.grow g4).lv (Rep.goes (g3.trans g4).goes _ _ r2) r4 h4 (fun d v H5 hd g5 r5 => q d v H5 hd ((g13.trans g4).trans g5) r5) (x.gr (g13.trans g4))
def oIsB : O2 := fun a b P _ => match a, b with
  | .bl i, .bl j => P (.bl (decide (i = j)))
  | _, _ => False
theorem os_isB : OpS K E1 rIsB oIsB := by
  intro F M H x y a b P X Q lv ra rb h q x'
  cases a <;> cases b <;> first | exact h.elim | skip
  exact ⟨_, _, ra, rb, q _ _ _ h .refl rfl⟩
abbrev rNotB : R2 := fun x y H Q => ∃ a b, x = .bl a ∧ y = .bl b ∧ Q (.bl (!decide (a = b))) H
theorem op_notBl {X : Cx} : OpR X (compareOp .IsNot) rNotB := op_isnot_bl
def oNotB : O2 := fun a b P _ => match a, b with
  | .bl i, .bl j => P (.bl (!decide (i = j)))
  | _, _ => False
theorem os_notB : OpS K E1 rNotB oNotB := by
  intro F M H x y a b P X Q lv ra rb h q x'
  cases a <;> cases b <;> first | exact h.elim | skip
  exact ⟨_, _, ra, rb, q _ _ _ h .refl rfl⟩
def oAddS : O2 := fun a b P _ => match a, b with
  | .str i, .str j => i.length + j.length ≤ sizeLine ∧ P (.str (i ++ j))
  | _, _ => False
theorem os_addS : OpS K E1 rAddS oAddS := by
  intro F M H x y a b P X Q lv ra rb h q x'
  cases a <;> cases b <;> first | exact h.elim | skip
  exact ⟨_, _, ra, rb, h.1, q _ _ _ h.2 .refl rfl⟩
/-! ### except suites -/
section
variable {i : Nat} {a : Addr} {cls : Value} {dd : Option Addr} {x : Exn}
def fLen (i : Nat) (fe : FE) : FE := fun ρ P X => i < ρ.length ∧ fe ρ P X
theorem SEH.len {ta : TE} {fa : FE} (h : SEH K ow i a cls dd x ta fa) : SEH K ow i a cls dd x ta (fLen i fa) := fun w H σ ρ P Q e r hi hf q => h w H σ ρ P Q e r hi hf.2 q
theorem RepXs.gr (g : Gr K F H H') : ∀ {fs : List (Str × D)} {gs : List (Str × V)}, RepXs K F H fs gs → RepXs K F H' fs gs
  | [], _, h => h
  | (n, d) :: r, _, h => by
    obtain ⟨v, gr, rfl, r1, r2⟩ := h
    exact ⟨v, gr, rfl, Rep.goes g.goes _ _ r1, RepXs.gr g r2⟩
theorem RepX.gr (g : Gr K F H H') (h : RepX K F H cls dd x) : RepX K F H' cls dd x := by
  refine ⟨h.1, ?_⟩
  rcases h.2 with h | ⟨ad, gs, h1, h2, h3, h4⟩
  · exact .inl h
  · exact .inr ⟨ad, gs, h1, h2, g.old _ _ h3 h2, h4.gr g⟩
theorem sh_andV {ta tb : TE} {fa fb : FE} (ha : SEH K ow i a cls dd x ta fa) (hb : SEH K ow i a cls dd x tb fb) : SEH K ow i a cls dd x (tAndV ta tb) (fAndV fa fb) := by
  intro w H σ ρ P Q e r hi h q
  refine ha w H σ ρ _ _ e r hi h (fun d v H1 h1 g1 r1 => ?_)
  obtain ⟨b, rfl, p⟩ := toB_of h1
  refine ⟨b, r1, ?_⟩
  cases b with
  | true => exact hb w H1 σ ρ _ _ (e.grow g1) (r.gr g1) hi p (fun d v H2 h2 g2 r2 => q _ _ H2 h2 (g1.trans g2) r2)
  | false => exact q _ _ H1 p g1 rfl
theorem sh_notV {ta : TE} {fa : FE} (ha : SEH K ow i a cls dd x ta fa) : SEH K ow i a cls dd x (tNotV ta) (fNotV fa) := by
  intro w H σ ρ P Q e r hi h q
  refine ha w H σ ρ _ _ e r hi h (fun d v H1 h1 g1 r1 => ?_)
  obtain ⟨b, rfl, p⟩ := toB_of h1
  exact ⟨b, r1, q _ _ H1 p g1 rfl⟩
/-- isinstance(e, C): the table, by names -/
def IOk (K : PySem.W.Frag) (T : XTab) : Prop := ∀ c b k, (c, b, k) ∈ T → ExcC K (He.ga K c) ∧ PySem.W.kitOne K (.ref (He.ga K c)) (.ref (He.ga K b)) = some k
theorem sh_isX {T : XTab} (IX : IOk K T) (C : Str) : SEH K ow i a cls dd x (tCB (rIsX K a cls dd) (tCons (tVar i) (tCons (tC (.ref (He.ga K C))) tNil))) (fIsX T x C) := by
  intro w H σ ρ P Q e r hi h q
  obtain ⟨k, hk, p⟩ := h
  obtain ⟨h1, h2⟩ := IX _ _ _ hk
  refine ⟨_, hi, He.ga K x.cls, _, .ref (He.ga K C), k, rfl, r.1, h1, .own _, h2, ?_, q _ _ _ p .refl rfl⟩
  rcases r.2 with ⟨_, h⟩ | ⟨ad, gs, h3, _, h4, _⟩
  · exact .inl h
  · exact .inr ⟨ad, gs, h3, h4⟩
end
end
end MR

set_option linter.all false
/-! FL: what readings are at known data -/
namespace MR
open PySem PySem.Spec PyProof.Rows L2
section
variable {P : D → Prop} {X : XP} {fsp : FSp} {ρ : Env} {R : Env → Prop} {a b c d : D} {q r : Rat} {cs es : List Rat} {n : Int} {C : Str} {i j k : Nat}
theorem clsD_rat : clsD (.rat q) = some ("Ratio" : Str) := rfl
theorem clsD_poly : clsD (.poly cs) = some ("Poly" : Str) := rfl
theorem own_rr : oOwn0 "Ratio" fsp (.rat q) (.rat r) P X ↔ fsp [.rat q, .rat r] P X0 := ⟨fun h => h.2.2, fun h => ⟨rfl, .inr rfl, h⟩⟩
theorem own_ri : oOwn0 "Ratio" fsp (.rat q) (.int n) P X ↔ fsp [.rat q, .int n] P X0 := ⟨fun h => h.2.2, fun h => ⟨rfl, .inl trivial, h⟩⟩
theorem own_pp : oOwn0 "Poly" fsp (.poly cs) (.poly es) P X ↔ fsp [.poly cs, .poly es] P X0 := ⟨fun h => h.2.2, fun h => ⟨rfl, .inr rfl, h⟩⟩
theorem own_pi : oOwn0 "Poly" fsp (.poly cs) (.int n) P X ↔ fsp [.poly cs, .int n] P X0 := ⟨fun h => h.2.2, fun h => ⟨rfl, .inl trivial, h⟩⟩
theorem rfl_ir : oRfl0 "Ratio" fsp (.int n) (.rat q) P X ↔ fsp [.rat q, .int n] P X0 := ⟨fun h => h.2.2, fun h => ⟨trivial, rfl, h⟩⟩
theorem rfl_ip : oRfl0 "Poly" fsp (.int n) (.poly cs) P X ↔ fsp [.poly cs, .int n] P X0 := ⟨fun h => h.2.2, fun h => ⟨trivial, rfl, h⟩⟩
theorem neg_r : oNegO "Ratio" fsp (.rat q) P X ↔ fsp [.rat q] P X0 := ⟨fun h => h.2, fun h => ⟨rfl, h⟩⟩
theorem neg_p : oNegO "Poly" fsp (.poly cs) P X ↔ fsp [.poly cs] P X0 := ⟨fun h => h.2, fun h => ⟨rfl, h⟩⟩
theorem abs_r : oAbsO "Ratio" fsp [.rat q] P X ↔ fsp [.rat q] P X0 := ⟨fun ⟨_, h1, h⟩ => by cases h1; exact h.2, fun h => ⟨_, rfl, rfl, h⟩⟩
theorem tupG2 : fTupG [i, j] (.tup [a, b]) ρ R ↔ R ((ρ.set i (some a)).set j (some b)) := by
  constructor
  · rintro ⟨ds, h, _, d1, r1, h1, d2, r2, h2, h3, hR⟩
    cases h; cases h1; cases h2; exact hR
  · exact fun h => ⟨_, rfl, rfl, _, _, rfl, _, _, rfl, rfl, h⟩
theorem tupG4 {l : Nat} : fTupG [i, j, k, l] (.tup [a, b, c, d]) ρ R ↔ R ((((ρ.set i (some a)).set j (some b)).set k (some c)).set l (some d)) := by
  constructor
  · rintro ⟨ds, h, _, d1, r1, h1, d2, r2, h2, d3, r3, h3, d4, r4, h4, h5, hR⟩
    cases h; cases h1; cases h2; cases h3; cases h4; exact hR
  · exact fun h => ⟨_, rfl, rfl, _, _, rfl, _, _, rfl, _, _, rfl, _, _, rfl, rfl, h⟩
theorem par2 {FD : FEnds} {x y : D} {Q : D → D → Prop} : (∃ a b, [x, y] = [a, b] ∧ Q a b) ↔ Q x y := by
  constructor
  · rintro ⟨a, b, h, q⟩; cases h; exact q
  · exact fun h => ⟨_, _, rfl, h⟩
/-- x = e with a datum known at slot i -/
theorem lstEx {ds : List D} {Q : List D → Prop} : (∃ es, D.lst ds = D.lst es ∧ Q es) ↔ Q ds := by
  constructor
  · rintro ⟨es, h, q⟩; cases h; exact q
  · exact fun h => ⟨_, rfl, h⟩
theorem tupEx {ds : List D} {Q : List D → Prop} : (∃ es, D.tup ds = D.tup es ∧ Q es) ↔ Q ds := by
  constructor
  · rintro ⟨es, h, q⟩; cases h; exact q
  · exact fun h => ⟨_, rfl, h⟩
theorem lstIs {ds : List D} : (∃ es, D.lst ds = D.lst es) ↔ True := ⟨fun _ => trivial, fun _ => ⟨_, rfl⟩⟩
theorem tupIs {ds : List D} : (∃ es, D.tup ds = D.tup es) ↔ True := ⟨fun _ => trivial, fun _ => ⟨_, rfl⟩⟩
theorem intEx {Q : Int → Prop} : (∃ i, D.int n = D.int i ∧ Q i) ↔ Q n := by
  constructor
  · rintro ⟨es, h, q⟩; cases h; exact q
  · exact fun h => ⟨_, rfl, h⟩
theorem lst1Ex {ds : List D} {Q : List D → Prop} : (∃ es, [D.lst ds] = [D.lst es] ∧ Q es) ↔ Q ds := by
  constructor
  · rintro ⟨es, h, q⟩; cases h; exact q
  · exact fun h => ⟨_, rfl, h⟩
theorem lst2Ex {ds fs : List D} {Q : List D → List D → Prop} : (∃ es gs, [D.lst ds, D.lst fs] = [D.lst es, D.lst gs] ∧ Q es gs) ↔ Q ds fs := by
  constructor
  · rintro ⟨es, gs, h, q⟩; cases h; exact q
  · exact fun h => ⟨_, _, rfl, h⟩
theorem int1Ex {Q : Int → Prop} : (∃ i, [D.int n] = [D.int i] ∧ Q i) ↔ Q n := by
  constructor
  · rintro ⟨es, h, q⟩; cases h; exact q
  · exact fun h => ⟨_, rfl, h⟩
theorem int2Ex {m : Int} {Q : Int → Int → Prop} : (∃ i j, [D.int n, D.int m] = [D.int i, D.int j] ∧ Q i j) ↔ Q n m := by
  constructor
  · rintro ⟨es, gs, h, q⟩; cases h; exact q
  · exact fun h => ⟨_, _, rfl, h⟩
theorem en1Ex {Q : List D → Prop} : (∃ d ds, [a] = [d] ∧ itD d = some ds ∧ Q ds) ↔ ∃ ds, itD a = some ds ∧ Q ds := by
  constructor
  · rintro ⟨d, ds, h, q⟩; cases h; exact ⟨ds, q⟩
  · exact fun ⟨ds, h⟩ => ⟨_, ds, rfl, h⟩
theorem oLen_lst {ds : List D} {P : D → Prop} {X : XP} : oLen [.lst ds] P X ↔ P (.int (ds.length : Nat)) := Iff.rfl
theorem oLen_tup {ds : List D} {P : D → Prop} {X : XP} : oLen [.tup ds] P X ↔ P (.int (ds.length : Nat)) := Iff.rfl
theorem tru_lst {ds : List D} : truD (.lst ds) = some !ds.isEmpty := rfl
theorem tru_tup {ds : List D} : truD (.tup ds) = some !ds.isEmpty := rfl
theorem tru_int : truD (.int n) = some (n != 0) := rfl
theorem tru_bl {b : Bool} : truD (.bl b) = some b := rfl
theorem tru_non : truD .non = some false := rfl
theorem it_lst {ds : List D} : itD (.lst ds) = some ds := rfl
theorem it_tup {ds : List D} : itD (.tup ds) = some ds := rfl
theorem itEx {ds : List D} {Q : List D → Prop} (h : itD a = some ds) : (∃ es, itD a = some es ∧ Q es) ↔ Q ds := by
  constructor
  · rintro ⟨es, h2, q⟩
    rw [h] at h2; cases h2; exact q
  · exact fun q => ⟨_, h, q⟩
theorem setEx {ds : List D} {Q : List D → Int → Nat → Prop} : (∃ es m l, D.lst ds = D.lst es ∧ D.int n = D.int m ∧ ixN es.length m = some l ∧ Q es m l) ↔ ∃ l, ixN ds.length n = some l ∧ Q ds n l := by
  constructor
  · rintro ⟨es, m, l, h1, h2, h3, q⟩; cases h1; cases h2; exact ⟨l, h3, q⟩
  · exact fun ⟨l, h, q⟩ => ⟨_, _, l, rfl, rfl, h, q⟩
end
end MR

set_option Elab.async false
set_option linter.all false
set_option maxRecDepth 100000
set_option maxHeartbeats 4000000
/-! MR: calls with keywords -/
namespace MR
open PySem PySem.Spec PyProof.Rows L2
theorem kbindsN {K : PySem.W.Frag} {x qual : Str} {params : Arguments} {body : List Stmt} {scope : Scope} {kws : List (Str × V)} {f : Addr} {fd : FuncData} {ps : List Str} (F : FunD K x qual params body scope [] kws f fd) (n : Nat) (ks : List Str) (g : {α : Type} → List α → List α → List α)
    (hrel : ∀ {vs zs : List V} {us ws : List Value}, Vals vs us → Vals zs ws → Vals (g vs zs) (g us ws))
    (h : ∀ (kV doc pm : Value) (an : Option Addr) (cdv ct : Value) (us ws : List Value), us.length = n → ws.length = ks.length → bindArgs (PySem.W.fnOf x qual params body scope .none kV doc pm an cdv ct) ⟨us, ks.zip ws⟩ = pure (ps.zip (g us ws))) :
    KBn K fd ps n ks (fun us ws => g us ws) (fun vs zs => g vs zs) := by
  obtain ⟨oc, od, dV, kV, doc, pm, an, cdv, ct, osl, rfl, lk, hcd, hD, hK⟩ := F.ex
  rcases hD with ⟨_, rfl⟩ | ⟨e, _⟩
  · exact ⟨fun s us ws X l1 l2 => .of_eq (h kV doc pm an cdv ct us ws l1 l2), fun r1 r2 => hrel r1 r2⟩
  · exact absurd rfl e
def DefKOk (P : Program) (w : World) (K : PySem.W.Frag) (mg : Str → Option Value) (base : Heap) (k : Nat) (x : Str) (n : Nat) (ks : List Str) (gV : List V → List V → List V) (sp : Sp) : Prop :=
  ∃ (f : Addr) (fd : FuncData) (ps : List Str) (g : List Value → List Value → List Value), mg x = some (.ref f) ∧ PySem.W.keepIn K (.ref f) = true ∧ FnOk P w K mg base (CXX P w) k f fd ps sp ∧ KBn K fd ps n ks g gV
section
variable {X : Cx} {k n : Nat} {sp : Sp} {E : XK} {x : Str} {p pos : Pos} {e : Expr} {es : List Expr} {kws : List Keyword} {t tk : TA} {ks : List Str} {gV : List V → List V → List V}
theorem pe_callND (D : DefKOk X.prog X.w X.K X.mg X.base k x n ks gV sp) (hr : Room k X.A) (hg : Gl X x) (hx : Passes (CXX X.prog X.w) X E)
    (ha : PA X (e :: es) t) (hkw : PK X kws tk) (hall : (backToKw pos (keywordEach kws X.env)).all (·.1.isSome) = true := by rfl) (hks : (backToKw pos (keywordEach kws X.env)).filterMap (·.1) = ks := by rfl)
    (hdb : (x == ("__debug__" : Str)) = false := by decide) (he : starEach (e :: es) X.env = (false, eval e X.env) :: starEach es X.env := by rfl)
    (hpl : ((backTo pos (starEach (e :: es) X.env)).any (·.1) || (backToKw pos (keywordEach kws X.env)).any (·.1.isNone)) = false := by rfl) :
    PE X (.Call (.Name x p) (e :: es) kws pos) (tCallN n ks.length sp gV E t tk) := by
  obtain ⟨f, fd, ps, g, h1, h2, h3, h4⟩ := D
  exact pe_callN h3 hr hg h1 h2 h4 hx ha hkw hall hks hdb he hpl
theorem pe_callND0 (D : DefKOk X.prog X.w X.K X.mg X.base k x 0 ks gV sp) (hr : Room k X.A) (hg : Gl X x) (hx : Passes (CXX X.prog X.w) X E) (hkw : PK X kws tk)
    (hall : (backToKw pos (keywordEach kws X.env)).all (·.1.isSome) = true := by rfl) (hks : (backToKw pos (keywordEach kws X.env)).filterMap (·.1) = ks := by rfl) (hdb : (x == ("__debug__" : Str)) = false := by decide)
    (hpl : ((backTo pos (starEach [] X.env)).any (·.1) || (backToKw pos (keywordEach kws X.env)).any (·.1.isNone)) = false := by rfl) :
    PE X (.Call (.Name x p) [] kws pos) (tCallN 0 ks.length sp gV E tNil tk) := by
  obtain ⟨f, fd, ps, g, h1, h2, h3, h4⟩ := D
  refine ⟨fun pins s σ H Q I h => ?_⟩
  refine wpAny_Call_Name_kw (ld_glob I hg h1 ?_ hdb)
  refine PySem.W.callWith_KW0 (h₀ := X.base) I.ok.mod.kin h2 hall ?_ hpl
  refine thn (hkw.run pos pins s σ H _ I h) fun ws s2 ⟨zs, H2, I2, rz, l1, l2, q2⟩ => ⟨I2.kIn, ?_⟩
  rw [hks]
  exact run_fnN (us := []) (vs := []) h3 hr h4 hx I2 .nil rz rfl l2 q2
/-- within a try -/
def tCallNS (n m : Nat) (sp : Sp) (gV : List V → List V → List V) (E : L2.St → XK) (t tk : TA) : TE := fun σ H Q => t σ H fun vs H1 => tk σ H1 fun zs H2 => vs.length = n ∧ zs.length = m ∧ sp (gV vs zs) H2 Q (E σ)
theorem run_fnNS {f : Addr} {fd : FuncData} {ps : List Str} {g : List Value → List Value → List Value} {E : L2.St → XK} {pins : List (Addr × Obj)} {σ : L2.St} {H : Hp} {s : Shared} {Q : VK} {us ws : List Value} {vs zs : List V} (F : FnOk X.prog X.w X.K X.mg X.base (CXX X.prog X.w) k f fd ps sp) (hr : Room k X.A) (hb : KBn X.K fd ps n ks g gV) (hx : PassesAt (CXX X.prog X.w) X σ (E σ))
    (I : Inv X pins σ H s) (r : Vals vs us) (rz : Vals zs ws) (l1 : vs.length = n) (l2 : zs.length = ks.length) (h : sp (gV vs zs) H Q (E σ)) : wpAny (model X.prog X.w) X.A (call (.ref f) us (ks.zip ws)) (EP X pins σ Q) X.xe s := by
  have r2 := hb.rel r rz
  refine wpAny_call (codeAny_mono (F.run X.A X.stack s H ⟨us, ks.zip ws⟩ (g us ws) (gV vs zs) Q (E σ) hr I.env0 (hb.to s us ws I.kIn (r.length.symm.trans l1) (rz.length.symm.trans l2)) r2 h) fun r s' hq => ?_)
  cases r with
  | error e => exact hx pins H s e s' I hq
  | ok fl =>
    cases fl with
    | ret u => exact I.after hq
    | next => exact False.elim hq
    | brk => exact False.elim hq
    | cont => exact False.elim hq
theorem pe_callNDS {E : L2.St → XK} (D : DefKOk X.prog X.w X.K X.mg X.base k x n ks gV sp) (hr : Room k X.A) (hg : Gl X x) (hx : ∀ σ, PassesAt (CXX X.prog X.w) X σ (E σ))
    (ha : PA X (e :: es) t) (hkw : PK X kws tk) (hall : (backToKw pos (keywordEach kws X.env)).all (·.1.isSome) = true := by rfl) (hks : (backToKw pos (keywordEach kws X.env)).filterMap (·.1) = ks := by rfl)
    (hdb : (x == ("__debug__" : Str)) = false := by decide) (he : starEach (e :: es) X.env = (false, eval e X.env) :: starEach es X.env := by rfl)
    (hpl : ((backTo pos (starEach (e :: es) X.env)).any (·.1) || (backToKw pos (keywordEach kws X.env)).any (·.1.isNone)) = false := by rfl) :
    PE X (.Call (.Name x p) (e :: es) kws pos) (tCallNS n ks.length sp gV E t tk) := by
  obtain ⟨f, fd, ps, g, h1, h2, h3, h4⟩ := D
  refine ⟨fun pins s σ H Q I h => ?_⟩
  refine wpAny_Call_Name_kw (ld_glob I hg h1 ?_ hdb)
  refine PySem.W.callWith_KW (h₀ := X.base) I.ok.mod.kin h2 hall (thn (ha.run pos pins s σ H _ I h) fun us s1 ⟨vs, H1, I1, r, q⟩ => ?_) hpl he
  refine thn (hkw.run pos pins s1 σ H1 _ I1 q) fun ws s2 ⟨zs, H2, I2, rz, l1, l2, q2⟩ => ⟨I2.kIn, ?_⟩
  rw [hks]
  exact run_fnNS h3 hr h4 (hx σ) I2 r rz l1 l2 q2
end
section
variable {K : PySem.W.Frag} {ow : List Nat} {E : L2.St → XK} {E1 : XK}
/-- positional values, then keywords that name the next parameters in their order -/
def fCallK (fsp : FSp) (n m : Nat) (fa fk : FA) : FE := fun ρ P X => fa ρ (fun ds => fk ρ (fun es => ds.length = n ∧ es.length = m ∧ fsp (ds ++ es) P X) X) X
def fCallK0 (fsp : FSp) (n m : Nat) (fa fk : FA) : FE := fun ρ P X => fa ρ (fun ds => fk ρ (fun es => ds.length = n ∧ es.length = m ∧ fsp (ds ++ es) P X0) X) X
abbrev gApp : List V → List V → List V := fun vs zs => vs ++ zs
theorem se_callK {sp : Sp} {fsp : FSp} {n m : Nat} {ta tk : TA} {fa fk : FA} (L : Lift K sp fsp) (ha : SA K ow (fun _ => E1) ta fa) (hk : SA K ow (fun _ => E1) tk fk) : SE K ow (fun _ => E1) (tCallN n m sp gApp E1 ta tk) (fCallK fsp n m fa fk) := by
  intro w H σ ρ P X Q e h q x
  refine ha w H σ ρ _ X _ e h (fun ds vs H1 h1 g1 r1 => ?_) x
  refine hk w H1 σ ρ _ X _ (e.grow g1) h1 (fun es us H2 h2 g2 r2 => ?_) (x.gr g1)
  refine ⟨by rw [r1.length]; exact h2.1, by rw [r2.length]; exact h2.2.1, L _ _ _ _ ?_⟩
  exact ⟨_, _, _, P, X, ((e.grow g1).grow g2).lv, (Reps.goes g2.goes _ _ r1).append r2, h2.2.2, fun d v H2 hd g3 r2 => q d v H2 hd ((g1.trans g2).trans g3) r2, x.gr (g1.trans g2)⟩
theorem se_callK0 {sp : Sp} {fsp : FSp} {n m : Nat} {ta tk : TA} {fa fk : FA} (L : Lift K sp fsp) (ha : SA K ow E ta fa) (hk : SA K ow E tk fk) : SE K ow E (tCallN n m sp gApp E0 ta tk) (fCallK0 fsp n m fa fk) := by
  intro w H σ ρ P X Q e h q x
  refine ha w H σ ρ _ X _ e h (fun ds vs H1 h1 g1 r1 => ?_) x
  refine hk w H1 σ ρ _ X _ (e.grow g1) h1 (fun es us H2 h2 g2 r2 => ?_) (x.gr g1)
  refine ⟨by rw [r1.length]; exact h2.1, by rw [r2.length]; exact h2.2.1, L _ _ _ _ ?_⟩
  exact ⟨_, _, _, P, _, ((e.grow g1).grow g2).lv, (Reps.goes g2.goes _ _ r1).append r2, h2.2.2, fun d v H2 hd g3 r2 => q d v H2 hd ((g1.trans g2).trans g3) r2, px0⟩
theorem se_callKS {sp : Sp} {fsp : FSp} {n m : Nat} {ta tk : TA} {fa fk : FA} (L : Lift K sp fsp) (ha : SA K ow E ta fa) (hk : SA K ow E tk fk) : SE K ow E (tCallNS n m sp gApp E ta tk) (fCallK fsp n m fa fk) := by
  intro w H σ ρ P X Q e h q x
  refine ha w H σ ρ _ X _ e h (fun ds vs H1 h1 g1 r1 => ?_) x
  refine hk w H1 σ ρ _ X _ (e.grow g1) h1 (fun es us H2 h2 g2 r2 => ?_) (x.gr g1)
  refine ⟨by rw [r1.length]; exact h2.1, by rw [r2.length]; exact h2.2.1, L _ _ _ _ ?_⟩
  exact ⟨_, _, _, P, X, ((e.grow g1).grow g2).lv, (Reps.goes g2.goes _ _ r1).append r2, h2.2.2, fun d v H2 hd g3 r2 => q d v H2 hd ((g1.trans g2).trans g3) r2, x.gr (g1.trans g2)⟩
end
theorem lift_len {K : PySem.W.Frag} {fsp : FSp} {n : Nat} (h : ∀ ds P X, fsp ds P X → ds.length = n) {vs : List V} {H : Hp} {Q : VK} {E : XK} (l : lift K fsp vs H Q E) : vs.length = n := by
  obtain ⟨F, M, ds, P, X, lv, r, hs, _⟩ := l
  rw [r.length]
  exact h ds P X hs
end MR

set_option Elab.async false
set_option linter.all false
set_option maxRecDepth 100000
set_option maxHeartbeats 4000000
set_option exponentiation.threshold 20000
/-! FR: Ratio, without a heap -/
namespace MR
open PySem PySem.Spec PyProof.Rows L2
def fMkR : FSp := fun ds P X => ∃ a b : Int, ds = [.int a, .int b] ∧ b ≠ 0 ∧ b.natAbs < 2 ^ 9000 ∧ P (.rat (Rat.divInt a b))
theorem mkl_R {K : PySem.W.Frag} : MkL K (CR K) (spRInit K) fMkR := mkl_rat_int
def intD (cs : List Str) (d : D) : Option Bool := match isD cs (.ty "int") d with
  | some true => (isD cs (.ty "bool") d).map fun b => !b
  | some false => some false
  | none => none
def fIsInt (cs : List Str) : FSp := fun ds P _ => ∃ d b, ds = [d] ∧ intD cs d = some b ∧ P (.bl b)
theorem intQ_of {K : PySem.W.Frag} {cs : List Str} {F : Option Addr} {M : Addr → Prop} {H : Hp} {d : D} {v : V} {b : Bool} (T : KT K cs) (r : Rep K F M H d v) (h : intD cs d = some b) : IntQ K H v b := by
  unfold intD at h
  cases h1 : isD cs (.ty "int") d with
  | none => rw [h1] at h; cases h
  | some b1 =>
    rw [h1] at h
    cases b1 with
    | false =>
      cases h
      obtain ⟨t, ty, k⟩ := isD_ok T r h1
      exact ⟨t, false, ty, k, fun _ => rfl, fun z => by cases z⟩
    | true =>
      cases h2 : isD cs (.ty "bool") d with
      | none => rw [h2] at h; cases h
      | some b2 =>
        rw [h2] at h
        have hb : (!b2) = b := Option.some.inj h
        subst hb
        obtain ⟨t, ty, k1, k2⟩ := isD_ok2 T r h1 h2
        exact ⟨t, true, ty, k1, (fun z => by cases z), fun _ => ⟨b2, k2, rfl⟩⟩
theorem lift_isInt {K : PySem.W.Frag} {cs : List Str} (T : KT K cs) : Lift K (spIsInt K) (fIsInt cs) := by
  intro vs H Q E h
  obtain ⟨F, M, ds, P, X, lv, r, ⟨d, b, rfl, hb, p⟩, q, x⟩ := h
  obtain ⟨v, rfl, rv⟩ := reps1 r
  exact ⟨v, b, rfl, intQ_of T rv hb, q _ _ _ p .refl rfl⟩
def SzOk (a b : Rat) : Prop := ∃ n m, Sz n a ∧ Sz m b ∧ n + m ≤ 9000
def fR2 (f : Rat → Rat → Rat) : FSp := fun ds P _ => match ds with
  | [.rat a, .rat b] => SzOk a b ∧ P (.rat (f a b))
  | [.rat a, .int n] => SzOk a n ∧ P (.rat (f a n))
  | _ => False
def fRI (f : Rat → Rat → Rat) : FSp := fun ds P _ => match ds with
  | [.rat a, .int n] => SzOk a n ∧ P (.rat (f a n))
  | _ => False
def fR1 (f : Rat → Rat) : FSp := fun ds P _ => match ds with
  | [.rat a] => (∃ n, Sz n a ∧ n ≤ 9000) ∧ P (.rat (f a))
  | _ => False
def fRB (f : Rat → Rat → Bool) : FSp := fun ds P _ => match ds with
  | [.rat a, .rat b] => SzOk a b ∧ P (.bl (f a b))
  | [.rat a, .int n] => SzOk a n ∧ P (.bl (f a n))
  | _ => False
/-- is it a number? -/
def numD (cs : List Str) (d : D) : Option Bool := match isD cs (.own "Ratio") d with
  | some true => some true
  | some false => intD cs d
  | none => none
def fIsNum (cs : List Str) : FSp := fun ds P _ => ∃ d b, ds = [d] ∧ numD cs d = some b ∧ P (.bl b)
def fAsRat (cs : List Str) : FSp := fun ds P X => ∃ d w b, ds = [d, .str w] ∧ numD cs d = some b ∧ (b = false → X ⟨"NoNumber", [("word", .str w)]⟩) ∧ (b = true → match d with
  | .rat q => P (.rat q)
  | .int n => P (.rat (n : Rat))
  | _ => False)
def fOver : FSp := fun ds P X => match ds with
  | [.rat a, .rat b] => SzOk a b ∧ (b = 0 → X ⟨"NoRatio", [("word", .str "zero")]⟩) ∧ (b ≠ 0 → P (.rat (a / b)))
  | [.rat a, .int n] => SzOk a n ∧ (n = 0 → X ⟨"NoRatio", [("word", .str "zero")]⟩) ∧ (n ≠ 0 → P (.rat (a / n)))
  | _ => False
def tt_Ratio_add (K : PySem.W.Frag) (cs : List Str) : TS :=
  (tSeq (tIfS (tB (tCB (rIsi K) (tCons (tVar 1) (tCons (tC (.ref (He.ga K "Ratio"))) tNil)))) (tRet (tMake (He.ga K "Ratio") (spRInit K) [] E0 (tCons (tOp rAdd0 (tOp rMulI (tFld K (tVar 0) "top") (tFld K (tVar 1) "bottom")) (tOp rMulI (tFld K (tVar 1) "top") (tFld K (tVar 0) "bottom"))) (tCons (tOp rMulI (tFld K (tVar 0) "bottom") (tFld K (tVar 1) "bottom")) tNil)))) tNext)
  (tSeq (tIfS (tB (tCall (spIsInt K) [] E0 (tCons (tVar 1) tNil))) (tRet (tMake (He.ga K "Ratio") (spRInit K) [] E0 (tCons (tOp rAdd0 (tFld K (tVar 0) "top") (tOp rMulI (tVar 1) (tFld K (tVar 0) "bottom"))) (tCons (tFld K (tVar 0) "bottom") tNil)))) tNext)
  tNever))
def f_Ratio_add (cs : List Str) : FS :=
  (fSeq (fIfS (fB (fIsi cs (.own "Ratio") (fVar 1))) (fRet (fCall0 fMkR [] (fCons (fOp oAdd (fOp oMul (fFld "Ratio" "top" (fVar 0)) (fFld "Ratio" "bottom" (fVar 1))) (fOp oMul (fFld "Ratio" "top" (fVar 1)) (fFld "Ratio" "bottom" (fVar 0)))) (fCons (fOp oMul (fFld "Ratio" "bottom" (fVar 0)) (fFld "Ratio" "bottom" (fVar 1))) fNil)))) fNext)
  (fSeq (fIfS (fB (fCall0 (fIsInt cs) [] (fCons (fVar 1) fNil))) (fRet (fCall0 fMkR [] (fCons (fOp oAdd (fFld "Ratio" "top" (fVar 0)) (fOp oMul (fVar 1) (fFld "Ratio" "bottom" (fVar 0)))) (fCons (fFld "Ratio" "bottom" (fVar 0)) fNil)))) fNext)
  fNev))
theorem s_Ratio_add {K : PySem.W.Frag} {cs : List Str} (T : KF K cs) (hRatio : ("Ratio" : Str) ∈ cs) : SS K [] [] [] [] (fun _ => E0) (tt_Ratio_add K cs) (f_Ratio_add cs) :=
  (ss_seq (ow1 := []) (ss_if (by decide) (st_b (se_isi (c := (.own "Ratio")) T.toKT (se_var (by decide)))) (ss_ret (by decide) (se_make0 mkl_R cst_nil (sa_cons (se_op (fun _ => os_add) (se_op (fun _ => os_mul) (se_fld (T.fld _ hRatio _ (by decide)) (se_var (by decide))) (se_fld (T.fld _ hRatio _ (by decide)) (se_var (by decide)))) (se_op (fun _ => os_mul) (se_fld (T.fld _ hRatio _ (by decide)) (se_var (by decide))) (se_fld (T.fld _ hRatio _ (by decide)) (se_var (by decide))))) (sa_cons (se_op (fun _ => os_mul) (se_fld (T.fld _ hRatio _ (by decide)) (se_var (by decide))) (se_fld (T.fld _ hRatio _ (by decide)) (se_var (by decide)))) sa_nil)))) (ss_next (by decide)))
  (ss_seq (ow1 := []) (ss_if (by decide) (st_b (se_call0 (lift_isInt T.toKT) cst_nil (sa_cons (se_var (by decide)) sa_nil))) (ss_ret (by decide) (se_make0 mkl_R cst_nil (sa_cons (se_op (fun _ => os_add) (se_fld (T.fld _ hRatio _ (by decide)) (se_var (by decide))) (se_op (fun _ => os_mul) (se_var (by decide)) (se_fld (T.fld _ hRatio _ (by decide)) (se_var (by decide))))) (sa_cons (se_fld (T.fld _ hRatio _ (by decide)) (se_var (by decide))) sa_nil)))) (ss_next (by decide)))
  ss_nev))
def tt_Ratio_radd (K : PySem.W.Frag) (cs : List Str) : TS :=
  (tSeq (tIfS (tB (tCall (spIsInt K) [] E0 (tCons (tVar 1) tNil))) (tRet (tMake (He.ga K "Ratio") (spRInit K) [] E0 (tCons (tOp rAdd0 (tOp rMulI (tVar 1) (tFld K (tVar 0) "bottom")) (tFld K (tVar 0) "top")) (tCons (tFld K (tVar 0) "bottom") tNil)))) tNext)
  tNever)
def f_Ratio_radd (cs : List Str) : FS :=
  (fSeq (fIfS (fB (fCall0 (fIsInt cs) [] (fCons (fVar 1) fNil))) (fRet (fCall0 fMkR [] (fCons (fOp oAdd (fOp oMul (fVar 1) (fFld "Ratio" "bottom" (fVar 0))) (fFld "Ratio" "top" (fVar 0))) (fCons (fFld "Ratio" "bottom" (fVar 0)) fNil)))) fNext)
  fNev)
theorem s_Ratio_radd {K : PySem.W.Frag} {cs : List Str} (T : KF K cs) (hRatio : ("Ratio" : Str) ∈ cs) : SS K [] [] [] [] (fun _ => E0) (tt_Ratio_radd K cs) (f_Ratio_radd cs) :=
  (ss_seq (ow1 := []) (ss_if (by decide) (st_b (se_call0 (lift_isInt T.toKT) cst_nil (sa_cons (se_var (by decide)) sa_nil))) (ss_ret (by decide) (se_make0 mkl_R cst_nil (sa_cons (se_op (fun _ => os_add) (se_op (fun _ => os_mul) (se_var (by decide)) (se_fld (T.fld _ hRatio _ (by decide)) (se_var (by decide)))) (se_fld (T.fld _ hRatio _ (by decide)) (se_var (by decide)))) (sa_cons (se_fld (T.fld _ hRatio _ (by decide)) (se_var (by decide))) sa_nil)))) (ss_next (by decide)))
  ss_nev)
def tt_Ratio_sub (K : PySem.W.Frag) (cs : List Str) : TS :=
  (tSeq (tIfS (tB (tCB (rIsi K) (tCons (tVar 1) (tCons (tC (.ref (He.ga K "Ratio"))) tNil)))) (tRet (tMake (He.ga K "Ratio") (spRInit K) [] E0 (tCons (tOp rSub0 (tOp rMulI (tFld K (tVar 0) "top") (tFld K (tVar 1) "bottom")) (tOp rMulI (tFld K (tVar 1) "top") (tFld K (tVar 0) "bottom"))) (tCons (tOp rMulI (tFld K (tVar 0) "bottom") (tFld K (tVar 1) "bottom")) tNil)))) tNext)
  (tSeq (tIfS (tB (tCall (spIsInt K) [] E0 (tCons (tVar 1) tNil))) (tRet (tMake (He.ga K "Ratio") (spRInit K) [] E0 (tCons (tOp rSub0 (tFld K (tVar 0) "top") (tOp rMulI (tVar 1) (tFld K (tVar 0) "bottom"))) (tCons (tFld K (tVar 0) "bottom") tNil)))) tNext)
  tNever))
def f_Ratio_sub (cs : List Str) : FS :=
  (fSeq (fIfS (fB (fIsi cs (.own "Ratio") (fVar 1))) (fRet (fCall0 fMkR [] (fCons (fOp oSub (fOp oMul (fFld "Ratio" "top" (fVar 0)) (fFld "Ratio" "bottom" (fVar 1))) (fOp oMul (fFld "Ratio" "top" (fVar 1)) (fFld "Ratio" "bottom" (fVar 0)))) (fCons (fOp oMul (fFld "Ratio" "bottom" (fVar 0)) (fFld "Ratio" "bottom" (fVar 1))) fNil)))) fNext)
  (fSeq (fIfS (fB (fCall0 (fIsInt cs) [] (fCons (fVar 1) fNil))) (fRet (fCall0 fMkR [] (fCons (fOp oSub (fFld "Ratio" "top" (fVar 0)) (fOp oMul (fVar 1) (fFld "Ratio" "bottom" (fVar 0)))) (fCons (fFld "Ratio" "bottom" (fVar 0)) fNil)))) fNext)
  fNev))
theorem s_Ratio_sub {K : PySem.W.Frag} {cs : List Str} (T : KF K cs) (hRatio : ("Ratio" : Str) ∈ cs) : SS K [] [] [] [] (fun _ => E0) (tt_Ratio_sub K cs) (f_Ratio_sub cs) :=
  (ss_seq (ow1 := []) (ss_if (by decide) (st_b (se_isi (c := (.own "Ratio")) T.toKT (se_var (by decide)))) (ss_ret (by decide) (se_make0 mkl_R cst_nil (sa_cons (se_op (fun _ => os_sub) (se_op (fun _ => os_mul) (se_fld (T.fld _ hRatio _ (by decide)) (se_var (by decide))) (se_fld (T.fld _ hRatio _ (by decide)) (se_var (by decide)))) (se_op (fun _ => os_mul) (se_fld (T.fld _ hRatio _ (by decide)) (se_var (by decide))) (se_fld (T.fld _ hRatio _ (by decide)) (se_var (by decide))))) (sa_cons (se_op (fun _ => os_mul) (se_fld (T.fld _ hRatio _ (by decide)) (se_var (by decide))) (se_fld (T.fld _ hRatio _ (by decide)) (se_var (by decide)))) sa_nil)))) (ss_next (by decide)))
  (ss_seq (ow1 := []) (ss_if (by decide) (st_b (se_call0 (lift_isInt T.toKT) cst_nil (sa_cons (se_var (by decide)) sa_nil))) (ss_ret (by decide) (se_make0 mkl_R cst_nil (sa_cons (se_op (fun _ => os_sub) (se_fld (T.fld _ hRatio _ (by decide)) (se_var (by decide))) (se_op (fun _ => os_mul) (se_var (by decide)) (se_fld (T.fld _ hRatio _ (by decide)) (se_var (by decide))))) (sa_cons (se_fld (T.fld _ hRatio _ (by decide)) (se_var (by decide))) sa_nil)))) (ss_next (by decide)))
  ss_nev))
def tt_Ratio_rsub (K : PySem.W.Frag) (cs : List Str) : TS :=
  (tSeq (tIfS (tB (tCall (spIsInt K) [] E0 (tCons (tVar 1) tNil))) (tRet (tMake (He.ga K "Ratio") (spRInit K) [] E0 (tCons (tOp rSub0 (tOp rMulI (tVar 1) (tFld K (tVar 0) "bottom")) (tFld K (tVar 0) "top")) (tCons (tFld K (tVar 0) "bottom") tNil)))) tNext)
  tNever)
def f_Ratio_rsub (cs : List Str) : FS :=
  (fSeq (fIfS (fB (fCall0 (fIsInt cs) [] (fCons (fVar 1) fNil))) (fRet (fCall0 fMkR [] (fCons (fOp oSub (fOp oMul (fVar 1) (fFld "Ratio" "bottom" (fVar 0))) (fFld "Ratio" "top" (fVar 0))) (fCons (fFld "Ratio" "bottom" (fVar 0)) fNil)))) fNext)
  fNev)
theorem s_Ratio_rsub {K : PySem.W.Frag} {cs : List Str} (T : KF K cs) (hRatio : ("Ratio" : Str) ∈ cs) : SS K [] [] [] [] (fun _ => E0) (tt_Ratio_rsub K cs) (f_Ratio_rsub cs) :=
  (ss_seq (ow1 := []) (ss_if (by decide) (st_b (se_call0 (lift_isInt T.toKT) cst_nil (sa_cons (se_var (by decide)) sa_nil))) (ss_ret (by decide) (se_make0 mkl_R cst_nil (sa_cons (se_op (fun _ => os_sub) (se_op (fun _ => os_mul) (se_var (by decide)) (se_fld (T.fld _ hRatio _ (by decide)) (se_var (by decide)))) (se_fld (T.fld _ hRatio _ (by decide)) (se_var (by decide)))) (sa_cons (se_fld (T.fld _ hRatio _ (by decide)) (se_var (by decide))) sa_nil)))) (ss_next (by decide)))
  ss_nev)
def tt_Ratio_mul (K : PySem.W.Frag) (cs : List Str) : TS :=
  (tSeq (tIfS (tB (tCB (rIsi K) (tCons (tVar 1) (tCons (tC (.ref (He.ga K "Ratio"))) tNil)))) (tRet (tMake (He.ga K "Ratio") (spRInit K) [] E0 (tCons (tOp rMulI (tFld K (tVar 0) "top") (tFld K (tVar 1) "top")) (tCons (tOp rMulI (tFld K (tVar 0) "bottom") (tFld K (tVar 1) "bottom")) tNil)))) tNext)
  (tSeq (tIfS (tB (tCall (spIsInt K) [] E0 (tCons (tVar 1) tNil))) (tRet (tMake (He.ga K "Ratio") (spRInit K) [] E0 (tCons (tOp rMulI (tFld K (tVar 0) "top") (tVar 1)) (tCons (tFld K (tVar 0) "bottom") tNil)))) tNext)
  tNever))
def f_Ratio_mul (cs : List Str) : FS :=
  (fSeq (fIfS (fB (fIsi cs (.own "Ratio") (fVar 1))) (fRet (fCall0 fMkR [] (fCons (fOp oMul (fFld "Ratio" "top" (fVar 0)) (fFld "Ratio" "top" (fVar 1))) (fCons (fOp oMul (fFld "Ratio" "bottom" (fVar 0)) (fFld "Ratio" "bottom" (fVar 1))) fNil)))) fNext)
  (fSeq (fIfS (fB (fCall0 (fIsInt cs) [] (fCons (fVar 1) fNil))) (fRet (fCall0 fMkR [] (fCons (fOp oMul (fFld "Ratio" "top" (fVar 0)) (fVar 1)) (fCons (fFld "Ratio" "bottom" (fVar 0)) fNil)))) fNext)
  fNev))
theorem s_Ratio_mul {K : PySem.W.Frag} {cs : List Str} (T : KF K cs) (hRatio : ("Ratio" : Str) ∈ cs) : SS K [] [] [] [] (fun _ => E0) (tt_Ratio_mul K cs) (f_Ratio_mul cs) :=
  (ss_seq (ow1 := []) (ss_if (by decide) (st_b (se_isi (c := (.own "Ratio")) T.toKT (se_var (by decide)))) (ss_ret (by decide) (se_make0 mkl_R cst_nil (sa_cons (se_op (fun _ => os_mul) (se_fld (T.fld _ hRatio _ (by decide)) (se_var (by decide))) (se_fld (T.fld _ hRatio _ (by decide)) (se_var (by decide)))) (sa_cons (se_op (fun _ => os_mul) (se_fld (T.fld _ hRatio _ (by decide)) (se_var (by decide))) (se_fld (T.fld _ hRatio _ (by decide)) (se_var (by decide)))) sa_nil)))) (ss_next (by decide)))
  (ss_seq (ow1 := []) (ss_if (by decide) (st_b (se_call0 (lift_isInt T.toKT) cst_nil (sa_cons (se_var (by decide)) sa_nil))) (ss_ret (by decide) (se_make0 mkl_R cst_nil (sa_cons (se_op (fun _ => os_mul) (se_fld (T.fld _ hRatio _ (by decide)) (se_var (by decide))) (se_var (by decide))) (sa_cons (se_fld (T.fld _ hRatio _ (by decide)) (se_var (by decide))) sa_nil)))) (ss_next (by decide)))
  ss_nev))
def tt_Ratio_rmul (K : PySem.W.Frag) (cs : List Str) : TS :=
  (tSeq (tIfS (tB (tCall (spIsInt K) [] E0 (tCons (tVar 1) tNil))) (tRet (tMake (He.ga K "Ratio") (spRInit K) [] E0 (tCons (tOp rMulI (tFld K (tVar 0) "top") (tVar 1)) (tCons (tFld K (tVar 0) "bottom") tNil)))) tNext)
  tNever)
def f_Ratio_rmul (cs : List Str) : FS :=
  (fSeq (fIfS (fB (fCall0 (fIsInt cs) [] (fCons (fVar 1) fNil))) (fRet (fCall0 fMkR [] (fCons (fOp oMul (fFld "Ratio" "top" (fVar 0)) (fVar 1)) (fCons (fFld "Ratio" "bottom" (fVar 0)) fNil)))) fNext)
  fNev)
theorem s_Ratio_rmul {K : PySem.W.Frag} {cs : List Str} (T : KF K cs) (hRatio : ("Ratio" : Str) ∈ cs) : SS K [] [] [] [] (fun _ => E0) (tt_Ratio_rmul K cs) (f_Ratio_rmul cs) :=
  (ss_seq (ow1 := []) (ss_if (by decide) (st_b (se_call0 (lift_isInt T.toKT) cst_nil (sa_cons (se_var (by decide)) sa_nil))) (ss_ret (by decide) (se_make0 mkl_R cst_nil (sa_cons (se_op (fun _ => os_mul) (se_fld (T.fld _ hRatio _ (by decide)) (se_var (by decide))) (se_var (by decide))) (sa_cons (se_fld (T.fld _ hRatio _ (by decide)) (se_var (by decide))) sa_nil)))) (ss_next (by decide)))
  ss_nev)
def tt_Ratio_neg (K : PySem.W.Frag) (cs : List Str) : TS :=
  (tRet (tMake (He.ga K "Ratio") (spRInit K) [] E0 (tCons (tUn rNeg0 (tFld K (tVar 0) "top")) (tCons (tFld K (tVar 0) "bottom") tNil))))
def f_Ratio_neg (cs : List Str) : FS :=
  (fRet (fCall0 fMkR [] (fCons (fUn oNeg (fFld "Ratio" "top" (fVar 0))) (fCons (fFld "Ratio" "bottom" (fVar 0)) fNil))))
theorem s_Ratio_neg {K : PySem.W.Frag} {cs : List Str} (T : KF K cs) (hRatio : ("Ratio" : Str) ∈ cs) : SS K [] [] [] [] (fun _ => E0) (tt_Ratio_neg K cs) (f_Ratio_neg cs) :=
  (ss_ret (by decide) (se_make0 mkl_R cst_nil (sa_cons (se_un (fun _ => us_neg) (se_fld (T.fld _ hRatio _ (by decide)) (se_var (by decide)))) (sa_cons (se_fld (T.fld _ hRatio _ (by decide)) (se_var (by decide))) sa_nil))))
def tt_Ratio_abs (K : PySem.W.Frag) (cs : List Str) : TS :=
  (tRet (tMake (He.ga K "Ratio") (spRInit K) [] E0 (tCons (tCB rAbs0 (tCons (tFld K (tVar 0) "top") tNil)) (tCons (tFld K (tVar 0) "bottom") tNil))))
def f_Ratio_abs (cs : List Str) : FS :=
  (fRet (fCall0 fMkR [] (fCons (fLs oAbs (fCons (fFld "Ratio" "top" (fVar 0)) fNil)) (fCons (fFld "Ratio" "bottom" (fVar 0)) fNil))))
theorem s_Ratio_abs {K : PySem.W.Frag} {cs : List Str} (T : KF K cs) (hRatio : ("Ratio" : Str) ∈ cs) : SS K [] [] [] [] (fun _ => E0) (tt_Ratio_abs K cs) (f_Ratio_abs cs) :=
  (ss_ret (by decide) (se_make0 mkl_R cst_nil (sa_cons (se_cb (fun _ => ls_abs) (sa_cons (se_fld (T.fld _ hRatio _ (by decide)) (se_var (by decide))) sa_nil)) (sa_cons (se_fld (T.fld _ hRatio _ (by decide)) (se_var (by decide))) sa_nil))))
def tt_Ratio_eq (K : PySem.W.Frag) (cs : List Str) : TS :=
  (tSeq (tIfS (tB (tCB (rIsi K) (tCons (tVar 1) (tCons (tC (.ref (He.ga K "Ratio"))) tNil)))) (tRet (tAndV (tOp rEq (tFld K (tVar 0) "top") (tFld K (tVar 1) "top")) (tOp rEq (tFld K (tVar 0) "bottom") (tFld K (tVar 1) "bottom")))) tNext)
  (tSeq (tIfS (tB (tCall (spIsInt K) [] E0 (tCons (tVar 1) tNil))) (tRet (tAndV (tOp rEq (tFld K (tVar 0) "bottom") (tC (.int 1))) (tOp rEq (tFld K (tVar 0) "top") (tVar 1)))) tNext)
  (tRet (tC (.bl false)))))
def f_Ratio_eq (cs : List Str) : FS :=
  (fSeq (fIfS (fB (fIsi cs (.own "Ratio") (fVar 1))) (fRet (fAndV (fOp oEq (fFld "Ratio" "top" (fVar 0)) (fFld "Ratio" "top" (fVar 1))) (fOp oEq (fFld "Ratio" "bottom" (fVar 0)) (fFld "Ratio" "bottom" (fVar 1))))) fNext)
  (fSeq (fIfS (fB (fCall0 (fIsInt cs) [] (fCons (fVar 1) fNil))) (fRet (fAndV (fOp oEq (fFld "Ratio" "bottom" (fVar 0)) (fC (.int 1))) (fOp oEq (fFld "Ratio" "top" (fVar 0)) (fVar 1)))) fNext)
  (fRet (fC (.bl false)))))
theorem s_Ratio_eq {K : PySem.W.Frag} {cs : List Str} (T : KF K cs) (hRatio : ("Ratio" : Str) ∈ cs) : SS K [] [] [] [] (fun _ => E0) (tt_Ratio_eq K cs) (f_Ratio_eq cs) :=
  (ss_seq (ow1 := []) (ss_if (by decide) (st_b (se_isi (c := (.own "Ratio")) T.toKT (se_var (by decide)))) (ss_ret (by decide) (se_andV (se_op (fun _ => os_eq) (se_fld (T.fld _ hRatio _ (by decide)) (se_var (by decide))) (se_fld (T.fld _ hRatio _ (by decide)) (se_var (by decide)))) (se_op (fun _ => os_eq) (se_fld (T.fld _ hRatio _ (by decide)) (se_var (by decide))) (se_fld (T.fld _ hRatio _ (by decide)) (se_var (by decide)))))) (ss_next (by decide)))
  (ss_seq (ow1 := []) (ss_if (by decide) (st_b (se_call0 (lift_isInt T.toKT) cst_nil (sa_cons (se_var (by decide)) sa_nil))) (ss_ret (by decide) (se_andV (se_op (fun _ => os_eq) (se_fld (T.fld _ hRatio _ (by decide)) (se_var (by decide))) se_int) (se_op (fun _ => os_eq) (se_fld (T.fld _ hRatio _ (by decide)) (se_var (by decide))) (se_var (by decide))))) (ss_next (by decide)))
  (ss_ret (by decide) se_bl)))
def tt_Ratio_ne (K : PySem.W.Frag) (cs : List Str) : TS :=
  (tSeq (tIfS (tB (tCB (rIsi K) (tCons (tVar 1) (tCons (tC (.ref (He.ga K "Ratio"))) tNil)))) (tRet (tOrV (tOp rNe (tFld K (tVar 0) "top") (tFld K (tVar 1) "top")) (tOp rNe (tFld K (tVar 0) "bottom") (tFld K (tVar 1) "bottom")))) tNext)
  (tSeq (tIfS (tB (tCall (spIsInt K) [] E0 (tCons (tVar 1) tNil))) (tRet (tOrV (tOp rNe (tFld K (tVar 0) "bottom") (tC (.int 1))) (tOp rNe (tFld K (tVar 0) "top") (tVar 1)))) tNext)
  (tRet (tC (.bl true)))))
def f_Ratio_ne (cs : List Str) : FS :=
  (fSeq (fIfS (fB (fIsi cs (.own "Ratio") (fVar 1))) (fRet (fOrV (fOp oNe (fFld "Ratio" "top" (fVar 0)) (fFld "Ratio" "top" (fVar 1))) (fOp oNe (fFld "Ratio" "bottom" (fVar 0)) (fFld "Ratio" "bottom" (fVar 1))))) fNext)
  (fSeq (fIfS (fB (fCall0 (fIsInt cs) [] (fCons (fVar 1) fNil))) (fRet (fOrV (fOp oNe (fFld "Ratio" "bottom" (fVar 0)) (fC (.int 1))) (fOp oNe (fFld "Ratio" "top" (fVar 0)) (fVar 1)))) fNext)
  (fRet (fC (.bl true)))))
theorem s_Ratio_ne {K : PySem.W.Frag} {cs : List Str} (T : KF K cs) (hRatio : ("Ratio" : Str) ∈ cs) : SS K [] [] [] [] (fun _ => E0) (tt_Ratio_ne K cs) (f_Ratio_ne cs) :=
  (ss_seq (ow1 := []) (ss_if (by decide) (st_b (se_isi (c := (.own "Ratio")) T.toKT (se_var (by decide)))) (ss_ret (by decide) (se_orV (se_op (fun _ => os_ne) (se_fld (T.fld _ hRatio _ (by decide)) (se_var (by decide))) (se_fld (T.fld _ hRatio _ (by decide)) (se_var (by decide)))) (se_op (fun _ => os_ne) (se_fld (T.fld _ hRatio _ (by decide)) (se_var (by decide))) (se_fld (T.fld _ hRatio _ (by decide)) (se_var (by decide)))))) (ss_next (by decide)))
  (ss_seq (ow1 := []) (ss_if (by decide) (st_b (se_call0 (lift_isInt T.toKT) cst_nil (sa_cons (se_var (by decide)) sa_nil))) (ss_ret (by decide) (se_orV (se_op (fun _ => os_ne) (se_fld (T.fld _ hRatio _ (by decide)) (se_var (by decide))) se_int) (se_op (fun _ => os_ne) (se_fld (T.fld _ hRatio _ (by decide)) (se_var (by decide))) (se_var (by decide))))) (ss_next (by decide)))
  (ss_ret (by decide) se_bl)))
def tt_Ratio_lt (K : PySem.W.Frag) (cs : List Str) : TS :=
  (tSeq (tIfS (tB (tCB (rIsi K) (tCons (tVar 1) (tCons (tC (.ref (He.ga K "Ratio"))) tNil)))) (tRet (tOp rLt0 (tOp rMulI (tFld K (tVar 0) "top") (tFld K (tVar 1) "bottom")) (tOp rMulI (tFld K (tVar 1) "top") (tFld K (tVar 0) "bottom")))) tNext)
  (tSeq (tIfS (tB (tCall (spIsInt K) [] E0 (tCons (tVar 1) tNil))) (tRet (tOp rLt0 (tFld K (tVar 0) "top") (tOp rMulI (tVar 1) (tFld K (tVar 0) "bottom")))) tNext)
  tNever))
def f_Ratio_lt (cs : List Str) : FS :=
  (fSeq (fIfS (fB (fIsi cs (.own "Ratio") (fVar 1))) (fRet (fOp oLt (fOp oMul (fFld "Ratio" "top" (fVar 0)) (fFld "Ratio" "bottom" (fVar 1))) (fOp oMul (fFld "Ratio" "top" (fVar 1)) (fFld "Ratio" "bottom" (fVar 0))))) fNext)
  (fSeq (fIfS (fB (fCall0 (fIsInt cs) [] (fCons (fVar 1) fNil))) (fRet (fOp oLt (fFld "Ratio" "top" (fVar 0)) (fOp oMul (fVar 1) (fFld "Ratio" "bottom" (fVar 0))))) fNext)
  fNev))
theorem s_Ratio_lt {K : PySem.W.Frag} {cs : List Str} (T : KF K cs) (hRatio : ("Ratio" : Str) ∈ cs) : SS K [] [] [] [] (fun _ => E0) (tt_Ratio_lt K cs) (f_Ratio_lt cs) :=
  (ss_seq (ow1 := []) (ss_if (by decide) (st_b (se_isi (c := (.own "Ratio")) T.toKT (se_var (by decide)))) (ss_ret (by decide) (se_op (fun _ => os_lt) (se_op (fun _ => os_mul) (se_fld (T.fld _ hRatio _ (by decide)) (se_var (by decide))) (se_fld (T.fld _ hRatio _ (by decide)) (se_var (by decide)))) (se_op (fun _ => os_mul) (se_fld (T.fld _ hRatio _ (by decide)) (se_var (by decide))) (se_fld (T.fld _ hRatio _ (by decide)) (se_var (by decide)))))) (ss_next (by decide)))
  (ss_seq (ow1 := []) (ss_if (by decide) (st_b (se_call0 (lift_isInt T.toKT) cst_nil (sa_cons (se_var (by decide)) sa_nil))) (ss_ret (by decide) (se_op (fun _ => os_lt) (se_fld (T.fld _ hRatio _ (by decide)) (se_var (by decide))) (se_op (fun _ => os_mul) (se_var (by decide)) (se_fld (T.fld _ hRatio _ (by decide)) (se_var (by decide)))))) (ss_next (by decide)))
  ss_nev))
def tt_Ratio_le (K : PySem.W.Frag) (cs : List Str) : TS :=
  (tSeq (tIfS (tB (tCB (rIsi K) (tCons (tVar 1) (tCons (tC (.ref (He.ga K "Ratio"))) tNil)))) (tRet (tOp rLe0 (tOp rMulI (tFld K (tVar 0) "top") (tFld K (tVar 1) "bottom")) (tOp rMulI (tFld K (tVar 1) "top") (tFld K (tVar 0) "bottom")))) tNext)
  (tSeq (tIfS (tB (tCall (spIsInt K) [] E0 (tCons (tVar 1) tNil))) (tRet (tOp rLe0 (tFld K (tVar 0) "top") (tOp rMulI (tVar 1) (tFld K (tVar 0) "bottom")))) tNext)
  tNever))
def f_Ratio_le (cs : List Str) : FS :=
  (fSeq (fIfS (fB (fIsi cs (.own "Ratio") (fVar 1))) (fRet (fOp oLe (fOp oMul (fFld "Ratio" "top" (fVar 0)) (fFld "Ratio" "bottom" (fVar 1))) (fOp oMul (fFld "Ratio" "top" (fVar 1)) (fFld "Ratio" "bottom" (fVar 0))))) fNext)
  (fSeq (fIfS (fB (fCall0 (fIsInt cs) [] (fCons (fVar 1) fNil))) (fRet (fOp oLe (fFld "Ratio" "top" (fVar 0)) (fOp oMul (fVar 1) (fFld "Ratio" "bottom" (fVar 0))))) fNext)
  fNev))
theorem s_Ratio_le {K : PySem.W.Frag} {cs : List Str} (T : KF K cs) (hRatio : ("Ratio" : Str) ∈ cs) : SS K [] [] [] [] (fun _ => E0) (tt_Ratio_le K cs) (f_Ratio_le cs) :=
  (ss_seq (ow1 := []) (ss_if (by decide) (st_b (se_isi (c := (.own "Ratio")) T.toKT (se_var (by decide)))) (ss_ret (by decide) (se_op (fun _ => os_le) (se_op (fun _ => os_mul) (se_fld (T.fld _ hRatio _ (by decide)) (se_var (by decide))) (se_fld (T.fld _ hRatio _ (by decide)) (se_var (by decide)))) (se_op (fun _ => os_mul) (se_fld (T.fld _ hRatio _ (by decide)) (se_var (by decide))) (se_fld (T.fld _ hRatio _ (by decide)) (se_var (by decide)))))) (ss_next (by decide)))
  (ss_seq (ow1 := []) (ss_if (by decide) (st_b (se_call0 (lift_isInt T.toKT) cst_nil (sa_cons (se_var (by decide)) sa_nil))) (ss_ret (by decide) (se_op (fun _ => os_le) (se_fld (T.fld _ hRatio _ (by decide)) (se_var (by decide))) (se_op (fun _ => os_mul) (se_var (by decide)) (se_fld (T.fld _ hRatio _ (by decide)) (se_var (by decide)))))) (ss_next (by decide)))
  ss_nev))
def tt_Ratio_gt (K : PySem.W.Frag) (cs : List Str) : TS :=
  (tSeq (tIfS (tB (tCB (rIsi K) (tCons (tVar 1) (tCons (tC (.ref (He.ga K "Ratio"))) tNil)))) (tRet (tOp rGt0 (tOp rMulI (tFld K (tVar 0) "top") (tFld K (tVar 1) "bottom")) (tOp rMulI (tFld K (tVar 1) "top") (tFld K (tVar 0) "bottom")))) tNext)
  (tSeq (tIfS (tB (tCall (spIsInt K) [] E0 (tCons (tVar 1) tNil))) (tRet (tOp rGt0 (tFld K (tVar 0) "top") (tOp rMulI (tVar 1) (tFld K (tVar 0) "bottom")))) tNext)
  tNever))
def f_Ratio_gt (cs : List Str) : FS :=
  (fSeq (fIfS (fB (fIsi cs (.own "Ratio") (fVar 1))) (fRet (fOp oGt (fOp oMul (fFld "Ratio" "top" (fVar 0)) (fFld "Ratio" "bottom" (fVar 1))) (fOp oMul (fFld "Ratio" "top" (fVar 1)) (fFld "Ratio" "bottom" (fVar 0))))) fNext)
  (fSeq (fIfS (fB (fCall0 (fIsInt cs) [] (fCons (fVar 1) fNil))) (fRet (fOp oGt (fFld "Ratio" "top" (fVar 0)) (fOp oMul (fVar 1) (fFld "Ratio" "bottom" (fVar 0))))) fNext)
  fNev))
theorem s_Ratio_gt {K : PySem.W.Frag} {cs : List Str} (T : KF K cs) (hRatio : ("Ratio" : Str) ∈ cs) : SS K [] [] [] [] (fun _ => E0) (tt_Ratio_gt K cs) (f_Ratio_gt cs) :=
  (ss_seq (ow1 := []) (ss_if (by decide) (st_b (se_isi (c := (.own "Ratio")) T.toKT (se_var (by decide)))) (ss_ret (by decide) (se_op (fun _ => os_gt) (se_op (fun _ => os_mul) (se_fld (T.fld _ hRatio _ (by decide)) (se_var (by decide))) (se_fld (T.fld _ hRatio _ (by decide)) (se_var (by decide)))) (se_op (fun _ => os_mul) (se_fld (T.fld _ hRatio _ (by decide)) (se_var (by decide))) (se_fld (T.fld _ hRatio _ (by decide)) (se_var (by decide)))))) (ss_next (by decide)))
  (ss_seq (ow1 := []) (ss_if (by decide) (st_b (se_call0 (lift_isInt T.toKT) cst_nil (sa_cons (se_var (by decide)) sa_nil))) (ss_ret (by decide) (se_op (fun _ => os_gt) (se_fld (T.fld _ hRatio _ (by decide)) (se_var (by decide))) (se_op (fun _ => os_mul) (se_var (by decide)) (se_fld (T.fld _ hRatio _ (by decide)) (se_var (by decide)))))) (ss_next (by decide)))
  ss_nev))
def tt_Ratio_ge (K : PySem.W.Frag) (cs : List Str) : TS :=
  (tSeq (tIfS (tB (tCB (rIsi K) (tCons (tVar 1) (tCons (tC (.ref (He.ga K "Ratio"))) tNil)))) (tRet (tOp rGe0 (tOp rMulI (tFld K (tVar 0) "top") (tFld K (tVar 1) "bottom")) (tOp rMulI (tFld K (tVar 1) "top") (tFld K (tVar 0) "bottom")))) tNext)
  (tSeq (tIfS (tB (tCall (spIsInt K) [] E0 (tCons (tVar 1) tNil))) (tRet (tOp rGe0 (tFld K (tVar 0) "top") (tOp rMulI (tVar 1) (tFld K (tVar 0) "bottom")))) tNext)
  tNever))
def f_Ratio_ge (cs : List Str) : FS :=
  (fSeq (fIfS (fB (fIsi cs (.own "Ratio") (fVar 1))) (fRet (fOp oGe (fOp oMul (fFld "Ratio" "top" (fVar 0)) (fFld "Ratio" "bottom" (fVar 1))) (fOp oMul (fFld "Ratio" "top" (fVar 1)) (fFld "Ratio" "bottom" (fVar 0))))) fNext)
  (fSeq (fIfS (fB (fCall0 (fIsInt cs) [] (fCons (fVar 1) fNil))) (fRet (fOp oGe (fFld "Ratio" "top" (fVar 0)) (fOp oMul (fVar 1) (fFld "Ratio" "bottom" (fVar 0))))) fNext)
  fNev))
theorem s_Ratio_ge {K : PySem.W.Frag} {cs : List Str} (T : KF K cs) (hRatio : ("Ratio" : Str) ∈ cs) : SS K [] [] [] [] (fun _ => E0) (tt_Ratio_ge K cs) (f_Ratio_ge cs) :=
  (ss_seq (ow1 := []) (ss_if (by decide) (st_b (se_isi (c := (.own "Ratio")) T.toKT (se_var (by decide)))) (ss_ret (by decide) (se_op (fun _ => os_ge) (se_op (fun _ => os_mul) (se_fld (T.fld _ hRatio _ (by decide)) (se_var (by decide))) (se_fld (T.fld _ hRatio _ (by decide)) (se_var (by decide)))) (se_op (fun _ => os_mul) (se_fld (T.fld _ hRatio _ (by decide)) (se_var (by decide))) (se_fld (T.fld _ hRatio _ (by decide)) (se_var (by decide)))))) (ss_next (by decide)))
  (ss_seq (ow1 := []) (ss_if (by decide) (st_b (se_call0 (lift_isInt T.toKT) cst_nil (sa_cons (se_var (by decide)) sa_nil))) (ss_ret (by decide) (se_op (fun _ => os_ge) (se_fld (T.fld _ hRatio _ (by decide)) (se_var (by decide))) (se_op (fun _ => os_mul) (se_var (by decide)) (se_fld (T.fld _ hRatio _ (by decide)) (se_var (by decide)))))) (ss_next (by decide)))
  ss_nev))
def tt_is_number (K : PySem.W.Frag) (cs : List Str) : TS :=
  (tRet (tOrV (tCB (rIsi K) (tCons (tVar 0) (tCons (tC (.ref (He.ga K "Ratio"))) tNil))) (tCall (spIsInt K) [] E0 (tCons (tVar 0) tNil))))
def f_is_number (cs : List Str) : FS :=
  (fRet (fOrV (fIsi cs (.own "Ratio") (fVar 0)) (fCall0 (fIsInt cs) [] (fCons (fVar 0) fNil))))
theorem s_is_number {K : PySem.W.Frag} {cs : List Str} (T : KF K cs) (hRatio : ("Ratio" : Str) ∈ cs) : SS K [] [] [] [] (fun _ => E0) (tt_is_number K cs) (f_is_number cs) :=
  (ss_ret (by decide) (se_orV (se_isi (c := (.own "Ratio")) T.toKT (se_var (by decide))) (se_call0 (lift_isInt T.toKT) cst_nil (sa_cons (se_var (by decide)) sa_nil))))
def tt_as_ratio (K : PySem.W.Frag) (cs : List Str) (E : XK) : TS :=
  (tSeq (tIfS (tB (tCB (rIsi K) (tCons (tVar 0) (tCons (tC (.ref (He.ga K "Ratio"))) tNil)))) (tRet (tVar 0)) tNext)
  (tSeq (tIfS (tB (tCall (spIsInt K) [] E0 (tCons (tVar 0) tNil))) (tRet (tMake (He.ga K "Ratio") (spRInit K) [.int 1] E (tCons (tVar 0) tNil))) tNext)
  (tRaiseS (He.ga K "NoNumber") "word" (fun cls d _ H => E cls d H) (tCons (tVar 1) tNil))))
def f_as_ratio (cs : List Str) : FS :=
  (fSeq (fIfS (fB (fIsi cs (.own "Ratio") (fVar 0))) (fRet (fVar 0)) fNext)
  (fSeq (fIfS (fB (fCall0 (fIsInt cs) [] (fCons (fVar 0) fNil))) (fRet (fCall fMkR [.int 1] (fCons (fVar 0) fNil))) fNext)
  (fRaise "NoNumber" "word" (fVar 1))))
theorem s_as_ratio {K : PySem.W.Frag} {cs : List Str} (T : KF K cs) (hRatio : ("Ratio" : Str) ∈ cs) (E : XK) : SS K [] [] [] [] (fun _ => E) (tt_as_ratio K cs E) (f_as_ratio cs) :=
  (ss_seq (ow1 := []) (ss_if (by decide) (st_b (se_isi (c := (.own "Ratio")) T.toKT (se_var (by decide)))) (ss_ret (by decide) (se_var (by decide))) (ss_next (by decide)))
  (ss_seq (ow1 := []) (ss_if (by decide) (st_b (se_call0 (lift_isInt T.toKT) cst_nil (sa_cons (se_var (by decide)) sa_nil))) (ss_ret (by decide) (se_make mkl_R (cst_int cst_nil) (sa_cons (se_var (by decide)) sa_nil))) (ss_next (by decide)))
  (ss_raise (by decide) (se_var (by decide)))))
def tt_Ratio_over (K : PySem.W.Frag) (cs : List Str) (E : XK) : TS :=
  (tSeq (tAsg (tIf (tB (tCB (rIsi K) (tCons (tVar 1) (tCons (tC (.ref (He.ga K "Ratio"))) tNil)))) (tVar 1) (tMake (He.ga K "Ratio") (spRInit K) [.int 1] E (tCons (tVar 1) tNil))) (gName 2))
  (tSeq (tIfS (tTest (tOp rEq (tFld K (tVar 2) "top") (tC (.int 0)))) (tRaiseS (He.ga K "NoRatio") "word" (fun cls d _ H => E cls d H) (tCons (tC (.str "zero")) tNil)) tNext)
  (tRet (tMake (He.ga K "Ratio") (spRInit K) [] E (tCons (tOp rMulI (tFld K (tVar 0) "top") (tFld K (tVar 2) "bottom")) (tCons (tOp rMulI (tFld K (tVar 0) "bottom") (tFld K (tVar 2) "top")) tNil))))))
def f_Ratio_over (cs : List Str) : FS :=
  (fSeq (fSet 2 (fIf (fB (fIsi cs (.own "Ratio") (fVar 1))) (fVar 1) (fCall fMkR [.int 1] (fCons (fVar 1) fNil))))
  (fSeq (fIfS (fB (fOp oEq (fFld "Ratio" "top" (fVar 2)) (fC (.int 0)))) (fRaise "NoRatio" "word" (fC (.str "zero"))) fNext)
  (fRet (fCall fMkR [] (fCons (fOp oMul (fFld "Ratio" "top" (fVar 0)) (fFld "Ratio" "bottom" (fVar 2))) (fCons (fOp oMul (fFld "Ratio" "bottom" (fVar 0)) (fFld "Ratio" "top" (fVar 2))) fNil))))))
theorem s_Ratio_over {K : PySem.W.Frag} {cs : List Str} (T : KF K cs) (hRatio : ("Ratio" : Str) ∈ cs) (E : XK) : SS K [] [] [] [] (fun _ => E) (tt_Ratio_over K cs E) (f_Ratio_over cs) :=
  (ss_seq (ow1 := []) (ss_set (by decide) (by decide) (se_if (st_b (se_isi (c := (.own "Ratio")) T.toKT (se_var (by decide)))) (se_var (by decide)) (se_make mkl_R (cst_int cst_nil) (sa_cons (se_var (by decide)) sa_nil))))
  (ss_seq (ow1 := []) (ss_if (by decide) (st_test (se_op (fun _ => os_eq) (se_fld (T.fld _ hRatio _ (by decide)) (se_var (by decide))) se_int)) (ss_raise (by decide) se_str) (ss_next (by decide)))
  (ss_ret (by decide) (se_make mkl_R cst_nil (sa_cons (se_op (fun _ => os_mul) (se_fld (T.fld _ hRatio _ (by decide)) (se_var (by decide))) (se_fld (T.fld _ hRatio _ (by decide)) (se_var (by decide)))) (sa_cons (se_op (fun _ => os_mul) (se_fld (T.fld _ hRatio _ (by decide)) (se_var (by decide))) (se_fld (T.fld _ hRatio _ (by decide)) (se_var (by decide)))) sa_nil))))))
theorem getc0 {α : Type} {a : α} {l : List α} : (a :: l)[0]? = some a := rfl
theorem getc1 {α : Type} {a b : α} {l : List α} : (a :: b :: l)[1]? = some b := rfl
theorem isR_rat {cs : List Str} (h : ("Ratio" : Str) ∈ cs) (q : Rat) : isD cs (.own "Ratio") (.rat q) = some true := by
  simp only [isD, tyN, clsD, if_pos h, decide_true]
theorem isR_int {cs : List Str} (h : ("Ratio" : Str) ∈ cs) (i : Int) : isD cs (.own "Ratio") (.int i) = some false := by
  simp only [isD, tyN, if_pos h]
theorem intD_int (cs : List Str) (i : Int) : intD cs (.int i) = some true := rfl
theorem fIsInt_int {cs : List Str} {i : Int} {P : D → Prop} {X : XP} : fIsInt cs [.int i] P X ↔ P (.bl true) := by
  constructor
  · rintro ⟨d, b, h, hb, p⟩
    cases h
    rw [intD_int] at hb
    cases hb
    exact p
  · exact fun p => ⟨_, _, rfl, intD_int cs i, p⟩
theorem fld_top (q : Rat) : fldD "top" (.rat q) = some (.int q.num) := by simp [fldD]
theorem fld_bot (q : Rat) : fldD "bottom" (.rat q) = some (.int (q.den : Nat)) := by
  have h : ¬ (("bottom" : Str) = "top") := tb_ne
  simp only [fldD, if_neg h, if_true]
theorem mk_R {a b : Int} {P : D → Prop} {X : XP} : fMkR [.int a, .int b] P X ↔ (b ≠ 0 ∧ b.natAbs < 2 ^ 9000 ∧ P (.rat (Rat.divInt a b))) := by
  constructor
  · rintro ⟨a', b', h, h1, h2, h3⟩
    cases h
    exact ⟨h1, h2, h3⟩
  · exact fun ⟨h1, h2, h3⟩ => ⟨a, b, rfl, h1, h2, h3⟩
theorem szI {m : Nat} {k : Int} (h : Sz m (k : Rat)) : k.natAbs < 2 ^ m := h.num
theorem dsz {n : Nat} {a : Rat} (h : Sz n a) : ((a.den : Nat) : Int).natAbs < 2 ^ n := by rw [Int.natAbs_natCast]; exact h.den
theorem dd_ne (a b : Rat) : ((a.den : Nat) : Int) * ((b.den : Nat) : Int) ≠ 0 := Int.ne_of_gt (Int.mul_pos (den_pos a) (den_pos b))
theorem d_ne (a : Rat) : ((a.den : Nat) : Int) ≠ 0 := Int.ne_of_gt (den_pos a)
theorem dd_sz {n m : Nat} {a b : Rat} (h1 : Sz n a) (h2 : Sz m b) (hs : n + m ≤ 9000) : (((a.den : Nat) : Int) * ((b.den : Nat) : Int)).natAbs < 2 ^ 9000 := Nat.lt_of_lt_of_le (absmul (dsz h1) h2.den) (Nat.pow_le_pow_right (by decide) hs)
theorem d_sz {n m : Nat} {a : Rat} (h1 : Sz n a) (hs : n + m ≤ 9000) : ((a.den : Nat) : Int).natAbs < 2 ^ 9000 := Nat.lt_of_lt_of_le (dsz h1) (Nat.pow_le_pow_right (by decide) (by omega))
theorem mok {i j : Int} {n m : Nat} {a b : Rat} (h1 : Sz n a) (h2 : Sz m b) (hs : n + m ≤ 9000) (hi : i.natAbs < 2 ^ n) (hj : j.natAbs < 2 ^ m) : IntMulOk i j := mul_ok hi hj h1.pos h2.pos (by omega)
theorem p_Ratio_add {cs : List Str} (hR : ("Ratio" : Str) ∈ cs) (ds : List D) (P : D → Prop) (X : XP) (h : fR2 (fun a b => a + b) ds P X) : f_Ratio_add cs (topE P X0) (startD 2 ds) := by
  match ds, h with
  | [.rat a, .rat b], ⟨⟨n, m, ha, hb, hs⟩, p⟩ =>
    simp only [fSeq, fIfS, fB, fIsi, fVar, fC, fOp, fUn, fLs, fRet, fRetN, fCall, fCall0, fCons, fNil, fNext, fNev, fFld, fSet, fOwn, fDrop, fAsg, fPar, fNot, fAnd, fOr, fAndV, fOrV, fNotV, fIf, fTru, fLst, fTup, fMeth, fMeth0, fName, fRaise, fRaise0, fBr, fBor, fApp, fSetI, fAug, fChain, fYes, fSl, fNoPart, fPart, fItL, fItT, fIt, fIsLT, fBrk, fCnt, topE, startD, toB, oI, oI0, oNeg, oAbs, oMax, oMin, oInt, oLen_lst, oLen_tup, oList, oTuple, oCat, oIsB, oNotB, oEq, oNe, eqD, oIsN, oNotN, isN, own_rr, own_ri, own_pp, own_pi, rfl_ir, rfl_ip, neg_r, neg_p, abs_r, tru_lst, tru_tup, tru_int, tru_bl, tru_non, tupG2, tupG4, lstEx, tupEx, lstIs, tupIs, intEx, lst1Ex, lst2Ex, int1Ex, int2Ex, en1Ex, setEx, it_lst, it_tup, oIxL, oIxT, InsD, List.map_cons, List.map_nil, List.cons_append, List.nil_append, List.length_cons, List.length_nil, List.getElem?_cons_zero, List.getElem?_cons_succ, List.set_cons_zero, List.set_cons_succ, List.replicate_succ, List.replicate_zero, Option.some.injEq, exists_eq_left', clsD_rat, clsD_poly, if_true, if_false, List.append_nil, true_and, and_true, true_or, or_true, Bool.false_eq_true, Bool.true_eq_false, reduceCtorEq, Nat.add_one_sub_one, Nat.reduceSub, Nat.reduceAdd, Nat.sub_self, Nat.zero_add, Nat.add_sub_cancel, f_Ratio_add, isR_rat hR, isR_int hR, fIsInt_int, fld_top, fld_bot, mk_R]
    exact ⟨mok ha hb hs ha.num (dsz hb), mok hb ha (by omega) hb.num (dsz ha), mok ha hb hs (dsz ha) (dsz hb), dd_ne a b, dd_sz ha hb hs, by rw [di_add]; exact p⟩
  | [.rat a, .int k], ⟨⟨n, m, ha, hb, hs⟩, p⟩ =>
    simp only [fSeq, fIfS, fB, fIsi, fVar, fC, fOp, fUn, fLs, fRet, fRetN, fCall, fCall0, fCons, fNil, fNext, fNev, fFld, fSet, fOwn, fDrop, fAsg, fPar, fNot, fAnd, fOr, fAndV, fOrV, fNotV, fIf, fTru, fLst, fTup, fMeth, fMeth0, fName, fRaise, fRaise0, fBr, fBor, fApp, fSetI, fAug, fChain, fYes, fSl, fNoPart, fPart, fItL, fItT, fIt, fIsLT, fBrk, fCnt, topE, startD, toB, oI, oI0, oNeg, oAbs, oMax, oMin, oInt, oLen_lst, oLen_tup, oList, oTuple, oCat, oIsB, oNotB, oEq, oNe, eqD, oIsN, oNotN, isN, own_rr, own_ri, own_pp, own_pi, rfl_ir, rfl_ip, neg_r, neg_p, abs_r, tru_lst, tru_tup, tru_int, tru_bl, tru_non, tupG2, tupG4, lstEx, tupEx, lstIs, tupIs, intEx, lst1Ex, lst2Ex, int1Ex, int2Ex, en1Ex, setEx, it_lst, it_tup, oIxL, oIxT, InsD, List.map_cons, List.map_nil, List.cons_append, List.nil_append, List.length_cons, List.length_nil, List.getElem?_cons_zero, List.getElem?_cons_succ, List.set_cons_zero, List.set_cons_succ, List.replicate_succ, List.replicate_zero, Option.some.injEq, exists_eq_left', clsD_rat, clsD_poly, if_true, if_false, List.append_nil, true_and, and_true, true_or, or_true, Bool.false_eq_true, Bool.true_eq_false, reduceCtorEq, Nat.add_one_sub_one, Nat.reduceSub, Nat.reduceAdd, Nat.sub_self, Nat.zero_add, Nat.add_sub_cancel, f_Ratio_add, isR_rat hR, isR_int hR, fIsInt_int, fld_top, fld_bot, mk_R]
    exact ⟨mok hb ha (by omega) (szI hb) (dsz ha), d_ne a, d_sz ha hs, by rw [di_addI]; exact p⟩
theorem p_Ratio_sub {cs : List Str} (hR : ("Ratio" : Str) ∈ cs) (ds : List D) (P : D → Prop) (X : XP) (h : fR2 (fun a b => a - b) ds P X) : f_Ratio_sub cs (topE P X0) (startD 2 ds) := by
  match ds, h with
  | [.rat a, .rat b], ⟨⟨n, m, ha, hb, hs⟩, p⟩ =>
    simp only [fSeq, fIfS, fB, fIsi, fVar, fC, fOp, fUn, fLs, fRet, fRetN, fCall, fCall0, fCons, fNil, fNext, fNev, fFld, fSet, fOwn, fDrop, fAsg, fPar, fNot, fAnd, fOr, fAndV, fOrV, fNotV, fIf, fTru, fLst, fTup, fMeth, fMeth0, fName, fRaise, fRaise0, fBr, fBor, fApp, fSetI, fAug, fChain, fYes, fSl, fNoPart, fPart, fItL, fItT, fIt, fIsLT, fBrk, fCnt, topE, startD, toB, oI, oI0, oNeg, oAbs, oMax, oMin, oInt, oLen_lst, oLen_tup, oList, oTuple, oCat, oIsB, oNotB, oEq, oNe, eqD, oIsN, oNotN, isN, own_rr, own_ri, own_pp, own_pi, rfl_ir, rfl_ip, neg_r, neg_p, abs_r, tru_lst, tru_tup, tru_int, tru_bl, tru_non, tupG2, tupG4, lstEx, tupEx, lstIs, tupIs, intEx, lst1Ex, lst2Ex, int1Ex, int2Ex, en1Ex, setEx, it_lst, it_tup, oIxL, oIxT, InsD, List.map_cons, List.map_nil, List.cons_append, List.nil_append, List.length_cons, List.length_nil, List.getElem?_cons_zero, List.getElem?_cons_succ, List.set_cons_zero, List.set_cons_succ, List.replicate_succ, List.replicate_zero, Option.some.injEq, exists_eq_left', clsD_rat, clsD_poly, if_true, if_false, List.append_nil, true_and, and_true, true_or, or_true, Bool.false_eq_true, Bool.true_eq_false, reduceCtorEq, Nat.add_one_sub_one, Nat.reduceSub, Nat.reduceAdd, Nat.sub_self, Nat.zero_add, Nat.add_sub_cancel, f_Ratio_sub, isR_rat hR, isR_int hR, fIsInt_int, fld_top, fld_bot, mk_R]
    exact ⟨mok ha hb hs ha.num (dsz hb), mok hb ha (by omega) hb.num (dsz ha), mok ha hb hs (dsz ha) (dsz hb), dd_ne a b, dd_sz ha hb hs, by rw [di_sub]; exact p⟩
  | [.rat a, .int k], ⟨⟨n, m, ha, hb, hs⟩, p⟩ =>
    simp only [fSeq, fIfS, fB, fIsi, fVar, fC, fOp, fUn, fLs, fRet, fRetN, fCall, fCall0, fCons, fNil, fNext, fNev, fFld, fSet, fOwn, fDrop, fAsg, fPar, fNot, fAnd, fOr, fAndV, fOrV, fNotV, fIf, fTru, fLst, fTup, fMeth, fMeth0, fName, fRaise, fRaise0, fBr, fBor, fApp, fSetI, fAug, fChain, fYes, fSl, fNoPart, fPart, fItL, fItT, fIt, fIsLT, fBrk, fCnt, topE, startD, toB, oI, oI0, oNeg, oAbs, oMax, oMin, oInt, oLen_lst, oLen_tup, oList, oTuple, oCat, oIsB, oNotB, oEq, oNe, eqD, oIsN, oNotN, isN, own_rr, own_ri, own_pp, own_pi, rfl_ir, rfl_ip, neg_r, neg_p, abs_r, tru_lst, tru_tup, tru_int, tru_bl, tru_non, tupG2, tupG4, lstEx, tupEx, lstIs, tupIs, intEx, lst1Ex, lst2Ex, int1Ex, int2Ex, en1Ex, setEx, it_lst, it_tup, oIxL, oIxT, InsD, List.map_cons, List.map_nil, List.cons_append, List.nil_append, List.length_cons, List.length_nil, List.getElem?_cons_zero, List.getElem?_cons_succ, List.set_cons_zero, List.set_cons_succ, List.replicate_succ, List.replicate_zero, Option.some.injEq, exists_eq_left', clsD_rat, clsD_poly, if_true, if_false, List.append_nil, true_and, and_true, true_or, or_true, Bool.false_eq_true, Bool.true_eq_false, reduceCtorEq, Nat.add_one_sub_one, Nat.reduceSub, Nat.reduceAdd, Nat.sub_self, Nat.zero_add, Nat.add_sub_cancel, f_Ratio_sub, isR_rat hR, isR_int hR, fIsInt_int, fld_top, fld_bot, mk_R]
    exact ⟨mok hb ha (by omega) (szI hb) (dsz ha), d_ne a, d_sz ha hs, by rw [di_subI]; exact p⟩
theorem p_Ratio_mul {cs : List Str} (hR : ("Ratio" : Str) ∈ cs) (ds : List D) (P : D → Prop) (X : XP) (h : fR2 (fun a b => a * b) ds P X) : f_Ratio_mul cs (topE P X0) (startD 2 ds) := by
  match ds, h with
  | [.rat a, .rat b], ⟨⟨n, m, ha, hb, hs⟩, p⟩ =>
    simp only [fSeq, fIfS, fB, fIsi, fVar, fC, fOp, fUn, fLs, fRet, fRetN, fCall, fCall0, fCons, fNil, fNext, fNev, fFld, fSet, fOwn, fDrop, fAsg, fPar, fNot, fAnd, fOr, fAndV, fOrV, fNotV, fIf, fTru, fLst, fTup, fMeth, fMeth0, fName, fRaise, fRaise0, fBr, fBor, fApp, fSetI, fAug, fChain, fYes, fSl, fNoPart, fPart, fItL, fItT, fIt, fIsLT, fBrk, fCnt, topE, startD, toB, oI, oI0, oNeg, oAbs, oMax, oMin, oInt, oLen_lst, oLen_tup, oList, oTuple, oCat, oIsB, oNotB, oEq, oNe, eqD, oIsN, oNotN, isN, own_rr, own_ri, own_pp, own_pi, rfl_ir, rfl_ip, neg_r, neg_p, abs_r, tru_lst, tru_tup, tru_int, tru_bl, tru_non, tupG2, tupG4, lstEx, tupEx, lstIs, tupIs, intEx, lst1Ex, lst2Ex, int1Ex, int2Ex, en1Ex, setEx, it_lst, it_tup, oIxL, oIxT, InsD, List.map_cons, List.map_nil, List.cons_append, List.nil_append, List.length_cons, List.length_nil, List.getElem?_cons_zero, List.getElem?_cons_succ, List.set_cons_zero, List.set_cons_succ, List.replicate_succ, List.replicate_zero, Option.some.injEq, exists_eq_left', clsD_rat, clsD_poly, if_true, if_false, List.append_nil, true_and, and_true, true_or, or_true, Bool.false_eq_true, Bool.true_eq_false, reduceCtorEq, Nat.add_one_sub_one, Nat.reduceSub, Nat.reduceAdd, Nat.sub_self, Nat.zero_add, Nat.add_sub_cancel, f_Ratio_mul, isR_rat hR, isR_int hR, fIsInt_int, fld_top, fld_bot, mk_R]
    exact ⟨mok ha hb hs ha.num hb.num, mok ha hb hs (dsz ha) (dsz hb), dd_ne a b, dd_sz ha hb hs, by rw [di_mul]; exact p⟩
  | [.rat a, .int k], ⟨⟨n, m, ha, hb, hs⟩, p⟩ =>
    simp only [fSeq, fIfS, fB, fIsi, fVar, fC, fOp, fUn, fLs, fRet, fRetN, fCall, fCall0, fCons, fNil, fNext, fNev, fFld, fSet, fOwn, fDrop, fAsg, fPar, fNot, fAnd, fOr, fAndV, fOrV, fNotV, fIf, fTru, fLst, fTup, fMeth, fMeth0, fName, fRaise, fRaise0, fBr, fBor, fApp, fSetI, fAug, fChain, fYes, fSl, fNoPart, fPart, fItL, fItT, fIt, fIsLT, fBrk, fCnt, topE, startD, toB, oI, oI0, oNeg, oAbs, oMax, oMin, oInt, oLen_lst, oLen_tup, oList, oTuple, oCat, oIsB, oNotB, oEq, oNe, eqD, oIsN, oNotN, isN, own_rr, own_ri, own_pp, own_pi, rfl_ir, rfl_ip, neg_r, neg_p, abs_r, tru_lst, tru_tup, tru_int, tru_bl, tru_non, tupG2, tupG4, lstEx, tupEx, lstIs, tupIs, intEx, lst1Ex, lst2Ex, int1Ex, int2Ex, en1Ex, setEx, it_lst, it_tup, oIxL, oIxT, InsD, List.map_cons, List.map_nil, List.cons_append, List.nil_append, List.length_cons, List.length_nil, List.getElem?_cons_zero, List.getElem?_cons_succ, List.set_cons_zero, List.set_cons_succ, List.replicate_succ, List.replicate_zero, Option.some.injEq, exists_eq_left', clsD_rat, clsD_poly, if_true, if_false, List.append_nil, true_and, and_true, true_or, or_true, Bool.false_eq_true, Bool.true_eq_false, reduceCtorEq, Nat.add_one_sub_one, Nat.reduceSub, Nat.reduceAdd, Nat.sub_self, Nat.zero_add, Nat.add_sub_cancel, f_Ratio_mul, isR_rat hR, isR_int hR, fIsInt_int, fld_top, fld_bot, mk_R]
    exact ⟨mok ha hb hs ha.num (szI hb), d_ne a, d_sz ha hs, by rw [di_mulI]; exact p⟩
theorem p_Ratio_radd {cs : List Str} (hR : ("Ratio" : Str) ∈ cs) (ds : List D) (P : D → Prop) (X : XP) (h : fRI (fun a b => b + a) ds P X) : f_Ratio_radd cs (topE P X0) (startD 2 ds) := by
  match ds, h with
  | [.rat a, .int k], ⟨⟨n, m, ha, hb, hs⟩, p⟩ =>
    simp only [fSeq, fIfS, fB, fIsi, fVar, fC, fOp, fUn, fLs, fRet, fRetN, fCall, fCall0, fCons, fNil, fNext, fNev, fFld, fSet, fOwn, fDrop, fAsg, fPar, fNot, fAnd, fOr, fAndV, fOrV, fNotV, fIf, fTru, fLst, fTup, fMeth, fMeth0, fName, fRaise, fRaise0, fBr, fBor, fApp, fSetI, fAug, fChain, fYes, fSl, fNoPart, fPart, fItL, fItT, fIt, fIsLT, fBrk, fCnt, topE, startD, toB, oI, oI0, oNeg, oAbs, oMax, oMin, oInt, oLen_lst, oLen_tup, oList, oTuple, oCat, oIsB, oNotB, oEq, oNe, eqD, oIsN, oNotN, isN, own_rr, own_ri, own_pp, own_pi, rfl_ir, rfl_ip, neg_r, neg_p, abs_r, tru_lst, tru_tup, tru_int, tru_bl, tru_non, tupG2, tupG4, lstEx, tupEx, lstIs, tupIs, intEx, lst1Ex, lst2Ex, int1Ex, int2Ex, en1Ex, setEx, it_lst, it_tup, oIxL, oIxT, InsD, List.map_cons, List.map_nil, List.cons_append, List.nil_append, List.length_cons, List.length_nil, List.getElem?_cons_zero, List.getElem?_cons_succ, List.set_cons_zero, List.set_cons_succ, List.replicate_succ, List.replicate_zero, Option.some.injEq, exists_eq_left', clsD_rat, clsD_poly, if_true, if_false, List.append_nil, true_and, and_true, true_or, or_true, Bool.false_eq_true, Bool.true_eq_false, reduceCtorEq, Nat.add_one_sub_one, Nat.reduceSub, Nat.reduceAdd, Nat.sub_self, Nat.zero_add, Nat.add_sub_cancel, f_Ratio_radd, isR_rat hR, isR_int hR, fIsInt_int, fld_top, fld_bot, mk_R]
    exact ⟨mok hb ha (by omega) (szI hb) (dsz ha), d_ne a, d_sz ha hs, by rw [di_raddI]; exact p⟩
theorem p_Ratio_rsub {cs : List Str} (hR : ("Ratio" : Str) ∈ cs) (ds : List D) (P : D → Prop) (X : XP) (h : fRI (fun a b => b - a) ds P X) : f_Ratio_rsub cs (topE P X0) (startD 2 ds) := by
  match ds, h with
  | [.rat a, .int k], ⟨⟨n, m, ha, hb, hs⟩, p⟩ =>
    simp only [fSeq, fIfS, fB, fIsi, fVar, fC, fOp, fUn, fLs, fRet, fRetN, fCall, fCall0, fCons, fNil, fNext, fNev, fFld, fSet, fOwn, fDrop, fAsg, fPar, fNot, fAnd, fOr, fAndV, fOrV, fNotV, fIf, fTru, fLst, fTup, fMeth, fMeth0, fName, fRaise, fRaise0, fBr, fBor, fApp, fSetI, fAug, fChain, fYes, fSl, fNoPart, fPart, fItL, fItT, fIt, fIsLT, fBrk, fCnt, topE, startD, toB, oI, oI0, oNeg, oAbs, oMax, oMin, oInt, oLen_lst, oLen_tup, oList, oTuple, oCat, oIsB, oNotB, oEq, oNe, eqD, oIsN, oNotN, isN, own_rr, own_ri, own_pp, own_pi, rfl_ir, rfl_ip, neg_r, neg_p, abs_r, tru_lst, tru_tup, tru_int, tru_bl, tru_non, tupG2, tupG4, lstEx, tupEx, lstIs, tupIs, intEx, lst1Ex, lst2Ex, int1Ex, int2Ex, en1Ex, setEx, it_lst, it_tup, oIxL, oIxT, InsD, List.map_cons, List.map_nil, List.cons_append, List.nil_append, List.length_cons, List.length_nil, List.getElem?_cons_zero, List.getElem?_cons_succ, List.set_cons_zero, List.set_cons_succ, List.replicate_succ, List.replicate_zero, Option.some.injEq, exists_eq_left', clsD_rat, clsD_poly, if_true, if_false, List.append_nil, true_and, and_true, true_or, or_true, Bool.false_eq_true, Bool.true_eq_false, reduceCtorEq, Nat.add_one_sub_one, Nat.reduceSub, Nat.reduceAdd, Nat.sub_self, Nat.zero_add, Nat.add_sub_cancel, f_Ratio_rsub, isR_rat hR, isR_int hR, fIsInt_int, fld_top, fld_bot, mk_R]
    exact ⟨mok hb ha (by omega) (szI hb) (dsz ha), d_ne a, d_sz ha hs, by rw [di_rsubI]; exact p⟩
theorem p_Ratio_rmul {cs : List Str} (hR : ("Ratio" : Str) ∈ cs) (ds : List D) (P : D → Prop) (X : XP) (h : fRI (fun a b => b * a) ds P X) : f_Ratio_rmul cs (topE P X0) (startD 2 ds) := by
  match ds, h with
  | [.rat a, .int k], ⟨⟨n, m, ha, hb, hs⟩, p⟩ =>
    simp only [fSeq, fIfS, fB, fIsi, fVar, fC, fOp, fUn, fLs, fRet, fRetN, fCall, fCall0, fCons, fNil, fNext, fNev, fFld, fSet, fOwn, fDrop, fAsg, fPar, fNot, fAnd, fOr, fAndV, fOrV, fNotV, fIf, fTru, fLst, fTup, fMeth, fMeth0, fName, fRaise, fRaise0, fBr, fBor, fApp, fSetI, fAug, fChain, fYes, fSl, fNoPart, fPart, fItL, fItT, fIt, fIsLT, fBrk, fCnt, topE, startD, toB, oI, oI0, oNeg, oAbs, oMax, oMin, oInt, oLen_lst, oLen_tup, oList, oTuple, oCat, oIsB, oNotB, oEq, oNe, eqD, oIsN, oNotN, isN, own_rr, own_ri, own_pp, own_pi, rfl_ir, rfl_ip, neg_r, neg_p, abs_r, tru_lst, tru_tup, tru_int, tru_bl, tru_non, tupG2, tupG4, lstEx, tupEx, lstIs, tupIs, intEx, lst1Ex, lst2Ex, int1Ex, int2Ex, en1Ex, setEx, it_lst, it_tup, oIxL, oIxT, InsD, List.map_cons, List.map_nil, List.cons_append, List.nil_append, List.length_cons, List.length_nil, List.getElem?_cons_zero, List.getElem?_cons_succ, List.set_cons_zero, List.set_cons_succ, List.replicate_succ, List.replicate_zero, Option.some.injEq, exists_eq_left', clsD_rat, clsD_poly, if_true, if_false, List.append_nil, true_and, and_true, true_or, or_true, Bool.false_eq_true, Bool.true_eq_false, reduceCtorEq, Nat.add_one_sub_one, Nat.reduceSub, Nat.reduceAdd, Nat.sub_self, Nat.zero_add, Nat.add_sub_cancel, f_Ratio_rmul, isR_rat hR, isR_int hR, fIsInt_int, fld_top, fld_bot, mk_R]
    exact ⟨mok ha hb hs ha.num (szI hb), d_ne a, d_sz ha hs, by rw [di_mulI, Rat.mul_comm]; exact p⟩
theorem p_Ratio_neg {cs : List Str} (hR : ("Ratio" : Str) ∈ cs) (ds : List D) (P : D → Prop) (X : XP) (h : fR1 (fun a => -a) ds P X) : f_Ratio_neg cs (topE P X0) (startD 1 ds) := by
  match ds, h with
  | [.rat a], ⟨⟨n, ha, hs⟩, p⟩ =>
    simp only [fSeq, fIfS, fB, fIsi, fVar, fC, fOp, fUn, fLs, fRet, fRetN, fCall, fCall0, fCons, fNil, fNext, fNev, fFld, fSet, fOwn, fDrop, fAsg, fPar, fNot, fAnd, fOr, fAndV, fOrV, fNotV, fIf, fTru, fLst, fTup, fMeth, fMeth0, fName, fRaise, fRaise0, fBr, fBor, fApp, fSetI, fAug, fChain, fYes, fSl, fNoPart, fPart, fItL, fItT, fIt, fIsLT, fBrk, fCnt, topE, startD, toB, oI, oI0, oNeg, oAbs, oMax, oMin, oInt, oLen_lst, oLen_tup, oList, oTuple, oCat, oIsB, oNotB, oEq, oNe, eqD, oIsN, oNotN, isN, own_rr, own_ri, own_pp, own_pi, rfl_ir, rfl_ip, neg_r, neg_p, abs_r, tru_lst, tru_tup, tru_int, tru_bl, tru_non, tupG2, tupG4, lstEx, tupEx, lstIs, tupIs, intEx, lst1Ex, lst2Ex, int1Ex, int2Ex, en1Ex, setEx, it_lst, it_tup, oIxL, oIxT, InsD, List.map_cons, List.map_nil, List.cons_append, List.nil_append, List.length_cons, List.length_nil, List.getElem?_cons_zero, List.getElem?_cons_succ, List.set_cons_zero, List.set_cons_succ, List.replicate_succ, List.replicate_zero, Option.some.injEq, exists_eq_left', clsD_rat, clsD_poly, if_true, if_false, List.append_nil, true_and, and_true, true_or, or_true, Bool.false_eq_true, Bool.true_eq_false, reduceCtorEq, Nat.add_one_sub_one, Nat.reduceSub, Nat.reduceAdd, Nat.sub_self, Nat.zero_add, Nat.add_sub_cancel, f_Ratio_neg, isR_rat hR, isR_int hR, fIsInt_int, fld_top, fld_bot, mk_R]
    exact ⟨d_ne a, d_sz (m := 0) ha (by omega), by rw [di_neg]; exact p⟩
theorem p_Ratio_abs {cs : List Str} (hR : ("Ratio" : Str) ∈ cs) (ds : List D) (P : D → Prop) (X : XP) (h : fR1 (fun a => rabs a) ds P X) : f_Ratio_abs cs (topE P X0) (startD 1 ds) := by
  match ds, h with
  | [.rat a], ⟨⟨n, ha, hs⟩, p⟩ =>
    simp only [fSeq, fIfS, fB, fIsi, fVar, fC, fOp, fUn, fLs, fRet, fRetN, fCall, fCall0, fCons, fNil, fNext, fNev, fFld, fSet, fOwn, fDrop, fAsg, fPar, fNot, fAnd, fOr, fAndV, fOrV, fNotV, fIf, fTru, fLst, fTup, fMeth, fMeth0, fName, fRaise, fRaise0, fBr, fBor, fApp, fSetI, fAug, fChain, fYes, fSl, fNoPart, fPart, fItL, fItT, fIt, fIsLT, fBrk, fCnt, topE, startD, toB, oI, oI0, oNeg, oAbs, oMax, oMin, oInt, oLen_lst, oLen_tup, oList, oTuple, oCat, oIsB, oNotB, oEq, oNe, eqD, oIsN, oNotN, isN, own_rr, own_ri, own_pp, own_pi, rfl_ir, rfl_ip, neg_r, neg_p, abs_r, tru_lst, tru_tup, tru_int, tru_bl, tru_non, tupG2, tupG4, lstEx, tupEx, lstIs, tupIs, intEx, lst1Ex, lst2Ex, int1Ex, int2Ex, en1Ex, setEx, it_lst, it_tup, oIxL, oIxT, InsD, List.map_cons, List.map_nil, List.cons_append, List.nil_append, List.length_cons, List.length_nil, List.getElem?_cons_zero, List.getElem?_cons_succ, List.set_cons_zero, List.set_cons_succ, List.replicate_succ, List.replicate_zero, Option.some.injEq, exists_eq_left', clsD_rat, clsD_poly, if_true, if_false, List.append_nil, true_and, and_true, true_or, or_true, Bool.false_eq_true, Bool.true_eq_false, reduceCtorEq, Nat.add_one_sub_one, Nat.reduceSub, Nat.reduceAdd, Nat.sub_self, Nat.zero_add, Nat.add_sub_cancel, f_Ratio_abs, isR_rat hR, isR_int hR, fIsInt_int, fld_top, fld_bot, mk_R]
    exact ⟨d_ne a, d_sz (m := 0) ha (by omega), by rw [← abs_if]; rw [di_abs]; exact p⟩
theorem rat_eq_iff (a b : Rat) : a = b ↔ a.num = b.num ∧ a.den = b.den := ⟨fun h => by rw [h]; exact ⟨rfl, rfl⟩, fun ⟨h1, h2⟩ => Rat.ext h1 h2⟩
theorem rat_eqI (a : Rat) (k : Int) : a = (k : Rat) ↔ a.den = 1 ∧ a.num = k := by
  rw [rat_eq_iff, Rat.num_intCast, Rat.den_intCast]
  exact And.comm
theorem ifP {P : D → Prop} {c : Bool} {x y z : D} (h1 : c = true → x = z) (h2 : c = false → y = z) (p : P z) : if c = true then P x else P y := by
  cases c with
  | true => rw [if_pos rfl, h1 rfl]; exact p
  | false => rw [if_neg (by decide), h2 rfl]; exact p
theorem p_Ratio_eq {cs : List Str} (hR : ("Ratio" : Str) ∈ cs) (ds : List D) (P : D → Prop) (X : XP) (h : fRB (fun a b => decide (a = b)) ds P X) : f_Ratio_eq cs (topE P X0) (startD 2 ds) := by
  match ds, h with
  | [.rat a, .rat b], ⟨⟨n, m, ha, hb, hs⟩, p⟩ =>
    simp only [fSeq, fIfS, fB, fIsi, fVar, fC, fOp, fUn, fLs, fRet, fRetN, fCall, fCall0, fCons, fNil, fNext, fNev, fFld, fSet, fOwn, fDrop, fAsg, fPar, fNot, fAnd, fOr, fAndV, fOrV, fNotV, fIf, fTru, fLst, fTup, fMeth, fMeth0, fName, fRaise, fRaise0, fBr, fBor, fApp, fSetI, fAug, fChain, fYes, fSl, fNoPart, fPart, fItL, fItT, fIt, fIsLT, fBrk, fCnt, topE, startD, toB, oI, oI0, oNeg, oAbs, oMax, oMin, oInt, oLen_lst, oLen_tup, oList, oTuple, oCat, oIsB, oNotB, oEq, oNe, eqD, oIsN, oNotN, isN, own_rr, own_ri, own_pp, own_pi, rfl_ir, rfl_ip, neg_r, neg_p, abs_r, tru_lst, tru_tup, tru_int, tru_bl, tru_non, tupG2, tupG4, lstEx, tupEx, lstIs, tupIs, intEx, lst1Ex, lst2Ex, int1Ex, int2Ex, en1Ex, setEx, it_lst, it_tup, oIxL, oIxT, InsD, List.map_cons, List.map_nil, List.cons_append, List.nil_append, List.length_cons, List.length_nil, List.getElem?_cons_zero, List.getElem?_cons_succ, List.set_cons_zero, List.set_cons_succ, List.replicate_succ, List.replicate_zero, Option.some.injEq, exists_eq_left', clsD_rat, clsD_poly, if_true, if_false, List.append_nil, true_and, and_true, true_or, or_true, Bool.false_eq_true, Bool.true_eq_false, reduceCtorEq, Nat.add_one_sub_one, Nat.reduceSub, Nat.reduceAdd, Nat.sub_self, Nat.zero_add, Nat.add_sub_cancel, f_Ratio_eq, isR_rat hR, isR_int hR, fIsInt_int, fld_top, fld_bot, mk_R]
    refine ifP (fun h => ?_) (fun h => ?_) p
    · have h := of_decide_eq_true h
      congr 1
      exact decide_eq_decide.mpr (by rw [rat_eq_iff]; constructor
                                     · intro z; exact ⟨h, by omega⟩
                                     · intro z; omega)
    · have h := of_decide_eq_false h
      congr 1
      exact (decide_eq_false (by rw [rat_eq_iff]; exact fun z => h z.1)).symm
  | [.rat a, .int k], ⟨⟨n, m, ha, hb, hs⟩, p⟩ =>
    simp only [fSeq, fIfS, fB, fIsi, fVar, fC, fOp, fUn, fLs, fRet, fRetN, fCall, fCall0, fCons, fNil, fNext, fNev, fFld, fSet, fOwn, fDrop, fAsg, fPar, fNot, fAnd, fOr, fAndV, fOrV, fNotV, fIf, fTru, fLst, fTup, fMeth, fMeth0, fName, fRaise, fRaise0, fBr, fBor, fApp, fSetI, fAug, fChain, fYes, fSl, fNoPart, fPart, fItL, fItT, fIt, fIsLT, fBrk, fCnt, topE, startD, toB, oI, oI0, oNeg, oAbs, oMax, oMin, oInt, oLen_lst, oLen_tup, oList, oTuple, oCat, oIsB, oNotB, oEq, oNe, eqD, oIsN, oNotN, isN, own_rr, own_ri, own_pp, own_pi, rfl_ir, rfl_ip, neg_r, neg_p, abs_r, tru_lst, tru_tup, tru_int, tru_bl, tru_non, tupG2, tupG4, lstEx, tupEx, lstIs, tupIs, intEx, lst1Ex, lst2Ex, int1Ex, int2Ex, en1Ex, setEx, it_lst, it_tup, oIxL, oIxT, InsD, List.map_cons, List.map_nil, List.cons_append, List.nil_append, List.length_cons, List.length_nil, List.getElem?_cons_zero, List.getElem?_cons_succ, List.set_cons_zero, List.set_cons_succ, List.replicate_succ, List.replicate_zero, Option.some.injEq, exists_eq_left', clsD_rat, clsD_poly, if_true, if_false, List.append_nil, true_and, and_true, true_or, or_true, Bool.false_eq_true, Bool.true_eq_false, reduceCtorEq, Nat.add_one_sub_one, Nat.reduceSub, Nat.reduceAdd, Nat.sub_self, Nat.zero_add, Nat.add_sub_cancel, f_Ratio_eq, isR_rat hR, isR_int hR, fIsInt_int, fld_top, fld_bot, mk_R]
    refine ifP (fun h => ?_) (fun h => ?_) p
    · have h := of_decide_eq_true h
      congr 1
      exact decide_eq_decide.mpr (by rw [rat_eqI]; constructor
                                     · intro z; exact ⟨by omega, z⟩
                                     · intro z; exact z.2)
    · have h := of_decide_eq_false h
      congr 1
      exact (decide_eq_false (by rw [rat_eqI]; exact fun z => h (by omega))).symm
theorem p_Ratio_ne {cs : List Str} (hR : ("Ratio" : Str) ∈ cs) (ds : List D) (P : D → Prop) (X : XP) (h : fRB (fun a b => !decide (a = b)) ds P X) : f_Ratio_ne cs (topE P X0) (startD 2 ds) := by
  match ds, h with
  | [.rat a, .rat b], ⟨⟨n, m, ha, hb, hs⟩, p⟩ =>
    simp only [fSeq, fIfS, fB, fIsi, fVar, fC, fOp, fUn, fLs, fRet, fRetN, fCall, fCall0, fCons, fNil, fNext, fNev, fFld, fSet, fOwn, fDrop, fAsg, fPar, fNot, fAnd, fOr, fAndV, fOrV, fNotV, fIf, fTru, fLst, fTup, fMeth, fMeth0, fName, fRaise, fRaise0, fBr, fBor, fApp, fSetI, fAug, fChain, fYes, fSl, fNoPart, fPart, fItL, fItT, fIt, fIsLT, fBrk, fCnt, topE, startD, toB, oI, oI0, oNeg, oAbs, oMax, oMin, oInt, oLen_lst, oLen_tup, oList, oTuple, oCat, oIsB, oNotB, oEq, oNe, eqD, oIsN, oNotN, isN, own_rr, own_ri, own_pp, own_pi, rfl_ir, rfl_ip, neg_r, neg_p, abs_r, tru_lst, tru_tup, tru_int, tru_bl, tru_non, tupG2, tupG4, lstEx, tupEx, lstIs, tupIs, intEx, lst1Ex, lst2Ex, int1Ex, int2Ex, en1Ex, setEx, it_lst, it_tup, oIxL, oIxT, InsD, List.map_cons, List.map_nil, List.cons_append, List.nil_append, List.length_cons, List.length_nil, List.getElem?_cons_zero, List.getElem?_cons_succ, List.set_cons_zero, List.set_cons_succ, List.replicate_succ, List.replicate_zero, Option.some.injEq, exists_eq_left', clsD_rat, clsD_poly, if_true, if_false, List.append_nil, true_and, and_true, true_or, or_true, Bool.false_eq_true, Bool.true_eq_false, reduceCtorEq, Nat.add_one_sub_one, Nat.reduceSub, Nat.reduceAdd, Nat.sub_self, Nat.zero_add, Nat.add_sub_cancel, f_Ratio_ne, isR_rat hR, isR_int hR, fIsInt_int, fld_top, fld_bot, mk_R]
    refine ifP (fun h => ?_) (fun h => ?_) p
    · have h : ¬ a.num = b.num := by simpa using h
      show D.bl true = D.bl (!decide (a = b))
      rw [decide_eq_false (p := a = b) (by rw [rat_eq_iff]; exact fun z => h z.1)]
      rfl
    · have h : a.num = b.num := by simpa using h
      congr 2
      exact decide_eq_decide.mpr (by rw [rat_eq_iff]; constructor
                                     · intro z; exact ⟨h, by omega⟩
                                     · intro z; omega)
  | [.rat a, .int k], ⟨⟨n, m, ha, hb, hs⟩, p⟩ =>
    simp only [fSeq, fIfS, fB, fIsi, fVar, fC, fOp, fUn, fLs, fRet, fRetN, fCall, fCall0, fCons, fNil, fNext, fNev, fFld, fSet, fOwn, fDrop, fAsg, fPar, fNot, fAnd, fOr, fAndV, fOrV, fNotV, fIf, fTru, fLst, fTup, fMeth, fMeth0, fName, fRaise, fRaise0, fBr, fBor, fApp, fSetI, fAug, fChain, fYes, fSl, fNoPart, fPart, fItL, fItT, fIt, fIsLT, fBrk, fCnt, topE, startD, toB, oI, oI0, oNeg, oAbs, oMax, oMin, oInt, oLen_lst, oLen_tup, oList, oTuple, oCat, oIsB, oNotB, oEq, oNe, eqD, oIsN, oNotN, isN, own_rr, own_ri, own_pp, own_pi, rfl_ir, rfl_ip, neg_r, neg_p, abs_r, tru_lst, tru_tup, tru_int, tru_bl, tru_non, tupG2, tupG4, lstEx, tupEx, lstIs, tupIs, intEx, lst1Ex, lst2Ex, int1Ex, int2Ex, en1Ex, setEx, it_lst, it_tup, oIxL, oIxT, InsD, List.map_cons, List.map_nil, List.cons_append, List.nil_append, List.length_cons, List.length_nil, List.getElem?_cons_zero, List.getElem?_cons_succ, List.set_cons_zero, List.set_cons_succ, List.replicate_succ, List.replicate_zero, Option.some.injEq, exists_eq_left', clsD_rat, clsD_poly, if_true, if_false, List.append_nil, true_and, and_true, true_or, or_true, Bool.false_eq_true, Bool.true_eq_false, reduceCtorEq, Nat.add_one_sub_one, Nat.reduceSub, Nat.reduceAdd, Nat.sub_self, Nat.zero_add, Nat.add_sub_cancel, f_Ratio_ne, isR_rat hR, isR_int hR, fIsInt_int, fld_top, fld_bot, mk_R]
    refine ifP (fun h => ?_) (fun h => ?_) p
    · have h : ¬ ((a.den : Nat) : Int) = 1 := by simpa using h
      show D.bl true = D.bl (!decide (a = (k : Rat)))
      rw [decide_eq_false (p := a = (k : Rat)) (by rw [rat_eqI]; exact fun z => h (by omega))]
      rfl
    · have h : ((a.den : Nat) : Int) = 1 := by simpa using h
      congr 2
      exact decide_eq_decide.mpr (by rw [rat_eqI]; constructor
                                     · intro z; exact ⟨by omega, z⟩
                                     · intro z; exact z.2)
theorem p_Ratio_lt {cs : List Str} (hR : ("Ratio" : Str) ∈ cs) (ds : List D) (P : D → Prop) (X : XP) (h : fRB (fun a b => decide (a < b)) ds P X) : f_Ratio_lt cs (topE P X0) (startD 2 ds) := by
  match ds, h with
  | [.rat a, .rat b], ⟨⟨n, m, ha, hb, hs⟩, p⟩ =>
    simp only [fSeq, fIfS, fB, fIsi, fVar, fC, fOp, fUn, fLs, fRet, fRetN, fCall, fCall0, fCons, fNil, fNext, fNev, fFld, fSet, fOwn, fDrop, fAsg, fPar, fNot, fAnd, fOr, fAndV, fOrV, fNotV, fIf, fTru, fLst, fTup, fMeth, fMeth0, fName, fRaise, fRaise0, fBr, fBor, fApp, fSetI, fAug, fChain, fYes, fSl, fNoPart, fPart, fItL, fItT, fIt, fIsLT, fBrk, fCnt, topE, startD, toB, oI, oI0, oNeg, oAbs, oMax, oMin, oInt, oLen_lst, oLen_tup, oList, oTuple, oCat, oIsB, oNotB, oEq, oNe, eqD, oIsN, oNotN, isN, own_rr, own_ri, own_pp, own_pi, rfl_ir, rfl_ip, neg_r, neg_p, abs_r, tru_lst, tru_tup, tru_int, tru_bl, tru_non, tupG2, tupG4, lstEx, tupEx, lstIs, tupIs, intEx, lst1Ex, lst2Ex, int1Ex, int2Ex, en1Ex, setEx, it_lst, it_tup, oIxL, oIxT, InsD, List.map_cons, List.map_nil, List.cons_append, List.nil_append, List.length_cons, List.length_nil, List.getElem?_cons_zero, List.getElem?_cons_succ, List.set_cons_zero, List.set_cons_succ, List.replicate_succ, List.replicate_zero, Option.some.injEq, exists_eq_left', clsD_rat, clsD_poly, if_true, if_false, List.append_nil, true_and, and_true, true_or, or_true, Bool.false_eq_true, Bool.true_eq_false, reduceCtorEq, Nat.add_one_sub_one, Nat.reduceSub, Nat.reduceAdd, Nat.sub_self, Nat.zero_add, Nat.add_sub_cancel, f_Ratio_lt, isR_rat hR, isR_int hR, fIsInt_int, fld_top, fld_bot, mk_R]
    refine ⟨mok ha hb hs ha.num (dsz hb), mok hb ha (by omega) hb.num (dsz ha), ?_⟩
    rw [decide_eq_decide.mpr (Rat.lt_iff a b).symm]; exact p
  | [.rat a, .int k], ⟨⟨n, m, ha, hb, hs⟩, p⟩ =>
    simp only [fSeq, fIfS, fB, fIsi, fVar, fC, fOp, fUn, fLs, fRet, fRetN, fCall, fCall0, fCons, fNil, fNext, fNev, fFld, fSet, fOwn, fDrop, fAsg, fPar, fNot, fAnd, fOr, fAndV, fOrV, fNotV, fIf, fTru, fLst, fTup, fMeth, fMeth0, fName, fRaise, fRaise0, fBr, fBor, fApp, fSetI, fAug, fChain, fYes, fSl, fNoPart, fPart, fItL, fItT, fIt, fIsLT, fBrk, fCnt, topE, startD, toB, oI, oI0, oNeg, oAbs, oMax, oMin, oInt, oLen_lst, oLen_tup, oList, oTuple, oCat, oIsB, oNotB, oEq, oNe, eqD, oIsN, oNotN, isN, own_rr, own_ri, own_pp, own_pi, rfl_ir, rfl_ip, neg_r, neg_p, abs_r, tru_lst, tru_tup, tru_int, tru_bl, tru_non, tupG2, tupG4, lstEx, tupEx, lstIs, tupIs, intEx, lst1Ex, lst2Ex, int1Ex, int2Ex, en1Ex, setEx, it_lst, it_tup, oIxL, oIxT, InsD, List.map_cons, List.map_nil, List.cons_append, List.nil_append, List.length_cons, List.length_nil, List.getElem?_cons_zero, List.getElem?_cons_succ, List.set_cons_zero, List.set_cons_succ, List.replicate_succ, List.replicate_zero, Option.some.injEq, exists_eq_left', clsD_rat, clsD_poly, if_true, if_false, List.append_nil, true_and, and_true, true_or, or_true, Bool.false_eq_true, Bool.true_eq_false, reduceCtorEq, Nat.add_one_sub_one, Nat.reduceSub, Nat.reduceAdd, Nat.sub_self, Nat.zero_add, Nat.add_sub_cancel, f_Ratio_lt, isR_rat hR, isR_int hR, fIsInt_int, fld_top, fld_bot, mk_R]
    refine ⟨mok hb ha (by omega) (szI hb) (dsz ha), ?_⟩
    rw [decide_eq_decide.mpr (lt_intR a k).symm]; exact p
theorem p_Ratio_le {cs : List Str} (hR : ("Ratio" : Str) ∈ cs) (ds : List D) (P : D → Prop) (X : XP) (h : fRB (fun a b => decide (a ≤ b)) ds P X) : f_Ratio_le cs (topE P X0) (startD 2 ds) := by
  match ds, h with
  | [.rat a, .rat b], ⟨⟨n, m, ha, hb, hs⟩, p⟩ =>
    simp only [fSeq, fIfS, fB, fIsi, fVar, fC, fOp, fUn, fLs, fRet, fRetN, fCall, fCall0, fCons, fNil, fNext, fNev, fFld, fSet, fOwn, fDrop, fAsg, fPar, fNot, fAnd, fOr, fAndV, fOrV, fNotV, fIf, fTru, fLst, fTup, fMeth, fMeth0, fName, fRaise, fRaise0, fBr, fBor, fApp, fSetI, fAug, fChain, fYes, fSl, fNoPart, fPart, fItL, fItT, fIt, fIsLT, fBrk, fCnt, topE, startD, toB, oI, oI0, oNeg, oAbs, oMax, oMin, oInt, oLen_lst, oLen_tup, oList, oTuple, oCat, oIsB, oNotB, oEq, oNe, eqD, oIsN, oNotN, isN, own_rr, own_ri, own_pp, own_pi, rfl_ir, rfl_ip, neg_r, neg_p, abs_r, tru_lst, tru_tup, tru_int, tru_bl, tru_non, tupG2, tupG4, lstEx, tupEx, lstIs, tupIs, intEx, lst1Ex, lst2Ex, int1Ex, int2Ex, en1Ex, setEx, it_lst, it_tup, oIxL, oIxT, InsD, List.map_cons, List.map_nil, List.cons_append, List.nil_append, List.length_cons, List.length_nil, List.getElem?_cons_zero, List.getElem?_cons_succ, List.set_cons_zero, List.set_cons_succ, List.replicate_succ, List.replicate_zero, Option.some.injEq, exists_eq_left', clsD_rat, clsD_poly, if_true, if_false, List.append_nil, true_and, and_true, true_or, or_true, Bool.false_eq_true, Bool.true_eq_false, reduceCtorEq, Nat.add_one_sub_one, Nat.reduceSub, Nat.reduceAdd, Nat.sub_self, Nat.zero_add, Nat.add_sub_cancel, f_Ratio_le, isR_rat hR, isR_int hR, fIsInt_int, fld_top, fld_bot, mk_R]
    refine ⟨mok ha hb hs ha.num (dsz hb), mok hb ha (by omega) hb.num (dsz ha), ?_⟩
    rw [decide_eq_decide.mpr (Rat.le_iff a b).symm]; exact p
  | [.rat a, .int k], ⟨⟨n, m, ha, hb, hs⟩, p⟩ =>
    simp only [fSeq, fIfS, fB, fIsi, fVar, fC, fOp, fUn, fLs, fRet, fRetN, fCall, fCall0, fCons, fNil, fNext, fNev, fFld, fSet, fOwn, fDrop, fAsg, fPar, fNot, fAnd, fOr, fAndV, fOrV, fNotV, fIf, fTru, fLst, fTup, fMeth, fMeth0, fName, fRaise, fRaise0, fBr, fBor, fApp, fSetI, fAug, fChain, fYes, fSl, fNoPart, fPart, fItL, fItT, fIt, fIsLT, fBrk, fCnt, topE, startD, toB, oI, oI0, oNeg, oAbs, oMax, oMin, oInt, oLen_lst, oLen_tup, oList, oTuple, oCat, oIsB, oNotB, oEq, oNe, eqD, oIsN, oNotN, isN, own_rr, own_ri, own_pp, own_pi, rfl_ir, rfl_ip, neg_r, neg_p, abs_r, tru_lst, tru_tup, tru_int, tru_bl, tru_non, tupG2, tupG4, lstEx, tupEx, lstIs, tupIs, intEx, lst1Ex, lst2Ex, int1Ex, int2Ex, en1Ex, setEx, it_lst, it_tup, oIxL, oIxT, InsD, List.map_cons, List.map_nil, List.cons_append, List.nil_append, List.length_cons, List.length_nil, List.getElem?_cons_zero, List.getElem?_cons_succ, List.set_cons_zero, List.set_cons_succ, List.replicate_succ, List.replicate_zero, Option.some.injEq, exists_eq_left', clsD_rat, clsD_poly, if_true, if_false, List.append_nil, true_and, and_true, true_or, or_true, Bool.false_eq_true, Bool.true_eq_false, reduceCtorEq, Nat.add_one_sub_one, Nat.reduceSub, Nat.reduceAdd, Nat.sub_self, Nat.zero_add, Nat.add_sub_cancel, f_Ratio_le, isR_rat hR, isR_int hR, fIsInt_int, fld_top, fld_bot, mk_R]
    refine ⟨mok hb ha (by omega) (szI hb) (dsz ha), ?_⟩
    rw [decide_eq_decide.mpr (le_intR a k).symm]; exact p
theorem p_Ratio_gt {cs : List Str} (hR : ("Ratio" : Str) ∈ cs) (ds : List D) (P : D → Prop) (X : XP) (h : fRB (fun a b => decide (b < a)) ds P X) : f_Ratio_gt cs (topE P X0) (startD 2 ds) := by
  match ds, h with
  | [.rat a, .rat b], ⟨⟨n, m, ha, hb, hs⟩, p⟩ =>
    simp only [fSeq, fIfS, fB, fIsi, fVar, fC, fOp, fUn, fLs, fRet, fRetN, fCall, fCall0, fCons, fNil, fNext, fNev, fFld, fSet, fOwn, fDrop, fAsg, fPar, fNot, fAnd, fOr, fAndV, fOrV, fNotV, fIf, fTru, fLst, fTup, fMeth, fMeth0, fName, fRaise, fRaise0, fBr, fBor, fApp, fSetI, fAug, fChain, fYes, fSl, fNoPart, fPart, fItL, fItT, fIt, fIsLT, fBrk, fCnt, topE, startD, toB, oI, oI0, oNeg, oAbs, oMax, oMin, oInt, oLen_lst, oLen_tup, oList, oTuple, oCat, oIsB, oNotB, oEq, oNe, eqD, oIsN, oNotN, isN, own_rr, own_ri, own_pp, own_pi, rfl_ir, rfl_ip, neg_r, neg_p, abs_r, tru_lst, tru_tup, tru_int, tru_bl, tru_non, tupG2, tupG4, lstEx, tupEx, lstIs, tupIs, intEx, lst1Ex, lst2Ex, int1Ex, int2Ex, en1Ex, setEx, it_lst, it_tup, oIxL, oIxT, InsD, List.map_cons, List.map_nil, List.cons_append, List.nil_append, List.length_cons, List.length_nil, List.getElem?_cons_zero, List.getElem?_cons_succ, List.set_cons_zero, List.set_cons_succ, List.replicate_succ, List.replicate_zero, Option.some.injEq, exists_eq_left', clsD_rat, clsD_poly, if_true, if_false, List.append_nil, true_and, and_true, true_or, or_true, Bool.false_eq_true, Bool.true_eq_false, reduceCtorEq, Nat.add_one_sub_one, Nat.reduceSub, Nat.reduceAdd, Nat.sub_self, Nat.zero_add, Nat.add_sub_cancel, f_Ratio_gt, isR_rat hR, isR_int hR, fIsInt_int, fld_top, fld_bot, mk_R]
    refine ⟨mok ha hb hs ha.num (dsz hb), mok hb ha (by omega) hb.num (dsz ha), ?_⟩
    rw [decide_eq_decide.mpr (Rat.lt_iff b a).symm]; exact p
  | [.rat a, .int k], ⟨⟨n, m, ha, hb, hs⟩, p⟩ =>
    simp only [fSeq, fIfS, fB, fIsi, fVar, fC, fOp, fUn, fLs, fRet, fRetN, fCall, fCall0, fCons, fNil, fNext, fNev, fFld, fSet, fOwn, fDrop, fAsg, fPar, fNot, fAnd, fOr, fAndV, fOrV, fNotV, fIf, fTru, fLst, fTup, fMeth, fMeth0, fName, fRaise, fRaise0, fBr, fBor, fApp, fSetI, fAug, fChain, fYes, fSl, fNoPart, fPart, fItL, fItT, fIt, fIsLT, fBrk, fCnt, topE, startD, toB, oI, oI0, oNeg, oAbs, oMax, oMin, oInt, oLen_lst, oLen_tup, oList, oTuple, oCat, oIsB, oNotB, oEq, oNe, eqD, oIsN, oNotN, isN, own_rr, own_ri, own_pp, own_pi, rfl_ir, rfl_ip, neg_r, neg_p, abs_r, tru_lst, tru_tup, tru_int, tru_bl, tru_non, tupG2, tupG4, lstEx, tupEx, lstIs, tupIs, intEx, lst1Ex, lst2Ex, int1Ex, int2Ex, en1Ex, setEx, it_lst, it_tup, oIxL, oIxT, InsD, List.map_cons, List.map_nil, List.cons_append, List.nil_append, List.length_cons, List.length_nil, List.getElem?_cons_zero, List.getElem?_cons_succ, List.set_cons_zero, List.set_cons_succ, List.replicate_succ, List.replicate_zero, Option.some.injEq, exists_eq_left', clsD_rat, clsD_poly, if_true, if_false, List.append_nil, true_and, and_true, true_or, or_true, Bool.false_eq_true, Bool.true_eq_false, reduceCtorEq, Nat.add_one_sub_one, Nat.reduceSub, Nat.reduceAdd, Nat.sub_self, Nat.zero_add, Nat.add_sub_cancel, f_Ratio_gt, isR_rat hR, isR_int hR, fIsInt_int, fld_top, fld_bot, mk_R]
    refine ⟨mok hb ha (by omega) (szI hb) (dsz ha), ?_⟩
    rw [decide_eq_decide.mpr (lt_intL k a).symm]; exact p
theorem p_Ratio_ge {cs : List Str} (hR : ("Ratio" : Str) ∈ cs) (ds : List D) (P : D → Prop) (X : XP) (h : fRB (fun a b => decide (b ≤ a)) ds P X) : f_Ratio_ge cs (topE P X0) (startD 2 ds) := by
  match ds, h with
  | [.rat a, .rat b], ⟨⟨n, m, ha, hb, hs⟩, p⟩ =>
    simp only [fSeq, fIfS, fB, fIsi, fVar, fC, fOp, fUn, fLs, fRet, fRetN, fCall, fCall0, fCons, fNil, fNext, fNev, fFld, fSet, fOwn, fDrop, fAsg, fPar, fNot, fAnd, fOr, fAndV, fOrV, fNotV, fIf, fTru, fLst, fTup, fMeth, fMeth0, fName, fRaise, fRaise0, fBr, fBor, fApp, fSetI, fAug, fChain, fYes, fSl, fNoPart, fPart, fItL, fItT, fIt, fIsLT, fBrk, fCnt, topE, startD, toB, oI, oI0, oNeg, oAbs, oMax, oMin, oInt, oLen_lst, oLen_tup, oList, oTuple, oCat, oIsB, oNotB, oEq, oNe, eqD, oIsN, oNotN, isN, own_rr, own_ri, own_pp, own_pi, rfl_ir, rfl_ip, neg_r, neg_p, abs_r, tru_lst, tru_tup, tru_int, tru_bl, tru_non, tupG2, tupG4, lstEx, tupEx, lstIs, tupIs, intEx, lst1Ex, lst2Ex, int1Ex, int2Ex, en1Ex, setEx, it_lst, it_tup, oIxL, oIxT, InsD, List.map_cons, List.map_nil, List.cons_append, List.nil_append, List.length_cons, List.length_nil, List.getElem?_cons_zero, List.getElem?_cons_succ, List.set_cons_zero, List.set_cons_succ, List.replicate_succ, List.replicate_zero, Option.some.injEq, exists_eq_left', clsD_rat, clsD_poly, if_true, if_false, List.append_nil, true_and, and_true, true_or, or_true, Bool.false_eq_true, Bool.true_eq_false, reduceCtorEq, Nat.add_one_sub_one, Nat.reduceSub, Nat.reduceAdd, Nat.sub_self, Nat.zero_add, Nat.add_sub_cancel, f_Ratio_ge, isR_rat hR, isR_int hR, fIsInt_int, fld_top, fld_bot, mk_R]
    refine ⟨mok ha hb hs ha.num (dsz hb), mok hb ha (by omega) hb.num (dsz ha), ?_⟩
    rw [decide_eq_decide.mpr (Rat.le_iff b a).symm]; exact p
  | [.rat a, .int k], ⟨⟨n, m, ha, hb, hs⟩, p⟩ =>
    simp only [fSeq, fIfS, fB, fIsi, fVar, fC, fOp, fUn, fLs, fRet, fRetN, fCall, fCall0, fCons, fNil, fNext, fNev, fFld, fSet, fOwn, fDrop, fAsg, fPar, fNot, fAnd, fOr, fAndV, fOrV, fNotV, fIf, fTru, fLst, fTup, fMeth, fMeth0, fName, fRaise, fRaise0, fBr, fBor, fApp, fSetI, fAug, fChain, fYes, fSl, fNoPart, fPart, fItL, fItT, fIt, fIsLT, fBrk, fCnt, topE, startD, toB, oI, oI0, oNeg, oAbs, oMax, oMin, oInt, oLen_lst, oLen_tup, oList, oTuple, oCat, oIsB, oNotB, oEq, oNe, eqD, oIsN, oNotN, isN, own_rr, own_ri, own_pp, own_pi, rfl_ir, rfl_ip, neg_r, neg_p, abs_r, tru_lst, tru_tup, tru_int, tru_bl, tru_non, tupG2, tupG4, lstEx, tupEx, lstIs, tupIs, intEx, lst1Ex, lst2Ex, int1Ex, int2Ex, en1Ex, setEx, it_lst, it_tup, oIxL, oIxT, InsD, List.map_cons, List.map_nil, List.cons_append, List.nil_append, List.length_cons, List.length_nil, List.getElem?_cons_zero, List.getElem?_cons_succ, List.set_cons_zero, List.set_cons_succ, List.replicate_succ, List.replicate_zero, Option.some.injEq, exists_eq_left', clsD_rat, clsD_poly, if_true, if_false, List.append_nil, true_and, and_true, true_or, or_true, Bool.false_eq_true, Bool.true_eq_false, reduceCtorEq, Nat.add_one_sub_one, Nat.reduceSub, Nat.reduceAdd, Nat.sub_self, Nat.zero_add, Nat.add_sub_cancel, f_Ratio_ge, isR_rat hR, isR_int hR, fIsInt_int, fld_top, fld_bot, mk_R]
    refine ⟨mok hb ha (by omega) (szI hb) (dsz ha), ?_⟩
    rw [decide_eq_decide.mpr (le_intL k a).symm]; exact p
theorem p_is_number {cs : List Str} (hR : ("Ratio" : Str) ∈ cs) (ds : List D) (P : D → Prop) (X : XP) (h : fIsNum cs ds P X) : f_is_number cs (topE P X0) (startD 1 ds) := by
  obtain ⟨d, b, rfl, hb, p⟩ := h
  simp only [fSeq, fIfS, fB, fIsi, fVar, fC, fOp, fUn, fLs, fRet, fRetN, fCall, fCall0, fCons, fNil, fNext, fNev, fFld, fSet, fOwn, fDrop, fAsg, fPar, fNot, fAnd, fOr, fAndV, fOrV, fNotV, fIf, fTru, fLst, fTup, fMeth, fMeth0, fName, fRaise, fRaise0, fBr, fBor, fApp, fSetI, fAug, fChain, fYes, fSl, fNoPart, fPart, fItL, fItT, fIt, fIsLT, fBrk, fCnt, topE, startD, toB, oI, oI0, oNeg, oAbs, oMax, oMin, oInt, oLen_lst, oLen_tup, oList, oTuple, oCat, oIsB, oNotB, oEq, oNe, eqD, oIsN, oNotN, isN, own_rr, own_ri, own_pp, own_pi, rfl_ir, rfl_ip, neg_r, neg_p, abs_r, tru_lst, tru_tup, tru_int, tru_bl, tru_non, tupG2, tupG4, lstEx, tupEx, lstIs, tupIs, intEx, lst1Ex, lst2Ex, int1Ex, int2Ex, en1Ex, setEx, it_lst, it_tup, oIxL, oIxT, InsD, List.map_cons, List.map_nil, List.cons_append, List.nil_append, List.length_cons, List.length_nil, List.getElem?_cons_zero, List.getElem?_cons_succ, List.set_cons_zero, List.set_cons_succ, List.replicate_succ, List.replicate_zero, Option.some.injEq, exists_eq_left', clsD_rat, clsD_poly, if_true, if_false, List.append_nil, true_and, and_true, true_or, or_true, Bool.false_eq_true, Bool.true_eq_false, reduceCtorEq, Nat.add_one_sub_one, Nat.reduceSub, Nat.reduceAdd, Nat.sub_self, Nat.zero_add, Nat.add_sub_cancel, f_is_number]
  unfold numD at hb
  cases h1 : isD cs (.own "Ratio") d with
  | none => rw [h1] at hb; cases hb
  | some k =>
    rw [h1] at hb
    refine ⟨k, rfl, ?_⟩
    cases k with
    | true => cases hb; exact p
    | false => exact ⟨d, b, rfl, hb, p⟩
theorem int_div1 (n : Int) : ((n : Int) : Rat) = Rat.divInt n 1 := by
  rw [Rat.divInt_eq_div]
  show (n : Rat) = (n : Rat) / 1
  grind
theorem mk_int {n : Int} {P : D → Prop} {X : XP} : fMkR [.int n, .int 1] P X ↔ P (.rat (n : Rat)) := by
  rw [mk_R, ← int_div1]
  constructor
  · exact fun h => h.2.2
  · exact fun h => ⟨by decide, by decide, h⟩
theorem p_as_ratio {cs : List Str} (hR : ("Ratio" : Str) ∈ cs) (ds : List D) (P : D → Prop) (X : XP) (h : fAsRat cs ds P X) : f_as_ratio cs (topE P X) (startD 2 ds) := by
  obtain ⟨d, w, b, rfl, hb, h0, h1⟩ := h
  simp only [fSeq, fIfS, fB, fIsi, fVar, fC, fOp, fUn, fLs, fRet, fRetN, fCall, fCall0, fCons, fNil, fNext, fNev, fFld, fSet, fOwn, fDrop, fAsg, fPar, fNot, fAnd, fOr, fAndV, fOrV, fNotV, fIf, fTru, fLst, fTup, fMeth, fMeth0, fName, fRaise, fRaise0, fBr, fBor, fApp, fSetI, fAug, fChain, fYes, fSl, fNoPart, fPart, fItL, fItT, fIt, fIsLT, fBrk, fCnt, topE, startD, toB, oI, oI0, oNeg, oAbs, oMax, oMin, oInt, oLen_lst, oLen_tup, oList, oTuple, oCat, oIsB, oNotB, oEq, oNe, eqD, oIsN, oNotN, isN, own_rr, own_ri, own_pp, own_pi, rfl_ir, rfl_ip, neg_r, neg_p, abs_r, tru_lst, tru_tup, tru_int, tru_bl, tru_non, tupG2, tupG4, lstEx, tupEx, lstIs, tupIs, intEx, lst1Ex, lst2Ex, int1Ex, int2Ex, en1Ex, setEx, it_lst, it_tup, oIxL, oIxT, InsD, List.map_cons, List.map_nil, List.cons_append, List.nil_append, List.length_cons, List.length_nil, List.getElem?_cons_zero, List.getElem?_cons_succ, List.set_cons_zero, List.set_cons_succ, List.replicate_succ, List.replicate_zero, Option.some.injEq, exists_eq_left', clsD_rat, clsD_poly, if_true, if_false, List.append_nil, true_and, and_true, true_or, or_true, Bool.false_eq_true, Bool.true_eq_false, reduceCtorEq, Nat.add_one_sub_one, Nat.reduceSub, Nat.reduceAdd, Nat.sub_self, Nat.zero_add, Nat.add_sub_cancel, f_as_ratio]
  unfold numD at hb
  cases hk : isD cs (.own "Ratio") d with
  | none => rw [hk] at hb; cases hb
  | some k =>
    rw [hk] at hb
    refine ⟨k, rfl, ?_⟩
    cases k with
    | true =>
      cases hb
      have h1 := h1 rfl
      cases d with
      | rat q => exact h1
      | int n => rw [isR_int hR] at hk; cases hk
      | _ => exact h1.elim
    | false =>
      refine ⟨d, b, rfl, hb, ?_⟩
      cases b with
      | false => exact h0 rfl
      | true =>
        have h1 := h1 rfl
        cases d with
        | rat q => rw [isR_rat hR] at hk; cases hk
        | int n => exact (mk_int (X := X)).mpr h1
        | _ => exact h1.elim
theorem di_over {a b : Rat} (hb : b ≠ 0) : Rat.divInt (a.num * b.den) (a.den * b.num) = a / b := by
  have h1 := den_ne a
  have h2 := den_ne b
  have h3 : ((b.num : Int) : Rat) ≠ 0 := fun h => hb (by rw [← num_den b, h, Rat.div_def, Rat.zero_mul])
  have e1 := num_den a
  have e2 := num_den b
  rw [Rat.divInt_eq_div, Rat.intCast_mul, Rat.intCast_mul]
  grind
theorem num_ne {b : Rat} (h : b ≠ 0) : b.num ≠ 0 := fun z => h (Rat.num_eq_zero.mp z)
theorem over_ok {a b : Rat} {n m : Nat} {P : D → Prop} {X : XP} {cs : List Str} (ha : Sz n a) (hb : Sz m b) (hs : n + m ≤ 9000) (h0 : b = 0 → X ⟨"NoRatio", [("word", .str "zero")]⟩) (h1 : b ≠ 0 → P (.rat (a / b))) :
    if decide (b.num = 0) = true then X ⟨"NoRatio", [("word", .str "zero")]⟩ else IntMulOk a.num ((b.den : Nat) : Int) ∧ IntMulOk ((a.den : Nat) : Int) b.num ∧ ((a.den : Nat) : Int) * b.num ≠ 0 ∧ (((a.den : Nat) : Int) * b.num).natAbs < 2 ^ 9000 ∧ P (.rat (Rat.divInt (a.num * (b.den : Nat)) ((a.den : Nat) * b.num))) := by
  by_cases h : b.num = 0
  · rw [if_pos (decide_eq_true h)]
    exact h0 (Rat.num_eq_zero.mp h)
  · rw [if_neg (fun z => h (of_decide_eq_true z))]
    have nb : b ≠ 0 := fun z => h (by rw [z]; rfl)
    refine ⟨mok ha hb hs ha.num (dsz hb), mok ha hb hs (dsz ha) hb.num, Int.mul_ne_zero (d_ne a) h, ?_, by rw [di_over nb]; exact h1 nb⟩
    rw [Int.natAbs_mul]
    exact Nat.lt_of_lt_of_le (lt_mul_pow (dsz ha) hb.num) (Nat.pow_le_pow_right (by decide) hs)
theorem p_Ratio_over {cs : List Str} (hR : ("Ratio" : Str) ∈ cs) (ds : List D) (P : D → Prop) (X : XP) (h : fOver ds P X) : f_Ratio_over cs (topE P X) (startD 3 ds) := by
  match ds, h with
  | [.rat a, .rat b], ⟨⟨n, m, ha, hb, hs⟩, p0, p1⟩ =>
    simp only [fSeq, fIfS, fB, fIsi, fVar, fC, fOp, fUn, fLs, fRet, fRetN, fCall, fCall0, fCons, fNil, fNext, fNev, fFld, fSet, fOwn, fDrop, fAsg, fPar, fNot, fAnd, fOr, fAndV, fOrV, fNotV, fIf, fTru, fLst, fTup, fMeth, fMeth0, fName, fRaise, fRaise0, fBr, fBor, fApp, fSetI, fAug, fChain, fYes, fSl, fNoPart, fPart, fItL, fItT, fIt, fIsLT, fBrk, fCnt, topE, startD, toB, oI, oI0, oNeg, oAbs, oMax, oMin, oInt, oLen_lst, oLen_tup, oList, oTuple, oCat, oIsB, oNotB, oEq, oNe, eqD, oIsN, oNotN, isN, own_rr, own_ri, own_pp, own_pi, rfl_ir, rfl_ip, neg_r, neg_p, abs_r, tru_lst, tru_tup, tru_int, tru_bl, tru_non, tupG2, tupG4, lstEx, tupEx, lstIs, tupIs, intEx, lst1Ex, lst2Ex, int1Ex, int2Ex, en1Ex, setEx, it_lst, it_tup, oIxL, oIxT, InsD, List.map_cons, List.map_nil, List.cons_append, List.nil_append, List.length_cons, List.length_nil, List.getElem?_cons_zero, List.getElem?_cons_succ, List.set_cons_zero, List.set_cons_succ, List.replicate_succ, List.replicate_zero, Option.some.injEq, exists_eq_left', clsD_rat, clsD_poly, if_true, if_false, List.append_nil, true_and, and_true, true_or, or_true, Bool.false_eq_true, Bool.true_eq_false, reduceCtorEq, Nat.add_one_sub_one, Nat.reduceSub, Nat.reduceAdd, Nat.sub_self, Nat.zero_add, Nat.add_sub_cancel, f_Ratio_over, isR_rat hR, isR_int hR, fIsInt_int, fld_top, fld_bot, mk_R]
    exact over_ok (cs := cs) ha hb hs p0 p1
  | [.rat a, .int k], ⟨⟨n, m, ha, hb, hs⟩, p0, p1⟩ =>
    simp only [fSeq, fIfS, fB, fIsi, fVar, fC, fOp, fUn, fLs, fRet, fRetN, fCall, fCall0, fCons, fNil, fNext, fNev, fFld, fSet, fOwn, fDrop, fAsg, fPar, fNot, fAnd, fOr, fAndV, fOrV, fNotV, fIf, fTru, fLst, fTup, fMeth, fMeth0, fName, fRaise, fRaise0, fBr, fBor, fApp, fSetI, fAug, fChain, fYes, fSl, fNoPart, fPart, fItL, fItT, fIt, fIsLT, fBrk, fCnt, topE, startD, toB, oI, oI0, oNeg, oAbs, oMax, oMin, oInt, oLen_lst, oLen_tup, oList, oTuple, oCat, oIsB, oNotB, oEq, oNe, eqD, oIsN, oNotN, isN, own_rr, own_ri, own_pp, own_pi, rfl_ir, rfl_ip, neg_r, neg_p, abs_r, tru_lst, tru_tup, tru_int, tru_bl, tru_non, tupG2, tupG4, lstEx, tupEx, lstIs, tupIs, intEx, lst1Ex, lst2Ex, int1Ex, int2Ex, en1Ex, setEx, it_lst, it_tup, oIxL, oIxT, InsD, List.map_cons, List.map_nil, List.cons_append, List.nil_append, List.length_cons, List.length_nil, List.getElem?_cons_zero, List.getElem?_cons_succ, List.set_cons_zero, List.set_cons_succ, List.replicate_succ, List.replicate_zero, Option.some.injEq, exists_eq_left', clsD_rat, clsD_poly, if_true, if_false, List.append_nil, true_and, and_true, true_or, or_true, Bool.false_eq_true, Bool.true_eq_false, reduceCtorEq, Nat.add_one_sub_one, Nat.reduceSub, Nat.reduceAdd, Nat.sub_self, Nat.zero_add, Nat.add_sub_cancel, f_Ratio_over, isR_rat hR, isR_int hR, fIsInt_int, fld_top, fld_bot, mk_R]
    refine ⟨by decide, by decide, ?_⟩
    rw [← int_div1]
    exact over_ok (cs := cs) ha hb hs (fun h => p0 (by
      have := (Rat.intCast_inj (a := k) (b := 0)).mp h
      exact this)) (fun h => p1 fun z => h (by rw [z]; rfl))
theorem len_Ratio_add {K : PySem.W.Frag} {cs : List Str} (vs : List V) (H : Hp) (Q : VK) (E : XK) (h : lift K (fR2 fun a b => a + b) vs H Q E) : vs.length = 2 := lift_len (fun ds P X h => by unfold fR2 at h; first | (obtain ⟨rfl, _⟩ := h; rfl) | (obtain ⟨_, rfl, _⟩ := h; rfl) | (obtain ⟨_, _, rfl, _⟩ := h; rfl) | (obtain ⟨_, _, _, rfl, _⟩ := h; rfl) | (obtain ⟨_, _, _, _, rfl, _⟩ := h; rfl) | (obtain ⟨_, _, _, _, _, rfl, _⟩ := h; rfl) | (obtain ⟨_, _, _, _, _, _, rfl, _⟩ := h; rfl) | (obtain ⟨_, _, _, _, _, _, _, rfl, _⟩ := h; rfl) | (obtain ⟨_, _, _, _, _, _, _, _, rfl, _⟩ := h; rfl) | (obtain ⟨_, _, _, _, _, _, _, _, _, rfl, _⟩ := h; rfl) | (obtain ⟨_, _, _, _, _, _, _, _, _, _, rfl, _⟩ := h; rfl) | (obtain ⟨_, _, _, _, _, _, _, _, _, _, _, rfl, _⟩ := h; rfl) | (split at h <;> first | rfl | exact h.elim)) h
theorem pp_Ratio_add {K : PySem.W.Frag} {cs : List Str} (T : KF K cs) (hRatio : ("Ratio" : Str) ∈ cs) (vs : List V) (H : Hp) (Q : VK) (E : XK) (h : lift K (fR2 fun a b => a + b) vs H Q E) : tt_Ratio_add K cs { nx := fun _ H' => Q .non H', rt := Q } (start ["self", "other"] vs) H :=
  fn_ok0 rfl (s_Ratio_add T hRatio) (p_Ratio_add hRatio) vs H Q E h
theorem len_Ratio_radd {K : PySem.W.Frag} {cs : List Str} (vs : List V) (H : Hp) (Q : VK) (E : XK) (h : lift K (fRI fun a b => b + a) vs H Q E) : vs.length = 2 := lift_len (fun ds P X h => by unfold fRI at h; first | (obtain ⟨rfl, _⟩ := h; rfl) | (obtain ⟨_, rfl, _⟩ := h; rfl) | (obtain ⟨_, _, rfl, _⟩ := h; rfl) | (obtain ⟨_, _, _, rfl, _⟩ := h; rfl) | (obtain ⟨_, _, _, _, rfl, _⟩ := h; rfl) | (obtain ⟨_, _, _, _, _, rfl, _⟩ := h; rfl) | (obtain ⟨_, _, _, _, _, _, rfl, _⟩ := h; rfl) | (obtain ⟨_, _, _, _, _, _, _, rfl, _⟩ := h; rfl) | (obtain ⟨_, _, _, _, _, _, _, _, rfl, _⟩ := h; rfl) | (obtain ⟨_, _, _, _, _, _, _, _, _, rfl, _⟩ := h; rfl) | (obtain ⟨_, _, _, _, _, _, _, _, _, _, rfl, _⟩ := h; rfl) | (obtain ⟨_, _, _, _, _, _, _, _, _, _, _, rfl, _⟩ := h; rfl) | (split at h <;> first | rfl | exact h.elim)) h
theorem pp_Ratio_radd {K : PySem.W.Frag} {cs : List Str} (T : KF K cs) (hRatio : ("Ratio" : Str) ∈ cs) (vs : List V) (H : Hp) (Q : VK) (E : XK) (h : lift K (fRI fun a b => b + a) vs H Q E) : tt_Ratio_radd K cs { nx := fun _ H' => Q .non H', rt := Q } (start ["self", "other"] vs) H :=
  fn_ok0 rfl (s_Ratio_radd T hRatio) (p_Ratio_radd hRatio) vs H Q E h
theorem len_Ratio_sub {K : PySem.W.Frag} {cs : List Str} (vs : List V) (H : Hp) (Q : VK) (E : XK) (h : lift K (fR2 fun a b => a - b) vs H Q E) : vs.length = 2 := lift_len (fun ds P X h => by unfold fR2 at h; first | (obtain ⟨rfl, _⟩ := h; rfl) | (obtain ⟨_, rfl, _⟩ := h; rfl) | (obtain ⟨_, _, rfl, _⟩ := h; rfl) | (obtain ⟨_, _, _, rfl, _⟩ := h; rfl) | (obtain ⟨_, _, _, _, rfl, _⟩ := h; rfl) | (obtain ⟨_, _, _, _, _, rfl, _⟩ := h; rfl) | (obtain ⟨_, _, _, _, _, _, rfl, _⟩ := h; rfl) | (obtain ⟨_, _, _, _, _, _, _, rfl, _⟩ := h; rfl) | (obtain ⟨_, _, _, _, _, _, _, _, rfl, _⟩ := h; rfl) | (obtain ⟨_, _, _, _, _, _, _, _, _, rfl, _⟩ := h; rfl) | (obtain ⟨_, _, _, _, _, _, _, _, _, _, rfl, _⟩ := h; rfl) | (obtain ⟨_, _, _, _, _, _, _, _, _, _, _, rfl, _⟩ := h; rfl) | (split at h <;> first | rfl | exact h.elim)) h
theorem pp_Ratio_sub {K : PySem.W.Frag} {cs : List Str} (T : KF K cs) (hRatio : ("Ratio" : Str) ∈ cs) (vs : List V) (H : Hp) (Q : VK) (E : XK) (h : lift K (fR2 fun a b => a - b) vs H Q E) : tt_Ratio_sub K cs { nx := fun _ H' => Q .non H', rt := Q } (start ["self", "other"] vs) H :=
  fn_ok0 rfl (s_Ratio_sub T hRatio) (p_Ratio_sub hRatio) vs H Q E h
theorem len_Ratio_rsub {K : PySem.W.Frag} {cs : List Str} (vs : List V) (H : Hp) (Q : VK) (E : XK) (h : lift K (fRI fun a b => b - a) vs H Q E) : vs.length = 2 := lift_len (fun ds P X h => by unfold fRI at h; first | (obtain ⟨rfl, _⟩ := h; rfl) | (obtain ⟨_, rfl, _⟩ := h; rfl) | (obtain ⟨_, _, rfl, _⟩ := h; rfl) | (obtain ⟨_, _, _, rfl, _⟩ := h; rfl) | (obtain ⟨_, _, _, _, rfl, _⟩ := h; rfl) | (obtain ⟨_, _, _, _, _, rfl, _⟩ := h; rfl) | (obtain ⟨_, _, _, _, _, _, rfl, _⟩ := h; rfl) | (obtain ⟨_, _, _, _, _, _, _, rfl, _⟩ := h; rfl) | (obtain ⟨_, _, _, _, _, _, _, _, rfl, _⟩ := h; rfl) | (obtain ⟨_, _, _, _, _, _, _, _, _, rfl, _⟩ := h; rfl) | (obtain ⟨_, _, _, _, _, _, _, _, _, _, rfl, _⟩ := h; rfl) | (obtain ⟨_, _, _, _, _, _, _, _, _, _, _, rfl, _⟩ := h; rfl) | (split at h <;> first | rfl | exact h.elim)) h
theorem pp_Ratio_rsub {K : PySem.W.Frag} {cs : List Str} (T : KF K cs) (hRatio : ("Ratio" : Str) ∈ cs) (vs : List V) (H : Hp) (Q : VK) (E : XK) (h : lift K (fRI fun a b => b - a) vs H Q E) : tt_Ratio_rsub K cs { nx := fun _ H' => Q .non H', rt := Q } (start ["self", "other"] vs) H :=
  fn_ok0 rfl (s_Ratio_rsub T hRatio) (p_Ratio_rsub hRatio) vs H Q E h
theorem len_Ratio_mul {K : PySem.W.Frag} {cs : List Str} (vs : List V) (H : Hp) (Q : VK) (E : XK) (h : lift K (fR2 fun a b => a * b) vs H Q E) : vs.length = 2 := lift_len (fun ds P X h => by unfold fR2 at h; first | (obtain ⟨rfl, _⟩ := h; rfl) | (obtain ⟨_, rfl, _⟩ := h; rfl) | (obtain ⟨_, _, rfl, _⟩ := h; rfl) | (obtain ⟨_, _, _, rfl, _⟩ := h; rfl) | (obtain ⟨_, _, _, _, rfl, _⟩ := h; rfl) | (obtain ⟨_, _, _, _, _, rfl, _⟩ := h; rfl) | (obtain ⟨_, _, _, _, _, _, rfl, _⟩ := h; rfl) | (obtain ⟨_, _, _, _, _, _, _, rfl, _⟩ := h; rfl) | (obtain ⟨_, _, _, _, _, _, _, _, rfl, _⟩ := h; rfl) | (obtain ⟨_, _, _, _, _, _, _, _, _, rfl, _⟩ := h; rfl) | (obtain ⟨_, _, _, _, _, _, _, _, _, _, rfl, _⟩ := h; rfl) | (obtain ⟨_, _, _, _, _, _, _, _, _, _, _, rfl, _⟩ := h; rfl) | (split at h <;> first | rfl | exact h.elim)) h
theorem pp_Ratio_mul {K : PySem.W.Frag} {cs : List Str} (T : KF K cs) (hRatio : ("Ratio" : Str) ∈ cs) (vs : List V) (H : Hp) (Q : VK) (E : XK) (h : lift K (fR2 fun a b => a * b) vs H Q E) : tt_Ratio_mul K cs { nx := fun _ H' => Q .non H', rt := Q } (start ["self", "other"] vs) H :=
  fn_ok0 rfl (s_Ratio_mul T hRatio) (p_Ratio_mul hRatio) vs H Q E h
theorem len_Ratio_rmul {K : PySem.W.Frag} {cs : List Str} (vs : List V) (H : Hp) (Q : VK) (E : XK) (h : lift K (fRI fun a b => b * a) vs H Q E) : vs.length = 2 := lift_len (fun ds P X h => by unfold fRI at h; first | (obtain ⟨rfl, _⟩ := h; rfl) | (obtain ⟨_, rfl, _⟩ := h; rfl) | (obtain ⟨_, _, rfl, _⟩ := h; rfl) | (obtain ⟨_, _, _, rfl, _⟩ := h; rfl) | (obtain ⟨_, _, _, _, rfl, _⟩ := h; rfl) | (obtain ⟨_, _, _, _, _, rfl, _⟩ := h; rfl) | (obtain ⟨_, _, _, _, _, _, rfl, _⟩ := h; rfl) | (obtain ⟨_, _, _, _, _, _, _, rfl, _⟩ := h; rfl) | (obtain ⟨_, _, _, _, _, _, _, _, rfl, _⟩ := h; rfl) | (obtain ⟨_, _, _, _, _, _, _, _, _, rfl, _⟩ := h; rfl) | (obtain ⟨_, _, _, _, _, _, _, _, _, _, rfl, _⟩ := h; rfl) | (obtain ⟨_, _, _, _, _, _, _, _, _, _, _, rfl, _⟩ := h; rfl) | (split at h <;> first | rfl | exact h.elim)) h
theorem pp_Ratio_rmul {K : PySem.W.Frag} {cs : List Str} (T : KF K cs) (hRatio : ("Ratio" : Str) ∈ cs) (vs : List V) (H : Hp) (Q : VK) (E : XK) (h : lift K (fRI fun a b => b * a) vs H Q E) : tt_Ratio_rmul K cs { nx := fun _ H' => Q .non H', rt := Q } (start ["self", "other"] vs) H :=
  fn_ok0 rfl (s_Ratio_rmul T hRatio) (p_Ratio_rmul hRatio) vs H Q E h
theorem len_Ratio_neg {K : PySem.W.Frag} {cs : List Str} (vs : List V) (H : Hp) (Q : VK) (E : XK) (h : lift K (fR1 fun a => -a) vs H Q E) : vs.length = 1 := lift_len (fun ds P X h => by unfold fR1 at h; first | (obtain ⟨rfl, _⟩ := h; rfl) | (obtain ⟨_, rfl, _⟩ := h; rfl) | (obtain ⟨_, _, rfl, _⟩ := h; rfl) | (obtain ⟨_, _, _, rfl, _⟩ := h; rfl) | (obtain ⟨_, _, _, _, rfl, _⟩ := h; rfl) | (obtain ⟨_, _, _, _, _, rfl, _⟩ := h; rfl) | (obtain ⟨_, _, _, _, _, _, rfl, _⟩ := h; rfl) | (obtain ⟨_, _, _, _, _, _, _, rfl, _⟩ := h; rfl) | (obtain ⟨_, _, _, _, _, _, _, _, rfl, _⟩ := h; rfl) | (obtain ⟨_, _, _, _, _, _, _, _, _, rfl, _⟩ := h; rfl) | (obtain ⟨_, _, _, _, _, _, _, _, _, _, rfl, _⟩ := h; rfl) | (obtain ⟨_, _, _, _, _, _, _, _, _, _, _, rfl, _⟩ := h; rfl) | (split at h <;> first | rfl | exact h.elim)) h
theorem pp_Ratio_neg {K : PySem.W.Frag} {cs : List Str} (T : KF K cs) (hRatio : ("Ratio" : Str) ∈ cs) (vs : List V) (H : Hp) (Q : VK) (E : XK) (h : lift K (fR1 fun a => -a) vs H Q E) : tt_Ratio_neg K cs { nx := fun _ H' => Q .non H', rt := Q } (start ["self"] vs) H :=
  fn_ok0 rfl (s_Ratio_neg T hRatio) (p_Ratio_neg hRatio) vs H Q E h
theorem len_Ratio_abs {K : PySem.W.Frag} {cs : List Str} (vs : List V) (H : Hp) (Q : VK) (E : XK) (h : lift K (fR1 fun a => rabs a) vs H Q E) : vs.length = 1 := lift_len (fun ds P X h => by unfold fR1 at h; first | (obtain ⟨rfl, _⟩ := h; rfl) | (obtain ⟨_, rfl, _⟩ := h; rfl) | (obtain ⟨_, _, rfl, _⟩ := h; rfl) | (obtain ⟨_, _, _, rfl, _⟩ := h; rfl) | (obtain ⟨_, _, _, _, rfl, _⟩ := h; rfl) | (obtain ⟨_, _, _, _, _, rfl, _⟩ := h; rfl) | (obtain ⟨_, _, _, _, _, _, rfl, _⟩ := h; rfl) | (obtain ⟨_, _, _, _, _, _, _, rfl, _⟩ := h; rfl) | (obtain ⟨_, _, _, _, _, _, _, _, rfl, _⟩ := h; rfl) | (obtain ⟨_, _, _, _, _, _, _, _, _, rfl, _⟩ := h; rfl) | (obtain ⟨_, _, _, _, _, _, _, _, _, _, rfl, _⟩ := h; rfl) | (obtain ⟨_, _, _, _, _, _, _, _, _, _, _, rfl, _⟩ := h; rfl) | (split at h <;> first | rfl | exact h.elim)) h
theorem pp_Ratio_abs {K : PySem.W.Frag} {cs : List Str} (T : KF K cs) (hRatio : ("Ratio" : Str) ∈ cs) (vs : List V) (H : Hp) (Q : VK) (E : XK) (h : lift K (fR1 fun a => rabs a) vs H Q E) : tt_Ratio_abs K cs { nx := fun _ H' => Q .non H', rt := Q } (start ["self"] vs) H :=
  fn_ok0 rfl (s_Ratio_abs T hRatio) (p_Ratio_abs hRatio) vs H Q E h
theorem len_Ratio_eq {K : PySem.W.Frag} {cs : List Str} (vs : List V) (H : Hp) (Q : VK) (E : XK) (h : lift K (fRB fun a b => decide (a = b)) vs H Q E) : vs.length = 2 := lift_len (fun ds P X h => by unfold fRB at h; first | (obtain ⟨rfl, _⟩ := h; rfl) | (obtain ⟨_, rfl, _⟩ := h; rfl) | (obtain ⟨_, _, rfl, _⟩ := h; rfl) | (obtain ⟨_, _, _, rfl, _⟩ := h; rfl) | (obtain ⟨_, _, _, _, rfl, _⟩ := h; rfl) | (obtain ⟨_, _, _, _, _, rfl, _⟩ := h; rfl) | (obtain ⟨_, _, _, _, _, _, rfl, _⟩ := h; rfl) | (obtain ⟨_, _, _, _, _, _, _, rfl, _⟩ := h; rfl) | (obtain ⟨_, _, _, _, _, _, _, _, rfl, _⟩ := h; rfl) | (obtain ⟨_, _, _, _, _, _, _, _, _, rfl, _⟩ := h; rfl) | (obtain ⟨_, _, _, _, _, _, _, _, _, _, rfl, _⟩ := h; rfl) | (obtain ⟨_, _, _, _, _, _, _, _, _, _, _, rfl, _⟩ := h; rfl) | (split at h <;> first | rfl | exact h.elim)) h
theorem pp_Ratio_eq {K : PySem.W.Frag} {cs : List Str} (T : KF K cs) (hRatio : ("Ratio" : Str) ∈ cs) (vs : List V) (H : Hp) (Q : VK) (E : XK) (h : lift K (fRB fun a b => decide (a = b)) vs H Q E) : tt_Ratio_eq K cs { nx := fun _ H' => Q .non H', rt := Q } (start ["self", "other"] vs) H :=
  fn_ok0 rfl (s_Ratio_eq T hRatio) (p_Ratio_eq hRatio) vs H Q E h
theorem len_Ratio_ne {K : PySem.W.Frag} {cs : List Str} (vs : List V) (H : Hp) (Q : VK) (E : XK) (h : lift K (fRB fun a b => !decide (a = b)) vs H Q E) : vs.length = 2 := lift_len (fun ds P X h => by unfold fRB at h; first | (obtain ⟨rfl, _⟩ := h; rfl) | (obtain ⟨_, rfl, _⟩ := h; rfl) | (obtain ⟨_, _, rfl, _⟩ := h; rfl) | (obtain ⟨_, _, _, rfl, _⟩ := h; rfl) | (obtain ⟨_, _, _, _, rfl, _⟩ := h; rfl) | (obtain ⟨_, _, _, _, _, rfl, _⟩ := h; rfl) | (obtain ⟨_, _, _, _, _, _, rfl, _⟩ := h; rfl) | (obtain ⟨_, _, _, _, _, _, _, rfl, _⟩ := h; rfl) | (obtain ⟨_, _, _, _, _, _, _, _, rfl, _⟩ := h; rfl) | (obtain ⟨_, _, _, _, _, _, _, _, _, rfl, _⟩ := h; rfl) | (obtain ⟨_, _, _, _, _, _, _, _, _, _, rfl, _⟩ := h; rfl) | (obtain ⟨_, _, _, _, _, _, _, _, _, _, _, rfl, _⟩ := h; rfl) | (split at h <;> first | rfl | exact h.elim)) h
theorem pp_Ratio_ne {K : PySem.W.Frag} {cs : List Str} (T : KF K cs) (hRatio : ("Ratio" : Str) ∈ cs) (vs : List V) (H : Hp) (Q : VK) (E : XK) (h : lift K (fRB fun a b => !decide (a = b)) vs H Q E) : tt_Ratio_ne K cs { nx := fun _ H' => Q .non H', rt := Q } (start ["self", "other"] vs) H :=
  fn_ok0 rfl (s_Ratio_ne T hRatio) (p_Ratio_ne hRatio) vs H Q E h
theorem len_Ratio_lt {K : PySem.W.Frag} {cs : List Str} (vs : List V) (H : Hp) (Q : VK) (E : XK) (h : lift K (fRB fun a b => decide (a < b)) vs H Q E) : vs.length = 2 := lift_len (fun ds P X h => by unfold fRB at h; first | (obtain ⟨rfl, _⟩ := h; rfl) | (obtain ⟨_, rfl, _⟩ := h; rfl) | (obtain ⟨_, _, rfl, _⟩ := h; rfl) | (obtain ⟨_, _, _, rfl, _⟩ := h; rfl) | (obtain ⟨_, _, _, _, rfl, _⟩ := h; rfl) | (obtain ⟨_, _, _, _, _, rfl, _⟩ := h; rfl) | (obtain ⟨_, _, _, _, _, _, rfl, _⟩ := h; rfl) | (obtain ⟨_, _, _, _, _, _, _, rfl, _⟩ := h; rfl) | (obtain ⟨_, _, _, _, _, _, _, _, rfl, _⟩ := h; rfl) | (obtain ⟨_, _, _, _, _, _, _, _, _, rfl, _⟩ := h; rfl) | (obtain ⟨_, _, _, _, _, _, _, _, _, _, rfl, _⟩ := h; rfl) | (obtain ⟨_, _, _, _, _, _, _, _, _, _, _, rfl, _⟩ := h; rfl) | (split at h <;> first | rfl | exact h.elim)) h
theorem pp_Ratio_lt {K : PySem.W.Frag} {cs : List Str} (T : KF K cs) (hRatio : ("Ratio" : Str) ∈ cs) (vs : List V) (H : Hp) (Q : VK) (E : XK) (h : lift K (fRB fun a b => decide (a < b)) vs H Q E) : tt_Ratio_lt K cs { nx := fun _ H' => Q .non H', rt := Q } (start ["self", "other"] vs) H :=
  fn_ok0 rfl (s_Ratio_lt T hRatio) (p_Ratio_lt hRatio) vs H Q E h
theorem len_Ratio_le {K : PySem.W.Frag} {cs : List Str} (vs : List V) (H : Hp) (Q : VK) (E : XK) (h : lift K (fRB fun a b => decide (a ≤ b)) vs H Q E) : vs.length = 2 := lift_len (fun ds P X h => by unfold fRB at h; first | (obtain ⟨rfl, _⟩ := h; rfl) | (obtain ⟨_, rfl, _⟩ := h; rfl) | (obtain ⟨_, _, rfl, _⟩ := h; rfl) | (obtain ⟨_, _, _, rfl, _⟩ := h; rfl) | (obtain ⟨_, _, _, _, rfl, _⟩ := h; rfl) | (obtain ⟨_, _, _, _, _, rfl, _⟩ := h; rfl) | (obtain ⟨_, _, _, _, _, _, rfl, _⟩ := h; rfl) | (obtain ⟨_, _, _, _, _, _, _, rfl, _⟩ := h; rfl) | (obtain ⟨_, _, _, _, _, _, _, _, rfl, _⟩ := h; rfl) | (obtain ⟨_, _, _, _, _, _, _, _, _, rfl, _⟩ := h; rfl) | (obtain ⟨_, _, _, _, _, _, _, _, _, _, rfl, _⟩ := h; rfl) | (obtain ⟨_, _, _, _, _, _, _, _, _, _, _, rfl, _⟩ := h; rfl) | (split at h <;> first | rfl | exact h.elim)) h
theorem pp_Ratio_le {K : PySem.W.Frag} {cs : List Str} (T : KF K cs) (hRatio : ("Ratio" : Str) ∈ cs) (vs : List V) (H : Hp) (Q : VK) (E : XK) (h : lift K (fRB fun a b => decide (a ≤ b)) vs H Q E) : tt_Ratio_le K cs { nx := fun _ H' => Q .non H', rt := Q } (start ["self", "other"] vs) H :=
  fn_ok0 rfl (s_Ratio_le T hRatio) (p_Ratio_le hRatio) vs H Q E h
theorem len_Ratio_gt {K : PySem.W.Frag} {cs : List Str} (vs : List V) (H : Hp) (Q : VK) (E : XK) (h : lift K (fRB fun a b => decide (b < a)) vs H Q E) : vs.length = 2 := lift_len (fun ds P X h => by unfold fRB at h; first | (obtain ⟨rfl, _⟩ := h; rfl) | (obtain ⟨_, rfl, _⟩ := h; rfl) | (obtain ⟨_, _, rfl, _⟩ := h; rfl) | (obtain ⟨_, _, _, rfl, _⟩ := h; rfl) | (obtain ⟨_, _, _, _, rfl, _⟩ := h; rfl) | (obtain ⟨_, _, _, _, _, rfl, _⟩ := h; rfl) | (obtain ⟨_, _, _, _, _, _, rfl, _⟩ := h; rfl) | (obtain ⟨_, _, _, _, _, _, _, rfl, _⟩ := h; rfl) | (obtain ⟨_, _, _, _, _, _, _, _, rfl, _⟩ := h; rfl) | (obtain ⟨_, _, _, _, _, _, _, _, _, rfl, _⟩ := h; rfl) | (obtain ⟨_, _, _, _, _, _, _, _, _, _, rfl, _⟩ := h; rfl) | (obtain ⟨_, _, _, _, _, _, _, _, _, _, _, rfl, _⟩ := h; rfl) | (split at h <;> first | rfl | exact h.elim)) h
theorem pp_Ratio_gt {K : PySem.W.Frag} {cs : List Str} (T : KF K cs) (hRatio : ("Ratio" : Str) ∈ cs) (vs : List V) (H : Hp) (Q : VK) (E : XK) (h : lift K (fRB fun a b => decide (b < a)) vs H Q E) : tt_Ratio_gt K cs { nx := fun _ H' => Q .non H', rt := Q } (start ["self", "other"] vs) H :=
  fn_ok0 rfl (s_Ratio_gt T hRatio) (p_Ratio_gt hRatio) vs H Q E h
theorem len_Ratio_ge {K : PySem.W.Frag} {cs : List Str} (vs : List V) (H : Hp) (Q : VK) (E : XK) (h : lift K (fRB fun a b => decide (b ≤ a)) vs H Q E) : vs.length = 2 := lift_len (fun ds P X h => by unfold fRB at h; first | (obtain ⟨rfl, _⟩ := h; rfl) | (obtain ⟨_, rfl, _⟩ := h; rfl) | (obtain ⟨_, _, rfl, _⟩ := h; rfl) | (obtain ⟨_, _, _, rfl, _⟩ := h; rfl) | (obtain ⟨_, _, _, _, rfl, _⟩ := h; rfl) | (obtain ⟨_, _, _, _, _, rfl, _⟩ := h; rfl) | (obtain ⟨_, _, _, _, _, _, rfl, _⟩ := h; rfl) | (obtain ⟨_, _, _, _, _, _, _, rfl, _⟩ := h; rfl) | (obtain ⟨_, _, _, _, _, _, _, _, rfl, _⟩ := h; rfl) | (obtain ⟨_, _, _, _, _, _, _, _, _, rfl, _⟩ := h; rfl) | (obtain ⟨_, _, _, _, _, _, _, _, _, _, rfl, _⟩ := h; rfl) | (obtain ⟨_, _, _, _, _, _, _, _, _, _, _, rfl, _⟩ := h; rfl) | (split at h <;> first | rfl | exact h.elim)) h
theorem pp_Ratio_ge {K : PySem.W.Frag} {cs : List Str} (T : KF K cs) (hRatio : ("Ratio" : Str) ∈ cs) (vs : List V) (H : Hp) (Q : VK) (E : XK) (h : lift K (fRB fun a b => decide (b ≤ a)) vs H Q E) : tt_Ratio_ge K cs { nx := fun _ H' => Q .non H', rt := Q } (start ["self", "other"] vs) H :=
  fn_ok0 rfl (s_Ratio_ge T hRatio) (p_Ratio_ge hRatio) vs H Q E h
theorem len_is_number {K : PySem.W.Frag} {cs : List Str} (vs : List V) (H : Hp) (Q : VK) (E : XK) (h : lift K (fIsNum cs) vs H Q E) : vs.length = 1 := lift_len (fun ds P X h => by unfold fIsNum at h; first | (obtain ⟨rfl, _⟩ := h; rfl) | (obtain ⟨_, rfl, _⟩ := h; rfl) | (obtain ⟨_, _, rfl, _⟩ := h; rfl) | (obtain ⟨_, _, _, rfl, _⟩ := h; rfl) | (obtain ⟨_, _, _, _, rfl, _⟩ := h; rfl) | (obtain ⟨_, _, _, _, _, rfl, _⟩ := h; rfl) | (obtain ⟨_, _, _, _, _, _, rfl, _⟩ := h; rfl) | (obtain ⟨_, _, _, _, _, _, _, rfl, _⟩ := h; rfl) | (obtain ⟨_, _, _, _, _, _, _, _, rfl, _⟩ := h; rfl) | (obtain ⟨_, _, _, _, _, _, _, _, _, rfl, _⟩ := h; rfl) | (obtain ⟨_, _, _, _, _, _, _, _, _, _, rfl, _⟩ := h; rfl) | (obtain ⟨_, _, _, _, _, _, _, _, _, _, _, rfl, _⟩ := h; rfl) | (split at h <;> first | rfl | exact h.elim)) h
theorem pp_is_number {K : PySem.W.Frag} {cs : List Str} (T : KF K cs) (hRatio : ("Ratio" : Str) ∈ cs) (vs : List V) (H : Hp) (Q : VK) (E : XK) (h : lift K (fIsNum cs) vs H Q E) : tt_is_number K cs { nx := fun _ H' => Q .non H', rt := Q } (start ["value"] vs) H :=
  fn_ok0 rfl (s_is_number T hRatio) (p_is_number hRatio) vs H Q E h
theorem len_as_ratio {K : PySem.W.Frag} {cs : List Str} (vs : List V) (H : Hp) (Q : VK) (E : XK) (h : lift K (fAsRat cs) vs H Q E) : vs.length = 2 := lift_len (fun ds P X h => by unfold fAsRat at h; first | (obtain ⟨rfl, _⟩ := h; rfl) | (obtain ⟨_, rfl, _⟩ := h; rfl) | (obtain ⟨_, _, rfl, _⟩ := h; rfl) | (obtain ⟨_, _, _, rfl, _⟩ := h; rfl) | (obtain ⟨_, _, _, _, rfl, _⟩ := h; rfl) | (obtain ⟨_, _, _, _, _, rfl, _⟩ := h; rfl) | (obtain ⟨_, _, _, _, _, _, rfl, _⟩ := h; rfl) | (obtain ⟨_, _, _, _, _, _, _, rfl, _⟩ := h; rfl) | (obtain ⟨_, _, _, _, _, _, _, _, rfl, _⟩ := h; rfl) | (obtain ⟨_, _, _, _, _, _, _, _, _, rfl, _⟩ := h; rfl) | (obtain ⟨_, _, _, _, _, _, _, _, _, _, rfl, _⟩ := h; rfl) | (obtain ⟨_, _, _, _, _, _, _, _, _, _, _, rfl, _⟩ := h; rfl) | (split at h <;> first | rfl | exact h.elim)) h
theorem pp_as_ratio {K : PySem.W.Frag} {cs : List Str} (T : KF K cs) (hRatio : ("Ratio" : Str) ∈ cs) (vs : List V) (H : Hp) (Q : VK) (E : XK) (h : lift K (fAsRat cs) vs H Q E) : tt_as_ratio K cs E { nx := fun _ H' => Q .non H', rt := Q } (start ["value", "word"] vs) H :=
  fn_ok (t := fun E => tt_as_ratio K cs E) rfl (s_as_ratio T hRatio) (p_as_ratio hRatio) vs H Q E h
theorem len_Ratio_over {K : PySem.W.Frag} {cs : List Str} (vs : List V) (H : Hp) (Q : VK) (E : XK) (h : lift K fOver vs H Q E) : vs.length = 2 := lift_len (fun ds P X h => by unfold fOver at h; first | (obtain ⟨rfl, _⟩ := h; rfl) | (obtain ⟨_, rfl, _⟩ := h; rfl) | (obtain ⟨_, _, rfl, _⟩ := h; rfl) | (obtain ⟨_, _, _, rfl, _⟩ := h; rfl) | (obtain ⟨_, _, _, _, rfl, _⟩ := h; rfl) | (obtain ⟨_, _, _, _, _, rfl, _⟩ := h; rfl) | (obtain ⟨_, _, _, _, _, _, rfl, _⟩ := h; rfl) | (obtain ⟨_, _, _, _, _, _, _, rfl, _⟩ := h; rfl) | (obtain ⟨_, _, _, _, _, _, _, _, rfl, _⟩ := h; rfl) | (obtain ⟨_, _, _, _, _, _, _, _, _, rfl, _⟩ := h; rfl) | (obtain ⟨_, _, _, _, _, _, _, _, _, _, rfl, _⟩ := h; rfl) | (obtain ⟨_, _, _, _, _, _, _, _, _, _, _, rfl, _⟩ := h; rfl) | (split at h <;> first | rfl | exact h.elim)) h
theorem pp_Ratio_over {K : PySem.W.Frag} {cs : List Str} (T : KF K cs) (hRatio : ("Ratio" : Str) ∈ cs) (vs : List V) (H : Hp) (Q : VK) (E : XK) (h : lift K fOver vs H Q E) : tt_Ratio_over K cs E { nx := fun _ H' => Q .non H', rt := Q } (start ["self", "other", "divisor"] vs) H :=
  fn_ok (t := fun E => tt_Ratio_over K cs E) rfl (s_Ratio_over T hRatio) (p_Ratio_over hRatio) vs H Q E h
end MR

set_option Elab.async false
set_option linter.all false
set_option maxRecDepth 100000
set_option maxHeartbeats 4000000
set_option exponentiation.threshold 20000
/-! FP: Poly, without a heap -/
namespace MR
open PySem PySem.Spec PyProof.Rows L2
theorem itD_cases {d : D} {ds : List D} (h : itD d = some ds) : d = .lst ds ∨ d = .tup ds := by
  cases d <;> first | (cases h; done) | skip
  · exact .inl (by cases h; rfl)
  · exact .inr (by cases h; rfl)
theorem oLen_it {d : D} {ds : List D} {P : D → Prop} {X : XP} (h : itD d = some ds) : oLen [d] P X ↔ P (.int (ds.length : Nat)) := by
  rcases itD_cases h with rfl | rfl <;> exact Iff.rfl
theorem tru_it {d : D} {ds : List D} (h : itD d = some ds) : truD d = some !ds.isEmpty := by
  rcases itD_cases h with rfl | rfl <;> rfl
theorem ix_it {d : D} {ds : List D} {e : D} {k : Nat} {P : D → Prop} {X : XP} (h : itD d = some ds) (hk : ds[k]? = some e) (p : P e) : oIx d (.int (k : Nat)) P X := by
  rcases itD_cases h with rfl | rfl
  · exact ⟨ds, _, e, .inl rfl, rfl, atI_nat hk, p⟩
  · exact ⟨ds, _, e, .inr rfl, rfl, atI_nat hk, p⟩
def ratL (cs : List Rat) : List D := cs.map D.rat
theorem ratL_len (cs : List Rat) : (ratL cs).length = cs.length := List.length_map ..
theorem ratL_get {cs : List Rat} {k : Nat} (h : k < cs.length) : (ratL cs)[k]? = some (.rat (coef cs k)) := by
  unfold ratL
  rw [List.getElem?_map, coef_lt h]
  rfl
theorem rng_cons (lo : Int) (n : Nat) : rngD lo (n + 1) = .int lo :: rngD (lo + 1) n := by
  unfold rngD
  rw [List.range_succ_eq_map, List.map_cons, List.map_map]
  congr 1
  · congr 1; omega
  · refine List.map_congr_left fun k _ => ?_
    show D.int (lo + ((k + 1 : Nat) : Int)) = D.int (lo + 1 + (k : Int))
    congr 1; omega
theorem rng_zero (lo : Int) : rngD lo 0 = [] := rfl
/-- the sizes of a row -/
def SzL (n : Nat) (cs : List Rat) : Prop := ∀ c, c ∈ cs → Sz n c
theorem sz_zero : Sz 1 (0 : Rat) := ⟨by decide, by decide⟩
theorem SzL.coef {n : Nat} {cs : List Rat} (h : SzL n cs) (hn : 0 < n) (k : Nat) : Sz n (coef cs k) := by
  by_cases hk : k < cs.length
  · exact h _ (List.mem_of_getElem? (coef_lt hk))
  · rw [coef_ge (by omega)]
    exact sz_zero.mono hn
def fStrip : FSp := fun ds P _ => ∃ cs, ds = [.lst (ratL cs)] ∧ P (.lst (ratL (strip cs)))
/-- the coefficients of a Poly or a number -/
def pcoef : D → Option (List Rat)
  | .poly cs => some cs
  | .rat q => some (if q = 0 then [] else [q])
  | .int n => some (if n = 0 then [] else [(n : Rat)])
  | _ => none
def fCoefs (cs : List Str) : FSp := fun ds P _ => ∃ d qs, ds = [d] ∧ pcoef d = some qs ∧ P (.lst (ratL qs))
def fAdded : FSp := fun ds P _ => ∃ d1 d2 cs es n m, ds = [d1, d2] ∧ itD d1 = some (ratL cs) ∧ itD d2 = some (ratL es) ∧ SzL n cs ∧ SzL m es ∧ 0 < n ∧ 0 < m ∧ n + m ≤ 9000 ∧ cs.length ≤ 1000 ∧ es.length ≤ 1000 ∧ P (.lst (ratL (addL cs es)))
def fMulted : FSp := fun ds P _ => ∃ d1 d2 cs es n m, ds = [d1, d2] ∧ itD d1 = some (ratL cs) ∧ itD d2 = some (ratL es) ∧ SzL n cs ∧ SzL m es ∧ 0 < n ∧ 0 < m ∧ (cs.length + 1) * (n + m + 1) ≤ 9000 ∧ es.length ≤ 1000 ∧ P (.lst (ratL (mulL cs es)))
/-- the value by Horner -/
def horner (cs : List Rat) (x : Rat) : Rat := cs.foldr (fun c v => v * x + c) 0
def fValueAt : FSp := fun ds P _ => ∃ cs x n m, ds = [.poly cs, .rat x] ∧ SzL n cs ∧ Sz m x ∧ 0 < n ∧ (cs.length + 1) * (n + m + 1) ≤ 9000 ∧ cs.length ≤ 1000 ∧ P (.rat (horner cs x))
def numV : D → Option Rat
  | .rat q => some q
  | .int n => some (n : Rat)
  | _ => none
def numsV : List D → Option (List Rat)
  | [] => some []
  | d :: ds => match numV d, numsV ds with
    | some q, some qs => some (q :: qs)
    | _, _ => none
theorem numV_numD {cs : List Str} (hR : ("Ratio" : Str) ∈ cs) {d : D} {q : Rat} (h : numV d = some q) : numD cs d = some true := by
  cases d <;> first | (cases h; done) | skip
  · unfold numD; rw [isR_int hR]; rfl
  · unfold numD; rw [isR_rat hR]
/-- Poly(..): numbers; or an item that is none, behind numbers; or neither a list nor a tuple -/
def fMkPoly (cs : List Str) : FSp := fun ds P X => ∃ d, ds = [d] ∧ ((∃ items qs, itD d = some items ∧ items.length ≤ 100000 ∧ numsV items = some qs ∧ P (.poly (strip qs))) ∨
  (∃ items pre b post, itD d = some items ∧ items.length ≤ 100000 ∧ items = pre ++ b :: post ∧ (∃ qs, numsV pre = some qs) ∧ numD cs b = some false ∧ X ⟨"NoPoly", []⟩) ∨
  (isD cs (.ty "list") d = some false ∧ isD cs (.ty "tuple") d = some false ∧ X ⟨"NoPoly", []⟩))
/-- the promise of an __init__ -/
def liftI (K : PySem.W.Frag) (C : Str) (fsp : FSp) : Sp := fun vs H Q E => ∃ (F : Option Addr) (M : Addr → Prop) (H1 : Hp) (ds : List D) (us : List V) (P : D → Prop) (X : XP) (x dx : Addr), vs = .ref x :: us ∧ H = upd (upd H1 dx (.own x)) x (.ins (He.ga K C) dx []) ∧ H1 x = none ∧ H1 dx = none ∧ dx ≠ x ∧
  Lv K F M H1 ∧ Reps K F M H1 ds us ∧ fsp ds P X ∧ (∀ d H', P d → Gr K F H1 H' → Rep K F M H' d (.ref x) → Q .non H') ∧ PostX K F H1 X E
theorem mkl_lift {K : PySem.W.Frag} {C : Str} {fsp : FSp} : MkL K (He.ga K C) (liftI K C fsp) fsp := fun F M H ds vs P X Q E x dx lv r h q px n1 n2 ne =>
  ⟨F, M, H, ds, vs, P, X, x, dx, rfl, rfl, n1, n2, ne, lv, r, h, fun d H' hd g rd => ⟨rfl, q d _ H' hd g rd⟩, px⟩
def fPAdd (cs : List Str) : FSp := fun ds P _ => ∃ a d es n m, ds = [.poly a, d] ∧ pcoef d = some es ∧ SzL n a ∧ SzL m es ∧ 0 < n ∧ 0 < m ∧ n + m ≤ 9000 ∧ a.length ≤ 1000 ∧ es.length ≤ 1000 ∧ P (.poly (strip (addL a es)))
def fPRadd (cs : List Str) : FSp := fun ds P _ => ∃ a d es n m, ds = [.poly a, d] ∧ pcoef d = some es ∧ SzL n a ∧ SzL m es ∧ 0 < n ∧ 0 < m ∧ n + m ≤ 9000 ∧ a.length ≤ 1000 ∧ es.length ≤ 1000 ∧ P (.poly (strip (addL es a)))
def fPSub (cs : List Str) : FSp := fun ds P _ => ∃ a d es n m, ds = [.poly a, d] ∧ pcoef d = some es ∧ SzL n a ∧ SzL m es ∧ 0 < n ∧ 0 < m ∧ n + m ≤ 9000 ∧ a.length ≤ 1000 ∧ es.length ≤ 1000 ∧ P (.poly (strip (addL a (negL es))))
def fPRsub (cs : List Str) : FSp := fun ds P _ => ∃ a d es n m, ds = [.poly a, d] ∧ pcoef d = some es ∧ SzL n a ∧ SzL m es ∧ 0 < n ∧ 0 < m ∧ n + m ≤ 9000 ∧ a.length ≤ 1000 ∧ es.length ≤ 1000 ∧ P (.poly (strip (addL es (negL a))))
def fPMul (cs : List Str) : FSp := fun ds P _ => ∃ a d es n m, ds = [.poly a, d] ∧ pcoef d = some es ∧ SzL n a ∧ SzL m es ∧ 0 < n ∧ 0 < m ∧ (a.length + 1) * (n + m + 1) ≤ 9000 ∧ es.length ≤ 1000 ∧ P (.poly (strip (mulL a es)))
def fPRmul (cs : List Str) : FSp := fun ds P _ => ∃ a d es n m, ds = [.poly a, d] ∧ pcoef d = some es ∧ SzL n a ∧ SzL m es ∧ 0 < n ∧ 0 < m ∧ (es.length + 1) * (n + m + 1) ≤ 9000 ∧ a.length ≤ 1000 ∧ P (.poly (strip (mulL es a)))
def fPNeg : FSp := fun ds P _ => ∃ a n, ds = [.poly a] ∧ SzL n a ∧ n ≤ 9000 ∧ a.length ≤ 1000 ∧ P (.poly (strip (negL a)))
def tt_without_zeros (K : PySem.W.Frag) (cs : List Str) : TS :=
  (tSeq (tAsg (tCB (rLenA K) (tCons (tVar 0) tNil)) (gName 1))
  (tSeq (tWhile (tAnd (tTest (tOp rGt0 (tVar 1) (tC (.int 0)))) (tTest (tOp rEq (tFld K (tOp (rIxL K) (tVar 0) (tOp rSub0 (tVar 1) (tC (.int 1)))) "top") (tC (.int 0))))) (tAsg (tOp rSub0 (tVar 1) (tC (.int 1))) (gName 1)))
  (tRet (tSl (rSlL K) (tVar 0) tNoPart (tPart (tVar 1))))))
def f_without_zeros (cs : List Str) : FS :=
  (fSeq (fSet 1 (fLs oLen (fCons (fVar 0) fNil)))
  (fSeq (fWhile (fAnd (fB (fOp oGt (fVar 1) (fC (.int 0)))) (fB (fOp oEq (fFld "Ratio" "top" (fOp oIxL (fVar 0) (fOp oSub (fVar 1) (fC (.int 1))))) (fC (.int 0))))) (fSet 1 (fOp oSub (fVar 1) (fC (.int 1)))))
  (fRet (fSl (fVar 0) fNoPart (fPart (fVar 1))))))
theorem s_without_zeros {K : PySem.W.Frag} {cs : List Str} (T : KF K cs) (hRatio : ("Ratio" : Str) ∈ cs) (hPoly : ("Poly" : Str) ∈ cs) : SS K [] [] [] [] (fun _ => E0) (tt_without_zeros K cs) (f_without_zeros cs) :=
  (ss_seq (ow1 := []) (ss_set (by decide) (by decide) (se_cb (fun _ => ls_len) (sa_cons (se_var (by decide)) sa_nil)))
  (ss_seq (ow1 := []) (ss_while (by decide) (st_and (st_test (se_op (fun _ => os_gt) (se_var (by decide)) se_int)) (st_test (se_op (fun _ => os_eq) (se_fld (T.fld _ hRatio _ (by decide)) (se_op (fun _ => os_ixL) (se_var (by decide)) (se_op (fun _ => os_sub) (se_var (by decide)) se_int))) se_int))) (ss_set (by decide) (by decide) (se_op (fun _ => os_sub) (se_var (by decide)) se_int)))
  (ss_ret (by decide) (SF.se (sf_sl (se_var (by decide)) so_none (so_some (se_var (by decide))))))))
def tt_coefficients_of (K : PySem.W.Frag) (cs : List Str) : TS :=
  (tSeq (tIfS (tB (tCB (rIsi K) (tCons (tVar 0) (tCons (tC (.ref (He.ga K "Poly"))) tNil)))) (tRet (tCB (rListOf0 K) (tCons (tFld K (tVar 0) "coefficients") tNil))) tNext)
  (tSeq (tIfS (tB (tCB (rIsi K) (tCons (tVar 0) (tCons (tC (.ref (He.ga K "Ratio"))) tNil)))) (tRet (tIf (tTest (tOp rNe (tFld K (tVar 0) "top") (tC (.int 0)))) (tLst (tCons (tVar 0) tNil)) (tLst tNil))) tNext)
  (tSeq (tIfS (tB (tCall (spIsInt K) [] E0 (tCons (tVar 0) tNil))) (tRet (tIf (tTest (tOp rNe (tVar 0) (tC (.int 0)))) (tLst (tCons (tMake (He.ga K "Ratio") (spRInit K) [.int 1] E0 (tCons (tVar 0) tNil)) tNil)) (tLst tNil))) tNext)
  (tRet (tC .non)))))
def f_coefficients_of (cs : List Str) : FS :=
  (fSeq (fIfS (fB (fIsi cs (.own "Poly") (fVar 0))) (fRet (fLs oList (fCons (fFld "Poly" "coefficients" (fVar 0)) fNil))) fNext)
  (fSeq (fIfS (fB (fIsi cs (.own "Ratio") (fVar 0))) (fRet (fIf (fB (fOp oNe (fFld "Ratio" "top" (fVar 0)) (fC (.int 0)))) (fLst (fCons (fVar 0) fNil)) (fLst fNil))) fNext)
  (fSeq (fIfS (fB (fCall0 (fIsInt cs) [] (fCons (fVar 0) fNil))) (fRet (fIf (fB (fOp oNe (fVar 0) (fC (.int 0)))) (fLst (fCons (fCall0 fMkR [.int 1] (fCons (fVar 0) fNil)) fNil)) (fLst fNil))) fNext)
  (fRet (fC .non)))))
theorem s_coefficients_of {K : PySem.W.Frag} {cs : List Str} (T : KF K cs) (hRatio : ("Ratio" : Str) ∈ cs) (hPoly : ("Poly" : Str) ∈ cs) : SS K [] [] [] [] (fun _ => E0) (tt_coefficients_of K cs) (f_coefficients_of cs) :=
  (ss_seq (ow1 := []) (ss_if (by decide) (st_b (se_isi (c := (.own "Poly")) T.toKT (se_var (by decide)))) (ss_ret (by decide) (SF.se (sf_listof (sa_cons (se_fld (T.fld _ hPoly _ (by decide)) (se_var (by decide))) sa_nil)))) (ss_next (by decide)))
  (ss_seq (ow1 := []) (ss_if (by decide) (st_b (se_isi (c := (.own "Ratio")) T.toKT (se_var (by decide)))) (ss_ret (by decide) (se_if (st_test (se_op (fun _ => os_ne) (se_fld (T.fld _ hRatio _ (by decide)) (se_var (by decide))) se_int)) (se_lst (sa_cons (se_var (by decide)) sa_nil)) (se_lst sa_nil))) (ss_next (by decide)))
  (ss_seq (ow1 := []) (ss_if (by decide) (st_b (se_call0 (lift_isInt T.toKT) cst_nil (sa_cons (se_var (by decide)) sa_nil))) (ss_ret (by decide) (se_if (st_test (se_op (fun _ => os_ne) (se_var (by decide)) se_int)) (se_lst (sa_cons (se_make0 mkl_R (cst_int cst_nil) (sa_cons (se_var (by decide)) sa_nil)) sa_nil)) (se_lst sa_nil))) (ss_next (by decide)))
  (ss_ret (by decide) se_non))))
def tt_added (K : PySem.W.Frag) (cs : List Str) : TS :=
  (tSeq (tAsg (tLst tNil) (gName 2))
  (tSeq (tFor (iRng1 (tCons (tCB rMax0 (tCons (tCB (rLenA K) (tCons (tVar 0) tNil)) (tCons (tCB (rLenA K) (tCons (tVar 1) tNil)) tNil))) tNil)) (gName 3) (tSeq (tAsg (tIf (tTest (tOp rLt0 (tVar 3) (tCB (rLenA K) (tCons (tVar 0) tNil)))) (tOp (rIxA K) (tVar 0) (tVar 3)) (tMake (He.ga K "Ratio") (spRInit K) [.int 1] E0 (tCons (tC (.int 0)) tNil))) (gName 4))
  (tSeq (tIfS (tTest (tOp rLt0 (tVar 3) (tCB (rLenA K) (tCons (tVar 1) tNil)))) (tAsg (tOp (rOwn (He.ga K "Ratio") (lift K (fR2 fun a b => a + b)) E0) (tVar 4) (tOp (rIxA K) (tVar 1) (tVar 3))) (gName 4)) tNext)
  (tDrop (tBM K "list" rAppend (tVar 2) (tCons (tVar 4) tNil))))))
  (tRet (tVar 2))))
def f_added (cs : List Str) : FS :=
  (fSeq (fOwn 2 (fLst fNil))
  (fSeq (fFor (fRng1 (fCons (fLs oMax (fCons (fLs oLen (fCons (fVar 0) fNil)) (fCons (fLs oLen (fCons (fVar 1) fNil)) fNil))) fNil)) (fName 3) (fSeq (fSet 4 (fIf (fB (fOp oLt (fVar 3) (fLs oLen (fCons (fVar 0) fNil)))) (fOp oIx (fVar 0) (fVar 3)) (fCall0 fMkR [.int 1] (fCons (fC (.int 0)) fNil))))
  (fSeq (fIfS (fB (fOp oLt (fVar 3) (fLs oLen (fCons (fVar 1) fNil)))) (fSet 4 (fOp (oOwn0 "Ratio" (fR2 fun a b => a + b)) (fVar 4) (fOp oIx (fVar 1) (fVar 3)))) fNext)
  (fApp 2 (fVar 4)))))
  (fRet (fVar 2))))
theorem s_added {K : PySem.W.Frag} {cs : List Str} (T : KF K cs) (hRatio : ("Ratio" : Str) ∈ cs) (hPoly : ("Poly" : Str) ∈ cs) : SS K [] [] [] [] (fun _ => E0) (tt_added K cs) (f_added cs) :=
  (ss_seq (ow1 := [2]) (ss_own (by decide) (by decide) (sf_lst sa_nil))
  (ss_seq (ow1 := [2]) (ss_for (by decide) (si_rng1 (sa_cons (se_cb (fun _ => ls_max) (sa_cons (se_cb (fun _ => ls_len) (sa_cons (se_var (by decide)) sa_nil)) (sa_cons (se_cb (fun _ => ls_len) (sa_cons (se_var (by decide)) sa_nil)) sa_nil))) sa_nil)) (sg_name (by decide)) (ss_seq (ow1 := [2]) (ss_set (by decide) (by decide) (se_if (st_test (se_op (fun _ => os_lt) (se_var (by decide)) (se_cb (fun _ => ls_len) (sa_cons (se_var (by decide)) sa_nil)))) (se_op (fun _ => os_ixA) (se_var (by decide)) (se_var (by decide))) (se_make0 mkl_R (cst_int cst_nil) (sa_cons se_int sa_nil))))
  (ss_seq (ow1 := [2]) (ss_if (by decide) (st_test (se_op (fun _ => os_lt) (se_var (by decide)) (se_cb (fun _ => ls_len) (sa_cons (se_var (by decide)) sa_nil)))) (ss_set (by decide) (by decide) (se_op (fun _ => (os_own0 Lift.refl)) (se_var (by decide)) (se_op (fun _ => os_ixA) (se_var (by decide)) (se_var (by decide))))) (ss_next (by decide)))
  (ss_app (by decide) (by decide) (se_var (by decide))))))
  (ss_free (ow1 := []) (by decide) (ss_ret (by decide) (se_var (by decide))))))
def tt_multiplied (K : PySem.W.Frag) (cs : List Str) : TS :=
  (tSeq (tIfS (tOr (tNot (tTruA K (tVar 0))) (tNot (tTruA K (tVar 1)))) (tRet (tLst tNil)) tNext)
  (tSeq (tAsg (tLc (iRng1 (tCons (tOp rSub0 (tOp rAdd0 (tCB (rLenA K) (tCons (tVar 0) tNil)) (tCB (rLenA K) (tCons (tVar 1) tNil))) (tC (.int 1))) tNil)) (gName 5) tYes (tMake (He.ga K "Ratio") (spRInit K) [.int 1] E0 (tCons (tC (.int 0)) tNil)) [5]) (gName 2))
  (tSeq (tFor (iEnumA K (tCons (tVar 0) tNil)) (gTup K 2 (gCons (gName 3) (gCons (gName 4) gNil))) (tFor (iEnumA K (tCons (tVar 1) tNil)) (gTup K 2 (gCons (gName 6) (gCons (gName 7) gNil))) (tAsg (tOp (rOwn (He.ga K "Ratio") (lift K (fR2 fun a b => a + b)) E0) (tOp (rIxL K) (tVar 2) (tOp rAdd0 (tVar 3) (tVar 6))) (tOp (rOwn (He.ga K "Ratio") (lift K (fR2 fun a b => a * b)) E0) (tVar 4) (tVar 7))) (gSub (tVar 2) (tOp rAdd0 (tVar 3) (tVar 6)) rSetL))))
  (tRet (tVar 2)))))
def f_multiplied (cs : List Str) : FS :=
  (fSeq (fIfS (fOr (fNot (fTru (fVar 0))) (fNot (fTru (fVar 1)))) (fRet (fLst fNil)) fNext)
  (fSeq (fOwn 2 (fLc (fRng1 (fCons (fOp oSub (fOp oAdd (fLs oLen (fCons (fVar 0) fNil)) (fLs oLen (fCons (fVar 1) fNil))) (fC (.int 1))) fNil)) (fName 5) fYes (fCall0 fMkR [.int 1] (fCons (fC (.int 0)) fNil)) [5]))
  (fSeq (fFor (fEn (fCons (fVar 0) fNil)) (fTupG [3, 4]) (fFor (fEn (fCons (fVar 1) fNil)) (fTupG [6, 7]) (fSetI 2 (fOp (oOwn0 "Ratio" (fR2 fun a b => a + b)) (fOp oIx (fVar 2) (fOp oAdd (fVar 3) (fVar 6))) (fOp (oOwn0 "Ratio" (fR2 fun a b => a * b)) (fVar 4) (fVar 7))) (fOp oAdd (fVar 3) (fVar 6)))))
  (fRet (fVar 2)))))
theorem s_multiplied {K : PySem.W.Frag} {cs : List Str} (T : KF K cs) (hRatio : ("Ratio" : Str) ∈ cs) (hPoly : ("Poly" : Str) ∈ cs) : SS K [] [] [] [] (fun _ => E0) (tt_multiplied K cs) (f_multiplied cs) :=
  (ss_seq (ow1 := []) (ss_if (by decide) (st_or (st_not (st_tru (se_var (by decide)))) (st_not (st_tru (se_var (by decide))))) (ss_ret (by decide) (se_lst sa_nil)) (ss_next (by decide)))
  (ss_seq (ow1 := [2]) (ss_own (by decide) (by decide) (sf_lc (by decide) (by decide) (si_rng1 (sa_cons (se_op (fun _ => os_sub) (se_op (fun _ => os_add) (se_cb (fun _ => ls_len) (sa_cons (se_var (by decide)) sa_nil)) (se_cb (fun _ => ls_len) (sa_cons (se_var (by decide)) sa_nil))) se_int) sa_nil)) (sg_name (by decide)) st_yes (se_make0 mkl_R (cst_int cst_nil) (sa_cons se_int sa_nil))))
  (ss_seq (ow1 := [2]) (ss_for (by decide) (si_en (sa_cons (se_var (by decide)) sa_nil)) (sg_tup rfl (sgs_cons (by decide) (sgs_cons (by decide) sgs_nil))) (ss_for (by decide) (si_en (sa_cons (se_var (by decide)) sa_nil)) (sg_tup rfl (sgs_cons (by decide) (sgs_cons (by decide) sgs_nil))) (ss_setI (by decide) (by decide) (se_op (fun _ => (os_own0 Lift.refl)) (se_ixO (by decide) (se_op (fun _ => os_add) (se_var (by decide)) (se_var (by decide)))) (se_op (fun _ => (os_own0 Lift.refl)) (se_var (by decide)) (se_var (by decide)))) (se_op (fun _ => os_add) (se_var (by decide)) (se_var (by decide))))))
  (ss_free (ow1 := []) (by decide) (ss_ret (by decide) (se_var (by decide)))))))
def tt_value_at (K : PySem.W.Frag) (cs : List Str) : TS :=
  (tSeq (tAsg (tMake (He.ga K "Ratio") (spRInit K) [.int 1] E0 (tCons (tC (.int 0)) tNil)) (gName 2))
  (tSeq (tFor (iRev K (tCons (tCB (rListOf0 K) (tCons (tFld K (tVar 0) "coefficients") tNil)) tNil)) (gName 3) (tAsg (tOp (rOwn (He.ga K "Ratio") (lift K (fR2 fun a b => a + b)) E0) (tOp (rOwn (He.ga K "Ratio") (lift K (fR2 fun a b => a * b)) E0) (tVar 2) (tVar 1)) (tVar 3)) (gName 2)))
  (tRet (tVar 2))))
def f_value_at (cs : List Str) : FS :=
  (fSeq (fSet 2 (fCall0 fMkR [.int 1] (fCons (fC (.int 0)) fNil)))
  (fSeq (fFor (fRev (fCons (fLs oList (fCons (fFld "Poly" "coefficients" (fVar 0)) fNil)) fNil)) (fName 3) (fSet 2 (fOp (oOwn0 "Ratio" (fR2 fun a b => a + b)) (fOp (oOwn0 "Ratio" (fR2 fun a b => a * b)) (fVar 2) (fVar 1)) (fVar 3))))
  (fRet (fVar 2))))
theorem s_value_at {K : PySem.W.Frag} {cs : List Str} (T : KF K cs) (hRatio : ("Ratio" : Str) ∈ cs) (hPoly : ("Poly" : Str) ∈ cs) : SS K [] [] [] [] (fun _ => E0) (tt_value_at K cs) (f_value_at cs) :=
  (ss_seq (ow1 := []) (ss_set (by decide) (by decide) (se_make0 mkl_R (cst_int cst_nil) (sa_cons se_int sa_nil)))
  (ss_seq (ow1 := []) (ss_for (by decide) (si_rev (sa_cons (SF.se (sf_listof (sa_cons (se_fld (T.fld _ hPoly _ (by decide)) (se_var (by decide))) sa_nil))) sa_nil)) (sg_name (by decide)) (ss_set (by decide) (by decide) (se_op (fun _ => (os_own0 Lift.refl)) (se_op (fun _ => (os_own0 Lift.refl)) (se_var (by decide)) (se_var (by decide))) (se_var (by decide)))))
  (ss_ret (by decide) (se_var (by decide)))))
def tt_Poly_add (K : PySem.W.Frag) (cs : List Str) : TS :=
  (tSeq (tAsg (tCall (lift K (fCoefs cs)) [] E0 (tCons (tVar 1) tNil)) (gName 2))
  (tSeq (tIfS (tTest (tOp rIsN0 (tVar 2) (tC .non))) tNever tNext)
  (tRet (tMake (He.ga K "Poly") (liftI K "Poly" (fMkPoly cs)) [] E0 (tCons (tCall (lift K fAdded) [] E0 (tCons (tFld K (tVar 0) "coefficients") (tCons (tVar 2) tNil))) tNil)))))
def f_Poly_add (cs : List Str) : FS :=
  (fSeq (fSet 2 (fCall0 (fCoefs cs) [] (fCons (fVar 1) fNil)))
  (fSeq (fIfS (fB (fOp oIsN (fVar 2) (fC .non))) fNev fNext)
  (fRet (fCall0 (fMkPoly cs) [] (fCons (fCall0 fAdded [] (fCons (fFld "Poly" "coefficients" (fVar 0)) (fCons (fVar 2) fNil))) fNil)))))
theorem s_Poly_add {K : PySem.W.Frag} {cs : List Str} (T : KF K cs) (hRatio : ("Ratio" : Str) ∈ cs) (hPoly : ("Poly" : Str) ∈ cs) : SS K [] [] [] [] (fun _ => E0) (tt_Poly_add K cs) (f_Poly_add cs) :=
  (ss_seq (ow1 := []) (ss_set (by decide) (by decide) (se_call0 Lift.refl cst_nil (sa_cons (se_var (by decide)) sa_nil)))
  (ss_seq (ow1 := []) (ss_if (by decide) (st_test (se_op (fun _ => os_isN) (se_var (by decide)) se_non)) ss_nev (ss_next (by decide)))
  (ss_ret (by decide) (se_make0 mkl_lift cst_nil (sa_cons (se_call0 Lift.refl cst_nil (sa_cons (se_fld (T.fld _ hPoly _ (by decide)) (se_var (by decide))) (sa_cons (se_var (by decide)) sa_nil))) sa_nil)))))
def tt_Poly_radd (K : PySem.W.Frag) (cs : List Str) : TS :=
  (tSeq (tAsg (tCall (lift K (fCoefs cs)) [] E0 (tCons (tVar 1) tNil)) (gName 2))
  (tSeq (tIfS (tTest (tOp rIsN0 (tVar 2) (tC .non))) tNever tNext)
  (tRet (tMake (He.ga K "Poly") (liftI K "Poly" (fMkPoly cs)) [] E0 (tCons (tCall (lift K fAdded) [] E0 (tCons (tVar 2) (tCons (tFld K (tVar 0) "coefficients") tNil))) tNil)))))
def f_Poly_radd (cs : List Str) : FS :=
  (fSeq (fSet 2 (fCall0 (fCoefs cs) [] (fCons (fVar 1) fNil)))
  (fSeq (fIfS (fB (fOp oIsN (fVar 2) (fC .non))) fNev fNext)
  (fRet (fCall0 (fMkPoly cs) [] (fCons (fCall0 fAdded [] (fCons (fVar 2) (fCons (fFld "Poly" "coefficients" (fVar 0)) fNil))) fNil)))))
theorem s_Poly_radd {K : PySem.W.Frag} {cs : List Str} (T : KF K cs) (hRatio : ("Ratio" : Str) ∈ cs) (hPoly : ("Poly" : Str) ∈ cs) : SS K [] [] [] [] (fun _ => E0) (tt_Poly_radd K cs) (f_Poly_radd cs) :=
  (ss_seq (ow1 := []) (ss_set (by decide) (by decide) (se_call0 Lift.refl cst_nil (sa_cons (se_var (by decide)) sa_nil)))
  (ss_seq (ow1 := []) (ss_if (by decide) (st_test (se_op (fun _ => os_isN) (se_var (by decide)) se_non)) ss_nev (ss_next (by decide)))
  (ss_ret (by decide) (se_make0 mkl_lift cst_nil (sa_cons (se_call0 Lift.refl cst_nil (sa_cons (se_var (by decide)) (sa_cons (se_fld (T.fld _ hPoly _ (by decide)) (se_var (by decide))) sa_nil))) sa_nil)))))
def tt_Poly_sub (K : PySem.W.Frag) (cs : List Str) : TS :=
  (tSeq (tAsg (tCall (lift K (fCoefs cs)) [] E0 (tCons (tVar 1) tNil)) (gName 2))
  (tSeq (tIfS (tTest (tOp rIsN0 (tVar 2) (tC .non))) tNever tNext)
  (tRet (tMake (He.ga K "Poly") (liftI K "Poly" (fMkPoly cs)) [] E0 (tCons (tCall (lift K fAdded) [] E0 (tCons (tFld K (tVar 0) "coefficients") (tCons (tLc (iList K (tVar 2)) (gName 3) tYes (tUn (rNegO (He.ga K "Ratio") (lift K (fR1 fun a => -a)) E0) (tVar 3)) [3]) tNil))) tNil)))))
def f_Poly_sub (cs : List Str) : FS :=
  (fSeq (fSet 2 (fCall0 (fCoefs cs) [] (fCons (fVar 1) fNil)))
  (fSeq (fIfS (fB (fOp oIsN (fVar 2) (fC .non))) fNev fNext)
  (fRet (fCall0 (fMkPoly cs) [] (fCons (fCall0 fAdded [] (fCons (fFld "Poly" "coefficients" (fVar 0)) (fCons (fLc (fItL (fVar 2)) (fName 3) fYes (fUn (oNegO "Ratio" (fR1 fun a => -a)) (fVar 3)) [3]) fNil))) fNil)))))
theorem s_Poly_sub {K : PySem.W.Frag} {cs : List Str} (T : KF K cs) (hRatio : ("Ratio" : Str) ∈ cs) (hPoly : ("Poly" : Str) ∈ cs) : SS K [] [] [] [] (fun _ => E0) (tt_Poly_sub K cs) (f_Poly_sub cs) :=
  (ss_seq (ow1 := []) (ss_set (by decide) (by decide) (se_call0 Lift.refl cst_nil (sa_cons (se_var (by decide)) sa_nil)))
  (ss_seq (ow1 := []) (ss_if (by decide) (st_test (se_op (fun _ => os_isN) (se_var (by decide)) se_non)) ss_nev (ss_next (by decide)))
  (ss_ret (by decide) (se_make0 mkl_lift cst_nil (sa_cons (se_call0 Lift.refl cst_nil (sa_cons (se_fld (T.fld _ hPoly _ (by decide)) (se_var (by decide))) (sa_cons (SF.se (sf_lc (by decide) (by decide) (si_list (se_var (by decide))) (sg_name (by decide)) st_yes (se_un (fun _ => (us_negO Lift.refl)) (se_var (by decide))))) sa_nil))) sa_nil)))))
def tt_Poly_rsub (K : PySem.W.Frag) (cs : List Str) : TS :=
  (tSeq (tAsg (tCall (lift K (fCoefs cs)) [] E0 (tCons (tVar 1) tNil)) (gName 2))
  (tSeq (tIfS (tTest (tOp rIsN0 (tVar 2) (tC .non))) tNever tNext)
  (tRet (tMake (He.ga K "Poly") (liftI K "Poly" (fMkPoly cs)) [] E0 (tCons (tCall (lift K fAdded) [] E0 (tCons (tVar 2) (tCons (tLc (iTup K (tFld K (tVar 0) "coefficients")) (gName 3) tYes (tUn (rNegO (He.ga K "Ratio") (lift K (fR1 fun a => -a)) E0) (tVar 3)) [3]) tNil))) tNil)))))
def f_Poly_rsub (cs : List Str) : FS :=
  (fSeq (fSet 2 (fCall0 (fCoefs cs) [] (fCons (fVar 1) fNil)))
  (fSeq (fIfS (fB (fOp oIsN (fVar 2) (fC .non))) fNev fNext)
  (fRet (fCall0 (fMkPoly cs) [] (fCons (fCall0 fAdded [] (fCons (fVar 2) (fCons (fLc (fItT (fFld "Poly" "coefficients" (fVar 0))) (fName 3) fYes (fUn (oNegO "Ratio" (fR1 fun a => -a)) (fVar 3)) [3]) fNil))) fNil)))))
theorem s_Poly_rsub {K : PySem.W.Frag} {cs : List Str} (T : KF K cs) (hRatio : ("Ratio" : Str) ∈ cs) (hPoly : ("Poly" : Str) ∈ cs) : SS K [] [] [] [] (fun _ => E0) (tt_Poly_rsub K cs) (f_Poly_rsub cs) :=
  (ss_seq (ow1 := []) (ss_set (by decide) (by decide) (se_call0 Lift.refl cst_nil (sa_cons (se_var (by decide)) sa_nil)))
  (ss_seq (ow1 := []) (ss_if (by decide) (st_test (se_op (fun _ => os_isN) (se_var (by decide)) se_non)) ss_nev (ss_next (by decide)))
  (ss_ret (by decide) (se_make0 mkl_lift cst_nil (sa_cons (se_call0 Lift.refl cst_nil (sa_cons (se_var (by decide)) (sa_cons (SF.se (sf_lc (by decide) (by decide) (si_tup (se_fld (T.fld _ hPoly _ (by decide)) (se_var (by decide)))) (sg_name (by decide)) st_yes (se_un (fun _ => (us_negO Lift.refl)) (se_var (by decide))))) sa_nil))) sa_nil)))))
def tt_Poly_mul (K : PySem.W.Frag) (cs : List Str) : TS :=
  (tSeq (tAsg (tCall (lift K (fCoefs cs)) [] E0 (tCons (tVar 1) tNil)) (gName 2))
  (tSeq (tIfS (tTest (tOp rIsN0 (tVar 2) (tC .non))) tNever tNext)
  (tRet (tMake (He.ga K "Poly") (liftI K "Poly" (fMkPoly cs)) [] E0 (tCons (tCall (lift K fMulted) [] E0 (tCons (tFld K (tVar 0) "coefficients") (tCons (tVar 2) tNil))) tNil)))))
def f_Poly_mul (cs : List Str) : FS :=
  (fSeq (fSet 2 (fCall0 (fCoefs cs) [] (fCons (fVar 1) fNil)))
  (fSeq (fIfS (fB (fOp oIsN (fVar 2) (fC .non))) fNev fNext)
  (fRet (fCall0 (fMkPoly cs) [] (fCons (fCall0 fMulted [] (fCons (fFld "Poly" "coefficients" (fVar 0)) (fCons (fVar 2) fNil))) fNil)))))
theorem s_Poly_mul {K : PySem.W.Frag} {cs : List Str} (T : KF K cs) (hRatio : ("Ratio" : Str) ∈ cs) (hPoly : ("Poly" : Str) ∈ cs) : SS K [] [] [] [] (fun _ => E0) (tt_Poly_mul K cs) (f_Poly_mul cs) :=
  (ss_seq (ow1 := []) (ss_set (by decide) (by decide) (se_call0 Lift.refl cst_nil (sa_cons (se_var (by decide)) sa_nil)))
  (ss_seq (ow1 := []) (ss_if (by decide) (st_test (se_op (fun _ => os_isN) (se_var (by decide)) se_non)) ss_nev (ss_next (by decide)))
  (ss_ret (by decide) (se_make0 mkl_lift cst_nil (sa_cons (se_call0 Lift.refl cst_nil (sa_cons (se_fld (T.fld _ hPoly _ (by decide)) (se_var (by decide))) (sa_cons (se_var (by decide)) sa_nil))) sa_nil)))))
def tt_Poly_rmul (K : PySem.W.Frag) (cs : List Str) : TS :=
  (tSeq (tAsg (tCall (lift K (fCoefs cs)) [] E0 (tCons (tVar 1) tNil)) (gName 2))
  (tSeq (tIfS (tTest (tOp rIsN0 (tVar 2) (tC .non))) tNever tNext)
  (tRet (tMake (He.ga K "Poly") (liftI K "Poly" (fMkPoly cs)) [] E0 (tCons (tCall (lift K fMulted) [] E0 (tCons (tVar 2) (tCons (tFld K (tVar 0) "coefficients") tNil))) tNil)))))
def f_Poly_rmul (cs : List Str) : FS :=
  (fSeq (fSet 2 (fCall0 (fCoefs cs) [] (fCons (fVar 1) fNil)))
  (fSeq (fIfS (fB (fOp oIsN (fVar 2) (fC .non))) fNev fNext)
  (fRet (fCall0 (fMkPoly cs) [] (fCons (fCall0 fMulted [] (fCons (fVar 2) (fCons (fFld "Poly" "coefficients" (fVar 0)) fNil))) fNil)))))
theorem s_Poly_rmul {K : PySem.W.Frag} {cs : List Str} (T : KF K cs) (hRatio : ("Ratio" : Str) ∈ cs) (hPoly : ("Poly" : Str) ∈ cs) : SS K [] [] [] [] (fun _ => E0) (tt_Poly_rmul K cs) (f_Poly_rmul cs) :=
  (ss_seq (ow1 := []) (ss_set (by decide) (by decide) (se_call0 Lift.refl cst_nil (sa_cons (se_var (by decide)) sa_nil)))
  (ss_seq (ow1 := []) (ss_if (by decide) (st_test (se_op (fun _ => os_isN) (se_var (by decide)) se_non)) ss_nev (ss_next (by decide)))
  (ss_ret (by decide) (se_make0 mkl_lift cst_nil (sa_cons (se_call0 Lift.refl cst_nil (sa_cons (se_var (by decide)) (sa_cons (se_fld (T.fld _ hPoly _ (by decide)) (se_var (by decide))) sa_nil))) sa_nil)))))
def tt_Poly_neg (K : PySem.W.Frag) (cs : List Str) : TS :=
  (tRet (tMake (He.ga K "Poly") (liftI K "Poly" (fMkPoly cs)) [] E0 (tCons (tLc (iTup K (tFld K (tVar 0) "coefficients")) (gName 1) tYes (tUn (rNegO (He.ga K "Ratio") (lift K (fR1 fun a => -a)) E0) (tVar 1)) [1]) tNil)))
def f_Poly_neg (cs : List Str) : FS :=
  (fRet (fCall0 (fMkPoly cs) [] (fCons (fLc (fItT (fFld "Poly" "coefficients" (fVar 0))) (fName 1) fYes (fUn (oNegO "Ratio" (fR1 fun a => -a)) (fVar 1)) [1]) fNil)))
theorem s_Poly_neg {K : PySem.W.Frag} {cs : List Str} (T : KF K cs) (hRatio : ("Ratio" : Str) ∈ cs) (hPoly : ("Poly" : Str) ∈ cs) : SS K [] [] [] [] (fun _ => E0) (tt_Poly_neg K cs) (f_Poly_neg cs) :=
  (ss_ret (by decide) (se_make0 mkl_lift cst_nil (sa_cons (SF.se (sf_lc (by decide) (by decide) (si_tup (se_fld (T.fld _ hPoly _ (by decide)) (se_var (by decide)))) (sg_name (by decide)) st_yes (se_un (fun _ => (us_negO Lift.refl)) (se_var (by decide))))) sa_nil)))
def tt_Poly_init_pre (K : PySem.W.Frag) (cs : List Str) (E : XK) : TS :=
  (tSeq (tIfS (tNot (tB (tCB (rIsiT K) (tCons (tVar 1) (tCons (tTup (tCons (tC (.ty "list")) (tCons (tC (.ty "tuple")) tNil))) tNil))))) (tRaise0 (He.ga K "NoPoly") (fun cls d _ H => E cls d H)) tNext)
  (tSeq (tFor (iSeq K (tVar 1)) (gName 2) (tIfS (tNot (tB (tCall (lift K (fIsNum cs)) [] E0 (tCons (tVar 2) tNil)))) (tRaise0 (He.ga K "NoPoly") (fun cls d _ H => E cls d H)) tNext))
  (tAsg (tCall (lift K fStrip) [] E0 (tCons (tLc (iSeq K (tVar 1)) (gName 2) tYes (tCall (lift K (fAsRat cs)) [] E0 (tCons (tVar 2) (tCons (tC (.str "coefficient")) tNil))) [2]) tNil)) (gName 3))))
def f_Poly_init_pre (cs : List Str) : FS :=
  (fSeq (fIfS (fNot (fB (fIsLT cs (fVar 1)))) (fRaise0 "NoPoly") fNext)
  (fSeq (fFor (fIt (fVar 1)) (fName 2) (fIfS (fNot (fB (fCall0 (fIsNum cs) [] (fCons (fVar 2) fNil)))) (fRaise0 "NoPoly") fNext))
  (fSet 3 (fCall0 fStrip [] (fCons (fLc (fIt (fVar 1)) (fName 2) fYes (fCall0 (fAsRat cs) [] (fCons (fVar 2) (fCons (fC (.str "coefficient")) fNil))) [2]) fNil)))))
theorem s_Poly_init_pre {K : PySem.W.Frag} {cs : List Str} (T : KF K cs) (hRatio : ("Ratio" : Str) ∈ cs) (hPoly : ("Poly" : Str) ∈ cs) (E : XK) : SS K [] [] [] [] (fun _ => E) (tt_Poly_init_pre K cs E) (f_Poly_init_pre cs) :=
  (ss_seq (ow1 := []) (ss_if (by decide) (st_not (st_b (se_isLT T.toKT (se_var (by decide))))) (ss_raise0 (by decide)) (ss_next (by decide)))
  (ss_seq (ow1 := []) (ss_for (by decide) (si_seq (se_var (by decide))) (sg_name (by decide)) (ss_if (by decide) (st_not (st_b (se_call0 Lift.refl cst_nil (sa_cons (se_var (by decide)) sa_nil)))) (ss_raise0 (by decide)) (ss_next (by decide))))
  (ss_set (by decide) (by decide) (se_call0 Lift.refl cst_nil (sa_cons (SF.se (sf_lc (by decide) (by decide) (si_seq (se_var (by decide))) (sg_name (by decide)) st_yes (se_call0 Lift.refl cst_nil (sa_cons (se_var (by decide)) (sa_cons se_str sa_nil))))) sa_nil)))))
def tt_Poly_init_coefficients (K : PySem.W.Frag) (cs : List Str) (E : XK) : TE :=
  (tCB (rTupOf0 K) (tCons (tVar 3) tNil))
def f_Poly_init_coefficients (cs : List Str) : FE :=
  (fLs oTuple (fCons (fVar 3) fNil))
theorem s_Poly_init_coefficients {K : PySem.W.Frag} {cs : List Str} (T : KF K cs) (hRatio : ("Ratio" : Str) ∈ cs) (hPoly : ("Poly" : Str) ∈ cs) (E : XK) : SE K [] (fun _ => E) (tt_Poly_init_coefficients K cs E) (f_Poly_init_coefficients cs) :=
  (se_cb (fun _ => ls_tuple) (sa_cons (se_var (by decide)) sa_nil))
def tt_Poly_init_degree (K : PySem.W.Frag) (cs : List Str) (E : XK) : TE :=
  (tOp rSub0 (tCB (rLenA K) (tCons (tVar 3) tNil)) (tC (.int 1)))
def f_Poly_init_degree (cs : List Str) : FE :=
  (fOp oSub (fLs oLen (fCons (fVar 3) fNil)) (fC (.int 1)))
theorem s_Poly_init_degree {K : PySem.W.Frag} {cs : List Str} (T : KF K cs) (hRatio : ("Ratio" : Str) ∈ cs) (hPoly : ("Poly" : Str) ∈ cs) (E : XK) : SE K [] (fun _ => E) (tt_Poly_init_degree K cs E) (f_Poly_init_degree cs) :=
  (se_op (fun _ => os_sub) (se_cb (fun _ => ls_len) (sa_cons (se_var (by decide)) sa_nil)) se_int)
def tt_Poly_init_lead (K : PySem.W.Frag) (cs : List Str) (E : XK) : TE :=
  (tIf (tTruA K (tVar 3)) (tOp (rIxL K) (tVar 3) (tUn rNeg0 (tC (.int 1)))) (tMake (He.ga K "Ratio") (spRInit K) [.int 1] E (tCons (tC (.int 0)) tNil)))
def f_Poly_init_lead (cs : List Str) : FE :=
  (fIf (fTru (fVar 3)) (fOp oIxL (fVar 3) (fUn oNeg (fC (.int 1)))) (fCall fMkR [.int 1] (fCons (fC (.int 0)) fNil)))
theorem s_Poly_init_lead {K : PySem.W.Frag} {cs : List Str} (T : KF K cs) (hRatio : ("Ratio" : Str) ∈ cs) (hPoly : ("Poly" : Str) ∈ cs) (E : XK) : SE K [] (fun _ => E) (tt_Poly_init_lead K cs E) (f_Poly_init_lead cs) :=
  (se_if (st_tru (se_var (by decide))) (se_op (fun _ => os_ixL) (se_var (by decide)) (se_un (fun _ => us_neg) se_int)) (se_make mkl_R (cst_int cst_nil) (sa_cons se_int sa_nil)))
def tt_Poly_init (K : PySem.W.Frag) (cs : List Str) (E : XK) : TS :=
  (tSeq (tIfS (tNot (tB (tCB (rIsiT K) (tCons (tVar 1) (tCons (tTup (tCons (tC (.ty "list")) (tCons (tC (.ty "tuple")) tNil))) tNil))))) (tRaise0 (He.ga K "NoPoly") (fun cls d _ H => E cls d H)) tNext)
  (tSeq (tFor (iSeq K (tVar 1)) (gName 2) (tIfS (tNot (tB (tCall (lift K (fIsNum cs)) [] E0 (tCons (tVar 2) tNil)))) (tRaise0 (He.ga K "NoPoly") (fun cls d _ H => E cls d H)) tNext))
  (tSeq (tAsg (tCall (lift K fStrip) [] E0 (tCons (tLc (iSeq K (tVar 1)) (gName 2) tYes (tCall (lift K (fAsRat cs)) [] E0 (tCons (tVar 2) (tCons (tC (.str "coefficient")) tNil))) [2]) tNil)) (gName 3))
  (tSeq (sFld K (tVar 0) (tCB (rTupOf0 K) (tCons (tVar 3) tNil)) "coefficients")
  (tSeq (sFld K (tVar 0) (tOp rSub0 (tCB (rLenA K) (tCons (tVar 3) tNil)) (tC (.int 1))) "degree")
  (sFld K (tVar 0) (tIf (tTruA K (tVar 3)) (tOp (rIxL K) (tVar 3) (tUn rNeg0 (tC (.int 1)))) (tMake (He.ga K "Ratio") (spRInit K) [.int 1] E (tCons (tC (.int 0)) tNil))) "lead"))))))
theorem small_line {n : Nat} (h : n ≤ 100000) : n < sizeLine := by
  have : sizeLine = 2 ^ 24 := rfl
  omega
/-- Ratio + Ratio -/
theorem fR2_rat {f : Rat → Rat → Rat} {a b : Rat} {P : D → Prop} {X : XP} : fR2 f [.rat a, .rat b] P X ↔ (SzOk a b ∧ P (.rat (f a b))) := Iff.rfl
theorem fR2_int {f : Rat → Rat → Rat} {a : Rat} {n : Int} {P : D → Prop} {X : XP} : fR2 f [.rat a, .int n] P X ↔ (SzOk a n ∧ P (.rat (f a n))) := Iff.rfl
theorem fRI_int {f : Rat → Rat → Rat} {a : Rat} {n : Int} {P : D → Prop} {X : XP} : fRI f [.rat a, .int n] P X ↔ (SzOk a n ∧ P (.rat (f a n))) := Iff.rfl
theorem fR1_rat {f : Rat → Rat} {a : Rat} {P : D → Prop} {X : XP} : fR1 f [.rat a] P X ↔ ((∃ n, Sz n a ∧ n ≤ 9000) ∧ P (.rat (f a))) := Iff.rfl
theorem fRB_rat {f : Rat → Rat → Bool} {a b : Rat} {P : D → Prop} {X : XP} : fRB f [.rat a, .rat b] P X ↔ (SzOk a b ∧ P (.bl (f a b))) := Iff.rfl
theorem fRB_int {f : Rat → Rat → Bool} {a : Rat} {n : Int} {P : D → Prop} {X : XP} : fRB f [.rat a, .int n] P X ↔ (SzOk a n ∧ P (.bl (f a n))) := Iff.rfl
theorem added_loop {d1 d2 : D} {cs es : List Rat} {n m : Nat} {FD : FEnds} {body : FS} (h1 : itD d1 = some (ratL cs)) (h2 : itD d2 = some (ratL es)) (l1 : cs.length ≤ 1000) (l2 : es.length ≤ 1000) (z1 : SzL n cs) (z2 : SzL m es) (n0 : 0 < n) (m0 : 0 < m) (hs : n + m ≤ 9000)
    (hb : body = fSeq (fSet 4 (fIf (fB (fOp oLt (fVar 3) (fLs oLen (fCons (fVar 0) fNil)))) (fOp oIx (fVar 0) (fVar 3)) (fCall0 fMkR [.int 1] (fCons (fC (.int 0)) fNil))))
      (fSeq (fIfS (fB (fOp oLt (fVar 3) (fLs oLen (fCons (fVar 1) fNil)))) (fSet 4 (fOp (oOwn0 "Ratio" (fR2 fun a b => a + b)) (fVar 4) (fOp oIx (fVar 1) (fVar 3)))) fNext) (fApp 2 (fVar 4))))
    (k : ∀ v3 v4, FD.nx [some d1, some d2, some (.lst (ratL (addL cs es))), v3, v4]) :
    ∀ (r i : Nat) (v3 v4 : Option D), i + r = max cs.length es.length → forGo (fName 3) body FD (rngD (i : Nat) r) [some d1, some d2, some (.lst (ratL ((List.range i).map fun j => coef cs j + coef es j))), v3, v4]
  | 0, i, v3, v4, hi => by
    have : i = max cs.length es.length := by omega
    subst this
    exact k v3 v4
  | r + 1, i, v3, v4, hi => by
    have ih := added_loop h1 h2 l1 l2 z1 z2 n0 m0 hs hb k r (i + 1)
    rw [rng_cons]
    unfold forGo
    have fin : ∀ q, q = coef cs i + coef es i → ∀ v3 : Option D, (List.range i).length < sizeLine ∧ forGo (fName 3) body FD (rngD ((i : Int) + 1) r) [some d1, some d2, some (.lst (ratL ((List.range i).map fun j => coef cs j + coef es j) ++ [.rat q])), v3, some (.rat q)] := fun q hq v3 => by
      refine ⟨by rw [List.length_range]; exact small_line (by omega), ?_⟩
      have e := ih v3 (some (.rat q)) (by omega)
      have e2 : ratL ((List.range (i + 1)).map fun j => coef cs j + coef es j) = ratL ((List.range i).map fun j => coef cs j + coef es j) ++ [.rat q] := by
        unfold ratL
        rw [List.range_succ, List.map_append, List.map_append, hq]
        rfl
      rw [e2] at e
      exact e
    have dl : ∀ xs : List Rat, (i < xs.length → decide ((i : Int) < ((ratL xs).length : Nat)) = true) ∧ (¬ i < xs.length → decide ((i : Int) < ((ratL xs).length : Nat)) = false) := fun xs => by
      rw [ratL_len]
      exact ⟨fun h => decide_eq_true (by omega), fun h => decide_eq_false (by omega)⟩
    have zz : ∀ j, SzOk (coef cs j) (coef es j) := fun j => ⟨n, m, z1.coef n0 j, z2.coef m0 j, hs⟩
    have c0 : ¬ i < cs.length → coef cs i = 0 := fun h => coef_ge (by omega)
    have e0 : ¬ i < es.length → coef es i = 0 := fun h => coef_ge (by omega)
    rw [hb]
    by_cases a : i < cs.length
    · by_cases b : i < es.length
      · simp only [fSeq, fIfS, fB, fIsi, fVar, fC, fOp, fUn, fLs, fRet, fRetN, fCall, fCall0, fCons, fNil, fNext, fNev, fFld, fSet, fOwn, fDrop, fAsg, fPar, fNot, fAnd, fOr, fAndV, fOrV, fNotV, fIf, fTru, fLst, fTup, fMeth, fMeth0, fName, fRaise, fRaise0, fBr, fBor, fApp, fSetI, fAug, fChain, fYes, fSl, fNoPart, fPart, fItL, fItT, fIt, fIsLT, fBrk, fCnt, topE, startD, toB, oI, oI0, oNeg, oAbs, oMax, oMin, oInt, oLen_lst, oLen_tup, oList, oTuple, oCat, oIsB, oNotB, oEq, oNe, eqD, oIsN, oNotN, isN, own_rr, own_ri, own_pp, own_pi, rfl_ir, rfl_ip, neg_r, neg_p, abs_r, tru_lst, tru_tup, tru_int, tru_bl, tru_non, tupG2, tupG4, lstEx, tupEx, lstIs, tupIs, intEx, lst1Ex, lst2Ex, int1Ex, int2Ex, en1Ex, setEx, it_lst, it_tup, oIxL, oIxT, InsD, List.map_cons, List.map_nil, List.cons_append, List.nil_append, List.length_cons, List.length_nil, List.getElem?_cons_zero, List.getElem?_cons_succ, List.set_cons_zero, List.set_cons_succ, List.replicate_succ, List.replicate_zero, Option.some.injEq, exists_eq_left', clsD_rat, clsD_poly, if_true, if_false, List.append_nil, true_and, and_true, true_or, or_true, Bool.false_eq_true, Bool.true_eq_false, reduceCtorEq, Nat.add_one_sub_one, Nat.reduceSub, Nat.reduceAdd, Nat.sub_self, Nat.zero_add, Nat.add_sub_cancel, oLen_it h1, oLen_it h2, (dl cs).1 a, (dl es).1 b]
        refine ix_it h1 (ratL_get a) ?_
        refine ix_it h2 (ratL_get b) ?_
        simp only [fSeq, fIfS, fB, fIsi, fVar, fC, fOp, fUn, fLs, fRet, fRetN, fCall, fCall0, fCons, fNil, fNext, fNev, fFld, fSet, fOwn, fDrop, fAsg, fPar, fNot, fAnd, fOr, fAndV, fOrV, fNotV, fIf, fTru, fLst, fTup, fMeth, fMeth0, fName, fRaise, fRaise0, fBr, fBor, fApp, fSetI, fAug, fChain, fYes, fSl, fNoPart, fPart, fItL, fItT, fIt, fIsLT, fBrk, fCnt, topE, startD, toB, oI, oI0, oNeg, oAbs, oMax, oMin, oInt, oLen_lst, oLen_tup, oList, oTuple, oCat, oIsB, oNotB, oEq, oNe, eqD, oIsN, oNotN, isN, own_rr, own_ri, own_pp, own_pi, rfl_ir, rfl_ip, neg_r, neg_p, abs_r, tru_lst, tru_tup, tru_int, tru_bl, tru_non, tupG2, tupG4, lstEx, tupEx, lstIs, tupIs, intEx, lst1Ex, lst2Ex, int1Ex, int2Ex, en1Ex, setEx, it_lst, it_tup, oIxL, oIxT, InsD, List.map_cons, List.map_nil, List.cons_append, List.nil_append, List.length_cons, List.length_nil, List.getElem?_cons_zero, List.getElem?_cons_succ, List.set_cons_zero, List.set_cons_succ, List.replicate_succ, List.replicate_zero, Option.some.injEq, exists_eq_left', clsD_rat, clsD_poly, if_true, if_false, List.append_nil, true_and, and_true, true_or, or_true, Bool.false_eq_true, Bool.true_eq_false, reduceCtorEq, Nat.add_one_sub_one, Nat.reduceSub, Nat.reduceAdd, Nat.sub_self, Nat.zero_add, Nat.add_sub_cancel, fR2_rat]
        rw [← hb]
        exact ⟨zz i, by rw [ratL_len, List.length_map]; exact (fin _ rfl none).1, (fin _ rfl _).2⟩
      · simp only [fSeq, fIfS, fB, fIsi, fVar, fC, fOp, fUn, fLs, fRet, fRetN, fCall, fCall0, fCons, fNil, fNext, fNev, fFld, fSet, fOwn, fDrop, fAsg, fPar, fNot, fAnd, fOr, fAndV, fOrV, fNotV, fIf, fTru, fLst, fTup, fMeth, fMeth0, fName, fRaise, fRaise0, fBr, fBor, fApp, fSetI, fAug, fChain, fYes, fSl, fNoPart, fPart, fItL, fItT, fIt, fIsLT, fBrk, fCnt, topE, startD, toB, oI, oI0, oNeg, oAbs, oMax, oMin, oInt, oLen_lst, oLen_tup, oList, oTuple, oCat, oIsB, oNotB, oEq, oNe, eqD, oIsN, oNotN, isN, own_rr, own_ri, own_pp, own_pi, rfl_ir, rfl_ip, neg_r, neg_p, abs_r, tru_lst, tru_tup, tru_int, tru_bl, tru_non, tupG2, tupG4, lstEx, tupEx, lstIs, tupIs, intEx, lst1Ex, lst2Ex, int1Ex, int2Ex, en1Ex, setEx, it_lst, it_tup, oIxL, oIxT, InsD, List.map_cons, List.map_nil, List.cons_append, List.nil_append, List.length_cons, List.length_nil, List.getElem?_cons_zero, List.getElem?_cons_succ, List.set_cons_zero, List.set_cons_succ, List.replicate_succ, List.replicate_zero, Option.some.injEq, exists_eq_left', clsD_rat, clsD_poly, if_true, if_false, List.append_nil, true_and, and_true, true_or, or_true, Bool.false_eq_true, Bool.true_eq_false, reduceCtorEq, Nat.add_one_sub_one, Nat.reduceSub, Nat.reduceAdd, Nat.sub_self, Nat.zero_add, Nat.add_sub_cancel, oLen_it h1, oLen_it h2, (dl cs).1 a, (dl es).2 b]
        refine ix_it h1 (ratL_get a) ?_
        rw [← hb]
        have f := fin (coef cs i) (by rw [e0 b, Rat.add_zero])
        exact ⟨by rw [ratL_len, List.length_map]; exact (f none).1, (f _).2⟩
    · have b : i < es.length := by omega
      simp only [fSeq, fIfS, fB, fIsi, fVar, fC, fOp, fUn, fLs, fRet, fRetN, fCall, fCall0, fCons, fNil, fNext, fNev, fFld, fSet, fOwn, fDrop, fAsg, fPar, fNot, fAnd, fOr, fAndV, fOrV, fNotV, fIf, fTru, fLst, fTup, fMeth, fMeth0, fName, fRaise, fRaise0, fBr, fBor, fApp, fSetI, fAug, fChain, fYes, fSl, fNoPart, fPart, fItL, fItT, fIt, fIsLT, fBrk, fCnt, topE, startD, toB, oI, oI0, oNeg, oAbs, oMax, oMin, oInt, oLen_lst, oLen_tup, oList, oTuple, oCat, oIsB, oNotB, oEq, oNe, eqD, oIsN, oNotN, isN, own_rr, own_ri, own_pp, own_pi, rfl_ir, rfl_ip, neg_r, neg_p, abs_r, tru_lst, tru_tup, tru_int, tru_bl, tru_non, tupG2, tupG4, lstEx, tupEx, lstIs, tupIs, intEx, lst1Ex, lst2Ex, int1Ex, int2Ex, en1Ex, setEx, it_lst, it_tup, oIxL, oIxT, InsD, List.map_cons, List.map_nil, List.cons_append, List.nil_append, List.length_cons, List.length_nil, List.getElem?_cons_zero, List.getElem?_cons_succ, List.set_cons_zero, List.set_cons_succ, List.replicate_succ, List.replicate_zero, Option.some.injEq, exists_eq_left', clsD_rat, clsD_poly, if_true, if_false, List.append_nil, true_and, and_true, true_or, or_true, Bool.false_eq_true, Bool.true_eq_false, reduceCtorEq, Nat.add_one_sub_one, Nat.reduceSub, Nat.reduceAdd, Nat.sub_self, Nat.zero_add, Nat.add_sub_cancel, oLen_it h1, oLen_it h2, (dl cs).2 a, (dl es).1 b, mk_int, Rat.intCast_zero]
      refine ix_it h2 (ratL_get b) ?_
      simp only [fSeq, fIfS, fB, fIsi, fVar, fC, fOp, fUn, fLs, fRet, fRetN, fCall, fCall0, fCons, fNil, fNext, fNev, fFld, fSet, fOwn, fDrop, fAsg, fPar, fNot, fAnd, fOr, fAndV, fOrV, fNotV, fIf, fTru, fLst, fTup, fMeth, fMeth0, fName, fRaise, fRaise0, fBr, fBor, fApp, fSetI, fAug, fChain, fYes, fSl, fNoPart, fPart, fItL, fItT, fIt, fIsLT, fBrk, fCnt, topE, startD, toB, oI, oI0, oNeg, oAbs, oMax, oMin, oInt, oLen_lst, oLen_tup, oList, oTuple, oCat, oIsB, oNotB, oEq, oNe, eqD, oIsN, oNotN, isN, own_rr, own_ri, own_pp, own_pi, rfl_ir, rfl_ip, neg_r, neg_p, abs_r, tru_lst, tru_tup, tru_int, tru_bl, tru_non, tupG2, tupG4, lstEx, tupEx, lstIs, tupIs, intEx, lst1Ex, lst2Ex, int1Ex, int2Ex, en1Ex, setEx, it_lst, it_tup, oIxL, oIxT, InsD, List.map_cons, List.map_nil, List.cons_append, List.nil_append, List.length_cons, List.length_nil, List.getElem?_cons_zero, List.getElem?_cons_succ, List.set_cons_zero, List.set_cons_succ, List.replicate_succ, List.replicate_zero, Option.some.injEq, exists_eq_left', clsD_rat, clsD_poly, if_true, if_false, List.append_nil, true_and, and_true, true_or, or_true, Bool.false_eq_true, Bool.true_eq_false, reduceCtorEq, Nat.add_one_sub_one, Nat.reduceSub, Nat.reduceAdd, Nat.sub_self, Nat.zero_add, Nat.add_sub_cancel, fR2_rat]
      rw [← hb]
      have f := fin (0 + coef es i) (by rw [c0 a])
      have zi := zz i
      rw [c0 a] at zi
      exact ⟨zi, by rw [ratL_len, List.length_map]; exact (f none).1, (f _).2⟩
theorem p_added {cs : List Str} (hR : ("Ratio" : Str) ∈ cs) (hP : ("Poly" : Str) ∈ cs) (ds : List D) (P : D → Prop) (X : XP) (h : fAdded ds P X) : f_added cs (topE P X0) (startD 5 ds) := by
  obtain ⟨d1, d2, xs, es, n, m, rfl, h1, h2, z1, z2, n0, m0, hs, l1, l2, p⟩ := h
  simp only [fSeq, fIfS, fB, fIsi, fVar, fC, fOp, fUn, fLs, fRet, fRetN, fCall, fCall0, fCons, fNil, fNext, fNev, fFld, fSet, fOwn, fDrop, fAsg, fPar, fNot, fAnd, fOr, fAndV, fOrV, fNotV, fIf, fTru, fLst, fTup, fMeth, fMeth0, fName, fRaise, fRaise0, fBr, fBor, fApp, fSetI, fAug, fChain, fYes, fSl, fNoPart, fPart, fItL, fItT, fIt, fIsLT, fBrk, fCnt, topE, startD, toB, oI, oI0, oNeg, oAbs, oMax, oMin, oInt, oLen_lst, oLen_tup, oList, oTuple, oCat, oIsB, oNotB, oEq, oNe, eqD, oIsN, oNotN, isN, own_rr, own_ri, own_pp, own_pi, rfl_ir, rfl_ip, neg_r, neg_p, abs_r, tru_lst, tru_tup, tru_int, tru_bl, tru_non, tupG2, tupG4, lstEx, tupEx, lstIs, tupIs, intEx, lst1Ex, lst2Ex, int1Ex, int2Ex, en1Ex, setEx, it_lst, it_tup, oIxL, oIxT, InsD, List.map_cons, List.map_nil, List.cons_append, List.nil_append, List.length_cons, List.length_nil, List.getElem?_cons_zero, List.getElem?_cons_succ, List.set_cons_zero, List.set_cons_succ, List.replicate_succ, List.replicate_zero, Option.some.injEq, exists_eq_left', clsD_rat, clsD_poly, if_true, if_false, List.append_nil, true_and, and_true, true_or, or_true, Bool.false_eq_true, Bool.true_eq_false, reduceCtorEq, Nat.add_one_sub_one, Nat.reduceSub, Nat.reduceAdd, Nat.sub_self, Nat.zero_add, Nat.add_sub_cancel, f_added, fFor, fRng1, oLen_it h1, oLen_it h2, ratL_len]
  refine ⟨by decide, by decide, by omega, by omega, ?_⟩
  have e : (max (xs.length : Int) (es.length : Int)).toNat = max xs.length es.length := by omega
  rw [e]
  refine added_loop (n := n) (m := m) h1 h2 l1 l2 z1 z2 n0 m0 hs rfl (fun v3 v4 => ?_) _ 0 none none (by omega)
  simp only [fSeq, fIfS, fB, fIsi, fVar, fC, fOp, fUn, fLs, fRet, fRetN, fCall, fCall0, fCons, fNil, fNext, fNev, fFld, fSet, fOwn, fDrop, fAsg, fPar, fNot, fAnd, fOr, fAndV, fOrV, fNotV, fIf, fTru, fLst, fTup, fMeth, fMeth0, fName, fRaise, fRaise0, fBr, fBor, fApp, fSetI, fAug, fChain, fYes, fSl, fNoPart, fPart, fItL, fItT, fIt, fIsLT, fBrk, fCnt, topE, startD, toB, oI, oI0, oNeg, oAbs, oMax, oMin, oInt, oLen_lst, oLen_tup, oList, oTuple, oCat, oIsB, oNotB, oEq, oNe, eqD, oIsN, oNotN, isN, own_rr, own_ri, own_pp, own_pi, rfl_ir, rfl_ip, neg_r, neg_p, abs_r, tru_lst, tru_tup, tru_int, tru_bl, tru_non, tupG2, tupG4, lstEx, tupEx, lstIs, tupIs, intEx, lst1Ex, lst2Ex, int1Ex, int2Ex, en1Ex, setEx, it_lst, it_tup, oIxL, oIxT, InsD, List.map_cons, List.map_nil, List.cons_append, List.nil_append, List.length_cons, List.length_nil, List.getElem?_cons_zero, List.getElem?_cons_succ, List.set_cons_zero, List.set_cons_succ, List.replicate_succ, List.replicate_zero, Option.some.injEq, exists_eq_left', clsD_rat, clsD_poly, if_true, if_false, List.append_nil, true_and, and_true, true_or, or_true, Bool.false_eq_true, Bool.true_eq_false, reduceCtorEq, Nat.add_one_sub_one, Nat.reduceSub, Nat.reduceAdd, Nat.sub_self, Nat.zero_add, Nat.add_sub_cancel]
  exact p
theorem num_zero_iff (q : Rat) : q.num = 0 ↔ q = 0 := Rat.num_eq_zero
theorem ixL_rat {cs : List Rat} {k : Nat} {P : D → Prop} {X : XP} (h : k < cs.length) (p : P (.rat (coef cs k))) : oIx (.lst (ratL cs)) (.int (k : Nat)) P X := ix_it rfl (ratL_get h) p
theorem cut_take {α : Type} (xs : List α) (k : Nat) : cutD xs none (some (k : Int)) = xs.take k := by
  unfold cutD
  rw [HT.sIx_none, HT.sIx_nat, List.drop_zero, Nat.sub_zero]
  rw [Nat.min_def]
  split
  · rfl
  · rename_i h
    rw [List.take_length, List.take_of_length_le (by omega)]
theorem ratL_take (cs : List Rat) (k : Nat) : (ratL cs).take k = ratL (cs.take k) := by
  unfold ratL
  rw [List.map_take]
theorem p_without_zeros {cs : List Str} (hR : ("Ratio" : Str) ∈ cs) (hP : ("Poly" : Str) ∈ cs) (ds : List D) (P : D → Prop) (X : XP) (h : fStrip ds P X) : f_without_zeros cs (topE P X0) (startD 2 ds) := by
  obtain ⟨xs, rfl, p⟩ := h
  simp only [fSeq, fIfS, fB, fIsi, fVar, fC, fOp, fUn, fLs, fRet, fRetN, fCall, fCall0, fCons, fNil, fNext, fNev, fFld, fSet, fOwn, fDrop, fAsg, fPar, fNot, fAnd, fOr, fAndV, fOrV, fNotV, fIf, fTru, fLst, fTup, fMeth, fMeth0, fName, fRaise, fRaise0, fBr, fBor, fApp, fSetI, fAug, fChain, fYes, fSl, fNoPart, fPart, fItL, fItT, fIt, fIsLT, fBrk, fCnt, topE, startD, toB, oI, oI0, oNeg, oAbs, oMax, oMin, oInt, oLen_lst, oLen_tup, oList, oTuple, oCat, oIsB, oNotB, oEq, oNe, eqD, oIsN, oNotN, isN, own_rr, own_ri, own_pp, own_pi, rfl_ir, rfl_ip, neg_r, neg_p, abs_r, tru_lst, tru_tup, tru_int, tru_bl, tru_non, tupG2, tupG4, lstEx, tupEx, lstIs, tupIs, intEx, lst1Ex, lst2Ex, int1Ex, int2Ex, en1Ex, setEx, it_lst, it_tup, oIxL, oIxT, InsD, List.map_cons, List.map_nil, List.cons_append, List.nil_append, List.length_cons, List.length_nil, List.getElem?_cons_zero, List.getElem?_cons_succ, List.set_cons_zero, List.set_cons_succ, List.replicate_succ, List.replicate_zero, Option.some.injEq, exists_eq_left', clsD_rat, clsD_poly, if_true, if_false, List.append_nil, true_and, and_true, true_or, or_true, Bool.false_eq_true, Bool.true_eq_false, reduceCtorEq, Nat.add_one_sub_one, Nat.reduceSub, Nat.reduceAdd, Nat.sub_self, Nat.zero_add, Nat.add_sub_cancel, f_without_zeros, fWhile, ratL_len]
  refine ⟨fun m ρ => m ≤ xs.length ∧ ρ = [some (.lst (ratL xs)), some (.int (m : Nat))] ∧ szN (coef xs) xs.length = szN (coef xs) m, ⟨xs.length, Nat.le_refl _, rfl, rfl⟩, ?_⟩
  rintro m ρ ⟨hm, rfl, hz⟩
  simp only [fSeq, fIfS, fB, fIsi, fVar, fC, fOp, fUn, fLs, fRet, fRetN, fCall, fCall0, fCons, fNil, fNext, fNev, fFld, fSet, fOwn, fDrop, fAsg, fPar, fNot, fAnd, fOr, fAndV, fOrV, fNotV, fIf, fTru, fLst, fTup, fMeth, fMeth0, fName, fRaise, fRaise0, fBr, fBor, fApp, fSetI, fAug, fChain, fYes, fSl, fNoPart, fPart, fItL, fItT, fIt, fIsLT, fBrk, fCnt, topE, startD, toB, oI, oI0, oNeg, oAbs, oMax, oMin, oInt, oLen_lst, oLen_tup, oList, oTuple, oCat, oIsB, oNotB, oEq, oNe, eqD, oIsN, oNotN, isN, own_rr, own_ri, own_pp, own_pi, rfl_ir, rfl_ip, neg_r, neg_p, abs_r, tru_lst, tru_tup, tru_int, tru_bl, tru_non, tupG2, tupG4, lstEx, tupEx, lstIs, tupIs, intEx, lst1Ex, lst2Ex, int1Ex, int2Ex, en1Ex, setEx, it_lst, it_tup, oIxL, oIxT, InsD, List.map_cons, List.map_nil, List.cons_append, List.nil_append, List.length_cons, List.length_nil, List.getElem?_cons_zero, List.getElem?_cons_succ, List.set_cons_zero, List.set_cons_succ, List.replicate_succ, List.replicate_zero, Option.some.injEq, exists_eq_left', clsD_rat, clsD_poly, if_true, if_false, List.append_nil, true_and, and_true, true_or, or_true, Bool.false_eq_true, Bool.true_eq_false, reduceCtorEq, Nat.add_one_sub_one, Nat.reduceSub, Nat.reduceAdd, Nat.sub_self, Nat.zero_add, Nat.add_sub_cancel]
  cases m with
  | zero =>
    simp only [fSeq, fIfS, fB, fIsi, fVar, fC, fOp, fUn, fLs, fRet, fRetN, fCall, fCall0, fCons, fNil, fNext, fNev, fFld, fSet, fOwn, fDrop, fAsg, fPar, fNot, fAnd, fOr, fAndV, fOrV, fNotV, fIf, fTru, fLst, fTup, fMeth, fMeth0, fName, fRaise, fRaise0, fBr, fBor, fApp, fSetI, fAug, fChain, fYes, fSl, fNoPart, fPart, fItL, fItT, fIt, fIsLT, fBrk, fCnt, topE, startD, toB, oI, oI0, oNeg, oAbs, oMax, oMin, oInt, oLen_lst, oLen_tup, oList, oTuple, oCat, oIsB, oNotB, oEq, oNe, eqD, oIsN, oNotN, isN, own_rr, own_ri, own_pp, own_pi, rfl_ir, rfl_ip, neg_r, neg_p, abs_r, tru_lst, tru_tup, tru_int, tru_bl, tru_non, tupG2, tupG4, lstEx, tupEx, lstIs, tupIs, intEx, lst1Ex, lst2Ex, int1Ex, int2Ex, en1Ex, setEx, it_lst, it_tup, oIxL, oIxT, InsD, List.map_cons, List.map_nil, List.cons_append, List.nil_append, List.length_cons, List.length_nil, List.getElem?_cons_zero, List.getElem?_cons_succ, List.set_cons_zero, List.set_cons_succ, List.replicate_succ, List.replicate_zero, Option.some.injEq, exists_eq_left', clsD_rat, clsD_poly, if_true, if_false, List.append_nil, true_and, and_true, true_or, or_true, Bool.false_eq_true, Bool.true_eq_false, reduceCtorEq, Nat.add_one_sub_one, Nat.reduceSub, Nat.reduceAdd, Nat.sub_self, Nat.zero_add, Nat.add_sub_cancel, Int.lt_irrefl, decide_false, Int.ofNat_zero, Int.natCast_zero]
    have e : cutD (ratL xs) none (some ((0 : Nat) : Int)) = ratL (strip xs) := by
      rw [cut_take, ratL_take]
      unfold strip
      rw [hz]
      rfl
    rw [show (some (0 : Int)) = some ((0 : Nat) : Int) from rfl, e]
    exact p
  | succ m =>
    have d : decide ((0 : Int) < ((m + 1 : Nat) : Int)) = true := decide_eq_true (by omega)
    simp only [fSeq, fIfS, fB, fIsi, fVar, fC, fOp, fUn, fLs, fRet, fRetN, fCall, fCall0, fCons, fNil, fNext, fNev, fFld, fSet, fOwn, fDrop, fAsg, fPar, fNot, fAnd, fOr, fAndV, fOrV, fNotV, fIf, fTru, fLst, fTup, fMeth, fMeth0, fName, fRaise, fRaise0, fBr, fBor, fApp, fSetI, fAug, fChain, fYes, fSl, fNoPart, fPart, fItL, fItT, fIt, fIsLT, fBrk, fCnt, topE, startD, toB, oI, oI0, oNeg, oAbs, oMax, oMin, oInt, oLen_lst, oLen_tup, oList, oTuple, oCat, oIsB, oNotB, oEq, oNe, eqD, oIsN, oNotN, isN, own_rr, own_ri, own_pp, own_pi, rfl_ir, rfl_ip, neg_r, neg_p, abs_r, tru_lst, tru_tup, tru_int, tru_bl, tru_non, tupG2, tupG4, lstEx, tupEx, lstIs, tupIs, intEx, lst1Ex, lst2Ex, int1Ex, int2Ex, en1Ex, setEx, it_lst, it_tup, oIxL, oIxT, InsD, List.map_cons, List.map_nil, List.cons_append, List.nil_append, List.length_cons, List.length_nil, List.getElem?_cons_zero, List.getElem?_cons_succ, List.set_cons_zero, List.set_cons_succ, List.replicate_succ, List.replicate_zero, Option.some.injEq, exists_eq_left', clsD_rat, clsD_poly, if_true, if_false, List.append_nil, true_and, and_true, true_or, or_true, Bool.false_eq_true, Bool.true_eq_false, reduceCtorEq, Nat.add_one_sub_one, Nat.reduceSub, Nat.reduceAdd, Nat.sub_self, Nat.zero_add, Nat.add_sub_cancel, d]
    have e1 : ((m + 1 : Nat) : Int) - 1 = ((m : Nat) : Int) := by omega
    rw [e1]
    refine ixL_rat (by omega) ?_
    simp only [fSeq, fIfS, fB, fIsi, fVar, fC, fOp, fUn, fLs, fRet, fRetN, fCall, fCall0, fCons, fNil, fNext, fNev, fFld, fSet, fOwn, fDrop, fAsg, fPar, fNot, fAnd, fOr, fAndV, fOrV, fNotV, fIf, fTru, fLst, fTup, fMeth, fMeth0, fName, fRaise, fRaise0, fBr, fBor, fApp, fSetI, fAug, fChain, fYes, fSl, fNoPart, fPart, fItL, fItT, fIt, fIsLT, fBrk, fCnt, topE, startD, toB, oI, oI0, oNeg, oAbs, oMax, oMin, oInt, oLen_lst, oLen_tup, oList, oTuple, oCat, oIsB, oNotB, oEq, oNe, eqD, oIsN, oNotN, isN, own_rr, own_ri, own_pp, own_pi, rfl_ir, rfl_ip, neg_r, neg_p, abs_r, tru_lst, tru_tup, tru_int, tru_bl, tru_non, tupG2, tupG4, lstEx, tupEx, lstIs, tupIs, intEx, lst1Ex, lst2Ex, int1Ex, int2Ex, en1Ex, setEx, it_lst, it_tup, oIxL, oIxT, InsD, List.map_cons, List.map_nil, List.cons_append, List.nil_append, List.length_cons, List.length_nil, List.getElem?_cons_zero, List.getElem?_cons_succ, List.set_cons_zero, List.set_cons_succ, List.replicate_succ, List.replicate_zero, Option.some.injEq, exists_eq_left', clsD_rat, clsD_poly, if_true, if_false, List.append_nil, true_and, and_true, true_or, or_true, Bool.false_eq_true, Bool.true_eq_false, reduceCtorEq, Nat.add_one_sub_one, Nat.reduceSub, Nat.reduceAdd, Nat.sub_self, Nat.zero_add, Nat.add_sub_cancel, fld_top]
    by_cases hz2 : coef xs m = 0
    · rw [decide_eq_true ((num_zero_iff _).mpr hz2), if_pos rfl]
      refine ⟨m, by omega, by omega, rfl, ?_⟩
      rw [hz]
      show (if coef xs m = 0 then _ else _) = _
      rw [if_pos hz2]
    · rw [decide_eq_false (fun z => hz2 ((num_zero_iff _).mp z)), if_neg (by decide)]
      rw [cut_take, ratL_take]
      have : szN (coef xs) (m + 1) = m + 1 := by
        show (if coef xs m = 0 then _ else _) = _
        rw [if_neg hz2]
      unfold strip at p
      rw [hz, this] at p
      exact p
theorem isP_poly {cs : List Str} (h : ("Poly" : Str) ∈ cs) (q : List Rat) : isD cs (.own "Poly") (.poly q) = some true := by
  simp only [isD, tyN, clsD, if_pos h, decide_true]
theorem isP_int {cs : List Str} (h : ("Poly" : Str) ∈ cs) (i : Int) : isD cs (.own "Poly") (.int i) = some false := by
  simp only [isD, tyN, if_pos h]
theorem isP_rat {cs : List Str} (hR : ("Ratio" : Str) ∈ cs) (h : ("Poly" : Str) ∈ cs) (q : Rat) : isD cs (.own "Poly") (.rat q) = some false := by
  have : ¬ (("Ratio" : Str) = "Poly") := by decide +kernel
  simp only [isD, tyN, clsD, if_pos h, if_pos hR, decide_eq_false this]
theorem fld_co (q : List Rat) : fldD "coefficients" (.poly q) = some (.tup (ratL q)) := by simp [fldD, ratL]
theorem fld_de (q : List Rat) : fldD "degree" (.poly q) = some (.int ((q.length : Int) - 1)) := by
  have h : ¬ (("degree" : Str) = "coefficients") := by decide +kernel
  simp only [fldD, if_neg h, if_true]
theorem fld_le (q : List Rat) : fldD "lead" (.poly q) = some (.rat (leadOf q)) := by
  have h : ¬ (("lead" : Str) = "coefficients") := by decide +kernel
  have h2 : ¬ (("lead" : Str) = "degree") := by decide +kernel
  simp only [fldD, if_neg h, if_neg h2, if_true]
theorem p_coefficients_of {cs : List Str} (hR : ("Ratio" : Str) ∈ cs) (hP : ("Poly" : Str) ∈ cs) (ds : List D) (P : D → Prop) (X : XP) (h : fCoefs cs ds P X) : f_coefficients_of cs (topE P X0) (startD 1 ds) := by
  obtain ⟨d, qs, rfl, hd, p⟩ := h
  cases d <;> first | (cases hd; done) | skip
  · rename_i n
    simp only [fSeq, fIfS, fB, fIsi, fVar, fC, fOp, fUn, fLs, fRet, fRetN, fCall, fCall0, fCons, fNil, fNext, fNev, fFld, fSet, fOwn, fDrop, fAsg, fPar, fNot, fAnd, fOr, fAndV, fOrV, fNotV, fIf, fTru, fLst, fTup, fMeth, fMeth0, fName, fRaise, fRaise0, fBr, fBor, fApp, fSetI, fAug, fChain, fYes, fSl, fNoPart, fPart, fItL, fItT, fIt, fIsLT, fBrk, fCnt, topE, startD, toB, oI, oI0, oNeg, oAbs, oMax, oMin, oInt, oLen_lst, oLen_tup, oList, oTuple, oCat, oIsB, oNotB, oEq, oNe, eqD, oIsN, oNotN, isN, own_rr, own_ri, own_pp, own_pi, rfl_ir, rfl_ip, neg_r, neg_p, abs_r, tru_lst, tru_tup, tru_int, tru_bl, tru_non, tupG2, tupG4, lstEx, tupEx, lstIs, tupIs, intEx, lst1Ex, lst2Ex, int1Ex, int2Ex, en1Ex, setEx, it_lst, it_tup, oIxL, oIxT, InsD, List.map_cons, List.map_nil, List.cons_append, List.nil_append, List.length_cons, List.length_nil, List.getElem?_cons_zero, List.getElem?_cons_succ, List.set_cons_zero, List.set_cons_succ, List.replicate_succ, List.replicate_zero, Option.some.injEq, exists_eq_left', clsD_rat, clsD_poly, if_true, if_false, List.append_nil, true_and, and_true, true_or, or_true, Bool.false_eq_true, Bool.true_eq_false, reduceCtorEq, Nat.add_one_sub_one, Nat.reduceSub, Nat.reduceAdd, Nat.sub_self, Nat.zero_add, Nat.add_sub_cancel, f_coefficients_of, isP_int hP, isR_int hR, fIsInt_int, mk_int]
    by_cases h0 : n = 0
    · subst h0
      cases hd
      rw [show (!decide ((0 : Int) = 0)) = false from rfl, if_neg (by decide)]
      exact ⟨by decide, p⟩
    · have e : qs = [(n : Rat)] := by
        have := Option.some.inj hd
        rw [if_neg h0] at this
        exact this.symm
      subst e
      rw [decide_eq_false h0, if_pos (by decide)]
      exact ⟨by decide, p⟩
  · rename_i q
    simp only [fSeq, fIfS, fB, fIsi, fVar, fC, fOp, fUn, fLs, fRet, fRetN, fCall, fCall0, fCons, fNil, fNext, fNev, fFld, fSet, fOwn, fDrop, fAsg, fPar, fNot, fAnd, fOr, fAndV, fOrV, fNotV, fIf, fTru, fLst, fTup, fMeth, fMeth0, fName, fRaise, fRaise0, fBr, fBor, fApp, fSetI, fAug, fChain, fYes, fSl, fNoPart, fPart, fItL, fItT, fIt, fIsLT, fBrk, fCnt, topE, startD, toB, oI, oI0, oNeg, oAbs, oMax, oMin, oInt, oLen_lst, oLen_tup, oList, oTuple, oCat, oIsB, oNotB, oEq, oNe, eqD, oIsN, oNotN, isN, own_rr, own_ri, own_pp, own_pi, rfl_ir, rfl_ip, neg_r, neg_p, abs_r, tru_lst, tru_tup, tru_int, tru_bl, tru_non, tupG2, tupG4, lstEx, tupEx, lstIs, tupIs, intEx, lst1Ex, lst2Ex, int1Ex, int2Ex, en1Ex, setEx, it_lst, it_tup, oIxL, oIxT, InsD, List.map_cons, List.map_nil, List.cons_append, List.nil_append, List.length_cons, List.length_nil, List.getElem?_cons_zero, List.getElem?_cons_succ, List.set_cons_zero, List.set_cons_succ, List.replicate_succ, List.replicate_zero, Option.some.injEq, exists_eq_left', clsD_rat, clsD_poly, if_true, if_false, List.append_nil, true_and, and_true, true_or, or_true, Bool.false_eq_true, Bool.true_eq_false, reduceCtorEq, Nat.add_one_sub_one, Nat.reduceSub, Nat.reduceAdd, Nat.sub_self, Nat.zero_add, Nat.add_sub_cancel, f_coefficients_of, isP_rat hR hP, isR_rat hR, fld_top]
    by_cases h0 : q = 0
    · have e : qs = [] := by
        have := Option.some.inj hd
        rw [if_pos h0] at this
        exact this.symm
      subst e
      rw [decide_eq_true ((num_zero_iff _).mpr h0), if_neg (by decide)]
      exact ⟨by decide, p⟩
    · have e : qs = [q] := by
        have := Option.some.inj hd
        rw [if_neg h0] at this
        exact this.symm
      subst e
      rw [decide_eq_false (fun z => h0 ((num_zero_iff _).mp z)), if_pos (by decide)]
      exact ⟨by decide, p⟩
  · cases hd
    simp only [fSeq, fIfS, fB, fIsi, fVar, fC, fOp, fUn, fLs, fRet, fRetN, fCall, fCall0, fCons, fNil, fNext, fNev, fFld, fSet, fOwn, fDrop, fAsg, fPar, fNot, fAnd, fOr, fAndV, fOrV, fNotV, fIf, fTru, fLst, fTup, fMeth, fMeth0, fName, fRaise, fRaise0, fBr, fBor, fApp, fSetI, fAug, fChain, fYes, fSl, fNoPart, fPart, fItL, fItT, fIt, fIsLT, fBrk, fCnt, topE, startD, toB, oI, oI0, oNeg, oAbs, oMax, oMin, oInt, oLen_lst, oLen_tup, oList, oTuple, oCat, oIsB, oNotB, oEq, oNe, eqD, oIsN, oNotN, isN, own_rr, own_ri, own_pp, own_pi, rfl_ir, rfl_ip, neg_r, neg_p, abs_r, tru_lst, tru_tup, tru_int, tru_bl, tru_non, tupG2, tupG4, lstEx, tupEx, lstIs, tupIs, intEx, lst1Ex, lst2Ex, int1Ex, int2Ex, en1Ex, setEx, it_lst, it_tup, oIxL, oIxT, InsD, List.map_cons, List.map_nil, List.cons_append, List.nil_append, List.length_cons, List.length_nil, List.getElem?_cons_zero, List.getElem?_cons_succ, List.set_cons_zero, List.set_cons_succ, List.replicate_succ, List.replicate_zero, Option.some.injEq, exists_eq_left', clsD_rat, clsD_poly, if_true, if_false, List.append_nil, true_and, and_true, true_or, or_true, Bool.false_eq_true, Bool.true_eq_false, reduceCtorEq, Nat.add_one_sub_one, Nat.reduceSub, Nat.reduceAdd, Nat.sub_self, Nat.zero_add, Nat.add_sub_cancel, f_coefficients_of, isP_poly hP, fld_co]
    exact p
/-! ### multiplied -/
theorem replicate_map {α β : Type} (l : List α) (c : β) : (l.map fun _ => c) = List.replicate l.length c := by
  induction l with
  | nil => rfl
  | cons a l ih => rw [List.map_cons, ih]; rfl
/-- a comprehension whose turns all give f d -/
theorem lc_map {g : FG} {fe : FE} {ρ0 : Env} {P : D → Prop} (f : D → D) : ∀ (ds acc : List D), (∀ d, d ∈ ds → ∀ Q : D → Prop, Q (f d) → g d ρ0 fun ρ2 => fe ρ2 Q X0) → acc.length + ds.length < sizeLine → P (.lst (acc ++ ds.map f)) → lcGo g fYes fe ρ0 P ds acc
  | [], acc, _, _, p => by
    rw [List.map_nil, List.append_nil] at p
    exact p
  | d :: ds, acc, h, hl, p => by
    unfold lcGo
    have h1 := h d List.mem_cons_self
    simp only [fYes, if_true]
    refine h1 _ ⟨by rw [List.length_cons] at hl; omega, ?_⟩
    refine lc_map f ds (acc ++ [f d]) (fun d' hd' => h d' (List.mem_cons_of_mem _ hd')) ?_ ?_
    · rw [List.length_append, List.length_singleton]
      rw [List.length_cons] at hl
      omega
    · rw [List.append_assoc]
      exact p
/-- row after the first i rows and of row i the first j places -/
def cell (f g : Nat → Rat) (i j k : Nat) : Rat := conv f g i k + if i ≤ k ∧ k < i + j then f i * g (k - i) else 0
theorem cell_zero (f g : Nat → Rat) (i k : Nat) : cell f g i 0 k = conv f g i k := by
  unfold cell
  rw [if_neg (by omega), Rat.add_zero]
theorem cell_step (f g : Nat → Rat) (i j k : Nat) : cell f g i (j + 1) k = if k = i + j then cell f g i j k + f i * g j else cell f g i j k := by
  unfold cell
  by_cases h : k = i + j
  · rw [if_pos h, if_pos (by omega), if_neg (by omega), Rat.add_zero, show k - i = j by omega]
  · rw [if_neg h]
    by_cases h2 : i ≤ k ∧ k < i + j
    · rw [if_pos h2, if_pos (by omega)]
    · rw [if_neg h2, if_neg (by omega)]
theorem cell_full {f g : Nat → Rat} {m : Nat} (hg : ∀ k, m ≤ k → g k = 0) (i k : Nat) : cell f g i m k = conv f g (i + 1) k := by
  unfold cell
  show _ = conv f g i k + if i ≤ k then f i * g (k - i) else 0
  by_cases h : i ≤ k
  · rw [if_pos h]
    by_cases h2 : k < i + m
    · rw [if_pos ⟨h, h2⟩]
    · rw [if_neg (by omega), hg _ (by omega), Rat.mul_zero]
  · rw [if_neg h, if_neg (by omega)]
theorem conv_sz {cs es : List Rat} {n m : Nat} (z1 : SzL n cs) (z2 : SzL m es) (n0 : 0 < n) (m0 : 0 < m) : ∀ i k, Sz (1 + i * (n + m + 1)) (conv (coef cs) (coef es) i k)
  | 0, k => by
    show Sz _ 0
    rw [Nat.zero_mul]
    exact sz_zero
  | i + 1, k => by
    have ih := conv_sz z1 z2 n0 m0 i k
    unfold conv
    split
    · refine (ih.add ((z1.coef n0 i).mul (z2.coef m0 (k - i)))).mono ?_
      rw [Nat.add_mul]; omega
    · rw [Rat.add_zero]
      refine ih.mono ?_
      rw [Nat.add_mul]; omega
theorem cell_sz {cs es : List Rat} {n m : Nat} (z1 : SzL n cs) (z2 : SzL m es) (n0 : 0 < n) (m0 : 0 < m) (i j k : Nat) : Sz (1 + (i + 1) * (n + m + 1)) (cell (coef cs) (coef es) i j k) := by
  have ih := conv_sz z1 z2 n0 m0 i k
  unfold cell
  split
  · refine (ih.add ((z1.coef n0 i).mul (z2.coef m0 (k - i)))).mono ?_
    rw [Nat.add_mul]; omega
  · rw [Rat.add_zero]
    refine ih.mono ?_
    rw [Nat.add_mul]; omega
theorem set_map {n i : Nat} {f g : Nat → D} (h : ∀ k, k < n → g k = if k = i then g i else f k) : ((List.range n).map f).set i (g i) = (List.range n).map g := by
  refine List.ext_getElem? fun k => ?_
  rw [List.getElem?_set, List.length_map, List.length_range]
  by_cases hk : k < n
  · rw [List.getElem?_map, List.getElem?_map, List.getElem?_range hk]
    by_cases hi : i = k
    · subst hi
      rw [if_pos rfl, if_pos hk]
      rfl
    · rw [if_neg hi]
      show some (f k) = some (g k)
      rw [h k hk, if_neg (Ne.symm hi)]
  · rw [List.getElem?_map, List.getElem?_map, List.getElem?_eq_none (l := List.range n) (by simp; omega)]
    split
    · rw [if_neg (by omega)]
      rfl
    · rfl
theorem en_cons (d : D) (ds : List D) (k : Nat) : enD (d :: ds) k = .tup [.int (k : Nat), d] :: enD ds (k + 1) := rfl
theorem ratL_cons (c : Rat) (cs : List Rat) : ratL (c :: cs) = .rat c :: ratL cs := rfl
theorem drop_coef {cs : List Rat} {i : Nat} (h : i < cs.length) : cs.drop i = coef cs i :: cs.drop (i + 1) := by
  have e := coef_lt h
  rw [List.getElem?_eq_getElem h] at e
  rw [List.drop_eq_getElem_cons h, Option.some.inj e]
abbrev mulB : FS := fSetI 2 (fOp (oOwn0 "Ratio" (fR2 fun a b => a + b)) (fOp oIx (fVar 2) (fOp oAdd (fVar 3) (fVar 6))) (fOp (oOwn0 "Ratio" (fR2 fun a b => a * b)) (fVar 4) (fVar 7))) (fOp oAdd (fVar 3) (fVar 6))
theorem map_get_range {n k : Nat} {f : Nat → D} (h : k < n) : ((List.range n).map f)[k]? = some (f k) := by
  rw [List.getElem?_map, List.getElem?_range h]
  rfl
theorem ixN_nat {n k : Nat} (h : k < n) : ixN n (k : Int) = some k := by
  unfold ixN
  rw [if_pos (by omega), if_pos (by omega)]
  simp
theorem mul_inner {d1 d2 : D} {cs es : List Rat} {n m i : Nat} {FD : FEnds} {v5 : Option D} (hi : i < cs.length) (z1 : SzL n cs) (z2 : SzL m es) (n0 : 0 < n) (m0 : 0 < m) (hs : (cs.length + 1) * (n + m + 1) ≤ 9000)
    (k : ∀ v6 v7, FD.nx [some d1, some d2, some (.lst ((List.range (cs.length + es.length - 1)).map fun k => .rat (cell (coef cs) (coef es) i es.length k))), some (.int (i : Nat)), some (.rat (coef cs i)), v5, v6, v7]) :
    ∀ (r j : Nat) (v6 v7 : Option D), j + r = es.length → forGo (fTupG [6, 7]) mulB FD (enD (ratL (es.drop j)) j) [some d1, some d2, some (.lst ((List.range (cs.length + es.length - 1)).map fun k => .rat (cell (coef cs) (coef es) i j k))), some (.int (i : Nat)), some (.rat (coef cs i)), v5, v6, v7]
  | 0, j, v6, v7, hj => by
    have : j = es.length := by omega
    subst this
    rw [List.drop_length]
    exact k v6 v7
  | r + 1, j, v6, v7, hj => by
    have ih := mul_inner hi z1 z2 n0 m0 hs k r (j + 1)
    rw [drop_coef (by omega), ratL_cons, en_cons]
    unfold forGo
    simp only [fSeq, fIfS, fB, fIsi, fVar, fC, fOp, fUn, fLs, fRet, fRetN, fCall, fCall0, fCons, fNil, fNext, fNev, fFld, fSet, fOwn, fDrop, fAsg, fPar, fNot, fAnd, fOr, fAndV, fOrV, fNotV, fIf, fTru, fLst, fTup, fMeth, fMeth0, fName, fRaise, fRaise0, fBr, fBor, fApp, fSetI, fAug, fChain, fYes, fSl, fNoPart, fPart, fItL, fItT, fIt, fIsLT, fBrk, fCnt, topE, startD, toB, oI, oI0, oNeg, oAbs, oMax, oMin, oInt, oLen_lst, oLen_tup, oList, oTuple, oCat, oIsB, oNotB, oEq, oNe, eqD, oIsN, oNotN, isN, own_rr, own_ri, own_pp, own_pi, rfl_ir, rfl_ip, neg_r, neg_p, abs_r, tru_lst, tru_tup, tru_int, tru_bl, tru_non, tupG2, tupG4, lstEx, tupEx, lstIs, tupIs, intEx, lst1Ex, lst2Ex, int1Ex, int2Ex, en1Ex, setEx, it_lst, it_tup, oIxL, oIxT, InsD, List.map_cons, List.map_nil, List.cons_append, List.nil_append, List.length_cons, List.length_nil, List.getElem?_cons_zero, List.getElem?_cons_succ, List.set_cons_zero, List.set_cons_succ, List.replicate_succ, List.replicate_zero, Option.some.injEq, exists_eq_left', clsD_rat, clsD_poly, if_true, if_false, List.append_nil, true_and, and_true, true_or, or_true, Bool.false_eq_true, Bool.true_eq_false, reduceCtorEq, Nat.add_one_sub_one, Nat.reduceSub, Nat.reduceAdd, Nat.sub_self, Nat.zero_add, Nat.add_sub_cancel, fR2_rat]
    have e1 : (i : Int) + (j : Int) = ((i + j : Nat) : Int) := by omega
    rw [e1]
    have hlt : i + j < cs.length + es.length - 1 := by omega
    refine ix_it rfl (map_get_range hlt) ?_
    simp only [fSeq, fIfS, fB, fIsi, fVar, fC, fOp, fUn, fLs, fRet, fRetN, fCall, fCall0, fCons, fNil, fNext, fNev, fFld, fSet, fOwn, fDrop, fAsg, fPar, fNot, fAnd, fOr, fAndV, fOrV, fNotV, fIf, fTru, fLst, fTup, fMeth, fMeth0, fName, fRaise, fRaise0, fBr, fBor, fApp, fSetI, fAug, fChain, fYes, fSl, fNoPart, fPart, fItL, fItT, fIt, fIsLT, fBrk, fCnt, topE, startD, toB, oI, oI0, oNeg, oAbs, oMax, oMin, oInt, oLen_lst, oLen_tup, oList, oTuple, oCat, oIsB, oNotB, oEq, oNe, eqD, oIsN, oNotN, isN, own_rr, own_ri, own_pp, own_pi, rfl_ir, rfl_ip, neg_r, neg_p, abs_r, tru_lst, tru_tup, tru_int, tru_bl, tru_non, tupG2, tupG4, lstEx, tupEx, lstIs, tupIs, intEx, lst1Ex, lst2Ex, int1Ex, int2Ex, en1Ex, setEx, it_lst, it_tup, oIxL, oIxT, InsD, List.map_cons, List.map_nil, List.cons_append, List.nil_append, List.length_cons, List.length_nil, List.getElem?_cons_zero, List.getElem?_cons_succ, List.set_cons_zero, List.set_cons_succ, List.replicate_succ, List.replicate_zero, Option.some.injEq, exists_eq_left', clsD_rat, clsD_poly, if_true, if_false, List.append_nil, true_and, and_true, true_or, or_true, Bool.false_eq_true, Bool.true_eq_false, reduceCtorEq, Nat.add_one_sub_one, Nat.reduceSub, Nat.reduceAdd, Nat.sub_self, Nat.zero_add, Nat.add_sub_cancel, fR2_rat]
    have sm := (z1.coef n0 i).mul (z2.coef m0 j)
    have sc := cell_sz z1 z2 n0 m0 i j (i + j)
    have hb : (i + 1 + 1) * (n + m + 1) ≤ 9000 := Nat.le_trans (Nat.mul_le_mul_right _ (by omega)) hs
    have hb2 : 1 + (i + 1) * (n + m + 1) + (n + m) ≤ 9000 := by
      rw [Nat.add_mul (i + 1) 1, Nat.one_mul] at hb
      omega
    refine ⟨⟨n, m, z1.coef n0 i, z2.coef m0 j, by omega⟩, ⟨_, _, sc, sm, hb2⟩, ?_⟩
    refine ⟨i + j, by rw [List.length_map, List.length_range]; exact ixN_nat hlt, ?_⟩
    have e := ih (some (.int (j : Nat))) (some (.rat (coef es j))) (by omega)
    have e2 : ((List.range (cs.length + es.length - 1)).map fun k => D.rat (cell (coef cs) (coef es) i j k)).set (i + j) (.rat (cell (coef cs) (coef es) i j (i + j) + coef cs i * coef es j)) = (List.range (cs.length + es.length - 1)).map fun k => D.rat (cell (coef cs) (coef es) i (j + 1) k) := by
      have e3 : D.rat (cell (coef cs) (coef es) i j (i + j) + coef cs i * coef es j) = D.rat (cell (coef cs) (coef es) i (j + 1) (i + j)) := by
        rw [cell_step, if_pos rfl]
      rw [e3]
      refine set_map (g := fun k => D.rat (cell (coef cs) (coef es) i (j + 1) k)) fun k hk => ?_
      by_cases h : k = i + j
      · rw [if_pos h, h]
      · rw [if_neg h, cell_step, if_neg h]
    rw [e2]
    exact e
theorem mul_outer {d1 d2 : D} {cs es : List Rat} {n m : Nat} {FD : FEnds} {v5 : Option D} (h2 : itD d2 = some (ratL es)) (z1 : SzL n cs) (z2 : SzL m es) (n0 : 0 < n) (m0 : 0 < m) (hs : (cs.length + 1) * (n + m + 1) ≤ 9000)
    (k : ∀ v3 v4 v6 v7, FD.nx [some d1, some d2, some (.lst ((List.range (cs.length + es.length - 1)).map fun k => .rat (conv (coef cs) (coef es) cs.length k))), v3, v4, v5, v6, v7]) :
    ∀ (r i : Nat) (v3 v4 v6 v7 : Option D), i + r = cs.length → forGo (fTupG [3, 4]) (fFor (fEn (fCons (fVar 1) fNil)) (fTupG [6, 7]) mulB) FD (enD (ratL (cs.drop i)) i) [some d1, some d2, some (.lst ((List.range (cs.length + es.length - 1)).map fun k => .rat (conv (coef cs) (coef es) i k))), v3, v4, v5, v6, v7]
  | 0, i, v3, v4, v6, v7, hi => by
    have : i = cs.length := by omega
    subst this
    rw [List.drop_length]
    exact k v3 v4 v6 v7
  | r + 1, i, v3, v4, v6, v7, hi => by
    have ih := mul_outer h2 z1 z2 n0 m0 hs k r (i + 1)
    rw [drop_coef (by omega), ratL_cons, en_cons]
    unfold forGo
    simp only [tupG2, fFor, fEn, en1Ex, itEx h2, fCons, fNil, fVar, List.set_cons_succ, List.set_cons_zero, List.getElem?_cons_succ, List.getElem?_cons_zero, List.length_cons, List.length_nil]
    refine ⟨_, rfl, ?_⟩
    rw [itEx h2]
    have st := mul_inner (d1 := d1) (d2 := d2) (cs := cs) (es := es) (n := n) (m := m) (i := i) (v5 := v5) (FD := { FD with nx := forGo (fTupG [3, 4]) (fFor (fEn (fCons (fVar 1) fNil)) (fTupG [6, 7]) mulB) FD (enD (ratL (cs.drop (i + 1))) (i + 1)), ct := forGo (fTupG [3, 4]) (fFor (fEn (fCons (fVar 1) fNil)) (fTupG [6, 7]) mulB) FD (enD (ratL (cs.drop (i + 1))) (i + 1)), bk := FD.nx }) (by omega) z1 z2 n0 m0 hs (fun v6 v7 => ?_) es.length 0 v6 v7 (by omega)
    · have e0 : ((List.range (cs.length + es.length - 1)).map fun k => D.rat (cell (coef cs) (coef es) i 0 k)) = (List.range (cs.length + es.length - 1)).map fun k => D.rat (conv (coef cs) (coef es) i k) := List.map_congr_left fun k _ => by rw [cell_zero]
      rw [e0] at st
      exact st
    · have e0 : ((List.range (cs.length + es.length - 1)).map fun k => D.rat (cell (coef cs) (coef es) i es.length k)) = (List.range (cs.length + es.length - 1)).map fun k => D.rat (conv (coef cs) (coef es) (i + 1) k) := List.map_congr_left fun k _ => by rw [cell_full (fun k hk => coef_ge hk)]
      rw [e0]
      exact ih _ _ _ _ (by omega)
theorem p_multiplied {cs : List Str} (hR : ("Ratio" : Str) ∈ cs) (hP : ("Poly" : Str) ∈ cs) (ds : List D) (P : D → Prop) (X : XP) (h : fMulted ds P X) : f_multiplied cs (topE P X0) (startD 8 ds) := by
  obtain ⟨d1, d2, xs, es, n, m, rfl, h1, h2, z1, z2, n0, m0, hs, l2, p⟩ := h
  have lx : xs.length ≤ 9000 := Nat.le_trans (Nat.le_trans (Nat.le_succ _) (Nat.le_mul_of_pos_right _ (by omega))) hs
  have em : ∀ l : List Rat, l ≠ [] → (ratL l).isEmpty = false := fun l h => by cases l with | nil => exact absurd rfl h | cons a l => rfl
  by_cases e1 : xs = []
  · subst e1
    have hx : (ratL []).isEmpty = true := rfl
    simp only [fSeq, fIfS, fB, fIsi, fVar, fC, fOp, fUn, fLs, fRet, fRetN, fCall, fCall0, fCons, fNil, fNext, fNev, fFld, fSet, fOwn, fDrop, fAsg, fPar, fNot, fAnd, fOr, fAndV, fOrV, fNotV, fIf, fTru, fLst, fTup, fMeth, fMeth0, fName, fRaise, fRaise0, fBr, fBor, fApp, fSetI, fAug, fChain, fYes, fSl, fNoPart, fPart, fItL, fItT, fIt, fIsLT, fBrk, fCnt, topE, startD, toB, oI, oI0, oNeg, oAbs, oMax, oMin, oInt, oLen_lst, oLen_tup, oList, oTuple, oCat, oIsB, oNotB, oEq, oNe, eqD, oIsN, oNotN, isN, own_rr, own_ri, own_pp, own_pi, rfl_ir, rfl_ip, neg_r, neg_p, abs_r, tru_lst, tru_tup, tru_int, tru_bl, tru_non, tupG2, tupG4, lstEx, tupEx, lstIs, tupIs, intEx, lst1Ex, lst2Ex, int1Ex, int2Ex, en1Ex, setEx, it_lst, it_tup, oIxL, oIxT, InsD, List.map_cons, List.map_nil, List.cons_append, List.nil_append, List.length_cons, List.length_nil, List.getElem?_cons_zero, List.getElem?_cons_succ, List.set_cons_zero, List.set_cons_succ, List.replicate_succ, List.replicate_zero, Option.some.injEq, exists_eq_left', clsD_rat, clsD_poly, if_true, if_false, List.append_nil, true_and, and_true, true_or, or_true, Bool.false_eq_true, Bool.true_eq_false, reduceCtorEq, Nat.add_one_sub_one, Nat.reduceSub, Nat.reduceAdd, Nat.sub_self, Nat.zero_add, Nat.add_sub_cancel, f_multiplied, tru_it h1, hx, Bool.not_true, Bool.not_false]
    exact ⟨by decide, p⟩
  · have hx := em xs e1
    by_cases e2 : es = []
    · subst e2
      have e : mulL xs [] = [] := by simp [mulL]
      rw [e] at p
      have hx2 : (ratL []).isEmpty = true := rfl
      simp only [fSeq, fIfS, fB, fIsi, fVar, fC, fOp, fUn, fLs, fRet, fRetN, fCall, fCall0, fCons, fNil, fNext, fNev, fFld, fSet, fOwn, fDrop, fAsg, fPar, fNot, fAnd, fOr, fAndV, fOrV, fNotV, fIf, fTru, fLst, fTup, fMeth, fMeth0, fName, fRaise, fRaise0, fBr, fBor, fApp, fSetI, fAug, fChain, fYes, fSl, fNoPart, fPart, fItL, fItT, fIt, fIsLT, fBrk, fCnt, topE, startD, toB, oI, oI0, oNeg, oAbs, oMax, oMin, oInt, oLen_lst, oLen_tup, oList, oTuple, oCat, oIsB, oNotB, oEq, oNe, eqD, oIsN, oNotN, isN, own_rr, own_ri, own_pp, own_pi, rfl_ir, rfl_ip, neg_r, neg_p, abs_r, tru_lst, tru_tup, tru_int, tru_bl, tru_non, tupG2, tupG4, lstEx, tupEx, lstIs, tupIs, intEx, lst1Ex, lst2Ex, int1Ex, int2Ex, en1Ex, setEx, it_lst, it_tup, oIxL, oIxT, InsD, List.map_cons, List.map_nil, List.cons_append, List.nil_append, List.length_cons, List.length_nil, List.getElem?_cons_zero, List.getElem?_cons_succ, List.set_cons_zero, List.set_cons_succ, List.replicate_succ, List.replicate_zero, Option.some.injEq, exists_eq_left', clsD_rat, clsD_poly, if_true, if_false, List.append_nil, true_and, and_true, true_or, or_true, Bool.false_eq_true, Bool.true_eq_false, reduceCtorEq, Nat.add_one_sub_one, Nat.reduceSub, Nat.reduceAdd, Nat.sub_self, Nat.zero_add, Nat.add_sub_cancel, f_multiplied, tru_it h1, tru_it h2, hx, hx2, Bool.not_true, Bool.not_false]
      exact ⟨by decide, p⟩
    · have hy := em es e2
      have px : 0 < xs.length := List.length_pos_iff.mpr e1
      have py : 0 < es.length := List.length_pos_iff.mpr e2
      simp only [fSeq, fIfS, fB, fIsi, fVar, fC, fOp, fUn, fLs, fRet, fRetN, fCall, fCall0, fCons, fNil, fNext, fNev, fFld, fSet, fOwn, fDrop, fAsg, fPar, fNot, fAnd, fOr, fAndV, fOrV, fNotV, fIf, fTru, fLst, fTup, fMeth, fMeth0, fName, fRaise, fRaise0, fBr, fBor, fApp, fSetI, fAug, fChain, fYes, fSl, fNoPart, fPart, fItL, fItT, fIt, fIsLT, fBrk, fCnt, topE, startD, toB, oI, oI0, oNeg, oAbs, oMax, oMin, oInt, oLen_lst, oLen_tup, oList, oTuple, oCat, oIsB, oNotB, oEq, oNe, eqD, oIsN, oNotN, isN, own_rr, own_ri, own_pp, own_pi, rfl_ir, rfl_ip, neg_r, neg_p, abs_r, tru_lst, tru_tup, tru_int, tru_bl, tru_non, tupG2, tupG4, lstEx, tupEx, lstIs, tupIs, intEx, lst1Ex, lst2Ex, int1Ex, int2Ex, en1Ex, setEx, it_lst, it_tup, oIxL, oIxT, InsD, List.map_cons, List.map_nil, List.cons_append, List.nil_append, List.length_cons, List.length_nil, List.getElem?_cons_zero, List.getElem?_cons_succ, List.set_cons_zero, List.set_cons_succ, List.replicate_succ, List.replicate_zero, Option.some.injEq, exists_eq_left', clsD_rat, clsD_poly, if_true, if_false, List.append_nil, true_and, and_true, true_or, or_true, Bool.false_eq_true, Bool.true_eq_false, reduceCtorEq, Nat.add_one_sub_one, Nat.reduceSub, Nat.reduceAdd, Nat.sub_self, Nat.zero_add, Nat.add_sub_cancel, f_multiplied, tru_it h1, tru_it h2, hx, hy, Bool.not_true, Bool.not_false, fLc, fRng1, oLen_it h1, oLen_it h2, ratL_len]
      refine ⟨by decide, by omega, by omega, ?_⟩
      refine lc_map (fun _ => .rat 0) _ [] (fun d hd Q q => ?_) ?_ ?_
      · simp only [fSeq, fIfS, fB, fIsi, fVar, fC, fOp, fUn, fLs, fRet, fRetN, fCall, fCall0, fCons, fNil, fNext, fNev, fFld, fSet, fOwn, fDrop, fAsg, fPar, fNot, fAnd, fOr, fAndV, fOrV, fNotV, fIf, fTru, fLst, fTup, fMeth, fMeth0, fName, fRaise, fRaise0, fBr, fBor, fApp, fSetI, fAug, fChain, fYes, fSl, fNoPart, fPart, fItL, fItT, fIt, fIsLT, fBrk, fCnt, topE, startD, toB, oI, oI0, oNeg, oAbs, oMax, oMin, oInt, oLen_lst, oLen_tup, oList, oTuple, oCat, oIsB, oNotB, oEq, oNe, eqD, oIsN, oNotN, isN, own_rr, own_ri, own_pp, own_pi, rfl_ir, rfl_ip, neg_r, neg_p, abs_r, tru_lst, tru_tup, tru_int, tru_bl, tru_non, tupG2, tupG4, lstEx, tupEx, lstIs, tupIs, intEx, lst1Ex, lst2Ex, int1Ex, int2Ex, en1Ex, setEx, it_lst, it_tup, oIxL, oIxT, InsD, List.map_cons, List.map_nil, List.cons_append, List.nil_append, List.length_cons, List.length_nil, List.getElem?_cons_zero, List.getElem?_cons_succ, List.set_cons_zero, List.set_cons_succ, List.replicate_succ, List.replicate_zero, Option.some.injEq, exists_eq_left', clsD_rat, clsD_poly, if_true, if_false, List.append_nil, true_and, and_true, true_or, or_true, Bool.false_eq_true, Bool.true_eq_false, reduceCtorEq, Nat.add_one_sub_one, Nat.reduceSub, Nat.reduceAdd, Nat.sub_self, Nat.zero_add, Nat.add_sub_cancel, mk_int, Rat.intCast_zero]
        exact q
      · simp only [rngD, List.length_map, List.length_range, List.length_nil]
        exact small_line (by omega)
      · rw [List.nil_append]
        simp only [fSeq, fIfS, fB, fIsi, fVar, fC, fOp, fUn, fLs, fRet, fRetN, fCall, fCall0, fCons, fNil, fNext, fNev, fFld, fSet, fOwn, fDrop, fAsg, fPar, fNot, fAnd, fOr, fAndV, fOrV, fNotV, fIf, fTru, fLst, fTup, fMeth, fMeth0, fName, fRaise, fRaise0, fBr, fBor, fApp, fSetI, fAug, fChain, fYes, fSl, fNoPart, fPart, fItL, fItT, fIt, fIsLT, fBrk, fCnt, topE, startD, toB, oI, oI0, oNeg, oAbs, oMax, oMin, oInt, oLen_lst, oLen_tup, oList, oTuple, oCat, oIsB, oNotB, oEq, oNe, eqD, oIsN, oNotN, isN, own_rr, own_ri, own_pp, own_pi, rfl_ir, rfl_ip, neg_r, neg_p, abs_r, tru_lst, tru_tup, tru_int, tru_bl, tru_non, tupG2, tupG4, lstEx, tupEx, lstIs, tupIs, intEx, lst1Ex, lst2Ex, int1Ex, int2Ex, en1Ex, setEx, it_lst, it_tup, oIxL, oIxT, InsD, List.map_cons, List.map_nil, List.cons_append, List.nil_append, List.length_cons, List.length_nil, List.getElem?_cons_zero, List.getElem?_cons_succ, List.set_cons_zero, List.set_cons_succ, List.replicate_succ, List.replicate_zero, Option.some.injEq, exists_eq_left', clsD_rat, clsD_poly, if_true, if_false, List.append_nil, true_and, and_true, true_or, or_true, Bool.false_eq_true, Bool.true_eq_false, reduceCtorEq, Nat.add_one_sub_one, Nat.reduceSub, Nat.reduceAdd, Nat.sub_self, Nat.zero_add, Nat.add_sub_cancel, fFor, fEn, itEx h1]
        have st := mul_outer (d1 := d1) (d2 := d2) (cs := xs) (es := es) (n := n) (m := m) (v5 := none) (FD := (⟨fun ρ => (∃ d, ρ[2]? = some (some d) ∧ P d), P, fun _ => False, fun _ => False, fun _ _ => False⟩ : FEnds)) h2 z1 z2 n0 m0 hs (fun v3 v4 v6 v7 => ?_) xs.length 0 none none none none (by omega)
        · have e0 : ((rngD 0 ((xs.length : Int) + (es.length : Int) - 1).toNat).map fun _ => D.rat 0) = (List.range (xs.length + es.length - 1)).map fun k => D.rat (conv (coef xs) (coef es) 0 k) := by
            rw [replicate_map, show (fun k => D.rat (conv (coef xs) (coef es) 0 k)) = fun _ => D.rat 0 from rfl, replicate_map]
            congr 1
            simp only [rngD, List.length_map, List.length_range]
            omega
          rw [e0]
          exact st
        · refine ⟨_, rfl, ?_⟩
          have e : mulL xs es = (List.range (xs.length + es.length - 1)).map fun k => conv (coef xs) (coef es) xs.length k := by
            unfold mulL
            rw [if_neg (by omega)]
          rw [e] at p
          unfold ratL at p
          rw [List.map_map] at p
          exact p
/-! ### values -/
theorem hor_sz {cs : List Rat} {x : Rat} {n m : Nat} (z : SzL n cs) (n0 : 0 < n) (zx : Sz m x) : Sz (1 + cs.length * (n + m + 1)) (horner cs x) := by
  induction cs with
  | nil => exact sz_zero.mono (by omega)
  | cons c cs ih =>
    have h := ih fun d hd => z d (List.mem_cons_of_mem _ hd)
    refine ((h.mul zx).add (z c List.mem_cons_self)).mono ?_
    rw [List.length_cons, Nat.add_mul]
    omega
theorem val_loop {p x : D} {xx : Rat} {n m L : Nat} {FD : FEnds} {cs0 : List Rat} (zx : Sz m xx) (hx : x = .rat xx) (n0 : 0 < n) (hs : (L + 1) * (n + m + 1) ≤ 9000)
    (k : ∀ v3, FD.nx [some p, some x, some (.rat (horner cs0 xx)), v3]) :
    ∀ (rs : List Rat) (done : List Rat) (v3 : Option D), rs.reverse ++ done = cs0 → cs0.length ≤ L → SzL n cs0 → forGo (fName 3) (fSet 2 (fOp (oOwn0 "Ratio" (fR2 fun a b => a + b)) (fOp (oOwn0 "Ratio" (fR2 fun a b => a * b)) (fVar 2) (fVar 1)) (fVar 3))) FD (ratL rs) [some p, some x, some (.rat (horner done xx)), v3]
  | [], done, v3, h, _, _ => by
    subst hx
    have : done = cs0 := h
    subst this
    exact k v3
  | c :: rs, done, v3, h, hl, hz => by
    have ih := val_loop (p := p) zx hx n0 hs k rs (c :: done) (some (.rat c)) (by rw [← h, List.reverse_cons, List.append_assoc]; rfl) hl hz
    subst hx
    rw [ratL_cons]
    unfold forGo
    simp only [fSeq, fIfS, fB, fIsi, fVar, fC, fOp, fUn, fLs, fRet, fRetN, fCall, fCall0, fCons, fNil, fNext, fNev, fFld, fSet, fOwn, fDrop, fAsg, fPar, fNot, fAnd, fOr, fAndV, fOrV, fNotV, fIf, fTru, fLst, fTup, fMeth, fMeth0, fName, fRaise, fRaise0, fBr, fBor, fApp, fSetI, fAug, fChain, fYes, fSl, fNoPart, fPart, fItL, fItT, fIt, fIsLT, fBrk, fCnt, topE, startD, toB, oI, oI0, oNeg, oAbs, oMax, oMin, oInt, oLen_lst, oLen_tup, oList, oTuple, oCat, oIsB, oNotB, oEq, oNe, eqD, oIsN, oNotN, isN, own_rr, own_ri, own_pp, own_pi, rfl_ir, rfl_ip, neg_r, neg_p, abs_r, tru_lst, tru_tup, tru_int, tru_bl, tru_non, tupG2, tupG4, lstEx, tupEx, lstIs, tupIs, intEx, lst1Ex, lst2Ex, int1Ex, int2Ex, en1Ex, setEx, it_lst, it_tup, oIxL, oIxT, InsD, List.map_cons, List.map_nil, List.cons_append, List.nil_append, List.length_cons, List.length_nil, List.getElem?_cons_zero, List.getElem?_cons_succ, List.set_cons_zero, List.set_cons_succ, List.replicate_succ, List.replicate_zero, Option.some.injEq, exists_eq_left', clsD_rat, clsD_poly, if_true, if_false, List.append_nil, true_and, and_true, true_or, or_true, Bool.false_eq_true, Bool.true_eq_false, reduceCtorEq, Nat.add_one_sub_one, Nat.reduceSub, Nat.reduceAdd, Nat.sub_self, Nat.zero_add, Nat.add_sub_cancel, fR2_rat]
    have hd : SzL n done := fun d hd => hz d (by rw [← h]; exact List.mem_append_right _ hd)
    have hc : Sz n c := hz c (by rw [← h]; simp)
    have s1 := hor_sz hd n0 zx
    have ld : done.length + 1 ≤ L := by
      rw [← h] at hl
      simp at hl
      omega
    have hb : (done.length + 1 + 1) * (n + m + 1) ≤ 9000 := Nat.le_trans (Nat.mul_le_mul_right _ (by omega)) hs
    have hb2 : 1 + done.length * (n + m + 1) + m + n ≤ 9000 := by
      rw [Nat.add_mul (done.length + 1) 1, Nat.add_mul done.length 1, Nat.one_mul] at hb
      omega
    refine ⟨⟨_, m, s1, zx, by omega⟩, ⟨_, n, s1.mul zx, hc, by omega⟩, ?_⟩
    exact ih
theorem p_value_at {cs : List Str} (hR : ("Ratio" : Str) ∈ cs) (hP : ("Poly" : Str) ∈ cs) (ds : List D) (P : D → Prop) (X : XP) (h : fValueAt ds P X) : f_value_at cs (topE P X0) (startD 4 ds) := by
  obtain ⟨xs, x, n, m, rfl, z1, z2, n0, hs, l1, p⟩ := h
  simp only [fSeq, fIfS, fB, fIsi, fVar, fC, fOp, fUn, fLs, fRet, fRetN, fCall, fCall0, fCons, fNil, fNext, fNev, fFld, fSet, fOwn, fDrop, fAsg, fPar, fNot, fAnd, fOr, fAndV, fOrV, fNotV, fIf, fTru, fLst, fTup, fMeth, fMeth0, fName, fRaise, fRaise0, fBr, fBor, fApp, fSetI, fAug, fChain, fYes, fSl, fNoPart, fPart, fItL, fItT, fIt, fIsLT, fBrk, fCnt, topE, startD, toB, oI, oI0, oNeg, oAbs, oMax, oMin, oInt, oLen_lst, oLen_tup, oList, oTuple, oCat, oIsB, oNotB, oEq, oNe, eqD, oIsN, oNotN, isN, own_rr, own_ri, own_pp, own_pi, rfl_ir, rfl_ip, neg_r, neg_p, abs_r, tru_lst, tru_tup, tru_int, tru_bl, tru_non, tupG2, tupG4, lstEx, tupEx, lstIs, tupIs, intEx, lst1Ex, lst2Ex, int1Ex, int2Ex, en1Ex, setEx, it_lst, it_tup, oIxL, oIxT, InsD, List.map_cons, List.map_nil, List.cons_append, List.nil_append, List.length_cons, List.length_nil, List.getElem?_cons_zero, List.getElem?_cons_succ, List.set_cons_zero, List.set_cons_succ, List.replicate_succ, List.replicate_zero, Option.some.injEq, exists_eq_left', clsD_rat, clsD_poly, if_true, if_false, List.append_nil, true_and, and_true, true_or, or_true, Bool.false_eq_true, Bool.true_eq_false, reduceCtorEq, Nat.add_one_sub_one, Nat.reduceSub, Nat.reduceAdd, Nat.sub_self, Nat.zero_add, Nat.add_sub_cancel, f_value_at, fFor, fRev, fld_co, mk_int, Rat.intCast_zero]
  have e : (ratL xs).reverse = ratL xs.reverse := by unfold ratL; rw [List.map_reverse]
  rw [e]
  have st := val_loop (p := .poly xs) (x := .rat x) (L := xs.length) (FD := (⟨fun ρ => (∃ d, ρ[2]? = some (some d) ∧ P d), P, fun _ => False, fun _ => False, fun _ _ => False⟩ : FEnds)) (cs0 := xs) z2 rfl n0 hs (fun v3 => ⟨_, rfl, p⟩) xs.reverse [] none (by rw [List.reverse_reverse, List.append_nil]) (Nat.le_refl _) z1
  exact st
/-! ### operators -/
theorem SzL.neg {n : Nat} {cs : List Rat} (h : SzL n cs) : SzL n (negL cs) := fun c hc => by
  unfold negL at hc
  obtain ⟨d, hd, rfl⟩ := List.mem_map.mp hc
  exact (h d hd).neg
theorem nums_ratL : ∀ cs : List Rat, numsV (ratL cs) = some cs
  | [] => rfl
  | c :: cs => by
    show (match numV (.rat c), numsV (ratL cs) with | some q, some qs => some (q :: qs) | _, _ => none) = _
    rw [nums_ratL cs]
    rfl
theorem mkPoly_rats {cs : List Str} {es : List Rat} {P : D → Prop} {X : XP} (hl : es.length ≤ 100000) (p : P (.poly (strip es))) : fMkPoly cs [.lst (ratL es)] P X := ⟨_, rfl, .inl ⟨_, es, rfl, by rw [ratL_len]; exact hl, nums_ratL es, p⟩⟩
theorem mulL_len (cs es : List Rat) : (mulL cs es).length ≤ cs.length + es.length := by
  unfold mulL
  split
  · simp
  · rw [List.length_map, List.length_range]
    omega
theorem coefs_ok {cs : List Str} {d : D} {es : List Rat} {P : D → Prop} {X : XP} (h : pcoef d = some es) (p : P (.lst (ratL es))) : fCoefs cs [d] P X := ⟨d, es, rfl, h, p⟩
theorem ratL_neg (es : List Rat) : (ratL es).map (fun d => match d with | .rat q => D.rat (-q) | e => e) = ratL (negL es) := by
  unfold ratL negL
  rw [List.map_map, List.map_map]
  rfl
theorem neg_lc {ρ0 : Env} {P : D → Prop} {i n : Nat} {es : List Rat} (hi : i < ρ0.length) (z : SzL n es) (hn : n ≤ 9000) (l : es.length ≤ 1000) (p : P (.lst (ratL (negL es)))) : lcGo (fName i) fYes (fUn (oNegO "Ratio" (fR1 fun a => -a)) (fVar i)) ρ0 P (ratL es) [] := by
  refine lc_map (fun d => match d with | .rat q => D.rat (-q) | e => e) _ [] (fun d hd Q q => ?_) ?_ ?_
  · obtain ⟨c, hc, rfl⟩ := List.mem_map.mp hd
    refine ⟨_, by rw [set_get, if_pos rfl, if_pos hi], ?_⟩
    refine neg_r.mpr (fR1_rat.mpr ⟨⟨n, z c hc, hn⟩, q⟩)
  · rw [ratL_len]
    exact small_line (by simp; omega)
  · rw [ratL_neg]
    exact p
theorem p_Poly_add {cs : List Str} (hR : ("Ratio" : Str) ∈ cs) (hP : ("Poly" : Str) ∈ cs) (ds : List D) (P : D → Prop) (X : XP) (h : fPAdd cs ds P X) : f_Poly_add cs (topE P X0) (startD 3 ds) := by
  obtain ⟨a, d, es, n, m, rfl, hd, z1, z2, n0, m0, hs, l1, l2, p⟩ := h
  simp only [fSeq, fIfS, fB, fIsi, fVar, fC, fOp, fUn, fLs, fRet, fRetN, fCall, fCall0, fCons, fNil, fNext, fNev, fFld, fSet, fOwn, fDrop, fAsg, fPar, fNot, fAnd, fOr, fAndV, fOrV, fNotV, fIf, fTru, fLst, fTup, fMeth, fMeth0, fName, fRaise, fRaise0, fBr, fBor, fApp, fSetI, fAug, fChain, fYes, fSl, fNoPart, fPart, fItL, fItT, fIt, fIsLT, fBrk, fCnt, topE, startD, toB, oI, oI0, oNeg, oAbs, oMax, oMin, oInt, oLen_lst, oLen_tup, oList, oTuple, oCat, oIsB, oNotB, oEq, oNe, eqD, oIsN, oNotN, isN, own_rr, own_ri, own_pp, own_pi, rfl_ir, rfl_ip, neg_r, neg_p, abs_r, tru_lst, tru_tup, tru_int, tru_bl, tru_non, tupG2, tupG4, lstEx, tupEx, lstIs, tupIs, intEx, lst1Ex, lst2Ex, int1Ex, int2Ex, en1Ex, setEx, it_lst, it_tup, oIxL, oIxT, InsD, List.map_cons, List.map_nil, List.cons_append, List.nil_append, List.length_cons, List.length_nil, List.getElem?_cons_zero, List.getElem?_cons_succ, List.set_cons_zero, List.set_cons_succ, List.replicate_succ, List.replicate_zero, Option.some.injEq, exists_eq_left', clsD_rat, clsD_poly, if_true, if_false, List.append_nil, true_and, and_true, true_or, or_true, Bool.false_eq_true, Bool.true_eq_false, reduceCtorEq, Nat.add_one_sub_one, Nat.reduceSub, Nat.reduceAdd, Nat.sub_self, Nat.zero_add, Nat.add_sub_cancel, f_Poly_add]
  refine coefs_ok hd ?_
  simp only [fSeq, fIfS, fB, fIsi, fVar, fC, fOp, fUn, fLs, fRet, fRetN, fCall, fCall0, fCons, fNil, fNext, fNev, fFld, fSet, fOwn, fDrop, fAsg, fPar, fNot, fAnd, fOr, fAndV, fOrV, fNotV, fIf, fTru, fLst, fTup, fMeth, fMeth0, fName, fRaise, fRaise0, fBr, fBor, fApp, fSetI, fAug, fChain, fYes, fSl, fNoPart, fPart, fItL, fItT, fIt, fIsLT, fBrk, fCnt, topE, startD, toB, oI, oI0, oNeg, oAbs, oMax, oMin, oInt, oLen_lst, oLen_tup, oList, oTuple, oCat, oIsB, oNotB, oEq, oNe, eqD, oIsN, oNotN, isN, own_rr, own_ri, own_pp, own_pi, rfl_ir, rfl_ip, neg_r, neg_p, abs_r, tru_lst, tru_tup, tru_int, tru_bl, tru_non, tupG2, tupG4, lstEx, tupEx, lstIs, tupIs, intEx, lst1Ex, lst2Ex, int1Ex, int2Ex, en1Ex, setEx, it_lst, it_tup, oIxL, oIxT, InsD, List.map_cons, List.map_nil, List.cons_append, List.nil_append, List.length_cons, List.length_nil, List.getElem?_cons_zero, List.getElem?_cons_succ, List.set_cons_zero, List.set_cons_succ, List.replicate_succ, List.replicate_zero, Option.some.injEq, exists_eq_left', clsD_rat, clsD_poly, if_true, if_false, List.append_nil, true_and, and_true, true_or, or_true, Bool.false_eq_true, Bool.true_eq_false, reduceCtorEq, Nat.add_one_sub_one, Nat.reduceSub, Nat.reduceAdd, Nat.sub_self, Nat.zero_add, Nat.add_sub_cancel, fld_co]
  exact ⟨_, _, a, es, n, m, rfl, rfl, rfl, z1, z2, n0, m0, hs, l1, l2, mkPoly_rats (by rw [addL_len]; omega) p⟩
theorem p_Poly_radd {cs : List Str} (hR : ("Ratio" : Str) ∈ cs) (hP : ("Poly" : Str) ∈ cs) (ds : List D) (P : D → Prop) (X : XP) (h : fPRadd cs ds P X) : f_Poly_radd cs (topE P X0) (startD 3 ds) := by
  obtain ⟨a, d, es, n, m, rfl, hd, z1, z2, n0, m0, hs, l1, l2, p⟩ := h
  simp only [fSeq, fIfS, fB, fIsi, fVar, fC, fOp, fUn, fLs, fRet, fRetN, fCall, fCall0, fCons, fNil, fNext, fNev, fFld, fSet, fOwn, fDrop, fAsg, fPar, fNot, fAnd, fOr, fAndV, fOrV, fNotV, fIf, fTru, fLst, fTup, fMeth, fMeth0, fName, fRaise, fRaise0, fBr, fBor, fApp, fSetI, fAug, fChain, fYes, fSl, fNoPart, fPart, fItL, fItT, fIt, fIsLT, fBrk, fCnt, topE, startD, toB, oI, oI0, oNeg, oAbs, oMax, oMin, oInt, oLen_lst, oLen_tup, oList, oTuple, oCat, oIsB, oNotB, oEq, oNe, eqD, oIsN, oNotN, isN, own_rr, own_ri, own_pp, own_pi, rfl_ir, rfl_ip, neg_r, neg_p, abs_r, tru_lst, tru_tup, tru_int, tru_bl, tru_non, tupG2, tupG4, lstEx, tupEx, lstIs, tupIs, intEx, lst1Ex, lst2Ex, int1Ex, int2Ex, en1Ex, setEx, it_lst, it_tup, oIxL, oIxT, InsD, List.map_cons, List.map_nil, List.cons_append, List.nil_append, List.length_cons, List.length_nil, List.getElem?_cons_zero, List.getElem?_cons_succ, List.set_cons_zero, List.set_cons_succ, List.replicate_succ, List.replicate_zero, Option.some.injEq, exists_eq_left', clsD_rat, clsD_poly, if_true, if_false, List.append_nil, true_and, and_true, true_or, or_true, Bool.false_eq_true, Bool.true_eq_false, reduceCtorEq, Nat.add_one_sub_one, Nat.reduceSub, Nat.reduceAdd, Nat.sub_self, Nat.zero_add, Nat.add_sub_cancel, f_Poly_radd]
  refine coefs_ok hd ?_
  simp only [fSeq, fIfS, fB, fIsi, fVar, fC, fOp, fUn, fLs, fRet, fRetN, fCall, fCall0, fCons, fNil, fNext, fNev, fFld, fSet, fOwn, fDrop, fAsg, fPar, fNot, fAnd, fOr, fAndV, fOrV, fNotV, fIf, fTru, fLst, fTup, fMeth, fMeth0, fName, fRaise, fRaise0, fBr, fBor, fApp, fSetI, fAug, fChain, fYes, fSl, fNoPart, fPart, fItL, fItT, fIt, fIsLT, fBrk, fCnt, topE, startD, toB, oI, oI0, oNeg, oAbs, oMax, oMin, oInt, oLen_lst, oLen_tup, oList, oTuple, oCat, oIsB, oNotB, oEq, oNe, eqD, oIsN, oNotN, isN, own_rr, own_ri, own_pp, own_pi, rfl_ir, rfl_ip, neg_r, neg_p, abs_r, tru_lst, tru_tup, tru_int, tru_bl, tru_non, tupG2, tupG4, lstEx, tupEx, lstIs, tupIs, intEx, lst1Ex, lst2Ex, int1Ex, int2Ex, en1Ex, setEx, it_lst, it_tup, oIxL, oIxT, InsD, List.map_cons, List.map_nil, List.cons_append, List.nil_append, List.length_cons, List.length_nil, List.getElem?_cons_zero, List.getElem?_cons_succ, List.set_cons_zero, List.set_cons_succ, List.replicate_succ, List.replicate_zero, Option.some.injEq, exists_eq_left', clsD_rat, clsD_poly, if_true, if_false, List.append_nil, true_and, and_true, true_or, or_true, Bool.false_eq_true, Bool.true_eq_false, reduceCtorEq, Nat.add_one_sub_one, Nat.reduceSub, Nat.reduceAdd, Nat.sub_self, Nat.zero_add, Nat.add_sub_cancel, fld_co]
  exact ⟨_, _, es, a, m, n, rfl, rfl, rfl, z2, z1, m0, n0, by omega, l2, l1, mkPoly_rats (by rw [addL_len]; omega) p⟩
theorem p_Poly_mul {cs : List Str} (hR : ("Ratio" : Str) ∈ cs) (hP : ("Poly" : Str) ∈ cs) (ds : List D) (P : D → Prop) (X : XP) (h : fPMul cs ds P X) : f_Poly_mul cs (topE P X0) (startD 3 ds) := by
  obtain ⟨a, d, es, n, m, rfl, hd, z1, z2, n0, m0, hs, l2, p⟩ := h
  simp only [fSeq, fIfS, fB, fIsi, fVar, fC, fOp, fUn, fLs, fRet, fRetN, fCall, fCall0, fCons, fNil, fNext, fNev, fFld, fSet, fOwn, fDrop, fAsg, fPar, fNot, fAnd, fOr, fAndV, fOrV, fNotV, fIf, fTru, fLst, fTup, fMeth, fMeth0, fName, fRaise, fRaise0, fBr, fBor, fApp, fSetI, fAug, fChain, fYes, fSl, fNoPart, fPart, fItL, fItT, fIt, fIsLT, fBrk, fCnt, topE, startD, toB, oI, oI0, oNeg, oAbs, oMax, oMin, oInt, oLen_lst, oLen_tup, oList, oTuple, oCat, oIsB, oNotB, oEq, oNe, eqD, oIsN, oNotN, isN, own_rr, own_ri, own_pp, own_pi, rfl_ir, rfl_ip, neg_r, neg_p, abs_r, tru_lst, tru_tup, tru_int, tru_bl, tru_non, tupG2, tupG4, lstEx, tupEx, lstIs, tupIs, intEx, lst1Ex, lst2Ex, int1Ex, int2Ex, en1Ex, setEx, it_lst, it_tup, oIxL, oIxT, InsD, List.map_cons, List.map_nil, List.cons_append, List.nil_append, List.length_cons, List.length_nil, List.getElem?_cons_zero, List.getElem?_cons_succ, List.set_cons_zero, List.set_cons_succ, List.replicate_succ, List.replicate_zero, Option.some.injEq, exists_eq_left', clsD_rat, clsD_poly, if_true, if_false, List.append_nil, true_and, and_true, true_or, or_true, Bool.false_eq_true, Bool.true_eq_false, reduceCtorEq, Nat.add_one_sub_one, Nat.reduceSub, Nat.reduceAdd, Nat.sub_self, Nat.zero_add, Nat.add_sub_cancel, f_Poly_mul]
  refine coefs_ok hd ?_
  simp only [fSeq, fIfS, fB, fIsi, fVar, fC, fOp, fUn, fLs, fRet, fRetN, fCall, fCall0, fCons, fNil, fNext, fNev, fFld, fSet, fOwn, fDrop, fAsg, fPar, fNot, fAnd, fOr, fAndV, fOrV, fNotV, fIf, fTru, fLst, fTup, fMeth, fMeth0, fName, fRaise, fRaise0, fBr, fBor, fApp, fSetI, fAug, fChain, fYes, fSl, fNoPart, fPart, fItL, fItT, fIt, fIsLT, fBrk, fCnt, topE, startD, toB, oI, oI0, oNeg, oAbs, oMax, oMin, oInt, oLen_lst, oLen_tup, oList, oTuple, oCat, oIsB, oNotB, oEq, oNe, eqD, oIsN, oNotN, isN, own_rr, own_ri, own_pp, own_pi, rfl_ir, rfl_ip, neg_r, neg_p, abs_r, tru_lst, tru_tup, tru_int, tru_bl, tru_non, tupG2, tupG4, lstEx, tupEx, lstIs, tupIs, intEx, lst1Ex, lst2Ex, int1Ex, int2Ex, en1Ex, setEx, it_lst, it_tup, oIxL, oIxT, InsD, List.map_cons, List.map_nil, List.cons_append, List.nil_append, List.length_cons, List.length_nil, List.getElem?_cons_zero, List.getElem?_cons_succ, List.set_cons_zero, List.set_cons_succ, List.replicate_succ, List.replicate_zero, Option.some.injEq, exists_eq_left', clsD_rat, clsD_poly, if_true, if_false, List.append_nil, true_and, and_true, true_or, or_true, Bool.false_eq_true, Bool.true_eq_false, reduceCtorEq, Nat.add_one_sub_one, Nat.reduceSub, Nat.reduceAdd, Nat.sub_self, Nat.zero_add, Nat.add_sub_cancel, fld_co]
  exact ⟨_, _, a, es, n, m, rfl, rfl, rfl, z1, z2, n0, m0, hs, l2, mkPoly_rats (by have := mulL_len a es; have : a.length + 1 ≤ 9000 := Nat.le_trans (Nat.le_mul_of_pos_right _ (by omega)) hs; omega) p⟩
theorem p_Poly_rmul {cs : List Str} (hR : ("Ratio" : Str) ∈ cs) (hP : ("Poly" : Str) ∈ cs) (ds : List D) (P : D → Prop) (X : XP) (h : fPRmul cs ds P X) : f_Poly_rmul cs (topE P X0) (startD 3 ds) := by
  obtain ⟨a, d, es, n, m, rfl, hd, z1, z2, n0, m0, hs, l2, p⟩ := h
  simp only [fSeq, fIfS, fB, fIsi, fVar, fC, fOp, fUn, fLs, fRet, fRetN, fCall, fCall0, fCons, fNil, fNext, fNev, fFld, fSet, fOwn, fDrop, fAsg, fPar, fNot, fAnd, fOr, fAndV, fOrV, fNotV, fIf, fTru, fLst, fTup, fMeth, fMeth0, fName, fRaise, fRaise0, fBr, fBor, fApp, fSetI, fAug, fChain, fYes, fSl, fNoPart, fPart, fItL, fItT, fIt, fIsLT, fBrk, fCnt, topE, startD, toB, oI, oI0, oNeg, oAbs, oMax, oMin, oInt, oLen_lst, oLen_tup, oList, oTuple, oCat, oIsB, oNotB, oEq, oNe, eqD, oIsN, oNotN, isN, own_rr, own_ri, own_pp, own_pi, rfl_ir, rfl_ip, neg_r, neg_p, abs_r, tru_lst, tru_tup, tru_int, tru_bl, tru_non, tupG2, tupG4, lstEx, tupEx, lstIs, tupIs, intEx, lst1Ex, lst2Ex, int1Ex, int2Ex, en1Ex, setEx, it_lst, it_tup, oIxL, oIxT, InsD, List.map_cons, List.map_nil, List.cons_append, List.nil_append, List.length_cons, List.length_nil, List.getElem?_cons_zero, List.getElem?_cons_succ, List.set_cons_zero, List.set_cons_succ, List.replicate_succ, List.replicate_zero, Option.some.injEq, exists_eq_left', clsD_rat, clsD_poly, if_true, if_false, List.append_nil, true_and, and_true, true_or, or_true, Bool.false_eq_true, Bool.true_eq_false, reduceCtorEq, Nat.add_one_sub_one, Nat.reduceSub, Nat.reduceAdd, Nat.sub_self, Nat.zero_add, Nat.add_sub_cancel, f_Poly_rmul]
  refine coefs_ok hd ?_
  simp only [fSeq, fIfS, fB, fIsi, fVar, fC, fOp, fUn, fLs, fRet, fRetN, fCall, fCall0, fCons, fNil, fNext, fNev, fFld, fSet, fOwn, fDrop, fAsg, fPar, fNot, fAnd, fOr, fAndV, fOrV, fNotV, fIf, fTru, fLst, fTup, fMeth, fMeth0, fName, fRaise, fRaise0, fBr, fBor, fApp, fSetI, fAug, fChain, fYes, fSl, fNoPart, fPart, fItL, fItT, fIt, fIsLT, fBrk, fCnt, topE, startD, toB, oI, oI0, oNeg, oAbs, oMax, oMin, oInt, oLen_lst, oLen_tup, oList, oTuple, oCat, oIsB, oNotB, oEq, oNe, eqD, oIsN, oNotN, isN, own_rr, own_ri, own_pp, own_pi, rfl_ir, rfl_ip, neg_r, neg_p, abs_r, tru_lst, tru_tup, tru_int, tru_bl, tru_non, tupG2, tupG4, lstEx, tupEx, lstIs, tupIs, intEx, lst1Ex, lst2Ex, int1Ex, int2Ex, en1Ex, setEx, it_lst, it_tup, oIxL, oIxT, InsD, List.map_cons, List.map_nil, List.cons_append, List.nil_append, List.length_cons, List.length_nil, List.getElem?_cons_zero, List.getElem?_cons_succ, List.set_cons_zero, List.set_cons_succ, List.replicate_succ, List.replicate_zero, Option.some.injEq, exists_eq_left', clsD_rat, clsD_poly, if_true, if_false, List.append_nil, true_and, and_true, true_or, or_true, Bool.false_eq_true, Bool.true_eq_false, reduceCtorEq, Nat.add_one_sub_one, Nat.reduceSub, Nat.reduceAdd, Nat.sub_self, Nat.zero_add, Nat.add_sub_cancel, fld_co]
  exact ⟨_, _, es, a, m, n, rfl, rfl, rfl, z2, z1, m0, n0, by rw [Nat.add_comm m n]; exact hs, l2, mkPoly_rats (by have := mulL_len es a; have : es.length + 1 ≤ 9000 := Nat.le_trans (Nat.le_mul_of_pos_right _ (by omega)) hs; omega) p⟩
theorem p_Poly_sub {cs : List Str} (hR : ("Ratio" : Str) ∈ cs) (hP : ("Poly" : Str) ∈ cs) (ds : List D) (P : D → Prop) (X : XP) (h : fPSub cs ds P X) : f_Poly_sub cs (topE P X0) (startD 4 ds) := by
  obtain ⟨a, d, es, n, m, rfl, hd, z1, z2, n0, m0, hs, l1, l2, p⟩ := h
  simp only [fSeq, fIfS, fB, fIsi, fVar, fC, fOp, fUn, fLs, fRet, fRetN, fCall, fCall0, fCons, fNil, fNext, fNev, fFld, fSet, fOwn, fDrop, fAsg, fPar, fNot, fAnd, fOr, fAndV, fOrV, fNotV, fIf, fTru, fLst, fTup, fMeth, fMeth0, fName, fRaise, fRaise0, fBr, fBor, fApp, fSetI, fAug, fChain, fYes, fSl, fNoPart, fPart, fItL, fItT, fIt, fIsLT, fBrk, fCnt, topE, startD, toB, oI, oI0, oNeg, oAbs, oMax, oMin, oInt, oLen_lst, oLen_tup, oList, oTuple, oCat, oIsB, oNotB, oEq, oNe, eqD, oIsN, oNotN, isN, own_rr, own_ri, own_pp, own_pi, rfl_ir, rfl_ip, neg_r, neg_p, abs_r, tru_lst, tru_tup, tru_int, tru_bl, tru_non, tupG2, tupG4, lstEx, tupEx, lstIs, tupIs, intEx, lst1Ex, lst2Ex, int1Ex, int2Ex, en1Ex, setEx, it_lst, it_tup, oIxL, oIxT, InsD, List.map_cons, List.map_nil, List.cons_append, List.nil_append, List.length_cons, List.length_nil, List.getElem?_cons_zero, List.getElem?_cons_succ, List.set_cons_zero, List.set_cons_succ, List.replicate_succ, List.replicate_zero, Option.some.injEq, exists_eq_left', clsD_rat, clsD_poly, if_true, if_false, List.append_nil, true_and, and_true, true_or, or_true, Bool.false_eq_true, Bool.true_eq_false, reduceCtorEq, Nat.add_one_sub_one, Nat.reduceSub, Nat.reduceAdd, Nat.sub_self, Nat.zero_add, Nat.add_sub_cancel, f_Poly_sub, fLc]
  refine coefs_ok hd ?_
  simp only [fSeq, fIfS, fB, fIsi, fVar, fC, fOp, fUn, fLs, fRet, fRetN, fCall, fCall0, fCons, fNil, fNext, fNev, fFld, fSet, fOwn, fDrop, fAsg, fPar, fNot, fAnd, fOr, fAndV, fOrV, fNotV, fIf, fTru, fLst, fTup, fMeth, fMeth0, fName, fRaise, fRaise0, fBr, fBor, fApp, fSetI, fAug, fChain, fYes, fSl, fNoPart, fPart, fItL, fItT, fIt, fIsLT, fBrk, fCnt, topE, startD, toB, oI, oI0, oNeg, oAbs, oMax, oMin, oInt, oLen_lst, oLen_tup, oList, oTuple, oCat, oIsB, oNotB, oEq, oNe, eqD, oIsN, oNotN, isN, own_rr, own_ri, own_pp, own_pi, rfl_ir, rfl_ip, neg_r, neg_p, abs_r, tru_lst, tru_tup, tru_int, tru_bl, tru_non, tupG2, tupG4, lstEx, tupEx, lstIs, tupIs, intEx, lst1Ex, lst2Ex, int1Ex, int2Ex, en1Ex, setEx, it_lst, it_tup, oIxL, oIxT, InsD, List.map_cons, List.map_nil, List.cons_append, List.nil_append, List.length_cons, List.length_nil, List.getElem?_cons_zero, List.getElem?_cons_succ, List.set_cons_zero, List.set_cons_succ, List.replicate_succ, List.replicate_zero, Option.some.injEq, exists_eq_left', clsD_rat, clsD_poly, if_true, if_false, List.append_nil, true_and, and_true, true_or, or_true, Bool.false_eq_true, Bool.true_eq_false, reduceCtorEq, Nat.add_one_sub_one, Nat.reduceSub, Nat.reduceAdd, Nat.sub_self, Nat.zero_add, Nat.add_sub_cancel, fld_co]
  refine neg_lc (by simp [wipeD]) z2 (by omega) l2 ?_
  exact ⟨_, _, a, negL es, n, m, rfl, rfl, rfl, z1, z2.neg, n0, m0, hs, l1, by rw [negL_len]; exact l2, mkPoly_rats (by rw [addL_len, negL_len]; omega) p⟩
theorem p_Poly_rsub {cs : List Str} (hR : ("Ratio" : Str) ∈ cs) (hP : ("Poly" : Str) ∈ cs) (ds : List D) (P : D → Prop) (X : XP) (h : fPRsub cs ds P X) : f_Poly_rsub cs (topE P X0) (startD 4 ds) := by
  obtain ⟨a, d, es, n, m, rfl, hd, z1, z2, n0, m0, hs, l1, l2, p⟩ := h
  simp only [fSeq, fIfS, fB, fIsi, fVar, fC, fOp, fUn, fLs, fRet, fRetN, fCall, fCall0, fCons, fNil, fNext, fNev, fFld, fSet, fOwn, fDrop, fAsg, fPar, fNot, fAnd, fOr, fAndV, fOrV, fNotV, fIf, fTru, fLst, fTup, fMeth, fMeth0, fName, fRaise, fRaise0, fBr, fBor, fApp, fSetI, fAug, fChain, fYes, fSl, fNoPart, fPart, fItL, fItT, fIt, fIsLT, fBrk, fCnt, topE, startD, toB, oI, oI0, oNeg, oAbs, oMax, oMin, oInt, oLen_lst, oLen_tup, oList, oTuple, oCat, oIsB, oNotB, oEq, oNe, eqD, oIsN, oNotN, isN, own_rr, own_ri, own_pp, own_pi, rfl_ir, rfl_ip, neg_r, neg_p, abs_r, tru_lst, tru_tup, tru_int, tru_bl, tru_non, tupG2, tupG4, lstEx, tupEx, lstIs, tupIs, intEx, lst1Ex, lst2Ex, int1Ex, int2Ex, en1Ex, setEx, it_lst, it_tup, oIxL, oIxT, InsD, List.map_cons, List.map_nil, List.cons_append, List.nil_append, List.length_cons, List.length_nil, List.getElem?_cons_zero, List.getElem?_cons_succ, List.set_cons_zero, List.set_cons_succ, List.replicate_succ, List.replicate_zero, Option.some.injEq, exists_eq_left', clsD_rat, clsD_poly, if_true, if_false, List.append_nil, true_and, and_true, true_or, or_true, Bool.false_eq_true, Bool.true_eq_false, reduceCtorEq, Nat.add_one_sub_one, Nat.reduceSub, Nat.reduceAdd, Nat.sub_self, Nat.zero_add, Nat.add_sub_cancel, f_Poly_rsub, fLc]
  refine coefs_ok hd ?_
  simp only [fSeq, fIfS, fB, fIsi, fVar, fC, fOp, fUn, fLs, fRet, fRetN, fCall, fCall0, fCons, fNil, fNext, fNev, fFld, fSet, fOwn, fDrop, fAsg, fPar, fNot, fAnd, fOr, fAndV, fOrV, fNotV, fIf, fTru, fLst, fTup, fMeth, fMeth0, fName, fRaise, fRaise0, fBr, fBor, fApp, fSetI, fAug, fChain, fYes, fSl, fNoPart, fPart, fItL, fItT, fIt, fIsLT, fBrk, fCnt, topE, startD, toB, oI, oI0, oNeg, oAbs, oMax, oMin, oInt, oLen_lst, oLen_tup, oList, oTuple, oCat, oIsB, oNotB, oEq, oNe, eqD, oIsN, oNotN, isN, own_rr, own_ri, own_pp, own_pi, rfl_ir, rfl_ip, neg_r, neg_p, abs_r, tru_lst, tru_tup, tru_int, tru_bl, tru_non, tupG2, tupG4, lstEx, tupEx, lstIs, tupIs, intEx, lst1Ex, lst2Ex, int1Ex, int2Ex, en1Ex, setEx, it_lst, it_tup, oIxL, oIxT, InsD, List.map_cons, List.map_nil, List.cons_append, List.nil_append, List.length_cons, List.length_nil, List.getElem?_cons_zero, List.getElem?_cons_succ, List.set_cons_zero, List.set_cons_succ, List.replicate_succ, List.replicate_zero, Option.some.injEq, exists_eq_left', clsD_rat, clsD_poly, if_true, if_false, List.append_nil, true_and, and_true, true_or, or_true, Bool.false_eq_true, Bool.true_eq_false, reduceCtorEq, Nat.add_one_sub_one, Nat.reduceSub, Nat.reduceAdd, Nat.sub_self, Nat.zero_add, Nat.add_sub_cancel, fld_co]
  refine neg_lc (by simp [wipeD]) z1 (by omega) l1 ?_
  exact ⟨_, _, es, negL a, m, n, rfl, rfl, rfl, z2, z1.neg, m0, n0, by omega, l2, by rw [negL_len]; exact l1, mkPoly_rats (by rw [addL_len, negL_len]; omega) p⟩
theorem p_Poly_neg {cs : List Str} (hR : ("Ratio" : Str) ∈ cs) (hP : ("Poly" : Str) ∈ cs) (ds : List D) (P : D → Prop) (X : XP) (h : fPNeg ds P X) : f_Poly_neg cs (topE P X0) (startD 2 ds) := by
  obtain ⟨a, n, rfl, z1, hn, l1, p⟩ := h
  simp only [fSeq, fIfS, fB, fIsi, fVar, fC, fOp, fUn, fLs, fRet, fRetN, fCall, fCall0, fCons, fNil, fNext, fNev, fFld, fSet, fOwn, fDrop, fAsg, fPar, fNot, fAnd, fOr, fAndV, fOrV, fNotV, fIf, fTru, fLst, fTup, fMeth, fMeth0, fName, fRaise, fRaise0, fBr, fBor, fApp, fSetI, fAug, fChain, fYes, fSl, fNoPart, fPart, fItL, fItT, fIt, fIsLT, fBrk, fCnt, topE, startD, toB, oI, oI0, oNeg, oAbs, oMax, oMin, oInt, oLen_lst, oLen_tup, oList, oTuple, oCat, oIsB, oNotB, oEq, oNe, eqD, oIsN, oNotN, isN, own_rr, own_ri, own_pp, own_pi, rfl_ir, rfl_ip, neg_r, neg_p, abs_r, tru_lst, tru_tup, tru_int, tru_bl, tru_non, tupG2, tupG4, lstEx, tupEx, lstIs, tupIs, intEx, lst1Ex, lst2Ex, int1Ex, int2Ex, en1Ex, setEx, it_lst, it_tup, oIxL, oIxT, InsD, List.map_cons, List.map_nil, List.cons_append, List.nil_append, List.length_cons, List.length_nil, List.getElem?_cons_zero, List.getElem?_cons_succ, List.set_cons_zero, List.set_cons_succ, List.replicate_succ, List.replicate_zero, Option.some.injEq, exists_eq_left', clsD_rat, clsD_poly, if_true, if_false, List.append_nil, true_and, and_true, true_or, or_true, Bool.false_eq_true, Bool.true_eq_false, reduceCtorEq, Nat.add_one_sub_one, Nat.reduceSub, Nat.reduceAdd, Nat.sub_self, Nat.zero_add, Nat.add_sub_cancel, f_Poly_neg, fLc, fld_co]
  refine neg_lc (by simp [wipeD]) z1 hn l1 ?_
  exact mkPoly_rats (by rw [negL_len]; omega) p
/-! ### Poly(..) -/
theorem init_env {K : PySem.W.Frag} {F : Option Addr} {M : Addr → Prop} {H1 : Hp} {C x dx : Addr} {n : Nat} {ds : List D} {us : List V} {names : List Str} (lv : Lv K F M H1) (r : Reps K F M H1 ds us) (n1 : H1 x = none) (n2 : H1 dx = none) (ne : dx ≠ x) (hn : names.length = n + 1) :
    REnv K ⟨F, fun p => M p ∨ p = x, upd (upd H1 dx (.own x)) x (.ins C dx [])⟩ [] (upd (upd H1 dx (.own x)) x (.ins C dx [])) (start names (.ref x :: us)) (some (.adr x) :: startD n ds) := by
  have old : ∀ {b : Addr} {o : HO}, H1 b = some o → b ≠ x ∧ upd (upd H1 dx (.own x)) x (.ins C dx []) b = some o := fun {b o} h => by
    have h1 : b ≠ x := ne_of_none h n1
    have h2 : b ≠ dx := ne_of_none h n2
    exact ⟨h1, by rw [upd_ne h1, upd_ne h2]; exact h⟩
  have sm : Same H1 (upd (upd H1 dx (.own x)) x (.ins C dx [])) := fun b o h => (old h).2
  have go : Goes F M H1 ((⟨F, fun p => M p ∨ p = x, upd (upd H1 dx (.own x)) x (.ins C dx [])⟩ : Wd).Mx [] (L2.start names (.ref x :: us))) (upd (upd H1 dx (.own x)) x (.ins C dx [])) := fun p o h nf m => ⟨(old h).2, fun z => by
    rcases z with (z | z) | ⟨_, y, _⟩
    · exact m z
    · exact (old h).1 z
    · cases y⟩
  refine ⟨.refl, fun p m => ?_, fun p m => ?_, fun i _ => ?_, fun i hi => (nomatch hi), fun i hi => (nomatch hi), fun f hf => ?_⟩
  · rcases m with m | m
    · obtain ⟨o, h⟩ := lv.m p m
      exact ⟨o, (old h).2⟩
    · exact ⟨_, by rw [m]; exact upd_same⟩
  · rcases m with m | m
    · exact lv.nf p m
    · rw [m]; exact (lv.ok n1).1
  · have es : L2.start names (.ref x :: us) = some (.ref x) :: (us.map some ++ List.replicate (n - us.length) none) := by
      unfold L2.start
      rw [hn, List.length_cons, List.map_cons, List.cons_append]
      congr 3
      omega
    have mx : ∀ q, (⟨F, fun p => M p ∨ p = x, upd (upd H1 dx (.own x)) x (.ins C dx [])⟩ : Wd).Mx [] (L2.start names (.ref x :: us)) q ↔ (M q ∨ q = x) := fun q => ⟨fun z => z.elim id fun ⟨_, y, _⟩ => (nomatch y), .inl⟩
    show Sl (Rep K F ((⟨F, fun p => M p ∨ p = x, upd (upd H1 dx (.own x)) x (.ins C dx [])⟩ : Wd).Mx [] (L2.start names (.ref x :: us))) _) _ _
    generalize hMx : (⟨F, fun p => M p ∨ p = x, upd (upd H1 dx (.own x)) x (.ins C dx [])⟩ : Wd).Mx [] (L2.start names (.ref x :: us)) = MM at go ⊢
    rw [es]
    cases i with
    | zero => exact rfl
    | succ i =>
      rw [List.getElem?_cons_succ, List.getElem?_cons_succ]
      unfold startD
      rw [r.length]
      exact start_sl (n - ds.length) i r fun d v h => Rep.goes go d v h
  · obtain ⟨c, h1, h2⟩ := lv.f f hf
    refine ⟨c, h1.same sm, fun z => ?_⟩
    rcases z with (z | z) | ⟨_, y, _⟩
    · exact h2 z
    · obtain ⟨_, _, _, _, _, _, o, _, hc⟩ := h1
      exact (old hc).1 z
    · cases y
/-- the numbers of a list: the looks at its items, the list of Ratios -/
theorem nums_loop {cs : List Str} {FD : FEnds} {hd : D} {C : Str} (hR : ("Ratio" : Str) ∈ cs) {v3 : Option D} {x : D}
    (body : FS) (hb : body = fIfS (fNot (fB (fCall0 (fIsNum cs) [] (fCons (fVar 2) fNil)))) (fRaise0 C) fNext) :
    ∀ (items : List D) (v2 : Option D), ((∃ qs, numsV items = some qs) ∧ ∀ v2, FD.nx [some x, some hd, v2, v3]) ∨ (∃ pre b post, items = pre ++ b :: post ∧ (∃ qs, numsV pre = some qs) ∧ numD cs b = some false ∧ ∀ ρ, FD.ex ⟨C, []⟩ ρ) → forGo (fName 2) body FD items [some x, some hd, v2, v3]
  | [], v2, h => by
    rcases h with ⟨_, h⟩ | ⟨pre, b, post, h, _⟩
    · exact h v2
    · cases pre <;> cases h
  | d :: items, v2, h => by
    unfold forGo
    rw [hb]
    simp only [fSeq, fIfS, fB, fIsi, fVar, fC, fOp, fUn, fLs, fRet, fRetN, fCall, fCall0, fCons, fNil, fNext, fNev, fFld, fSet, fOwn, fDrop, fAsg, fPar, fNot, fAnd, fOr, fAndV, fOrV, fNotV, fIf, fTru, fLst, fTup, fMeth, fMeth0, fName, fRaise, fRaise0, fBr, fBor, fApp, fSetI, fAug, fChain, fYes, fSl, fNoPart, fPart, fItL, fItT, fIt, fIsLT, fBrk, fCnt, topE, startD, toB, oI, oI0, oNeg, oAbs, oMax, oMin, oInt, oLen_lst, oLen_tup, oList, oTuple, oCat, oIsB, oNotB, oEq, oNe, eqD, oIsN, oNotN, isN, own_rr, own_ri, own_pp, own_pi, rfl_ir, rfl_ip, neg_r, neg_p, abs_r, tru_lst, tru_tup, tru_int, tru_bl, tru_non, tupG2, tupG4, lstEx, tupEx, lstIs, tupIs, intEx, lst1Ex, lst2Ex, int1Ex, int2Ex, en1Ex, setEx, it_lst, it_tup, oIxL, oIxT, InsD, List.map_cons, List.map_nil, List.cons_append, List.nil_append, List.length_cons, List.length_nil, List.getElem?_cons_zero, List.getElem?_cons_succ, List.set_cons_zero, List.set_cons_succ, List.replicate_succ, List.replicate_zero, Option.some.injEq, exists_eq_left', clsD_rat, clsD_poly, if_true, if_false, List.append_nil, true_and, and_true, true_or, or_true, Bool.false_eq_true, Bool.true_eq_false, reduceCtorEq, Nat.add_one_sub_one, Nat.reduceSub, Nat.reduceAdd, Nat.sub_self, Nat.zero_add, Nat.add_sub_cancel]
    rw [← hb]
    rcases h with ⟨⟨qs, hq⟩, h⟩ | ⟨pre, b', post, h, ⟨qs, hq⟩, hn, hx⟩
    · have hv : ∃ q, numV d = some q ∧ ∃ qs, numsV items = some qs := by
        simp only [numsV] at hq
        split at hq
        · rename_i q' qs' h1 h2; exact ⟨_, h1, _, h2⟩
        · cases hq
      obtain ⟨q, hv, qs', hqs⟩ := hv
      refine ⟨d, true, rfl, numV_numD hR hv, ?_⟩
      simp only [fSeq, fIfS, fB, fIsi, fVar, fC, fOp, fUn, fLs, fRet, fRetN, fCall, fCall0, fCons, fNil, fNext, fNev, fFld, fSet, fOwn, fDrop, fAsg, fPar, fNot, fAnd, fOr, fAndV, fOrV, fNotV, fIf, fTru, fLst, fTup, fMeth, fMeth0, fName, fRaise, fRaise0, fBr, fBor, fApp, fSetI, fAug, fChain, fYes, fSl, fNoPart, fPart, fItL, fItT, fIt, fIsLT, fBrk, fCnt, topE, startD, toB, oI, oI0, oNeg, oAbs, oMax, oMin, oInt, oLen_lst, oLen_tup, oList, oTuple, oCat, oIsB, oNotB, oEq, oNe, eqD, oIsN, oNotN, isN, own_rr, own_ri, own_pp, own_pi, rfl_ir, rfl_ip, neg_r, neg_p, abs_r, tru_lst, tru_tup, tru_int, tru_bl, tru_non, tupG2, tupG4, lstEx, tupEx, lstIs, tupIs, intEx, lst1Ex, lst2Ex, int1Ex, int2Ex, en1Ex, setEx, it_lst, it_tup, oIxL, oIxT, InsD, List.map_cons, List.map_nil, List.cons_append, List.nil_append, List.length_cons, List.length_nil, List.getElem?_cons_zero, List.getElem?_cons_succ, List.set_cons_zero, List.set_cons_succ, List.replicate_succ, List.replicate_zero, Option.some.injEq, exists_eq_left', clsD_rat, clsD_poly, if_true, if_false, List.append_nil, true_and, and_true, true_or, or_true, Bool.false_eq_true, Bool.true_eq_false, reduceCtorEq, Nat.add_one_sub_one, Nat.reduceSub, Nat.reduceAdd, Nat.sub_self, Nat.zero_add, Nat.add_sub_cancel, Bool.not_true]
      exact nums_loop hR body hb items _ (.inl ⟨⟨qs', hqs⟩, h⟩)
    · cases pre with
      | nil =>
        simp only [List.nil_append, List.cons.injEq] at h
        obtain ⟨rfl, rfl⟩ := h
        refine ⟨d, false, rfl, hn, ?_⟩
        simp only [fSeq, fIfS, fB, fIsi, fVar, fC, fOp, fUn, fLs, fRet, fRetN, fCall, fCall0, fCons, fNil, fNext, fNev, fFld, fSet, fOwn, fDrop, fAsg, fPar, fNot, fAnd, fOr, fAndV, fOrV, fNotV, fIf, fTru, fLst, fTup, fMeth, fMeth0, fName, fRaise, fRaise0, fBr, fBor, fApp, fSetI, fAug, fChain, fYes, fSl, fNoPart, fPart, fItL, fItT, fIt, fIsLT, fBrk, fCnt, topE, startD, toB, oI, oI0, oNeg, oAbs, oMax, oMin, oInt, oLen_lst, oLen_tup, oList, oTuple, oCat, oIsB, oNotB, oEq, oNe, eqD, oIsN, oNotN, isN, own_rr, own_ri, own_pp, own_pi, rfl_ir, rfl_ip, neg_r, neg_p, abs_r, tru_lst, tru_tup, tru_int, tru_bl, tru_non, tupG2, tupG4, lstEx, tupEx, lstIs, tupIs, intEx, lst1Ex, lst2Ex, int1Ex, int2Ex, en1Ex, setEx, it_lst, it_tup, oIxL, oIxT, InsD, List.map_cons, List.map_nil, List.cons_append, List.nil_append, List.length_cons, List.length_nil, List.getElem?_cons_zero, List.getElem?_cons_succ, List.set_cons_zero, List.set_cons_succ, List.replicate_succ, List.replicate_zero, Option.some.injEq, exists_eq_left', clsD_rat, clsD_poly, if_true, if_false, List.append_nil, true_and, and_true, true_or, or_true, Bool.false_eq_true, Bool.true_eq_false, reduceCtorEq, Nat.add_one_sub_one, Nat.reduceSub, Nat.reduceAdd, Nat.sub_self, Nat.zero_add, Nat.add_sub_cancel, Bool.not_false]
        exact hx _
      | cons e pre =>
        simp only [List.cons_append, List.cons.injEq] at h
        obtain ⟨rfl, rfl⟩ := h
        have hv : ∃ q, numV d = some q ∧ ∃ qs, numsV pre = some qs := by
          simp only [numsV] at hq
          split at hq
          · rename_i q' qs' h1 h2; exact ⟨_, h1, _, h2⟩
          · cases hq
        obtain ⟨q, hv, qs', hqs⟩ := hv
        refine ⟨d, true, rfl, numV_numD hR hv, ?_⟩
        simp only [fSeq, fIfS, fB, fIsi, fVar, fC, fOp, fUn, fLs, fRet, fRetN, fCall, fCall0, fCons, fNil, fNext, fNev, fFld, fSet, fOwn, fDrop, fAsg, fPar, fNot, fAnd, fOr, fAndV, fOrV, fNotV, fIf, fTru, fLst, fTup, fMeth, fMeth0, fName, fRaise, fRaise0, fBr, fBor, fApp, fSetI, fAug, fChain, fYes, fSl, fNoPart, fPart, fItL, fItT, fIt, fIsLT, fBrk, fCnt, topE, startD, toB, oI, oI0, oNeg, oAbs, oMax, oMin, oInt, oLen_lst, oLen_tup, oList, oTuple, oCat, oIsB, oNotB, oEq, oNe, eqD, oIsN, oNotN, isN, own_rr, own_ri, own_pp, own_pi, rfl_ir, rfl_ip, neg_r, neg_p, abs_r, tru_lst, tru_tup, tru_int, tru_bl, tru_non, tupG2, tupG4, lstEx, tupEx, lstIs, tupIs, intEx, lst1Ex, lst2Ex, int1Ex, int2Ex, en1Ex, setEx, it_lst, it_tup, oIxL, oIxT, InsD, List.map_cons, List.map_nil, List.cons_append, List.nil_append, List.length_cons, List.length_nil, List.getElem?_cons_zero, List.getElem?_cons_succ, List.set_cons_zero, List.set_cons_succ, List.replicate_succ, List.replicate_zero, Option.some.injEq, exists_eq_left', clsD_rat, clsD_poly, if_true, if_false, List.append_nil, true_and, and_true, true_or, or_true, Bool.false_eq_true, Bool.true_eq_false, reduceCtorEq, Nat.add_one_sub_one, Nat.reduceSub, Nat.reduceAdd, Nat.sub_self, Nat.zero_add, Nat.add_sub_cancel, Bool.not_true]
        exact nums_loop hR body hb _ _ (.inr ⟨pre, b', post, rfl, ⟨qs', hqs⟩, hn, hx⟩)
def toRat (d : D) : D := match numV d with
  | some q => .rat q
  | none => d
theorem toRat_nums : ∀ {items : List D} {qs : List Rat}, numsV items = some qs → items.map toRat = ratL qs
  | [], qs, h => by cases h; rfl
  | d :: items, qs, h => by
    simp only [numsV] at h
    split at h
    · rename_i q qs' h1 h2
      cases h
      rw [List.map_cons, toRat_nums h2, ratL_cons]
      unfold toRat
      rw [h1]
    · cases h
theorem numsV_mem {d : D} : ∀ {items : List D} {qs : List Rat}, numsV items = some qs → d ∈ items → ∃ q, numV d = some q
  | [], _, _, h => by cases h
  | e :: items, qs, h, hd => by
    simp only [numsV] at h
    split at h
    · rename_i q qs' h1 h2
      rcases List.mem_cons.mp hd with rfl | hd
      · exact ⟨q, h1⟩
      · exact numsV_mem h2 hd
    · cases h
theorem numsV_len : ∀ {items : List D} {qs : List Rat}, numsV items = some qs → items.length = qs.length
  | [], _, h => by cases h; rfl
  | e :: items, qs, h => by
    simp only [numsV] at h
    split at h
    · rename_i q qs' h1 h2
      cases h
      rw [List.length_cons, List.length_cons, numsV_len h2]
    · cases h
theorem asRat_ok {cs : List Str} (hR : ("Ratio" : Str) ∈ cs) {d : D} {q : Rat} {w : Str} {P : D → Prop} {X : XP} (h : numV d = some q) (p : P (.rat q)) : fAsRat cs [d, .str w] P X := by
  refine ⟨d, w, true, rfl, numV_numD hR h, (fun z => by cases z), fun _ => ?_⟩
  cases d <;> first | (cases h; done) | skip
  · cases h; exact p
  · cases h; exact p
theorem rats_lc {cs : List Str} (hR : ("Ratio" : Str) ∈ cs) {ρ0 : Env} {P : D → Prop} {i : Nat} {w : Str} {items : List D} {qs : List Rat} (hi : i < ρ0.length) (hq : numsV items = some qs) (hl : items.length ≤ 100000) (p : P (.lst (ratL qs))) : lcGo (fName i) fYes (fCall0 (fAsRat cs) [] (fCons (fVar i) (fCons (fC (.str w)) fNil))) ρ0 P items [] := by
  refine lc_map toRat _ [] (fun d hd Q q => ?_) ?_ ?_
  · obtain ⟨v, hv⟩ := numsV_mem hq hd
    refine ⟨_, by rw [set_get, if_pos rfl, if_pos hi], ?_⟩
    show fAsRat cs [d, .str w] Q X0
    refine asRat_ok hR hv ?_
    unfold toRat at q
    rw [hv] at q
    exact q
  · exact small_line (by simp; omega)
  · rw [toRat_nums hq]
    exact p
theorem lead_at {cs : List Rat} (h : cs ≠ []) : atI (ratL cs) (-1) = some (.rat (leadOf cs)) := by
  have hl : 0 < cs.length := List.length_pos_iff.mpr h
  unfold atI ixN
  rw [if_neg (by decide), ratL_len, if_pos (by omega)]
  show (ratL cs)[(-1 + (cs.length : Int)).toNat]? = _
  rw [show (-1 + (cs.length : Int)).toNat = cs.length - 1 by omega, ratL_get (by omega)]
  rfl
theorem f_pre_ok {cs : List Str} (hR : ("Ratio" : Str) ∈ cs) {d : D} {s : D} {P : D → Prop} {X : XP} {FD : FEnds} (h : fMkPoly cs [d] P X) (hn : ∀ v2 qs, P (.poly (strip qs)) → FD.nx [some s, some d, v2, some (.lst (ratL (strip qs)))]) (hx : ∀ ρ, X ⟨"NoPoly", []⟩ → FD.ex ⟨"NoPoly", []⟩ ρ) :
    f_Poly_init_pre cs FD [some s, some d, none, none] := by
  obtain ⟨d', e, h⟩ := h
  cases e
  have isl : ∀ items, itD d = some items → ∃ b b', isD cs (.ty "list") d = some b ∧ isD cs (.ty "tuple") d = some b' ∧ (b || b') = true := fun items h => by
    rcases itD_cases h with rfl | rfl
    · exact ⟨true, false, by simp [isD, tyN, subN], by simp [isD, tyN, subN], rfl⟩
    · exact ⟨false, true, by simp [isD, tyN, subN], by simp [isD, tyN, subN], rfl⟩
  have main : ∀ items, itD d = some items → items.length ≤ 100000 → ((∃ qs, numsV items = some qs ∧ P (.poly (strip qs))) ∨ (∃ pre b post, items = pre ++ b :: post ∧ (∃ qs, numsV pre = some qs) ∧ numD cs b = some false ∧ X ⟨"NoPoly", []⟩)) → f_Poly_init_pre cs FD [some s, some d, none, none]   := fun items hi hl h => by
    obtain ⟨b, b', h1, h2, h3⟩ := isl items hi
    simp only [fSeq, fIfS, fB, fIsi, fVar, fC, fOp, fUn, fLs, fRet, fRetN, fCall, fCall0, fCons, fNil, fNext, fNev, fFld, fSet, fOwn, fDrop, fAsg, fPar, fNot, fAnd, fOr, fAndV, fOrV, fNotV, fIf, fTru, fLst, fTup, fMeth, fMeth0, fName, fRaise, fRaise0, fBr, fBor, fApp, fSetI, fAug, fChain, fYes, fSl, fNoPart, fPart, fItL, fItT, fIt, fIsLT, fBrk, fCnt, topE, startD, toB, oI, oI0, oNeg, oAbs, oMax, oMin, oInt, oLen_lst, oLen_tup, oList, oTuple, oCat, oIsB, oNotB, oEq, oNe, eqD, oIsN, oNotN, isN, own_rr, own_ri, own_pp, own_pi, rfl_ir, rfl_ip, neg_r, neg_p, abs_r, tru_lst, tru_tup, tru_int, tru_bl, tru_non, tupG2, tupG4, lstEx, tupEx, lstIs, tupIs, intEx, lst1Ex, lst2Ex, int1Ex, int2Ex, en1Ex, setEx, it_lst, it_tup, oIxL, oIxT, InsD, List.map_cons, List.map_nil, List.cons_append, List.nil_append, List.length_cons, List.length_nil, List.getElem?_cons_zero, List.getElem?_cons_succ, List.set_cons_zero, List.set_cons_succ, List.replicate_succ, List.replicate_zero, Option.some.injEq, exists_eq_left', clsD_rat, clsD_poly, if_true, if_false, List.append_nil, true_and, and_true, true_or, or_true, Bool.false_eq_true, Bool.true_eq_false, reduceCtorEq, Nat.add_one_sub_one, Nat.reduceSub, Nat.reduceAdd, Nat.sub_self, Nat.zero_add, Nat.add_sub_cancel, f_Poly_init_pre, fFor, itEx hi]
    refine ⟨b, b', h1, h2, ?_⟩
    rw [h3]
    simp only [fSeq, fIfS, fB, fIsi, fVar, fC, fOp, fUn, fLs, fRet, fRetN, fCall, fCall0, fCons, fNil, fNext, fNev, fFld, fSet, fOwn, fDrop, fAsg, fPar, fNot, fAnd, fOr, fAndV, fOrV, fNotV, fIf, fTru, fLst, fTup, fMeth, fMeth0, fName, fRaise, fRaise0, fBr, fBor, fApp, fSetI, fAug, fChain, fYes, fSl, fNoPart, fPart, fItL, fItT, fIt, fIsLT, fBrk, fCnt, topE, startD, toB, oI, oI0, oNeg, oAbs, oMax, oMin, oInt, oLen_lst, oLen_tup, oList, oTuple, oCat, oIsB, oNotB, oEq, oNe, eqD, oIsN, oNotN, isN, own_rr, own_ri, own_pp, own_pi, rfl_ir, rfl_ip, neg_r, neg_p, abs_r, tru_lst, tru_tup, tru_int, tru_bl, tru_non, tupG2, tupG4, lstEx, tupEx, lstIs, tupIs, intEx, lst1Ex, lst2Ex, int1Ex, int2Ex, en1Ex, setEx, it_lst, it_tup, oIxL, oIxT, InsD, List.map_cons, List.map_nil, List.cons_append, List.nil_append, List.length_cons, List.length_nil, List.getElem?_cons_zero, List.getElem?_cons_succ, List.set_cons_zero, List.set_cons_succ, List.replicate_succ, List.replicate_zero, Option.some.injEq, exists_eq_left', clsD_rat, clsD_poly, if_true, if_false, List.append_nil, true_and, and_true, true_or, or_true, Bool.false_eq_true, Bool.true_eq_false, reduceCtorEq, Nat.add_one_sub_one, Nat.reduceSub, Nat.reduceAdd, Nat.sub_self, Nat.zero_add, Nat.add_sub_cancel, Bool.not_true]
    refine nums_loop hR _ rfl items none ?_
    rcases h with ⟨qs, hq, hp⟩ | ⟨pre, bb, post, h, hq, hb, hX⟩
    · refine .inl ⟨⟨qs, hq⟩, fun v2 => ?_⟩
      simp only [fSeq, fIfS, fB, fIsi, fVar, fC, fOp, fUn, fLs, fRet, fRetN, fCall, fCall0, fCons, fNil, fNext, fNev, fFld, fSet, fOwn, fDrop, fAsg, fPar, fNot, fAnd, fOr, fAndV, fOrV, fNotV, fIf, fTru, fLst, fTup, fMeth, fMeth0, fName, fRaise, fRaise0, fBr, fBor, fApp, fSetI, fAug, fChain, fYes, fSl, fNoPart, fPart, fItL, fItT, fIt, fIsLT, fBrk, fCnt, topE, startD, toB, oI, oI0, oNeg, oAbs, oMax, oMin, oInt, oLen_lst, oLen_tup, oList, oTuple, oCat, oIsB, oNotB, oEq, oNe, eqD, oIsN, oNotN, isN, own_rr, own_ri, own_pp, own_pi, rfl_ir, rfl_ip, neg_r, neg_p, abs_r, tru_lst, tru_tup, tru_int, tru_bl, tru_non, tupG2, tupG4, lstEx, tupEx, lstIs, tupIs, intEx, lst1Ex, lst2Ex, int1Ex, int2Ex, en1Ex, setEx, it_lst, it_tup, oIxL, oIxT, InsD, List.map_cons, List.map_nil, List.cons_append, List.nil_append, List.length_cons, List.length_nil, List.getElem?_cons_zero, List.getElem?_cons_succ, List.set_cons_zero, List.set_cons_succ, List.replicate_succ, List.replicate_zero, Option.some.injEq, exists_eq_left', clsD_rat, clsD_poly, if_true, if_false, List.append_nil, true_and, and_true, true_or, or_true, Bool.false_eq_true, Bool.true_eq_false, reduceCtorEq, Nat.add_one_sub_one, Nat.reduceSub, Nat.reduceAdd, Nat.sub_self, Nat.zero_add, Nat.add_sub_cancel, fLc, itEx hi]
      refine rats_lc hR (by simp [wipeD]) hq hl ?_
      exact ⟨qs, rfl, hn v2 qs hp⟩
    · exact .inr ⟨pre, bb, post, h, hq, hb, fun ρ => hx ρ hX⟩
  rcases h with ⟨items, qs, hi, hl, hq, hp⟩ | ⟨items, pre, b, post, hi, hl, h1, h2, h3, h4⟩ | ⟨h1, h2, h3⟩
  · exact main items hi hl (.inl ⟨qs, hq, hp⟩)
  · exact main items hi hl (.inr ⟨pre, b, post, h1, h2, h3, h4⟩)
  · simp only [fSeq, fIfS, fB, fIsi, fVar, fC, fOp, fUn, fLs, fRet, fRetN, fCall, fCall0, fCons, fNil, fNext, fNev, fFld, fSet, fOwn, fDrop, fAsg, fPar, fNot, fAnd, fOr, fAndV, fOrV, fNotV, fIf, fTru, fLst, fTup, fMeth, fMeth0, fName, fRaise, fRaise0, fBr, fBor, fApp, fSetI, fAug, fChain, fYes, fSl, fNoPart, fPart, fItL, fItT, fIt, fIsLT, fBrk, fCnt, topE, startD, toB, oI, oI0, oNeg, oAbs, oMax, oMin, oInt, oLen_lst, oLen_tup, oList, oTuple, oCat, oIsB, oNotB, oEq, oNe, eqD, oIsN, oNotN, isN, own_rr, own_ri, own_pp, own_pi, rfl_ir, rfl_ip, neg_r, neg_p, abs_r, tru_lst, tru_tup, tru_int, tru_bl, tru_non, tupG2, tupG4, lstEx, tupEx, lstIs, tupIs, intEx, lst1Ex, lst2Ex, int1Ex, int2Ex, en1Ex, setEx, it_lst, it_tup, oIxL, oIxT, InsD, List.map_cons, List.map_nil, List.cons_append, List.nil_append, List.length_cons, List.length_nil, List.getElem?_cons_zero, List.getElem?_cons_succ, List.set_cons_zero, List.set_cons_succ, List.replicate_succ, List.replicate_zero, Option.some.injEq, exists_eq_left', clsD_rat, clsD_poly, if_true, if_false, List.append_nil, true_and, and_true, true_or, or_true, Bool.false_eq_true, Bool.true_eq_false, reduceCtorEq, Nat.add_one_sub_one, Nat.reduceSub, Nat.reduceAdd, Nat.sub_self, Nat.zero_add, Nat.add_sub_cancel, f_Poly_init_pre]
    refine ⟨false, false, h1, h2, ?_⟩
    simp only [fSeq, fIfS, fB, fIsi, fVar, fC, fOp, fUn, fLs, fRet, fRetN, fCall, fCall0, fCons, fNil, fNext, fNev, fFld, fSet, fOwn, fDrop, fAsg, fPar, fNot, fAnd, fOr, fAndV, fOrV, fNotV, fIf, fTru, fLst, fTup, fMeth, fMeth0, fName, fRaise, fRaise0, fBr, fBor, fApp, fSetI, fAug, fChain, fYes, fSl, fNoPart, fPart, fItL, fItT, fIt, fIsLT, fBrk, fCnt, topE, startD, toB, oI, oI0, oNeg, oAbs, oMax, oMin, oInt, oLen_lst, oLen_tup, oList, oTuple, oCat, oIsB, oNotB, oEq, oNe, eqD, oIsN, oNotN, isN, own_rr, own_ri, own_pp, own_pi, rfl_ir, rfl_ip, neg_r, neg_p, abs_r, tru_lst, tru_tup, tru_int, tru_bl, tru_non, tupG2, tupG4, lstEx, tupEx, lstIs, tupIs, intEx, lst1Ex, lst2Ex, int1Ex, int2Ex, en1Ex, setEx, it_lst, it_tup, oIxL, oIxT, InsD, List.map_cons, List.map_nil, List.cons_append, List.nil_append, List.length_cons, List.length_nil, List.getElem?_cons_zero, List.getElem?_cons_succ, List.set_cons_zero, List.set_cons_succ, List.replicate_succ, List.replicate_zero, Option.some.injEq, exists_eq_left', clsD_rat, clsD_poly, if_true, if_false, List.append_nil, true_and, and_true, true_or, or_true, Bool.false_eq_true, Bool.true_eq_false, reduceCtorEq, Nat.add_one_sub_one, Nat.reduceSub, Nat.reduceAdd, Nat.sub_self, Nat.zero_add, Nat.add_sub_cancel, Bool.not_false, Bool.or_false]
    exact hx _ h3
theorem putF_ne {f g : Str} {v x : V} {r : List (Str × V)} (h : ¬ g = f) : putF f v ((g, x) :: r) = (g, x) :: putF f v r := by
  show (if g = f then _ else _) = _
  rw [if_neg h]
theorem Gr.updx {K : PySem.W.Frag} {F : Option Addr} {H1 Ha : Hp} {x : Addr} {o : HO} (g : Gr K F H1 Ha) (n : H1 x = none) (nf : F ≠ some x) : Gr K F H1 (upd Ha x o) := by
  refine ⟨fun b u h m => ?_, fun f c hf h => ?_⟩
  · rw [upd_ne (ne_of_none h n)]
    exact g.old b u h m
  · refine (g.feed f c hf h).keep (fun z => nf (by rw [z]; exact hf)) (fun z => ?_)
    obtain ⟨_, _, _, _, _, _, _, _, hc⟩ := h
    rw [← z, n] at hc; cases hc
theorem pp_Poly_init {K : PySem.W.Frag} {cs : List Str} (T : KF K cs) (hRatio : ("Ratio" : Str) ∈ cs) (hPoly : ("Poly" : Str) ∈ cs) (vs : List V) (H : Hp) (Q : VK) (E : XK) (h : liftI K "Poly" (fMkPoly cs) vs H Q E) : tt_Poly_init K cs E { nx := fun _ H' => Q .non H', rt := Q } (start ["self", "coefficients", "item", "kept"] vs) H := by
  obtain ⟨F, M, H1, ds, us, P, X, x, dx, rfl, rfl, n1, n2, ne, lv, r, hf, q, px⟩ := h
  obtain ⟨d, rfl, _⟩ := id hf
  have e0 := init_env (C := He.ga K "Poly") (n := 3) (names := ["self", "coefficients", "item", "kept"]) lv r n1 n2 ne rfl
  have sm0 : Gr K F H1 (upd (upd H1 dx (.own x)) x (.ins (He.ga K "Poly") dx [])) := .same fun b o h => by
    rw [upd_ne (ne_of_none h n1), upd_ne (ne_of_none h n2)]
    exact h
  generalize hH : upd (upd H1 dx (.own x)) x (.ins (He.ga K "Poly") dx []) = H0 at e0 sm0
  have hx0 : H0 x = some (.ins (He.ga K "Poly") dx []) := by rw [← hH]; exact upd_same
  let FD : FEnds := ⟨fun ρ => ∃ v2 qs, ρ = [some (.adr x), some d, v2, some (.lst (ratL (strip qs)))] ∧ P (.poly (strip qs)), fun _ => False, fun _ => False, fun _ => False, fun e _ => X e⟩
  have hpre : f_Poly_init_pre cs FD [some (.adr x), some d, none, none] := f_pre_ok hRatio hf (fun v2 qs p => ⟨v2, qs, rfl, p⟩) (fun _ p => p)
  refine s_Poly_init_pre T hRatio hPoly E _ H0 _ _ _ FD e0 hpre ⟨?_, fun _ _ _ z => z.elim, fun _ _ _ z => z.elim, fun _ _ _ z => z.elim, fun x' ρ σ H' cls dd hx' e rx => px x' cls dd H' hx' (sm0.trans e.gr) rx⟩
  rintro ρ σ H2 ⟨v2, qs, rfl, hp⟩ e2
  have cl := (T.own _ hPoly).cl
  have fo : ∀ f, f ∈ fieldsOf "Poly" → NoAttr K (He.ga K "Poly") f := fun f hf => (T.fld _ hPoly f hf).na
  have hσ : σ[0]? = some (some (.ref x)) := by
    have := e2.imm 0 (by simp)
    cases hv : σ[0]? with
    | none => rw [hv] at this; exact this.elim
    | some o =>
      rw [hv] at this
      cases o with
      | none => exact this.elim
      | some v => rw [show v = .ref x from this]
  have nfx : F ≠ some x := (lv.ok n1).1
  have hx2 : H2 x = some (.ins (He.ga K "Poly") dx []) := e2.gr.old _ _ hx0 nfx
  have g02 : Gr K F H1 H2 := sm0.trans e2.gr
  have pX : ∀ {Ha : Hp}, Gr K F H1 Ha → PostX K F Ha X E := fun g => px.gr g
  generalize hks : strip qs = ks at hp e2
  have hN : Nrm ks := by rw [← hks]; exact nrm_strip qs
  -- coefficients
  refine self_set (w := ⟨F, fun p => M p ∨ p = x, H0⟩) (C := He.ga K "Poly") (dx := dx) (gs := []) (P := fun d => d = .tup (ratL ks)) (X := X) (s_Poly_init_coefficients T hRatio hPoly E) e2 (.inr rfl) hx2 hσ cl (fo _ (by decide)) (by decide) ?_ (pX g02) ?_
  · simp only [fSeq, fIfS, fB, fIsi, fVar, fC, fOp, fUn, fLs, fRet, fRetN, fCall, fCall0, fCons, fNil, fNext, fNev, fFld, fSet, fOwn, fDrop, fAsg, fPar, fNot, fAnd, fOr, fAndV, fOrV, fNotV, fIf, fTru, fLst, fTup, fMeth, fMeth0, fName, fRaise, fRaise0, fBr, fBor, fApp, fSetI, fAug, fChain, fYes, fSl, fNoPart, fPart, fItL, fItT, fIt, fIsLT, fBrk, fCnt, topE, startD, toB, oI, oI0, oNeg, oAbs, oMax, oMin, oInt, oLen_lst, oLen_tup, oList, oTuple, oCat, oIsB, oNotB, oEq, oNe, eqD, oIsN, oNotN, isN, own_rr, own_ri, own_pp, own_pi, rfl_ir, rfl_ip, neg_r, neg_p, abs_r, tru_lst, tru_tup, tru_int, tru_bl, tru_non, tupG2, tupG4, lstEx, tupEx, lstIs, tupIs, intEx, lst1Ex, lst2Ex, int1Ex, int2Ex, en1Ex, setEx, it_lst, it_tup, oIxL, oIxT, InsD, List.map_cons, List.map_nil, List.cons_append, List.nil_append, List.length_cons, List.length_nil, List.getElem?_cons_zero, List.getElem?_cons_succ, List.set_cons_zero, List.set_cons_succ, List.replicate_succ, List.replicate_zero, Option.some.injEq, exists_eq_left', clsD_rat, clsD_poly, if_true, if_false, List.append_nil, true_and, and_true, true_or, or_true, Bool.false_eq_true, Bool.true_eq_false, reduceCtorEq, Nat.add_one_sub_one, Nat.reduceSub, Nat.reduceAdd, Nat.sub_self, Nat.zero_add, Nat.add_sub_cancel, f_Poly_init_coefficients]
  · intro dc vc H3 w3 hdc g3 ef3 em3 rc keep3 e3
    subst hdc
    have x3 : Gr K F H1 (upd H3 x (.ins (He.ga K "Poly") dx (putF "coefficients" vc []))) := (g02.trans g3).updx n1 nfx
    refine self_set (w := w3) (C := He.ga K "Poly") (dx := dx) (P := fun d => d = .int ((ks.length : Int) - 1)) (X := X) (s_Poly_init_degree T hRatio hPoly E) e3 (by rw [em3]; exact .inr rfl) upd_same hσ cl (fo _ (by decide)) (by show 1 < 1000; decide) ?_ (by rw [ef3]; exact pX x3) ?_
    · simp only [fSeq, fIfS, fB, fIsi, fVar, fC, fOp, fUn, fLs, fRet, fRetN, fCall, fCall0, fCons, fNil, fNext, fNev, fFld, fSet, fOwn, fDrop, fAsg, fPar, fNot, fAnd, fOr, fAndV, fOrV, fNotV, fIf, fTru, fLst, fTup, fMeth, fMeth0, fName, fRaise, fRaise0, fBr, fBor, fApp, fSetI, fAug, fChain, fYes, fSl, fNoPart, fPart, fItL, fItT, fIt, fIsLT, fBrk, fCnt, topE, startD, toB, oI, oI0, oNeg, oAbs, oMax, oMin, oInt, oLen_lst, oLen_tup, oList, oTuple, oCat, oIsB, oNotB, oEq, oNe, eqD, oIsN, oNotN, isN, own_rr, own_ri, own_pp, own_pi, rfl_ir, rfl_ip, neg_r, neg_p, abs_r, tru_lst, tru_tup, tru_int, tru_bl, tru_non, tupG2, tupG4, lstEx, tupEx, lstIs, tupIs, intEx, lst1Ex, lst2Ex, int1Ex, int2Ex, en1Ex, setEx, it_lst, it_tup, oIxL, oIxT, InsD, List.map_cons, List.map_nil, List.cons_append, List.nil_append, List.length_cons, List.length_nil, List.getElem?_cons_zero, List.getElem?_cons_succ, List.set_cons_zero, List.set_cons_succ, List.replicate_succ, List.replicate_zero, Option.some.injEq, exists_eq_left', clsD_rat, clsD_poly, if_true, if_false, List.append_nil, true_and, and_true, true_or, or_true, Bool.false_eq_true, Bool.true_eq_false, reduceCtorEq, Nat.add_one_sub_one, Nat.reduceSub, Nat.reduceAdd, Nat.sub_self, Nat.zero_add, Nat.add_sub_cancel, f_Poly_init_degree, ratL_len]
    · intro dd vd H4 w4 hdd g4 ef4 em4 rd keep4 e4
      subst hdd
      rw [ef3, em3] at keep4 rd
      rw [ef3] at g4
      have x4 : Gr K F H1 (upd H4 x (.ins (He.ga K "Poly") dx (putF "degree" vd (putF "coefficients" vc [])))) := (x3.trans g4).updx n1 nfx
      refine self_set (w := w4) (C := He.ga K "Poly") (dx := dx) (P := fun d => d = .rat (leadOf ks)) (X := X) (s_Poly_init_lead T hRatio hPoly E) e4 (by rw [em4, em3]; exact .inr rfl) upd_same hσ cl (fo _ (by decide)) (by show 2 < 1000; decide) ?_ (by rw [ef4, ef3]; exact pX x4) ?_
      · by_cases hk : ks = []
        · subst hk
          simp only [fSeq, fIfS, fB, fIsi, fVar, fC, fOp, fUn, fLs, fRet, fRetN, fCall, fCall0, fCons, fNil, fNext, fNev, fFld, fSet, fOwn, fDrop, fAsg, fPar, fNot, fAnd, fOr, fAndV, fOrV, fNotV, fIf, fTru, fLst, fTup, fMeth, fMeth0, fName, fRaise, fRaise0, fBr, fBor, fApp, fSetI, fAug, fChain, fYes, fSl, fNoPart, fPart, fItL, fItT, fIt, fIsLT, fBrk, fCnt, topE, startD, toB, oI, oI0, oNeg, oAbs, oMax, oMin, oInt, oLen_lst, oLen_tup, oList, oTuple, oCat, oIsB, oNotB, oEq, oNe, eqD, oIsN, oNotN, isN, own_rr, own_ri, own_pp, own_pi, rfl_ir, rfl_ip, neg_r, neg_p, abs_r, tru_lst, tru_tup, tru_int, tru_bl, tru_non, tupG2, tupG4, lstEx, tupEx, lstIs, tupIs, intEx, lst1Ex, lst2Ex, int1Ex, int2Ex, en1Ex, setEx, it_lst, it_tup, oIxL, oIxT, InsD, List.map_cons, List.map_nil, List.cons_append, List.nil_append, List.length_cons, List.length_nil, List.getElem?_cons_zero, List.getElem?_cons_succ, List.set_cons_zero, List.set_cons_succ, List.replicate_succ, List.replicate_zero, Option.some.injEq, exists_eq_left', clsD_rat, clsD_poly, if_true, if_false, List.append_nil, true_and, and_true, true_or, or_true, Bool.false_eq_true, Bool.true_eq_false, reduceCtorEq, Nat.add_one_sub_one, Nat.reduceSub, Nat.reduceAdd, Nat.sub_self, Nat.zero_add, Nat.add_sub_cancel, f_Poly_init_lead, ratL, List.isEmpty_nil, Bool.not_true, mk_int, Rat.intCast_zero]
          rfl
        · have hx : (ratL ks).isEmpty = false := by cases ks with | nil => exact absurd rfl hk | cons a l => rfl
          simp only [fSeq, fIfS, fB, fIsi, fVar, fC, fOp, fUn, fLs, fRet, fRetN, fCall, fCall0, fCons, fNil, fNext, fNev, fFld, fSet, fOwn, fDrop, fAsg, fPar, fNot, fAnd, fOr, fAndV, fOrV, fNotV, fIf, fTru, fLst, fTup, fMeth, fMeth0, fName, fRaise, fRaise0, fBr, fBor, fApp, fSetI, fAug, fChain, fYes, fSl, fNoPart, fPart, fItL, fItT, fIt, fIsLT, fBrk, fCnt, topE, startD, toB, oI, oI0, oNeg, oAbs, oMax, oMin, oInt, oLen_lst, oLen_tup, oList, oTuple, oCat, oIsB, oNotB, oEq, oNe, eqD, oIsN, oNotN, isN, own_rr, own_ri, own_pp, own_pi, rfl_ir, rfl_ip, neg_r, neg_p, abs_r, tru_lst, tru_tup, tru_int, tru_bl, tru_non, tupG2, tupG4, lstEx, tupEx, lstIs, tupIs, intEx, lst1Ex, lst2Ex, int1Ex, int2Ex, en1Ex, setEx, it_lst, it_tup, oIxL, oIxT, InsD, List.map_cons, List.map_nil, List.cons_append, List.nil_append, List.length_cons, List.length_nil, List.getElem?_cons_zero, List.getElem?_cons_succ, List.set_cons_zero, List.set_cons_succ, List.replicate_succ, List.replicate_zero, Option.some.injEq, exists_eq_left', clsD_rat, clsD_poly, if_true, if_false, List.append_nil, true_and, and_true, true_or, or_true, Bool.false_eq_true, Bool.true_eq_false, reduceCtorEq, Nat.add_one_sub_one, Nat.reduceSub, Nat.reduceAdd, Nat.sub_self, Nat.zero_add, Nat.add_sub_cancel, f_Poly_init_lead, hx, Bool.not_false]
          exact ⟨_, _, _, .inl rfl, rfl, lead_at hk, rfl⟩
      · intro dl vl H5 w5 hdl g5 ef5 em5 rl keep5 e5
        subst hdl
        rw [ef4, em4, ef3, em3] at keep5 rl
        rw [ef4, ef3] at g5
        have x5 : Gr K F H1 (upd H5 x (.ins (He.ga K "Poly") dx (putF "lead" vl (putF "degree" vd (putF "coefficients" vc []))))) := (x4.trans g5).updx n1 nfx
        refine q (.poly ks) _ hp x5 ?_
        have rc5 := keep5 _ _ (keep4 _ _ rc)
        obtain ⟨t, tv, rfl, okt, ht, rt⟩ := rc5
        obtain ⟨l, rfl, okl, hl⟩ := rl
        have evd : vd = .int ((ks.length : Int) - 1) := rd
        subst evd
        have eF : putF "lead" (.ref l) (putF "degree" (.int ((ks.length : Int) - 1)) (putF "coefficients" (.ref t) [])) = polyF t l ks.length := by
          have k1 : ¬ (("coefficients" : Str) = "degree") := by decide +kernel
          have k2 : ¬ (("coefficients" : Str) = "lead") := by decide +kernel
          have k3 : ¬ (("degree" : Str) = "lead") := by decide +kernel
          show putF "lead" _ (putF "degree" _ [("coefficients", _)]) = _
          rw [putF_ne k1, show putF "degree" (V.int ((ks.length : Int) - 1)) [] = [(("degree" : Str), V.int ((ks.length : Int) - 1))] from rfl, putF_ne k2, putF_ne k3]
          rfl
        have go : Goes F (fun p => M p ∨ p = x) (upd H5 x (.ins (He.ga K "Poly") dx (putF "lead" (.ref l) (putF "degree" (.int ((ks.length : Int) - 1)) (putF "coefficients" (.ref t) []))))) M (upd H5 x (.ins (He.ga K "Poly") dx (putF "lead" (.ref l) (putF "degree" (.int ((ks.length : Int) - 1)) (putF "coefficients" (.ref t) []))))) := fun p o h _ m => ⟨h, fun z => m (.inl z)⟩
        have rr : RRats K F M _ ks tv := (RRats.of rt).goes go
        have rl' : RRat K F M _ (leadOf ks) (.ref l) := RRat.goes go ⟨l, rfl, okl, hl⟩
        rw [eF] at ht rr rl' ⊢
        exact ⟨x, dx, t, l, tv, rfl, lv.ok n1, upd_same, ⟨okt.1, fun z => okt.2 (.inl z)⟩, ht, rr, rl', hN⟩
theorem leni_Poly_init {cs : List Str} (ds : List D) (P : D → Prop) (X : XP) (h : fMkPoly cs ds P X) : ds.length = 1 := by
  obtain ⟨_, rfl, _⟩ := h
  rfl
theorem len_without_zeros {K : PySem.W.Frag} {cs : List Str} (vs : List V) (H : Hp) (Q : VK) (E : XK) (h : lift K fStrip vs H Q E) : vs.length = 1 := lift_len (fun ds P X h => by unfold fStrip at h; first | (obtain ⟨rfl, _⟩ := h; rfl) | (obtain ⟨_, rfl, _⟩ := h; rfl) | (obtain ⟨_, _, rfl, _⟩ := h; rfl) | (obtain ⟨_, _, _, rfl, _⟩ := h; rfl) | (obtain ⟨_, _, _, _, rfl, _⟩ := h; rfl) | (obtain ⟨_, _, _, _, _, rfl, _⟩ := h; rfl) | (obtain ⟨_, _, _, _, _, _, rfl, _⟩ := h; rfl) | (obtain ⟨_, _, _, _, _, _, _, rfl, _⟩ := h; rfl) | (obtain ⟨_, _, _, _, _, _, _, _, rfl, _⟩ := h; rfl) | (obtain ⟨_, _, _, _, _, _, _, _, _, rfl, _⟩ := h; rfl) | (obtain ⟨_, _, _, _, _, _, _, _, _, _, rfl, _⟩ := h; rfl) | (obtain ⟨_, _, _, _, _, _, _, _, _, _, _, rfl, _⟩ := h; rfl) | (split at h <;> first | rfl | exact h.elim)) h
theorem pp_without_zeros {K : PySem.W.Frag} {cs : List Str} (T : KF K cs) (hRatio : ("Ratio" : Str) ∈ cs) (hPoly : ("Poly" : Str) ∈ cs) (vs : List V) (H : Hp) (Q : VK) (E : XK) (h : lift K fStrip vs H Q E) : tt_without_zeros K cs { nx := fun _ H' => Q .non H', rt := Q } (start ["row", "size"] vs) H :=
  fn_ok0 rfl (s_without_zeros T hRatio hPoly) (p_without_zeros hRatio hPoly) vs H Q E h
theorem len_coefficients_of {K : PySem.W.Frag} {cs : List Str} (vs : List V) (H : Hp) (Q : VK) (E : XK) (h : lift K (fCoefs cs) vs H Q E) : vs.length = 1 := lift_len (fun ds P X h => by unfold fCoefs at h; first | (obtain ⟨rfl, _⟩ := h; rfl) | (obtain ⟨_, rfl, _⟩ := h; rfl) | (obtain ⟨_, _, rfl, _⟩ := h; rfl) | (obtain ⟨_, _, _, rfl, _⟩ := h; rfl) | (obtain ⟨_, _, _, _, rfl, _⟩ := h; rfl) | (obtain ⟨_, _, _, _, _, rfl, _⟩ := h; rfl) | (obtain ⟨_, _, _, _, _, _, rfl, _⟩ := h; rfl) | (obtain ⟨_, _, _, _, _, _, _, rfl, _⟩ := h; rfl) | (obtain ⟨_, _, _, _, _, _, _, _, rfl, _⟩ := h; rfl) | (obtain ⟨_, _, _, _, _, _, _, _, _, rfl, _⟩ := h; rfl) | (obtain ⟨_, _, _, _, _, _, _, _, _, _, rfl, _⟩ := h; rfl) | (obtain ⟨_, _, _, _, _, _, _, _, _, _, _, rfl, _⟩ := h; rfl) | (split at h <;> first | rfl | exact h.elim)) h
theorem pp_coefficients_of {K : PySem.W.Frag} {cs : List Str} (T : KF K cs) (hRatio : ("Ratio" : Str) ∈ cs) (hPoly : ("Poly" : Str) ∈ cs) (vs : List V) (H : Hp) (Q : VK) (E : XK) (h : lift K (fCoefs cs) vs H Q E) : tt_coefficients_of K cs { nx := fun _ H' => Q .non H', rt := Q } (start ["value"] vs) H :=
  fn_ok0 rfl (s_coefficients_of T hRatio hPoly) (p_coefficients_of hRatio hPoly) vs H Q E h
theorem len_added {K : PySem.W.Frag} {cs : List Str} (vs : List V) (H : Hp) (Q : VK) (E : XK) (h : lift K fAdded vs H Q E) : vs.length = 2 := lift_len (fun ds P X h => by unfold fAdded at h; first | (obtain ⟨rfl, _⟩ := h; rfl) | (obtain ⟨_, rfl, _⟩ := h; rfl) | (obtain ⟨_, _, rfl, _⟩ := h; rfl) | (obtain ⟨_, _, _, rfl, _⟩ := h; rfl) | (obtain ⟨_, _, _, _, rfl, _⟩ := h; rfl) | (obtain ⟨_, _, _, _, _, rfl, _⟩ := h; rfl) | (obtain ⟨_, _, _, _, _, _, rfl, _⟩ := h; rfl) | (obtain ⟨_, _, _, _, _, _, _, rfl, _⟩ := h; rfl) | (obtain ⟨_, _, _, _, _, _, _, _, rfl, _⟩ := h; rfl) | (obtain ⟨_, _, _, _, _, _, _, _, _, rfl, _⟩ := h; rfl) | (obtain ⟨_, _, _, _, _, _, _, _, _, _, rfl, _⟩ := h; rfl) | (obtain ⟨_, _, _, _, _, _, _, _, _, _, _, rfl, _⟩ := h; rfl) | (split at h <;> first | rfl | exact h.elim)) h
theorem pp_added {K : PySem.W.Frag} {cs : List Str} (T : KF K cs) (hRatio : ("Ratio" : Str) ∈ cs) (hPoly : ("Poly" : Str) ∈ cs) (vs : List V) (H : Hp) (Q : VK) (E : XK) (h : lift K fAdded vs H Q E) : tt_added K cs { nx := fun _ H' => Q .non H', rt := Q } (start ["one", "other", "row", "k", "total"] vs) H :=
  fn_ok0 rfl (s_added T hRatio hPoly) (p_added hRatio hPoly) vs H Q E h
theorem len_multiplied {K : PySem.W.Frag} {cs : List Str} (vs : List V) (H : Hp) (Q : VK) (E : XK) (h : lift K fMulted vs H Q E) : vs.length = 2 := lift_len (fun ds P X h => by unfold fMulted at h; first | (obtain ⟨rfl, _⟩ := h; rfl) | (obtain ⟨_, rfl, _⟩ := h; rfl) | (obtain ⟨_, _, rfl, _⟩ := h; rfl) | (obtain ⟨_, _, _, rfl, _⟩ := h; rfl) | (obtain ⟨_, _, _, _, rfl, _⟩ := h; rfl) | (obtain ⟨_, _, _, _, _, rfl, _⟩ := h; rfl) | (obtain ⟨_, _, _, _, _, _, rfl, _⟩ := h; rfl) | (obtain ⟨_, _, _, _, _, _, _, rfl, _⟩ := h; rfl) | (obtain ⟨_, _, _, _, _, _, _, _, rfl, _⟩ := h; rfl) | (obtain ⟨_, _, _, _, _, _, _, _, _, rfl, _⟩ := h; rfl) | (obtain ⟨_, _, _, _, _, _, _, _, _, _, rfl, _⟩ := h; rfl) | (obtain ⟨_, _, _, _, _, _, _, _, _, _, _, rfl, _⟩ := h; rfl) | (split at h <;> first | rfl | exact h.elim)) h
theorem pp_multiplied {K : PySem.W.Frag} {cs : List Str} (T : KF K cs) (hRatio : ("Ratio" : Str) ∈ cs) (hPoly : ("Poly" : Str) ∈ cs) (vs : List V) (H : Hp) (Q : VK) (E : XK) (h : lift K fMulted vs H Q E) : tt_multiplied K cs { nx := fun _ H' => Q .non H', rt := Q } (start ["one", "other", "row", "i", "a", "_", "j", "b"] vs) H :=
  fn_ok0 rfl (s_multiplied T hRatio hPoly) (p_multiplied hRatio hPoly) vs H Q E h
theorem len_value_at {K : PySem.W.Frag} {cs : List Str} (vs : List V) (H : Hp) (Q : VK) (E : XK) (h : lift K fValueAt vs H Q E) : vs.length = 2 := lift_len (fun ds P X h => by unfold fValueAt at h; first | (obtain ⟨rfl, _⟩ := h; rfl) | (obtain ⟨_, rfl, _⟩ := h; rfl) | (obtain ⟨_, _, rfl, _⟩ := h; rfl) | (obtain ⟨_, _, _, rfl, _⟩ := h; rfl) | (obtain ⟨_, _, _, _, rfl, _⟩ := h; rfl) | (obtain ⟨_, _, _, _, _, rfl, _⟩ := h; rfl) | (obtain ⟨_, _, _, _, _, _, rfl, _⟩ := h; rfl) | (obtain ⟨_, _, _, _, _, _, _, rfl, _⟩ := h; rfl) | (obtain ⟨_, _, _, _, _, _, _, _, rfl, _⟩ := h; rfl) | (obtain ⟨_, _, _, _, _, _, _, _, _, rfl, _⟩ := h; rfl) | (obtain ⟨_, _, _, _, _, _, _, _, _, _, rfl, _⟩ := h; rfl) | (obtain ⟨_, _, _, _, _, _, _, _, _, _, _, rfl, _⟩ := h; rfl) | (split at h <;> first | rfl | exact h.elim)) h
theorem pp_value_at {K : PySem.W.Frag} {cs : List Str} (T : KF K cs) (hRatio : ("Ratio" : Str) ∈ cs) (hPoly : ("Poly" : Str) ∈ cs) (vs : List V) (H : Hp) (Q : VK) (E : XK) (h : lift K fValueAt vs H Q E) : tt_value_at K cs { nx := fun _ H' => Q .non H', rt := Q } (start ["p", "x", "total", "c"] vs) H :=
  fn_ok0 rfl (s_value_at T hRatio hPoly) (p_value_at hRatio hPoly) vs H Q E h
theorem len_Poly_add {K : PySem.W.Frag} {cs : List Str} (vs : List V) (H : Hp) (Q : VK) (E : XK) (h : lift K (fPAdd cs) vs H Q E) : vs.length = 2 := lift_len (fun ds P X h => by unfold fPAdd at h; first | (obtain ⟨rfl, _⟩ := h; rfl) | (obtain ⟨_, rfl, _⟩ := h; rfl) | (obtain ⟨_, _, rfl, _⟩ := h; rfl) | (obtain ⟨_, _, _, rfl, _⟩ := h; rfl) | (obtain ⟨_, _, _, _, rfl, _⟩ := h; rfl) | (obtain ⟨_, _, _, _, _, rfl, _⟩ := h; rfl) | (obtain ⟨_, _, _, _, _, _, rfl, _⟩ := h; rfl) | (obtain ⟨_, _, _, _, _, _, _, rfl, _⟩ := h; rfl) | (obtain ⟨_, _, _, _, _, _, _, _, rfl, _⟩ := h; rfl) | (obtain ⟨_, _, _, _, _, _, _, _, _, rfl, _⟩ := h; rfl) | (obtain ⟨_, _, _, _, _, _, _, _, _, _, rfl, _⟩ := h; rfl) | (obtain ⟨_, _, _, _, _, _, _, _, _, _, _, rfl, _⟩ := h; rfl) | (split at h <;> first | rfl | exact h.elim)) h
theorem pp_Poly_add {K : PySem.W.Frag} {cs : List Str} (T : KF K cs) (hRatio : ("Ratio" : Str) ∈ cs) (hPoly : ("Poly" : Str) ∈ cs) (vs : List V) (H : Hp) (Q : VK) (E : XK) (h : lift K (fPAdd cs) vs H Q E) : tt_Poly_add K cs { nx := fun _ H' => Q .non H', rt := Q } (start ["self", "other", "row"] vs) H :=
  fn_ok0 rfl (s_Poly_add T hRatio hPoly) (p_Poly_add hRatio hPoly) vs H Q E h
theorem len_Poly_radd {K : PySem.W.Frag} {cs : List Str} (vs : List V) (H : Hp) (Q : VK) (E : XK) (h : lift K (fPRadd cs) vs H Q E) : vs.length = 2 := lift_len (fun ds P X h => by unfold fPRadd at h; first | (obtain ⟨rfl, _⟩ := h; rfl) | (obtain ⟨_, rfl, _⟩ := h; rfl) | (obtain ⟨_, _, rfl, _⟩ := h; rfl) | (obtain ⟨_, _, _, rfl, _⟩ := h; rfl) | (obtain ⟨_, _, _, _, rfl, _⟩ := h; rfl) | (obtain ⟨_, _, _, _, _, rfl, _⟩ := h; rfl) | (obtain ⟨_, _, _, _, _, _, rfl, _⟩ := h; rfl) | (obtain ⟨_, _, _, _, _, _, _, rfl, _⟩ := h; rfl) | (obtain ⟨_, _, _, _, _, _, _, _, rfl, _⟩ := h; rfl) | (obtain ⟨_, _, _, _, _, _, _, _, _, rfl, _⟩ := h; rfl) | (obtain ⟨_, _, _, _, _, _, _, _, _, _, rfl, _⟩ := h; rfl) | (obtain ⟨_, _, _, _, _, _, _, _, _, _, _, rfl, _⟩ := h; rfl) | (split at h <;> first | rfl | exact h.elim)) h
theorem pp_Poly_radd {K : PySem.W.Frag} {cs : List Str} (T : KF K cs) (hRatio : ("Ratio" : Str) ∈ cs) (hPoly : ("Poly" : Str) ∈ cs) (vs : List V) (H : Hp) (Q : VK) (E : XK) (h : lift K (fPRadd cs) vs H Q E) : tt_Poly_radd K cs { nx := fun _ H' => Q .non H', rt := Q } (start ["self", "other", "row"] vs) H :=
  fn_ok0 rfl (s_Poly_radd T hRatio hPoly) (p_Poly_radd hRatio hPoly) vs H Q E h
theorem len_Poly_sub {K : PySem.W.Frag} {cs : List Str} (vs : List V) (H : Hp) (Q : VK) (E : XK) (h : lift K (fPSub cs) vs H Q E) : vs.length = 2 := lift_len (fun ds P X h => by unfold fPSub at h; first | (obtain ⟨rfl, _⟩ := h; rfl) | (obtain ⟨_, rfl, _⟩ := h; rfl) | (obtain ⟨_, _, rfl, _⟩ := h; rfl) | (obtain ⟨_, _, _, rfl, _⟩ := h; rfl) | (obtain ⟨_, _, _, _, rfl, _⟩ := h; rfl) | (obtain ⟨_, _, _, _, _, rfl, _⟩ := h; rfl) | (obtain ⟨_, _, _, _, _, _, rfl, _⟩ := h; rfl) | (obtain ⟨_, _, _, _, _, _, _, rfl, _⟩ := h; rfl) | (obtain ⟨_, _, _, _, _, _, _, _, rfl, _⟩ := h; rfl) | (obtain ⟨_, _, _, _, _, _, _, _, _, rfl, _⟩ := h; rfl) | (obtain ⟨_, _, _, _, _, _, _, _, _, _, rfl, _⟩ := h; rfl) | (obtain ⟨_, _, _, _, _, _, _, _, _, _, _, rfl, _⟩ := h; rfl) | (split at h <;> first | rfl | exact h.elim)) h
theorem pp_Poly_sub {K : PySem.W.Frag} {cs : List Str} (T : KF K cs) (hRatio : ("Ratio" : Str) ∈ cs) (hPoly : ("Poly" : Str) ∈ cs) (vs : List V) (H : Hp) (Q : VK) (E : XK) (h : lift K (fPSub cs) vs H Q E) : tt_Poly_sub K cs { nx := fun _ H' => Q .non H', rt := Q } (start ["self", "other", "row", "c"] vs) H :=
  fn_ok0 rfl (s_Poly_sub T hRatio hPoly) (p_Poly_sub hRatio hPoly) vs H Q E h
theorem len_Poly_rsub {K : PySem.W.Frag} {cs : List Str} (vs : List V) (H : Hp) (Q : VK) (E : XK) (h : lift K (fPRsub cs) vs H Q E) : vs.length = 2 := lift_len (fun ds P X h => by unfold fPRsub at h; first | (obtain ⟨rfl, _⟩ := h; rfl) | (obtain ⟨_, rfl, _⟩ := h; rfl) | (obtain ⟨_, _, rfl, _⟩ := h; rfl) | (obtain ⟨_, _, _, rfl, _⟩ := h; rfl) | (obtain ⟨_, _, _, _, rfl, _⟩ := h; rfl) | (obtain ⟨_, _, _, _, _, rfl, _⟩ := h; rfl) | (obtain ⟨_, _, _, _, _, _, rfl, _⟩ := h; rfl) | (obtain ⟨_, _, _, _, _, _, _, rfl, _⟩ := h; rfl) | (obtain ⟨_, _, _, _, _, _, _, _, rfl, _⟩ := h; rfl) | (obtain ⟨_, _, _, _, _, _, _, _, _, rfl, _⟩ := h; rfl) | (obtain ⟨_, _, _, _, _, _, _, _, _, _, rfl, _⟩ := h; rfl) | (obtain ⟨_, _, _, _, _, _, _, _, _, _, _, rfl, _⟩ := h; rfl) | (split at h <;> first | rfl | exact h.elim)) h
theorem pp_Poly_rsub {K : PySem.W.Frag} {cs : List Str} (T : KF K cs) (hRatio : ("Ratio" : Str) ∈ cs) (hPoly : ("Poly" : Str) ∈ cs) (vs : List V) (H : Hp) (Q : VK) (E : XK) (h : lift K (fPRsub cs) vs H Q E) : tt_Poly_rsub K cs { nx := fun _ H' => Q .non H', rt := Q } (start ["self", "other", "row", "c"] vs) H :=
  fn_ok0 rfl (s_Poly_rsub T hRatio hPoly) (p_Poly_rsub hRatio hPoly) vs H Q E h
theorem len_Poly_mul {K : PySem.W.Frag} {cs : List Str} (vs : List V) (H : Hp) (Q : VK) (E : XK) (h : lift K (fPMul cs) vs H Q E) : vs.length = 2 := lift_len (fun ds P X h => by unfold fPMul at h; first | (obtain ⟨rfl, _⟩ := h; rfl) | (obtain ⟨_, rfl, _⟩ := h; rfl) | (obtain ⟨_, _, rfl, _⟩ := h; rfl) | (obtain ⟨_, _, _, rfl, _⟩ := h; rfl) | (obtain ⟨_, _, _, _, rfl, _⟩ := h; rfl) | (obtain ⟨_, _, _, _, _, rfl, _⟩ := h; rfl) | (obtain ⟨_, _, _, _, _, _, rfl, _⟩ := h; rfl) | (obtain ⟨_, _, _, _, _, _, _, rfl, _⟩ := h; rfl) | (obtain ⟨_, _, _, _, _, _, _, _, rfl, _⟩ := h; rfl) | (obtain ⟨_, _, _, _, _, _, _, _, _, rfl, _⟩ := h; rfl) | (obtain ⟨_, _, _, _, _, _, _, _, _, _, rfl, _⟩ := h; rfl) | (obtain ⟨_, _, _, _, _, _, _, _, _, _, _, rfl, _⟩ := h; rfl) | (split at h <;> first | rfl | exact h.elim)) h
theorem pp_Poly_mul {K : PySem.W.Frag} {cs : List Str} (T : KF K cs) (hRatio : ("Ratio" : Str) ∈ cs) (hPoly : ("Poly" : Str) ∈ cs) (vs : List V) (H : Hp) (Q : VK) (E : XK) (h : lift K (fPMul cs) vs H Q E) : tt_Poly_mul K cs { nx := fun _ H' => Q .non H', rt := Q } (start ["self", "other", "row"] vs) H :=
  fn_ok0 rfl (s_Poly_mul T hRatio hPoly) (p_Poly_mul hRatio hPoly) vs H Q E h
theorem len_Poly_rmul {K : PySem.W.Frag} {cs : List Str} (vs : List V) (H : Hp) (Q : VK) (E : XK) (h : lift K (fPRmul cs) vs H Q E) : vs.length = 2 := lift_len (fun ds P X h => by unfold fPRmul at h; first | (obtain ⟨rfl, _⟩ := h; rfl) | (obtain ⟨_, rfl, _⟩ := h; rfl) | (obtain ⟨_, _, rfl, _⟩ := h; rfl) | (obtain ⟨_, _, _, rfl, _⟩ := h; rfl) | (obtain ⟨_, _, _, _, rfl, _⟩ := h; rfl) | (obtain ⟨_, _, _, _, _, rfl, _⟩ := h; rfl) | (obtain ⟨_, _, _, _, _, _, rfl, _⟩ := h; rfl) | (obtain ⟨_, _, _, _, _, _, _, rfl, _⟩ := h; rfl) | (obtain ⟨_, _, _, _, _, _, _, _, rfl, _⟩ := h; rfl) | (obtain ⟨_, _, _, _, _, _, _, _, _, rfl, _⟩ := h; rfl) | (obtain ⟨_, _, _, _, _, _, _, _, _, _, rfl, _⟩ := h; rfl) | (obtain ⟨_, _, _, _, _, _, _, _, _, _, _, rfl, _⟩ := h; rfl) | (split at h <;> first | rfl | exact h.elim)) h
theorem pp_Poly_rmul {K : PySem.W.Frag} {cs : List Str} (T : KF K cs) (hRatio : ("Ratio" : Str) ∈ cs) (hPoly : ("Poly" : Str) ∈ cs) (vs : List V) (H : Hp) (Q : VK) (E : XK) (h : lift K (fPRmul cs) vs H Q E) : tt_Poly_rmul K cs { nx := fun _ H' => Q .non H', rt := Q } (start ["self", "other", "row"] vs) H :=
  fn_ok0 rfl (s_Poly_rmul T hRatio hPoly) (p_Poly_rmul hRatio hPoly) vs H Q E h
theorem len_Poly_neg {K : PySem.W.Frag} {cs : List Str} (vs : List V) (H : Hp) (Q : VK) (E : XK) (h : lift K fPNeg vs H Q E) : vs.length = 1 := lift_len (fun ds P X h => by unfold fPNeg at h; first | (obtain ⟨rfl, _⟩ := h; rfl) | (obtain ⟨_, rfl, _⟩ := h; rfl) | (obtain ⟨_, _, rfl, _⟩ := h; rfl) | (obtain ⟨_, _, _, rfl, _⟩ := h; rfl) | (obtain ⟨_, _, _, _, rfl, _⟩ := h; rfl) | (obtain ⟨_, _, _, _, _, rfl, _⟩ := h; rfl) | (obtain ⟨_, _, _, _, _, _, rfl, _⟩ := h; rfl) | (obtain ⟨_, _, _, _, _, _, _, rfl, _⟩ := h; rfl) | (obtain ⟨_, _, _, _, _, _, _, _, rfl, _⟩ := h; rfl) | (obtain ⟨_, _, _, _, _, _, _, _, _, rfl, _⟩ := h; rfl) | (obtain ⟨_, _, _, _, _, _, _, _, _, _, rfl, _⟩ := h; rfl) | (obtain ⟨_, _, _, _, _, _, _, _, _, _, _, rfl, _⟩ := h; rfl) | (split at h <;> first | rfl | exact h.elim)) h
theorem pp_Poly_neg {K : PySem.W.Frag} {cs : List Str} (T : KF K cs) (hRatio : ("Ratio" : Str) ∈ cs) (hPoly : ("Poly" : Str) ∈ cs) (vs : List V) (H : Hp) (Q : VK) (E : XK) (h : lift K fPNeg vs H Q E) : tt_Poly_neg K cs { nx := fun _ H' => Q .non H', rt := Q } (start ["self", "c"] vs) H :=
  fn_ok0 rfl (s_Poly_neg T hRatio hPoly) (p_Poly_neg hRatio hPoly) vs H Q E h
end MR

set_option Elab.async false
set_option linter.all false
set_option maxRecDepth 100000
set_option maxHeartbeats 4000000
/-! MR: facts of the head, each a Bool of the written part -/
namespace MR
open PySem PySem.Spec PyProof.Rows L2 He
abbrev Fct : Type := PySem.W.Frag → Bool
def asM (g : Addr → Option Obj) : Nat → List Addr
  | 0 => [mainGlobals, cStatics]
  | n + 1 => growD g (asM g n)
abbrev AlM : Type := Bool × List FnW
def obsM (bs : List Fct) (fn : List DefD) (K : PySem.W.Frag) : AlM := ((bs.all fun f => f K) && fn.all fun d => d.ok K, fn.map fun d => fnW K d.at_)
def valM (fn : List DefD) : AlM := (true, fn.map DefD.val)
def SaysM (bs : List Fct) (fn : List DefD) (K : PySem.W.Frag) : Prop := obsM bs fn K = valM fn
def obsMG (n : Nat) (bs : List Fct) (fn : List DefD) (g : Addr → Option Obj) : AlM := obsM bs fn (frG g (asM g n))
def hookM (n : Nat) (bs : List Fct) (fn : List DefD) : PySem.W.Hook where
  α := AlM
  obs := fun s => obsMG n bs fn s.heap.get?
  val := fun _ => valM fn
  says := fun _ h => ∃ K : PySem.W.Frag, K.In h ∧ SaysM bs fn K
  of := fun _ _ e => ⟨_, frG_in, e⟩
  keeps := fun _ _ _ ⟨K, hK, c⟩ k => ⟨K, PySem.W.Frag.In.keeps hK k, c⟩
theorem obsMG_eq {n : Nat} {bs : List Fct} {fn : List DefD} {g : Addr → Option Obj} {s : Shared} (h : ∀ a, g a = s.heap.get? a) : obsMG n bs fn g = (hookM n bs fn).obs s := by
  rw [show g = s.heap.get? from funext h]
  rfl
section
variable {bs : List Fct} {fn : List DefD} {K : PySem.W.Frag}
theorem SaysM.one (c : SaysM bs fn K) : (bs.all fun f => f K) = true ∧ (fn.all fun d => d.ok K) = true := ba (congrArg (fun z : AlM => z.1) c)
theorem SaysM.fact (c : SaysM bs fn K) (i : Nat) {f : Fct} (h : bs[i]? = some f := by rfl) : f K = true := List.all_eq_true.mp c.one.1 f (List.mem_of_getElem? h)
theorem SaysM.def_ (c : SaysM bs fn K) (i : Nat) {d : DefD} (h : fn[i]? = some d := by rfl) : ∃ fd, FunD K d.name d.qual d.params d.body d.scope (d.dvs K) (d.kws K) (fAd K d.at_) fd := by
  have e2 : (fn.map fun d => fnW K d.at_)[i]? = (fn.map DefD.val)[i]? := congrArg (fun z : AlM => z.2[i]?) c
  rw [List.getElem?_map, List.getElem?_map, h] at e2
  exact DefD.funD (Option.some.inj e2) (List.all_eq_true.mp c.one.2 d (List.mem_of_getElem? h))
end
/-! ### checks -/
def optB {α : Type} [DecidableEq α] (a : Option α) (b : α) : Bool := decide (a = some b)
theorem optB_ok {α : Type} [DecidableEq α] {a : Option α} {b : α} (h : optB a b = true) : a = some b := of_decide_eq_true h
def kitF (t c : PySem.W.Frag → Value) (b : Bool) : Fct := fun K => optB (PySem.W.kitOne K (t K) (c K)) b
def own (x : Str) : PySem.W.Frag → Value := fun K => .ref (ga K x)
def typ (n : String) : PySem.W.Frag → Value := fun _ => .type n
/-- an own class without surprises -/
def ownF (x : Str) : Fct := fun K => (Fa.cls x).ok K && (eqO (PySem.W.findIn K (.ref (ga K x)) "__class__") (some (some (.builtin "object.__class__"))) && (eqO (PySem.W.specialIn K (.builtin "object.__class__") "__get__") (some (some (.builtin "getset_descriptor.__get__"))) &&
  (optB (PySem.W.takesIn K (.builtin "object.__class__")) true && (optB (PySem.W.mroIn K (ga K x) (.type "object")) true && optB (PySem.W.kitOne K (.ref (ga K x)) (.type "int")) false))))
theorem ownF_ok {K : PySem.W.Frag} {x : Str} (h : ownF x K = true) : OwnC K (ga K x) := by
  obtain ⟨h1, h⟩ := ba h
  obtain ⟨h2, h⟩ := ba h
  obtain ⟨h3, h⟩ := ba h
  obtain ⟨h4, h⟩ := ba h
  obtain ⟨h5, h6⟩ := ba h
  exact ⟨cls_ok h1, eqO_ok h2, eqO_ok h3, optB_ok h4, optB_ok h5, optB_ok h6⟩
/-- an error class, as isinstance asks it in a suite -/
def excF (x : Str) : Fct := fun K => eqO (PySem.W.findIn K (.ref (ga K x)) "__getattribute__") (some (some (.builtin "BaseException.__getattribute__"))) && (eqO (PySem.W.findIn K (.ref (ga K x)) "__getattr__") (some none) && (optB (PySem.W.subIn K (.ref (ga K x)) (.type "BaseException")) true && (PySem.W.hasDictIn K (ga K x) &&
  (eqO (PySem.W.findIn K (.ref (ga K x)) "__class__") (some (some (.builtin "object.__class__"))) && (eqO (PySem.W.specialIn K (.builtin "object.__class__") "__get__") (some (some (.builtin "getset_descriptor.__get__"))) && (optB (PySem.W.takesIn K (.builtin "object.__class__")) true && optB (PySem.W.mroIn K (ga K x) (.type "object")) true))))))
theorem excF_ok {K : PySem.W.Frag} {x : Str} (h : excF x K = true) : ExcC K (ga K x) := by
  obtain ⟨h1, h⟩ := ba h
  obtain ⟨h2, h⟩ := ba h
  obtain ⟨h3, h⟩ := ba h
  obtain ⟨h4, h⟩ := ba h
  obtain ⟨h5, h⟩ := ba h
  obtain ⟨h6, h⟩ := ba h
  obtain ⟨h7, h8⟩ := ba h
  exact ⟨eqO_ok h1, eqO_ok h2, optB_ok h3, h4, eqO_ok h5, eqO_ok h6, optB_ok h7, optB_ok h8⟩
def xfF (x : Str) : Fct := fun K => xfB K (ga K x)
/-! ### an error whose __init__ says super().__init__(p); self.p = p -/
def bodyB (p : Str) : FuncBody → Bool
  | .stmts [.Expr (.Call (.Attribute (.Call (.Name s _) [] [] _) i q3) [.Name a _] [] q5) _, .Assign [.Attribute (.Name sf _) b _] (.Name c _) _] =>
    decide (s = "super") && (decide (i = "__init__") && (decide (a = p) && (decide (sf = "self") && (decide (b = p) && (decide (c = p) && (q3.endLine == q5.line))))))
  | _ => false
theorem bodyB_ok {p : Str} {b : FuncBody} (h : bodyB p b = true) : ∃ q1 q2 q3 q4 q5 q6 q7 q8 q9 q10 : Pos, b = .stmts [.Expr (.Call (.Attribute (.Call (.Name "super" q1) [] [] q2) "__init__" q3) [.Name p q4] [] q5) q6, .Assign [.Attribute (.Name "self" q7) p q8] (.Name p q9) q10] ∧ (q3.endLine == q5.line) = true := by
  unfold bodyB at h
  split at h
  · obtain ⟨h1, h⟩ := ba h
    obtain ⟨h2, h⟩ := ba h
    obtain ⟨h3, h⟩ := ba h
    obtain ⟨h4, h⟩ := ba h
    obtain ⟨h5, h⟩ := ba h
    obtain ⟨h6, h7⟩ := ba h
    have e1 := of_decide_eq_true h1
    have e2 := of_decide_eq_true h2
    have e3 := of_decide_eq_true h3
    have e4 := of_decide_eq_true h4
    have e5 := of_decide_eq_true h5
    have e6 := of_decide_eq_true h6
    subst e1 e2 e4
    rw [e3, e5, e6]
    exact ⟨_, _, _, _, _, _, _, _, _, _, rfl, h7⟩
  · cases h
def parB (p : Str) : Arguments → Bool
  | ⟨[], [a1, a2], none, [], [], none, []⟩ => decide (a1.arg = "self") && decide (a2.arg = p)
  | _ => false
theorem parB_ok {p : Str} {a : Arguments} (h : parB p a = true) : ∃ a1 a2 : Arg, a = { posonlyargs := [], args := [a1, a2], vararg := none, kwonlyargs := [], kw_defaults := [], kwarg := none, defaults := [] } ∧ a1.arg = "self" ∧ a2.arg = p := by
  unfold parB at h
  split at h
  · obtain ⟨h1, h2⟩ := ba h
    exact ⟨_, _, rfl, of_decide_eq_true h1, of_decide_eq_true h2⟩
  · cases h
def scB (p : Str) : Scope → Bool
  | ⟨.function, [(x1, .local), (x2, .local), (x3, .free), (x4, .globalImplicit)], false, false, []⟩ => decide (x1 = "self") && (decide (x2 = p) && (decide (x3 = "__class__") && decide (x4 = "super")))
  | _ => false
theorem scB_ok {p : Str} {s : Scope} (h : scB p s = true) : s = { kind := .function, names := [("self", .local), (p, .local), ("__class__", .free), ("super", .globalImplicit)], isGenerator := false, isCoroutine := false, more := [] } := by
  unfold scB at h
  split at h
  · obtain ⟨h1, h⟩ := ba h
    obtain ⟨h2, h⟩ := ba h
    obtain ⟨h3, h4⟩ := ba h
    rw [of_decide_eq_true h1, of_decide_eq_true h2, of_decide_eq_true h3, of_decide_eq_true h4]
  · cases h
/-- the function object of such an __init__ -/
def supFn (prog : Program) (p : Str) (K : PySem.W.Frag) (C f : Addr) : Bool := match K.lookup f with
  | some ⟨_, _, .func fd, _⟩ => PySem.W.codeIn K fd.code fd.qualname && (parB p fd.params && (bodyB p fd.body && (scB p fd.scope && (decide (fd.globals = mainGlobals) && (decide (fd.builtins = builtinsNs) && (decide (fd.defaults = .none) && (match fd.closure, fd.code with
    | [(n, cc)], .ref cda => decide (n = "__class__") && ((match K.lookup cda with
      | some ⟨_, _, .fields vs, _⟩ => (match (vs[2]? : Option Value) with
        | some (.str file _) => (prog.main.file : Str) == file
        | _ => false)
      | _ => false) && (match K.lookup cc with
      | some ⟨_, _, .cell (some (.ref D)), _⟩ => decide (D = C)
      | _ => false))
    | _, _ => false)))))))
  | _ => false
theorem supFn_ok {prog : Program} {p : Str} {K : PySem.W.Frag} {C f : Addr} (h : supFn prog p K C f = true) :
    ∃ (oc : Value) (od : Option Addr) (osl : Array (Option Value)) (fd : FuncData) (a1 a2 : Arg) (q1 q2 q3 q4 q5 q6 q7 q8 q9 q10 : Pos) (cda cc : Addr) (ccl : Value) (cdd : Option Addr) (vs : Array Value) (ccs : Array (Option Value)) (file : Str) (tf : Tok) (cl : Value) (cld : Option Addr) (csl : Array (Option Value)),
    K.lookup f = some ⟨oc, od, .func fd, osl⟩ ∧ PySem.W.codeIn K fd.code fd.qualname = true ∧
    fd.params = { posonlyargs := [], args := [a1, a2], vararg := none, kwonlyargs := [], kw_defaults := [], kwarg := none, defaults := [] } ∧ a1.arg = "self" ∧ a2.arg = p ∧
    fd.body = .stmts [.Expr (.Call (.Attribute (.Call (.Name "super" q1) [] [] q2) "__init__" q3) [.Name p q4] [] q5) q6, .Assign [.Attribute (.Name "self" q7) p q8] (.Name p q9) q10] ∧
    fd.scope = { kind := .function, names := [("self", .local), (p, .local), ("__class__", .free), ("super", .globalImplicit)], isGenerator := false, isCoroutine := false, more := [] } ∧
    fd.globals = mainGlobals ∧ fd.builtins = builtinsNs ∧ fd.closure = [(("__class__" : Str), cc)] ∧ fd.defaults = .none ∧ fd.code = .ref cda ∧
    K.lookup cda = some ⟨ccl, cdd, .fields vs, ccs⟩ ∧ vs[2]? = some (.str file tf) ∧ ((prog.main.file : Str) == file) = true ∧
    K.lookup cc = some ⟨cl, cld, .cell (some (.ref C)), csl⟩ ∧ (q3.endLine == q5.line) = true := by
  unfold supFn at h
  split at h
  · rename_i oc od fd osl hf
    obtain ⟨h1, h⟩ := ba h
    obtain ⟨h2, h⟩ := ba h
    obtain ⟨h3, h⟩ := ba h
    obtain ⟨h4, h⟩ := ba h
    obtain ⟨h5, h⟩ := ba h
    obtain ⟨h6, h⟩ := ba h
    obtain ⟨h7, h⟩ := ba h
    obtain ⟨a1, a2, e2, e2a, e2b⟩ := parB_ok h2
    obtain ⟨q1, q2, q3, q4, q5, q6, q7, q8, q9, q10, e3, e3b⟩ := bodyB_ok h3
    split at h
    · rename_i n cc cda hclo hcode
      obtain ⟨h8, h⟩ := ba h
      obtain ⟨h9, h10⟩ := ba h
      have e8 := of_decide_eq_true h8
      subst e8
      split at h9
      · rename_i ccl cdd vs ccs hcda
        split at h9
        · rename_i file tf hvs
          split at h10
          · rename_i cl cld D csl hcell
            have e10 := of_decide_eq_true h10
            subst e10
            exact ⟨oc, od, osl, fd, a1, a2, q1, q2, q3, q4, q5, q6, q7, q8, q9, q10, cda, cc, ccl, cdd, vs, ccs, file, tf, cl, cld, csl, hf, h1, e2, e2a, e2b, e3, scB_ok h4, of_decide_eq_true h5, of_decide_eq_true h6, hclo, of_decide_eq_true h7, hcode, hcda, hvs, h9, hcell, e3b⟩
          · cases h10
        · cases h9
      · cases h9
    · cases h
  · cases h
def supCls (K : PySem.W.Frag) (C : Addr) : Bool := match K.lookup C with
  | some ⟨.type t, _, .cls cd, sl⟩ => decide (t = "type") && (match cd.mro, sl.toList with
    | .ref D :: bm, [_, _, _, _, some (.builtin n), _] => decide (D = C) && (decide (n = "ValueError.__new__") && (!cd.hasDel && (cd.hasDict && (HandSPX.refsVE bm && eqO (PySem.W.alongIn K "__init__" bm) (some (some (.builtin "ValueError.__init__")))))))
    | _, _ => false)
  | _ => false
theorem supCls_ok {K : PySem.W.Frag} {C : Addr} (h : supCls K C = true) : ∃ nm q N bs bm sn sub ab col dd k0 k1 k2 k3 k5, K.lookup C = some (excClassObj nm q C N bs bm true sn sub ab col dd k0 k1 k2 k3 k5 "ValueError.__new__") ∧ HandSPX.refsVE bm = true ∧
    PySem.W.alongIn K "__init__" bm = some (some (.builtin "ValueError.__init__")) := by
  unfold supCls at h
  split at h
  · rename_i t dd cd sl ho
    obtain ⟨h0, hh⟩ := ba h
    clear h
    have e0 := of_decide_eq_true h0
    subst e0
    split at hh
    · rename_i D bm k0 k1 k2 k3 n k5 hm hs
      obtain ⟨h1, h⟩ := ba hh
      obtain ⟨h2, h⟩ := ba h
      obtain ⟨h3, h⟩ := ba h
      obtain ⟨h4, h⟩ := ba h
      obtain ⟨h5, h6⟩ := ba h
      have e1 := of_decide_eq_true h1
      have e2 := of_decide_eq_true h2
      subst e1 e2
      obtain ⟨nm, bs, mro, ns, qn, hd, sn, sb, ab, col, del⟩ := cd
      dsimp only at hm h3 h4
      subst hm h4
      have e3 : del = false := by simpa using h3
      subst e3
      refine ⟨nm, qn, ns, bs, bm, sn, sb, ab, col, dd, k0, k1, k2, k3, k5, ?_, h5, eqO_ok h6⟩
      rw [ho]
      have e : sl = #[k0, k1, k2, k3, some (.builtin "ValueError.__new__"), k5] := by
        rw [← Array.toArray_toList (xs := sl), hs]
      rw [e]
    · cases hh
  · cases h
/-- all that SupC asks -/
def supF (prog : Program) (x p : Str) : Fct := fun K => supCls K (ga K x) && (supFn prog p K (ga K x) (ma K (ga K x) "__init__") && (eqO (PySem.W.findIn K (.ref (ga K x)) "__setattr__") (some (some (.builtin "object.__setattr__"))) && (eqO (PySem.W.findIn K (.ref (ga K x)) p) (some none) &&
  (eqO (PySem.W.findIn K (.ref (ga K x)) "__init__") (some (some (.ref (ma K (ga K x) "__init__")))) && (optB (PySem.W.typeIn K (.ref (ma K (ga K x) "__init__"))) (.type "function") && (PySem.W.keepIn K (.ref (ga K x)) && (optB (PySem.W.subIn K (.ref (ga K x)) (.type "BaseException")) true &&
  (optB (PySem.W.subIn K (.ref (ga K x)) (.type "ValueError")) true && (optB (PySem.W.typeIn K (.ref (ga K x))) (.type "type") && (optB (PySem.W.mroIn K (ga K x) (.ref (ga K x))) true && (eqO (PySem.W.nsIn K cStatics "thirdparty.any") (some none) && (eqO (PySem.W.nsIn K mainGlobals "super") (some none) &&
  !(prog.main.scope.names.lookup ("super" : Str)).isSome))))))))))))
theorem supF_ok {prog : Program} {K : PySem.W.Frag} {x p : Str} (h : supF prog x p K = true) : SupC prog K (ga K x) (ma K (ga K x) "__init__") p := by
  obtain ⟨h1, h⟩ := ba h
  obtain ⟨h2, h⟩ := ba h
  obtain ⟨h3, h⟩ := ba h
  obtain ⟨h4, h⟩ := ba h
  obtain ⟨h5, h⟩ := ba h
  obtain ⟨h6, h⟩ := ba h
  obtain ⟨h7, h⟩ := ba h
  obtain ⟨h8, h⟩ := ba h
  obtain ⟨h9, h⟩ := ba h
  obtain ⟨h10, h⟩ := ba h
  obtain ⟨h11, h⟩ := ba h
  obtain ⟨h12, h⟩ := ba h
  obtain ⟨h13, h14⟩ := ba h
  exact ⟨supCls_ok h1, eqO_ok h3, eqO_ok h4, eqO_ok h5, optB_ok h6, h7, optB_ok h8, optB_ok h9, optB_ok h10, optB_ok h11, eqO_ok h12, eqO_ok h13, by simpa using h14, supFn_ok h2⟩
theorem funD_inj {K : PySem.W.Frag} {x q : Str} {p : Arguments} {b : List Stmt} {sc : Scope} {dvs : List V} {kws : List (Str × V)} {f : Addr} {fd fd' : FuncData} (F : FunD K x q p b sc dvs kws f fd) (F' : FunD K x q p b sc dvs kws f fd') : fd = fd' := by
  obtain ⟨_, _, _, _, _, _, _, _, _, _, _, h, _⟩ := F.ex
  obtain ⟨_, _, _, _, _, _, _, _, _, _, _, h', _⟩ := F'.ex
  have e := h.symm.trans h'
  simp only [Option.some.injEq, Obj.mk.injEq, Data.func.injEq] at e
  exact e.2.2.1
end MR

set_option Elab.async false
set_option linter.all false
set_option maxRecDepth 100000
set_option maxHeartbeats 4000000
/-! MR: facts of own operators -/
namespace MR
open PySem PySem.Spec PyProof.Rows L2 He
def opF (x : Str) (nm : String) : Fct := fun K => PySem.W.selfFirst K (ga K x) && (optB (PySem.W.subIn K (.type "int") (.ref (ga K x))) false && (optB (PySem.W.subIn K (.ref (ga K x)) (.type "int")) false && ((PySem.W.findIn K (.type "int") (PySem.dunder nm)).isSome && ((PySem.W.findIn K (.type "int") (dunderR nm)).isSome &&
  (match PySem.W.findIn K (.ref (ga K x)) (dunderR nm) with
    | some none => true
    | some (some (.ref _)) => true
    | _ => false)))))
theorem opF_ok {K : PySem.W.Frag} {x : Str} {nm : String} (h : opF x nm K = true) : OpC K (ga K x) nm := by
  obtain ⟨h1, h⟩ := ba h
  obtain ⟨h2, h⟩ := ba h
  obtain ⟨h3, h⟩ := ba h
  obtain ⟨h4, h⟩ := ba h
  obtain ⟨h5, h6⟩ := ba h
  obtain ⟨fo, e4⟩ := Option.isSome_iff_exists.mp h4
  obtain ⟨ro, e5⟩ := Option.isSome_iff_exists.mp h5
  refine ⟨h1, optB_ok h2, optB_ok h3, fo, ro, ?_⟩
  split at h6
  · rename_i e
    exact ⟨none, e4, e5, e, .inl rfl⟩
  · rename_i g e
    exact ⟨some (.ref g), e4, e5, e, .inr ⟨g, rfl⟩⟩
  · cases h6
end MR

set_option Elab.async false
set_option linter.all false
set_option maxRecDepth 100000
set_option maxHeartbeats 4000000
/-! FL: facts of the head -/
namespace MR
open PySem PySem.Spec PyProof.Rows L2 He
def ktF (cs : List Str) : Fct := fun K => cs.all fun C => ownF C K && ((["int", "bool", "str", "list", "tuple"].all fun n => optB (PySem.W.kitOne K (.ref (ga K C)) (.type n)) false) && ((["NoneType", "int", "bool", "str", "list", "tuple"].all fun n => optB (PySem.W.kitOne K (.type n) (.ref (ga K C))) false) &&
  ((cs.all fun C' => optB (PySem.W.kitOne K (.ref (ga K C)) (.ref (ga K C'))) (decide (C = C'))) && (fieldsOf C).all fun f => (Fa.noat C f).ok K)))
theorem ktF_ok {K : PySem.W.Frag} {cs : List Str} (h : ktF cs K = true) : KF K cs := by
  have h := List.all_eq_true.mp h
  refine ⟨⟨fun C hC => ?_, fun C hC n hn => ?_, fun C hC n hn => ?_, fun C hC C' hC' => ?_⟩, fun C hC f hf => ?_⟩ <;> obtain ⟨h1, h2⟩ := ba (h C hC) <;> obtain ⟨h2, h3⟩ := ba h2 <;> obtain ⟨h3, h4⟩ := ba h3 <;> obtain ⟨h4, h5⟩ := ba h4
  · exact ownF_ok h1
  · exact optB_ok (List.all_eq_true.mp h2 n hn)
  · exact optB_ok (List.all_eq_true.mp h3 n hn)
  · exact optB_ok (List.all_eq_true.mp h4 C' hC')
  · exact ⟨(ownF_ok h1).cl, noat_ok (List.all_eq_true.mp h5 f hf)⟩
def xoF (T : XTab) : Fct := fun K => T.all fun t => optB (PySem.W.exmOne K (.ref (ga K t.1)) (.ref (ga K t.2.1))) t.2.2
theorem xoF_ok {K : PySem.W.Frag} {T : XTab} (h : xoF T K = true) : XOk K T := fun a b k hm => optB_ok (List.all_eq_true.mp h (a, b, k) hm)
def ioF (T : XTab) : Fct := fun K => T.all fun t => excF t.1 K && optB (PySem.W.kitOne K (.ref (ga K t.1)) (.ref (ga K t.2.1))) t.2.2
theorem ioF_ok {K : PySem.W.Frag} {T : XTab} (h : ioF T K = true) : IOk K T := fun a b k hm => by
  obtain ⟨h1, h2⟩ := ba (List.all_eq_true.mp h (a, b, k) hm)
  exact ⟨excF_ok h1, optB_ok h2⟩
abbrev bmV : List Value := [.type "ValueError", .type "Exception", .type "BaseException", .type "object"]
/-- an error class without an __init__ of its own -/
structure Ex0 (K : PySem.W.Frag) (C : Addr) : Prop where
  xin : PySem.W.excIn K C bmV "ValueError.__new__" = true
  kp : PySem.W.keepIn K (.ref C) = true
  bs : PySem.W.subIn K (.ref C) (.type "BaseException") = some true
  ty : PySem.W.typeIn K (.ref C) = some (.type "type")
def ex0F (x : Str) : Fct := fun K => PySem.W.excIn K (ga K x) bmV "ValueError.__new__" && (PySem.W.keepIn K (.ref (ga K x)) && (optB (PySem.W.subIn K (.ref (ga K x)) (.type "BaseException")) true && optB (PySem.W.typeIn K (.ref (ga K x))) (.type "type")))
theorem ex0F_ok {K : PySem.W.Frag} {x : Str} (h : ex0F x K = true) : Ex0 K (ga K x) := by
  obtain ⟨h1, h⟩ := ba h
  obtain ⟨h2, h⟩ := ba h
  obtain ⟨h3, h4⟩ := ba h
  exact ⟨h1, h2, optB_ok h3, optB_ok h4⟩
theorem mk0 {X : Cx} {C : Addr} {x : Str} {p pos : Pos} (T : Ex0 X.K C) (gC : X.mg x = some (.ref C)) (hg : Gl X x := by rfl) (hdb : (x == ("__debug__" : Str)) = false := by decide) : PMk X (.Call (.Name x p) [] [] pos) (fun σ H Q => Q (.ref C) none H) :=
  pmk_own0 PySem.F.excBase_ValueError T.xin gC T.kp (raises_own T.bs T.ty) hg hdb
theorem ps_raise00 {X : Cx} {C : Addr} {W : WX} {x : Str} {p1 pos pos2 : Pos} (hc : X.calm = true) (tk : Takes X W) (T : Ex0 X.K C) (gC : X.mg x = some (.ref C)) (hg : Gl X x := by rfl) (hdb : (x == ("__debug__" : Str)) = false := by decide) :
    PS X (.Raise (some (.Call (.Name x p1) [] [] pos)) none pos2) (tRaise0 C W) := ps_raise hc tk (mk0 T gC hg hdb)
end MR

set_option Elab.async false
set_option linter.all false
set_option maxRecDepth 100000
set_option maxHeartbeats 4000000
set_option exponentiation.threshold 20000
namespace MR
open PySem PySem.Spec PyProof.Rows L2
/-- a row: its numbers; or what is refused -/
def fCheckRow (cs : List Str) : FSp := fun ds P X => ∃ d n, ds = [d, .int n] ∧ (
  (∃ items qs, itD d = some items ∧ items ≠ [] ∧ (items.length : Int) ≤ n ∧ items.length ≤ 100000 ∧ numsV items = some qs ∧ P (.lst (ratL qs))) ∨
  (∃ items pre b post, itD d = some items ∧ (items.length : Int) ≤ n ∧ items = pre ++ b :: post ∧ (∃ qs, numsV pre = some qs) ∧ numD cs b = some false ∧ X ⟨"NoRow", [("index", .int (pre.length : Nat))]⟩) ∨
  (∃ items, itD d = some items ∧ (items = [] ∨ n < (items.length : Int)) ∧ X ⟨"NoRow", [("index", .int (-1))]⟩) ∨
  (isD cs (.ty "list") d = some false ∧ isD cs (.ty "tuple") d = some false ∧ X ⟨"NoRow", [("index", .int (-1))]⟩))
/-- the sum of the first k products -/
def dotN (cs ms : List Rat) : Nat → Rat
  | 0 => 0
  | k + 1 => dotN cs ms k + coef cs k * coef ms k
def fMeanOf : FSp := fun ds P _ => ∃ d ms cs n m, ds = [d, .poly cs] ∧ itD d = some (ratL ms) ∧ cs.length ≤ ms.length ∧ SzL n cs ∧ SzL m ms ∧ 0 < n ∧ 0 < m ∧ (cs.length + 1) * (n + m + 1) ≤ 9000 ∧ P (.rat (dotN cs ms cs.length))
def fMean (cs : List Str) : FSp := fun ds P X => ∃ d ps n m, ds = [d, .poly ps] ∧ SzL n ps ∧ 0 < n ∧ 0 < m ∧ (ps.length + 1) * (n + m + 1) ≤ 9000 ∧ fCheckRow cs [d, .int 13] (fun e => ∃ qs, e = .lst (ratL qs) ∧ SzL m qs ∧ (qs.length < ps.length → X ⟨"NoMean", []⟩) ∧ (ps.length ≤ qs.length → P (.rat (dotN ps qs ps.length)))) X
def fNumber : FSp := fun ds P _ => ∃ z : Int, ds = [.feed, .int z] ∧ 0 < z ∧ z.natAbs < 2 ^ 9000 ∧ ∀ d : Int, -z < d → d < z → P (.int d)
def fIs : FSp := fun ds P _ => ∃ q a b n m, ds = [.rat q, .int a, .int b] ∧ b ≠ 0 ∧ Sz n q ∧ a.natAbs < 2 ^ m ∧ b.natAbs < 2 ^ m ∧ n + m ≤ 1000000 ∧ P (.bl (decide (q = Rat.divInt a b)))
abbrev prD (p : Int × Int) : D := .lst [.int p.1, .int p.2]
def prL (ps : List (Int × Int)) : List D := ps.map prD
def addP (p q : Int × Int) : Int × Int := if p.1 = 0 then q else if q.1 = 0 then p else if p.2 = q.2 then (p.1 + q.1, p.2) else (p.1 * q.2 + q.1 * p.2, p.2 * q.2)
def mulP (p q : Int × Int) : Int × Int := (p.1 * q.1, p.2 * q.2)
structure SzP (n : Nat) (p : Int × Int) : Prop where
  a : p.1.natAbs < 2 ^ n
  b : p.2.natAbs < 2 ^ n
  pos : 0 < p.2
def fLAdd : FSp := fun ds P _ => ∃ p q n m, ds = [prD p, prD q] ∧ SzP n p ∧ SzP m q ∧ n + m ≤ 100000 ∧ P (prD (addP p q))
def fLTimes : FSp := fun ds P _ => ∃ p q n m, ds = [prD p, prD q] ∧ SzP n p ∧ SzP m q ∧ n + m ≤ 100000 ∧ P (prD (mulP p q))
def valP (p : Int × Int) : Rat := Rat.divInt p.1 p.2
def fLRatios : FSp := fun ds P _ => ∃ ps n, ds = [.lst (prL ps)] ∧ (∀ p, p ∈ ps → SzP n p) ∧ n ≤ 9000 ∧ ps.length ≤ 1000 ∧ P (.lst (ratL (ps.map valP)))
def fLRow : FSp := fun ds P _ => ∃ k : Int, ds = [.feed, .int k] ∧ 0 < k ∧ k ≤ 1000 ∧ ∀ ps : List (Int × Int), (∀ p, p ∈ ps → SzP 101 p) → 0 < ps.length → (ps.length : Int) ≤ k → P (.lst (prL ps))
def fLCoefs : FSp := fun ds P _ => ∃ k : Int, ds = [.feed, .int k] ∧ 0 < k ∧ k ≤ 1000 ∧ ∀ ps : List (Int × Int), (∀ p, p ∈ ps → SzP 70 p) → (ps.length : Int) ≤ k + 1 → P (.lst (prL ps))
abbrev xt18 : XTab := [("NoMean", "NoMean", true), ("NoMean", "MeansError", true), ("NoMean", "NoRow", false)]
def fLDue : FSp := fun ds P _ => ∃ rs cs, ds = [.lst (prL rs), .lst (prL cs)] ∧ (∀ p, p ∈ rs → SzP 101 p) ∧ (∀ p, p ∈ cs → SzP 70 p) ∧ cs.length ≤ 100 ∧ (∀ k c, cs[k]? = some c → c.1 ≠ 0 → k < rs.length) ∧
  ∀ p, SzP (1 + cs.length * 172) p → valP p = dotN (cs.map valP) (rs.map valP) cs.length → P (prD p)
def fLDeg : FSp := fun ds P _ => ∃ cs, ds = [.lst (prL cs)] ∧ (∀ p, p ∈ cs → SzP 70 p) ∧ cs.length ≤ 1000 ∧ P (.int ((szN (coef (cs.map valP)) cs.length : Int) - 1))
def fLRefused (cs : List Str) : FSp := fun ds P _ => ∃ d ps, ds = [d, .poly ps] ∧ fMean cs [d, .poly ps] (fun _ => False) (fun x => x = ⟨"NoMean", []⟩) ∧ P (.bl true)
def tt_check_row (K : PySem.W.Frag) (cs : List Str) (E : XK) : TS :=
  (tSeq (tIfS (tOr (tNot (tB (tCB (rIsiT K) (tCons (tVar 0) (tCons (tTup (tCons (tC (.ty "list")) (tCons (tC (.ty "tuple")) tNil))) tNil))))) (tOr (tNot (tTruA K (tVar 0))) (tTest (tOp rGt0 (tCB (rLenA K) (tCons (tVar 0) tNil)) (tVar 1))))) (tRaiseS (He.ga K "NoRow") "index" (fun cls d _ H => E cls d H) (tCons (tUn rNeg0 (tC (.int 1))) tNil)) tNext)
  (tSeq (tFor (iEnumA K (tCons (tVar 0) tNil)) (gTup K 2 (gCons (gName 2) (gCons (gName 3) gNil))) (tIfS (tNot (tB (tCall (lift K (fIsNum cs)) [] E0 (tCons (tVar 3) tNil)))) (tRaiseS (He.ga K "NoRow") "index" (fun cls d _ H => E cls d H) (tCons (tVar 2) tNil)) tNext))
  (tRet (tLc (iSeq K (tVar 0)) (gName 3) tYes (tCall (lift K (fAsRat cs)) [] E0 (tCons (tVar 3) (tCons (tC (.str "row")) tNil))) [3]))))
def f_check_row (cs : List Str) : FS :=
  (fSeq (fIfS (fOr (fNot (fB (fIsLT cs (fVar 0)))) (fOr (fNot (fTru (fVar 0))) (fB (fOp oGt (fLs oLen (fCons (fVar 0) fNil)) (fVar 1))))) (fRaise "NoRow" "index" (fUn oNeg (fC (.int 1)))) fNext)
  (fSeq (fFor (fEn (fCons (fVar 0) fNil)) (fTupG [2, 3]) (fIfS (fNot (fB (fCall0 (fIsNum cs) [] (fCons (fVar 3) fNil)))) (fRaise "NoRow" "index" (fVar 2)) fNext))
  (fRet (fLc (fIt (fVar 0)) (fName 3) fYes (fCall0 (fAsRat cs) [] (fCons (fVar 3) (fCons (fC (.str "row")) fNil))) [3]))))
theorem s_check_row {K : PySem.W.Frag} {cs : List Str} (T : KF K cs) (hRatio : ("Ratio" : Str) ∈ cs) (hPoly : ("Poly" : Str) ∈ cs) (E : XK) : SS K [] [] [] [] (fun _ => E) (tt_check_row K cs E) (f_check_row cs) :=
  (ss_seq (ow1 := []) (ss_if (by decide) (st_or (st_not (st_b (se_isLT T.toKT (se_var (by decide))))) (st_or (st_not (st_tru (se_var (by decide)))) (st_test (se_op (fun _ => os_gt) (se_cb (fun _ => ls_len) (sa_cons (se_var (by decide)) sa_nil)) (se_var (by decide)))))) (ss_raise (by decide) (se_un (fun _ => us_neg) se_int)) (ss_next (by decide)))
  (ss_seq (ow1 := []) (ss_for (by decide) (si_en (sa_cons (se_var (by decide)) sa_nil)) (sg_tup rfl (sgs_cons (by decide) (sgs_cons (by decide) sgs_nil))) (ss_if (by decide) (st_not (st_b (se_call0 Lift.refl cst_nil (sa_cons (se_var (by decide)) sa_nil)))) (ss_raise (by decide) (se_var (by decide))) (ss_next (by decide))))
  (ss_ret (by decide) (SF.se (sf_lc (by decide) (by decide) (si_seq (se_var (by decide))) (sg_name (by decide)) st_yes (se_call0 Lift.refl cst_nil (sa_cons (se_var (by decide)) (sa_cons se_str sa_nil))))))))
def tt_mean_of (K : PySem.W.Frag) (cs : List Str) : TS :=
  (tSeq (tAsg (tMake (He.ga K "Ratio") (spRInit K) [.int 1] E0 (tCons (tC (.int 0)) tNil)) (gName 2))
  (tSeq (tFor (iEnumA K (tCons (tFld K (tVar 1) "coefficients") tNil)) (gTup K 2 (gCons (gName 3) (gCons (gName 4) gNil))) (tAsg (tOp (rOwn (He.ga K "Ratio") (lift K (fR2 fun a b => a + b)) E0) (tVar 2) (tOp (rOwn (He.ga K "Ratio") (lift K (fR2 fun a b => a * b)) E0) (tVar 4) (tOp (rIxA K) (tVar 0) (tVar 3)))) (gName 2)))
  (tRet (tVar 2))))
def f_mean_of (cs : List Str) : FS :=
  (fSeq (fSet 2 (fCall0 fMkR [.int 1] (fCons (fC (.int 0)) fNil)))
  (fSeq (fFor (fEn (fCons (fFld "Poly" "coefficients" (fVar 1)) fNil)) (fTupG [3, 4]) (fSet 2 (fOp (oOwn0 "Ratio" (fR2 fun a b => a + b)) (fVar 2) (fOp (oOwn0 "Ratio" (fR2 fun a b => a * b)) (fVar 4) (fOp oIx (fVar 0) (fVar 3))))))
  (fRet (fVar 2))))
theorem s_mean_of {K : PySem.W.Frag} {cs : List Str} (T : KF K cs) (hRatio : ("Ratio" : Str) ∈ cs) (hPoly : ("Poly" : Str) ∈ cs) : SS K [] [] [] [] (fun _ => E0) (tt_mean_of K cs) (f_mean_of cs) :=
  (ss_seq (ow1 := []) (ss_set (by decide) (by decide) (se_make0 mkl_R (cst_int cst_nil) (sa_cons se_int sa_nil)))
  (ss_seq (ow1 := []) (ss_for (by decide) (si_en (sa_cons (se_fld (T.fld _ hPoly _ (by decide)) (se_var (by decide))) sa_nil)) (sg_tup rfl (sgs_cons (by decide) (sgs_cons (by decide) sgs_nil))) (ss_set (by decide) (by decide) (se_op (fun _ => (os_own0 Lift.refl)) (se_var (by decide)) (se_op (fun _ => (os_own0 Lift.refl)) (se_var (by decide)) (se_op (fun _ => os_ixA) (se_var (by decide)) (se_var (by decide)))))))
  (ss_ret (by decide) (se_var (by decide)))))
def tt_mean (K : PySem.W.Frag) (cs : List Str) (E : XK) : TS :=
  (tSeq (tAsg (tCall (lift K (fCheckRow cs)) [.int 13] E (tCons (tVar 0) tNil)) (gName 2))
  (tSeq (tIfS (tTest (tOp rGe0 (tFld K (tVar 1) "degree") (tCB (rLenA K) (tCons (tVar 2) tNil)))) (tRaise0 (He.ga K "NoMean") (fun cls d _ H => E cls d H)) tNext)
  (tRet (tCall (lift K fMeanOf) [] E0 (tCons (tVar 2) (tCons (tVar 1) tNil))))))
def f_mean (cs : List Str) : FS :=
  (fSeq (fSet 2 (fCall (fCheckRow cs) [.int 13] (fCons (fVar 0) fNil)))
  (fSeq (fIfS (fB (fOp oGe (fFld "Poly" "degree" (fVar 1)) (fLs oLen (fCons (fVar 2) fNil)))) (fRaise0 "NoMean") fNext)
  (fRet (fCall0 fMeanOf [] (fCons (fVar 2) (fCons (fVar 1) fNil))))))
theorem s_mean {K : PySem.W.Frag} {cs : List Str} (T : KF K cs) (hRatio : ("Ratio" : Str) ∈ cs) (hPoly : ("Poly" : Str) ∈ cs) (E : XK) : SS K [] [] [] [] (fun _ => E) (tt_mean K cs E) (f_mean cs) :=
  (ss_seq (ow1 := []) (ss_set (by decide) (by decide) (se_call Lift.refl (cst_int cst_nil) (sa_cons (se_var (by decide)) sa_nil)))
  (ss_seq (ow1 := []) (ss_if (by decide) (st_test (se_op (fun _ => os_ge) (se_fld (T.fld _ hPoly _ (by decide)) (se_var (by decide))) (se_cb (fun _ => ls_len) (sa_cons (se_var (by decide)) sa_nil)))) (ss_raise0 (by decide)) (ss_next (by decide)))
  (ss_ret (by decide) (se_call0 Lift.refl cst_nil (sa_cons (se_var (by decide)) (sa_cons (se_var (by decide)) sa_nil))))))
def tt__law_is_integer (K : PySem.W.Frag) (cs : List Str) : TS :=
  (tRet (tAndV (tCB (rIsi K) (tCons (tVar 0) (tCons (tC (.ty "int")) tNil))) (tNotV (tCB (rIsi K) (tCons (tVar 0) (tCons (tC (.ty "bool")) tNil))))))
def f__law_is_integer (cs : List Str) : FS :=
  (fRet (fAndV (fIsi cs (.ty "int") (fVar 0)) (fNotV (fIsi cs (.ty "bool") (fVar 0)))))
theorem s__law_is_integer {K : PySem.W.Frag} {cs : List Str} (T : KF K cs) (hRatio : ("Ratio" : Str) ∈ cs) (hPoly : ("Poly" : Str) ∈ cs) : SS K [] [] [] [] (fun _ => E0) (tt__law_is_integer K cs) (f__law_is_integer cs) :=
  (ss_ret (by decide) (se_andV (se_isi (c := (.ty "int")) T.toKT (se_var (by decide))) (se_notV (se_isi (c := (.ty "bool")) T.toKT (se_var (by decide))))))
def tt__law_number (K : PySem.W.Frag) (cs : List Str) : TS :=
  (tSeq (tAsg (tOp rSub0 (tC (.int 1)) (tOp rMulI (tC (.int 2)) (tCall (lift K fTake) [] E0 (tCons (tVar 0) (tCons (tC (.int 2)) tNil))))) (gName 2))
  (tRet (tOp rMulI (tVar 2) (tCall (lift K fTake) [] E0 (tCons (tVar 0) (tCons (tVar 1) tNil))))))
def f__law_number (cs : List Str) : FS :=
  (fSeq (fSet 2 (fOp oSub (fC (.int 1)) (fOp oMul (fC (.int 2)) (fCall0 fTake [] (fCons (fVar 0) (fCons (fC (.int 2)) fNil))))))
  (fRet (fOp oMul (fVar 2) (fCall0 fTake [] (fCons (fVar 0) (fCons (fVar 1) fNil))))))
theorem s__law_number {K : PySem.W.Frag} {cs : List Str} (T : KF K cs) (hRatio : ("Ratio" : Str) ∈ cs) (hPoly : ("Poly" : Str) ∈ cs) : SS K [] [] [] [] (fun _ => E0) (tt__law_number K cs) (f__law_number cs) :=
  (ss_seq (ow1 := []) (ss_set (by decide) (by decide) (se_op (fun _ => os_sub) se_int (se_op (fun _ => os_mul) se_int (se_call0 Lift.refl cst_nil (sa_cons (se_var (by decide)) (sa_cons se_int sa_nil))))))
  (ss_ret (by decide) (se_op (fun _ => os_mul) (se_var (by decide)) (se_call0 Lift.refl cst_nil (sa_cons (se_var (by decide)) (sa_cons (se_var (by decide)) sa_nil))))))
def tt__law_is (K : PySem.W.Frag) (cs : List Str) : TS :=
  (tSeq (tIfS (tOr (tNot (tB (tCB (rIsi K) (tCons (tVar 0) (tCons (tC (.ref (He.ga K "Ratio"))) tNil))))) (tOr (tNot (tB (tCall (lift K (fIsInt cs)) [] E0 (tCons (tFld K (tVar 0) "top") tNil)))) (tNot (tB (tCall (lift K (fIsInt cs)) [] E0 (tCons (tFld K (tVar 0) "bottom") tNil)))))) (tRet (tC (.bl false))) tNext)
  (tRet (tAndV (tOp rGe0 (tFld K (tVar 0) "bottom") (tC (.int 1))) (tOp rEq (tOp rMulI (tFld K (tVar 0) "top") (tVar 2)) (tOp rMulI (tVar 1) (tFld K (tVar 0) "bottom"))))))
def f__law_is (cs : List Str) : FS :=
  (fSeq (fIfS (fOr (fNot (fB (fIsi cs (.own "Ratio") (fVar 0)))) (fOr (fNot (fB (fCall0 (fIsInt cs) [] (fCons (fFld "Ratio" "top" (fVar 0)) fNil)))) (fNot (fB (fCall0 (fIsInt cs) [] (fCons (fFld "Ratio" "bottom" (fVar 0)) fNil)))))) (fRet (fC (.bl false))) fNext)
  (fRet (fAndV (fOp oGe (fFld "Ratio" "bottom" (fVar 0)) (fC (.int 1))) (fOp oEq (fOp oMul (fFld "Ratio" "top" (fVar 0)) (fVar 2)) (fOp oMul (fVar 1) (fFld "Ratio" "bottom" (fVar 0)))))))
theorem s__law_is {K : PySem.W.Frag} {cs : List Str} (T : KF K cs) (hRatio : ("Ratio" : Str) ∈ cs) (hPoly : ("Poly" : Str) ∈ cs) : SS K [] [] [] [] (fun _ => E0) (tt__law_is K cs) (f__law_is cs) :=
  (ss_seq (ow1 := []) (ss_if (by decide) (st_or (st_not (st_b (se_isi (c := (.own "Ratio")) T.toKT (se_var (by decide))))) (st_or (st_not (st_b (se_call0 Lift.refl cst_nil (sa_cons (se_fld (T.fld _ hRatio _ (by decide)) (se_var (by decide))) sa_nil)))) (st_not (st_b (se_call0 Lift.refl cst_nil (sa_cons (se_fld (T.fld _ hRatio _ (by decide)) (se_var (by decide))) sa_nil)))))) (ss_ret (by decide) se_bl) (ss_next (by decide)))
  (ss_ret (by decide) (se_andV (se_op (fun _ => os_ge) (se_fld (T.fld _ hRatio _ (by decide)) (se_var (by decide))) se_int) (se_op (fun _ => os_eq) (se_op (fun _ => os_mul) (se_fld (T.fld _ hRatio _ (by decide)) (se_var (by decide))) (se_var (by decide))) (se_op (fun _ => os_mul) (se_var (by decide)) (se_fld (T.fld _ hRatio _ (by decide)) (se_var (by decide))))))))
def tt__law_add (K : PySem.W.Frag) (cs : List Str) : TS :=
  (tSeq (tIfS (tTest (tOp rEq (tOp (rIxL K) (tVar 0) (tC (.int 0))) (tC (.int 0)))) (tRet (tVar 1)) tNext)
  (tSeq (tIfS (tTest (tOp rEq (tOp (rIxL K) (tVar 1) (tC (.int 0))) (tC (.int 0)))) (tRet (tVar 0)) tNext)
  (tSeq (tIfS (tTest (tOp rEq (tOp (rIxL K) (tVar 0) (tC (.int 1))) (tOp (rIxL K) (tVar 1) (tC (.int 1))))) (tRet (tLst (tCons (tOp rAdd0 (tOp (rIxL K) (tVar 0) (tC (.int 0))) (tOp (rIxL K) (tVar 1) (tC (.int 0)))) (tCons (tOp (rIxL K) (tVar 0) (tC (.int 1))) tNil)))) tNext)
  (tRet (tLst (tCons (tOp rAdd0 (tOp rMulI (tOp (rIxL K) (tVar 0) (tC (.int 0))) (tOp (rIxL K) (tVar 1) (tC (.int 1)))) (tOp rMulI (tOp (rIxL K) (tVar 1) (tC (.int 0))) (tOp (rIxL K) (tVar 0) (tC (.int 1))))) (tCons (tOp rMulI (tOp (rIxL K) (tVar 0) (tC (.int 1))) (tOp (rIxL K) (tVar 1) (tC (.int 1)))) tNil)))))))
def f__law_add (cs : List Str) : FS :=
  (fSeq (fIfS (fB (fOp oEq (fOp oIxL (fVar 0) (fC (.int 0))) (fC (.int 0)))) (fRet (fVar 1)) fNext)
  (fSeq (fIfS (fB (fOp oEq (fOp oIxL (fVar 1) (fC (.int 0))) (fC (.int 0)))) (fRet (fVar 0)) fNext)
  (fSeq (fIfS (fB (fOp oEq (fOp oIxL (fVar 0) (fC (.int 1))) (fOp oIxL (fVar 1) (fC (.int 1))))) (fRet (fLst (fCons (fOp oAdd (fOp oIxL (fVar 0) (fC (.int 0))) (fOp oIxL (fVar 1) (fC (.int 0)))) (fCons (fOp oIxL (fVar 0) (fC (.int 1))) fNil)))) fNext)
  (fRet (fLst (fCons (fOp oAdd (fOp oMul (fOp oIxL (fVar 0) (fC (.int 0))) (fOp oIxL (fVar 1) (fC (.int 1)))) (fOp oMul (fOp oIxL (fVar 1) (fC (.int 0))) (fOp oIxL (fVar 0) (fC (.int 1))))) (fCons (fOp oMul (fOp oIxL (fVar 0) (fC (.int 1))) (fOp oIxL (fVar 1) (fC (.int 1)))) fNil)))))))
theorem s__law_add {K : PySem.W.Frag} {cs : List Str} (T : KF K cs) (hRatio : ("Ratio" : Str) ∈ cs) (hPoly : ("Poly" : Str) ∈ cs) : SS K [] [] [] [] (fun _ => E0) (tt__law_add K cs) (f__law_add cs) :=
  (ss_seq (ow1 := []) (ss_if (by decide) (st_test (se_op (fun _ => os_eq) (se_op (fun _ => os_ixL) (se_var (by decide)) se_int) se_int)) (ss_ret (by decide) (se_var (by decide))) (ss_next (by decide)))
  (ss_seq (ow1 := []) (ss_if (by decide) (st_test (se_op (fun _ => os_eq) (se_op (fun _ => os_ixL) (se_var (by decide)) se_int) se_int)) (ss_ret (by decide) (se_var (by decide))) (ss_next (by decide)))
  (ss_seq (ow1 := []) (ss_if (by decide) (st_test (se_op (fun _ => os_eq) (se_op (fun _ => os_ixL) (se_var (by decide)) se_int) (se_op (fun _ => os_ixL) (se_var (by decide)) se_int))) (ss_ret (by decide) (se_lst (sa_cons (se_op (fun _ => os_add) (se_op (fun _ => os_ixL) (se_var (by decide)) se_int) (se_op (fun _ => os_ixL) (se_var (by decide)) se_int)) (sa_cons (se_op (fun _ => os_ixL) (se_var (by decide)) se_int) sa_nil)))) (ss_next (by decide)))
  (ss_ret (by decide) (se_lst (sa_cons (se_op (fun _ => os_add) (se_op (fun _ => os_mul) (se_op (fun _ => os_ixL) (se_var (by decide)) se_int) (se_op (fun _ => os_ixL) (se_var (by decide)) se_int)) (se_op (fun _ => os_mul) (se_op (fun _ => os_ixL) (se_var (by decide)) se_int) (se_op (fun _ => os_ixL) (se_var (by decide)) se_int))) (sa_cons (se_op (fun _ => os_mul) (se_op (fun _ => os_ixL) (se_var (by decide)) se_int) (se_op (fun _ => os_ixL) (se_var (by decide)) se_int)) sa_nil)))))))
def tt__law_times (K : PySem.W.Frag) (cs : List Str) : TS :=
  (tRet (tLst (tCons (tOp rMulI (tOp (rIxL K) (tVar 0) (tC (.int 0))) (tOp (rIxL K) (tVar 1) (tC (.int 0)))) (tCons (tOp rMulI (tOp (rIxL K) (tVar 0) (tC (.int 1))) (tOp (rIxL K) (tVar 1) (tC (.int 1)))) tNil))))
def f__law_times (cs : List Str) : FS :=
  (fRet (fLst (fCons (fOp oMul (fOp oIxL (fVar 0) (fC (.int 0))) (fOp oIxL (fVar 1) (fC (.int 0)))) (fCons (fOp oMul (fOp oIxL (fVar 0) (fC (.int 1))) (fOp oIxL (fVar 1) (fC (.int 1)))) fNil))))
theorem s__law_times {K : PySem.W.Frag} {cs : List Str} (T : KF K cs) (hRatio : ("Ratio" : Str) ∈ cs) (hPoly : ("Poly" : Str) ∈ cs) : SS K [] [] [] [] (fun _ => E0) (tt__law_times K cs) (f__law_times cs) :=
  (ss_ret (by decide) (se_lst (sa_cons (se_op (fun _ => os_mul) (se_op (fun _ => os_ixL) (se_var (by decide)) se_int) (se_op (fun _ => os_ixL) (se_var (by decide)) se_int)) (sa_cons (se_op (fun _ => os_mul) (se_op (fun _ => os_ixL) (se_var (by decide)) se_int) (se_op (fun _ => os_ixL) (se_var (by decide)) se_int)) sa_nil))))
def tt__law_ratios (K : PySem.W.Frag) (cs : List Str) : TS :=
  (tRet (tLc (iList K (tVar 0)) (gName 1) tYes (tMake (He.ga K "Ratio") (spRInit K) [] E0 (tCons (tOp (rIxL K) (tVar 1) (tC (.int 0))) (tCons (tOp (rIxL K) (tVar 1) (tC (.int 1))) tNil))) [1]))
def f__law_ratios (cs : List Str) : FS :=
  (fRet (fLc (fItL (fVar 0)) (fName 1) fYes (fCall0 fMkR [] (fCons (fOp oIxL (fVar 1) (fC (.int 0))) (fCons (fOp oIxL (fVar 1) (fC (.int 1))) fNil))) [1]))
theorem s__law_ratios {K : PySem.W.Frag} {cs : List Str} (T : KF K cs) (hRatio : ("Ratio" : Str) ∈ cs) (hPoly : ("Poly" : Str) ∈ cs) : SS K [] [] [] [] (fun _ => E0) (tt__law_ratios K cs) (f__law_ratios cs) :=
  (ss_ret (by decide) (SF.se (sf_lc (by decide) (by decide) (si_list (se_var (by decide))) (sg_name (by decide)) st_yes (se_make0 mkl_R cst_nil (sa_cons (se_op (fun _ => os_ixL) (se_var (by decide)) se_int) (sa_cons (se_op (fun _ => os_ixL) (se_var (by decide)) se_int) sa_nil))))))
def tt__law_row (K : PySem.W.Frag) (cs : List Str) : TS :=
  (tSeq (tAsg (tOp (rIxL K) (tLst (tCons (tC (.int 3)) (tCons (tC (.int 100)) (tCons (tOp rPow0 (tC (.int 10)) (tC (.int 30))) tNil)))) (tCall (lift K fTake) [] E0 (tCons (tVar 0) (tCons (tC (.int 3)) tNil)))) (gName 2))
  (tSeq (tAsg (tOp (rIxL K) (tLst (tCons (tC (.int 1)) (tCons (tC (.int 9)) (tCons (tOp rPow0 (tC (.int 10)) (tC (.int 12))) tNil)))) (tCall (lift K fTake) [] E0 (tCons (tVar 0) (tCons (tC (.int 3)) tNil)))) (gName 3))
  (tSeq (tAsg (tLst tNil) (gName 4))
  (tSeq (tFor (iRng1 (tCons (tOp rAdd0 (tC (.int 1)) (tCall (lift K fTake) [] E0 (tCons (tVar 0) (tCons (tVar 1) tNil)))) tNil)) (gName 5) (tDrop (tBM K "list" rAppend (tVar 4) (tCons (tLst (tCons (tCall (lift K fNumber) [] E0 (tCons (tVar 0) (tCons (tVar 2) tNil))) (tCons (tOp rAdd0 (tC (.int 1)) (tCall (lift K fTake) [] E0 (tCons (tVar 0) (tCons (tVar 3) tNil)))) tNil))) tNil))))
  (tRet (tVar 4))))))
def f__law_row (cs : List Str) : FS :=
  (fSeq (fSet 2 (fOp oIxL (fLst (fCons (fC (.int 3)) (fCons (fC (.int 100)) (fCons (fOp oPow (fC (.int 10)) (fC (.int 30))) fNil)))) (fCall0 fTake [] (fCons (fVar 0) (fCons (fC (.int 3)) fNil)))))
  (fSeq (fSet 3 (fOp oIxL (fLst (fCons (fC (.int 1)) (fCons (fC (.int 9)) (fCons (fOp oPow (fC (.int 10)) (fC (.int 12))) fNil)))) (fCall0 fTake [] (fCons (fVar 0) (fCons (fC (.int 3)) fNil)))))
  (fSeq (fOwn 4 (fLst fNil))
  (fSeq (fFor (fRng1 (fCons (fOp oAdd (fC (.int 1)) (fCall0 fTake [] (fCons (fVar 0) (fCons (fVar 1) fNil)))) fNil)) (fName 5) (fApp 4 (fLst (fCons (fCall0 fNumber [] (fCons (fVar 0) (fCons (fVar 2) fNil))) (fCons (fOp oAdd (fC (.int 1)) (fCall0 fTake [] (fCons (fVar 0) (fCons (fVar 3) fNil)))) fNil)))))
  (fRet (fVar 4))))))
theorem s__law_row {K : PySem.W.Frag} {cs : List Str} (T : KF K cs) (hRatio : ("Ratio" : Str) ∈ cs) (hPoly : ("Poly" : Str) ∈ cs) : SS K [] [] [] [] (fun _ => E0) (tt__law_row K cs) (f__law_row cs) :=
  (ss_seq (ow1 := []) (ss_set (by decide) (by decide) (se_op (fun _ => os_ixL) (se_lst (sa_cons se_int (sa_cons se_int (sa_cons (se_op (fun _ => os_pow) se_int se_int) sa_nil)))) (se_call0 Lift.refl cst_nil (sa_cons (se_var (by decide)) (sa_cons se_int sa_nil)))))
  (ss_seq (ow1 := []) (ss_set (by decide) (by decide) (se_op (fun _ => os_ixL) (se_lst (sa_cons se_int (sa_cons se_int (sa_cons (se_op (fun _ => os_pow) se_int se_int) sa_nil)))) (se_call0 Lift.refl cst_nil (sa_cons (se_var (by decide)) (sa_cons se_int sa_nil)))))
  (ss_seq (ow1 := [4]) (ss_own (by decide) (by decide) (sf_lst sa_nil))
  (ss_seq (ow1 := [4]) (ss_for (by decide) (si_rng1 (sa_cons (se_op (fun _ => os_add) se_int (se_call0 Lift.refl cst_nil (sa_cons (se_var (by decide)) (sa_cons (se_var (by decide)) sa_nil)))) sa_nil)) (sg_name (by decide)) (ss_app (by decide) (by decide) (se_lst (sa_cons (se_call0 Lift.refl cst_nil (sa_cons (se_var (by decide)) (sa_cons (se_var (by decide)) sa_nil))) (sa_cons (se_op (fun _ => os_add) se_int (se_call0 Lift.refl cst_nil (sa_cons (se_var (by decide)) (sa_cons (se_var (by decide)) sa_nil)))) sa_nil)))))
  (ss_free (ow1 := []) (by decide) (ss_ret (by decide) (se_var (by decide))))))))
def tt__law_coefficients (K : PySem.W.Frag) (cs : List Str) : TS :=
  (tSeq (tAsg (tLst tNil) (gName 2))
  (tSeq (tAsg (tOp (rIxL K) (tLst (tCons (tC (.int 4)) (tCons (tC (.int 30)) (tCons (tOp rPow0 (tC (.int 10)) (tC (.int 20))) tNil)))) (tCall (lift K fTake) [] E0 (tCons (tVar 0) (tCons (tC (.int 3)) tNil)))) (gName 3))
  (tSeq (tAsg (tOp (rIxL K) (tLst (tCons (tC (.int 1)) (tCons (tC (.int 12)) (tCons (tOp rPow0 (tC (.int 10)) (tC (.int 6))) tNil)))) (tCall (lift K fTake) [] E0 (tCons (tVar 0) (tCons (tC (.int 3)) tNil)))) (gName 4))
  (tSeq (tFor (iRng1 (tCons (tCall (lift K fTake) [] E0 (tCons (tVar 0) (tCons (tOp rAdd0 (tVar 1) (tC (.int 2))) tNil))) tNil)) (gName 5) (tDrop (tBM K "list" rAppend (tVar 2) (tCons (tLst (tCons (tOp rMulI (tCall (lift K fNumber) [] E0 (tCons (tVar 0) (tCons (tVar 3) tNil))) (tCB rMin0 (tCons (tC (.int 1)) (tCons (tCall (lift K fTake) [] E0 (tCons (tVar 0) (tCons (tC (.int 4)) tNil))) tNil)))) (tCons (tOp rAdd0 (tC (.int 1)) (tCall (lift K fTake) [] E0 (tCons (tVar 0) (tCons (tVar 4) tNil)))) tNil))) tNil))))
  (tRet (tVar 2))))))
def f__law_coefficients (cs : List Str) : FS :=
  (fSeq (fOwn 2 (fLst fNil))
  (fSeq (fSet 3 (fOp oIxL (fLst (fCons (fC (.int 4)) (fCons (fC (.int 30)) (fCons (fOp oPow (fC (.int 10)) (fC (.int 20))) fNil)))) (fCall0 fTake [] (fCons (fVar 0) (fCons (fC (.int 3)) fNil)))))
  (fSeq (fSet 4 (fOp oIxL (fLst (fCons (fC (.int 1)) (fCons (fC (.int 12)) (fCons (fOp oPow (fC (.int 10)) (fC (.int 6))) fNil)))) (fCall0 fTake [] (fCons (fVar 0) (fCons (fC (.int 3)) fNil)))))
  (fSeq (fFor (fRng1 (fCons (fCall0 fTake [] (fCons (fVar 0) (fCons (fOp oAdd (fVar 1) (fC (.int 2))) fNil))) fNil)) (fName 5) (fApp 2 (fLst (fCons (fOp oMul (fCall0 fNumber [] (fCons (fVar 0) (fCons (fVar 3) fNil))) (fLs oMin (fCons (fC (.int 1)) (fCons (fCall0 fTake [] (fCons (fVar 0) (fCons (fC (.int 4)) fNil))) fNil)))) (fCons (fOp oAdd (fC (.int 1)) (fCall0 fTake [] (fCons (fVar 0) (fCons (fVar 4) fNil)))) fNil)))))
  (fRet (fVar 2))))))
theorem s__law_coefficients {K : PySem.W.Frag} {cs : List Str} (T : KF K cs) (hRatio : ("Ratio" : Str) ∈ cs) (hPoly : ("Poly" : Str) ∈ cs) : SS K [] [] [] [] (fun _ => E0) (tt__law_coefficients K cs) (f__law_coefficients cs) :=
  (ss_seq (ow1 := [2]) (ss_own (by decide) (by decide) (sf_lst sa_nil))
  (ss_seq (ow1 := [2]) (ss_set (by decide) (by decide) (se_op (fun _ => os_ixL) (se_lst (sa_cons se_int (sa_cons se_int (sa_cons (se_op (fun _ => os_pow) se_int se_int) sa_nil)))) (se_call0 Lift.refl cst_nil (sa_cons (se_var (by decide)) (sa_cons se_int sa_nil)))))
  (ss_seq (ow1 := [2]) (ss_set (by decide) (by decide) (se_op (fun _ => os_ixL) (se_lst (sa_cons se_int (sa_cons se_int (sa_cons (se_op (fun _ => os_pow) se_int se_int) sa_nil)))) (se_call0 Lift.refl cst_nil (sa_cons (se_var (by decide)) (sa_cons se_int sa_nil)))))
  (ss_seq (ow1 := [2]) (ss_for (by decide) (si_rng1 (sa_cons (se_call0 Lift.refl cst_nil (sa_cons (se_var (by decide)) (sa_cons (se_op (fun _ => os_add) (se_var (by decide)) se_int) sa_nil))) sa_nil)) (sg_name (by decide)) (ss_app (by decide) (by decide) (se_lst (sa_cons (se_op (fun _ => os_mul) (se_call0 Lift.refl cst_nil (sa_cons (se_var (by decide)) (sa_cons (se_var (by decide)) sa_nil))) (se_cb (fun _ => ls_min) (sa_cons se_int (sa_cons (se_call0 Lift.refl cst_nil (sa_cons (se_var (by decide)) (sa_cons se_int sa_nil))) sa_nil)))) (sa_cons (se_op (fun _ => os_add) se_int (se_call0 Lift.refl cst_nil (sa_cons (se_var (by decide)) (sa_cons (se_var (by decide)) sa_nil)))) sa_nil)))))
  (ss_free (ow1 := []) (by decide) (ss_ret (by decide) (se_var (by decide))))))))
def tt__law_due (K : PySem.W.Frag) (cs : List Str) : TS :=
  (tSeq (tAsg (tLst (tCons (tC (.int 0)) (tCons (tC (.int 1)) tNil))) (gName 2))
  (tSeq (tFor (iRng1 (tCons (tCB (rLenA K) (tCons (tVar 1) tNil)) tNil)) (gName 3) (tIfS (tTest (tOp rNe (tOp (rIxL K) (tOp (rIxL K) (tVar 1) (tVar 3)) (tC (.int 0))) (tC (.int 0)))) (tAsg (tCall (lift K fLAdd) [] E0 (tCons (tVar 2) (tCons (tCall (lift K fLTimes) [] E0 (tCons (tOp (rIxL K) (tVar 0) (tVar 3)) (tCons (tOp (rIxL K) (tVar 1) (tVar 3)) tNil))) tNil))) (gName 2)) tNext))
  (tRet (tVar 2))))
def f__law_due (cs : List Str) : FS :=
  (fSeq (fSet 2 (fLst (fCons (fC (.int 0)) (fCons (fC (.int 1)) fNil))))
  (fSeq (fFor (fRng1 (fCons (fLs oLen (fCons (fVar 1) fNil)) fNil)) (fName 3) (fIfS (fB (fOp oNe (fOp oIxL (fOp oIxL (fVar 1) (fVar 3)) (fC (.int 0))) (fC (.int 0)))) (fSet 2 (fCall0 fLAdd [] (fCons (fVar 2) (fCons (fCall0 fLTimes [] (fCons (fOp oIxL (fVar 0) (fVar 3)) (fCons (fOp oIxL (fVar 1) (fVar 3)) fNil))) fNil)))) fNext))
  (fRet (fVar 2))))
theorem s__law_due {K : PySem.W.Frag} {cs : List Str} (T : KF K cs) (hRatio : ("Ratio" : Str) ∈ cs) (hPoly : ("Poly" : Str) ∈ cs) : SS K [] [] [] [] (fun _ => E0) (tt__law_due K cs) (f__law_due cs) :=
  (ss_seq (ow1 := []) (ss_set (by decide) (by decide) (se_lst (sa_cons se_int (sa_cons se_int sa_nil))))
  (ss_seq (ow1 := []) (ss_for (by decide) (si_rng1 (sa_cons (se_cb (fun _ => ls_len) (sa_cons (se_var (by decide)) sa_nil)) sa_nil)) (sg_name (by decide)) (ss_if (by decide) (st_test (se_op (fun _ => os_ne) (se_op (fun _ => os_ixL) (se_op (fun _ => os_ixL) (se_var (by decide)) (se_var (by decide))) se_int) se_int)) (ss_set (by decide) (by decide) (se_call0 Lift.refl cst_nil (sa_cons (se_var (by decide)) (sa_cons (se_call0 Lift.refl cst_nil (sa_cons (se_op (fun _ => os_ixL) (se_var (by decide)) (se_var (by decide))) (sa_cons (se_op (fun _ => os_ixL) (se_var (by decide)) (se_var (by decide))) sa_nil))) sa_nil)))) (ss_next (by decide))))
  (ss_ret (by decide) (se_var (by decide)))))
def tt__law_degree (K : PySem.W.Frag) (cs : List Str) : TS :=
  (tSeq (tAsg (tUn rNeg0 (tC (.int 1))) (gName 1))
  (tSeq (tFor (iRng1 (tCons (tCB (rLenA K) (tCons (tVar 0) tNil)) tNil)) (gName 2) (tIfS (tTest (tOp rNe (tOp (rIxL K) (tOp (rIxL K) (tVar 0) (tVar 2)) (tC (.int 0))) (tC (.int 0)))) (tAsg (tVar 2) (gName 1)) tNext))
  (tRet (tVar 1))))
def f__law_degree (cs : List Str) : FS :=
  (fSeq (fSet 1 (fUn oNeg (fC (.int 1))))
  (fSeq (fFor (fRng1 (fCons (fLs oLen (fCons (fVar 0) fNil)) fNil)) (fName 2) (fIfS (fB (fOp oNe (fOp oIxL (fOp oIxL (fVar 0) (fVar 2)) (fC (.int 0))) (fC (.int 0)))) (fSet 1 (fVar 2)) fNext))
  (fRet (fVar 1))))
theorem s__law_degree {K : PySem.W.Frag} {cs : List Str} (T : KF K cs) (hRatio : ("Ratio" : Str) ∈ cs) (hPoly : ("Poly" : Str) ∈ cs) : SS K [] [] [] [] (fun _ => E0) (tt__law_degree K cs) (f__law_degree cs) :=
  (ss_seq (ow1 := []) (ss_set (by decide) (by decide) (se_un (fun _ => us_neg) se_int))
  (ss_seq (ow1 := []) (ss_for (by decide) (si_rng1 (sa_cons (se_cb (fun _ => ls_len) (sa_cons (se_var (by decide)) sa_nil)) sa_nil)) (sg_name (by decide)) (ss_if (by decide) (st_test (se_op (fun _ => os_ne) (se_op (fun _ => os_ixL) (se_op (fun _ => os_ixL) (se_var (by decide)) (se_var (by decide))) se_int) se_int)) (ss_set (by decide) (by decide) (se_var (by decide))) (ss_next (by decide))))
  (ss_ret (by decide) (se_var (by decide)))))
def tt__law_refused (K : PySem.W.Frag) (cs : List Str) : TS :=
  (tSeq (tAsg (tC (.bl false)) (gName 2))
  (tSeq (fun D => (fun W => (tDrop (tCallSD (lift K (fMean cs)) [] (WE W) (tCons (tVar 0) (tCons (tVar 1) tNil))))) (wAs K (.ref (He.ga K "NoMean")) 3 (fun a cls d => (tAsg (tAndV (tCB (rIsX K a cls d) (tCons (tVar 3) (tCons (tC (.ref (He.ga K "MeansError"))) tNil))) (tNotV (tCB (rIsX K a cls d) (tCons (tVar 3) (tCons (tC (.ref (He.ga K "NoRow"))) tNil))))) (gName 2))) (fun _ _ _ _ => False) D) D)
  (tRet (tVar 2))))
def f__law_refused (cs : List Str) (XT : XTab) : FS :=
  (fSeq (fSet 2 (fC (.bl false)))
  (fSeq (fTryAs XT "NoMean" 3 2 (fDrop (fCall (fMean cs) [] (fCons (fVar 0) (fCons (fVar 1) fNil)))) (fun x => (fLen 3 (fAndV (fIsX XT x "MeansError") (fNotV (fIsX XT x "NoRow"))))))
  (fRet (fVar 2))))
theorem s__law_refused {K : PySem.W.Frag} {cs : List Str} {XT : XTab} (T : KF K cs) (XO : XOk K XT) (IX : IOk K XT) (hRatio : ("Ratio" : Str) ∈ cs) (hPoly : ("Poly" : Str) ∈ cs) : SS K [] [] [] [] (fun _ => E0) (tt__law_refused K cs) (f__law_refused cs XT) :=
  (ss_seq (ow1 := []) (ss_set (by decide) (by decide) se_bl)
  (ss_seq (ow1 := []) (ss_tryAs XO (by decide) (by decide) (fun W => (ss_drop (by decide) (se_callS Lift.refl cst_nil (sa_cons (se_var (by decide)) (sa_cons (se_var (by decide)) sa_nil))))) (fun a cls d x => (SEH.len (sh_andV (sh_isX IX "MeansError") (sh_notV (sh_isX IX "NoRow"))))))
  (ss_ret (by decide) (se_var (by decide)))))
def f_law_b9 (cs : List Str) : FS :=
  (fIfS (fOr (fNot (fB (fCall0 fIs [] (fCons (fCall0 (fMean cs) [] (fCons (fVar 6) (fCons (fCall0 (fMkPoly cs) [] (fCons (fLst fNil) fNil)) fNil))) (fCons (fC (.int 0)) (fCons (fC (.int 1)) fNil)))))) (fNot (fB (fCall0 fIs [] (fCons (fCall0 (fMean cs) [] (fCons (fLst (fCons (fOp oIxL (fOp oIxL (fVar 3) (fC (.int 0))) (fC (.int 0))) fNil)) (fCons (fCall0 (fMkPoly cs) [] (fCons (fLst (fCons (fC (.int 7)) fNil)) fNil)) fNil))) (fCons (fOp oMul (fC (.int 7)) (fOp oIxL (fOp oIxL (fVar 3) (fC (.int 0))) (fC (.int 0)))) (fCons (fC (.int 1)) fNil))))))) (fRet (fC (.bl false))) fNext)
def f_law_b8 (cs : List Str) : FS :=
  fSeq (fIfS (fOr (fNot (fB (fCall0 fIs [] (fCons (fCall0 (fMean cs) [] (fCons (fVar 6) (fCons (fCall0 (fMkPoly cs) [] (fCons (fVar 8) fNil)) fNil))) (fCons (fOp oMul (fC (.int 2)) (fOp oIxL (fOp oIxL (fVar 3) (fUn oNeg (fC (.int 1)))) (fC (.int 0)))) (fCons (fOp oIxL (fOp oIxL (fVar 3) (fUn oNeg (fC (.int 1)))) (fC (.int 1))) fNil)))))) (fNot (fB (fCall0 (fLRefused cs) [] (fCons (fVar 6) (fCons (fCall0 (fMkPoly cs) [] (fCons (fOp oCat (fLst (fCons (fC (.int 0)) fNil)) (fVar 8)) fNil)) fNil)))))) (fRet (fC (.bl false))) fNext) (f_law_b9 cs)
def f_law_b7 (cs : List Str) : FS :=
  fSeq (fSet 8 (fOp oCat (fOp oRep (fLst (fCons (fC (.int 0)) fNil)) (fOp oSub (fLs oLen (fCons (fVar 3) fNil)) (fC (.int 1)))) (fLst (fCons (fC (.int 2)) fNil)))) (f_law_b8 cs)
def f_law_b6 (cs : List Str) : FS :=
  fSeq (fFor (fRng1 (fCons (fLs oLen (fCons (fVar 3) fNil)) fNil)) (fName 7) (fIfS (fNot (fB (fCall0 fIs [] (fCons (fOp oIxL (fVar 6) (fVar 7)) (fCons (fOp oIxL (fOp oIxL (fVar 3) (fVar 7)) (fC (.int 0))) (fCons (fOp oIxL (fOp oIxL (fVar 3) (fVar 7)) (fC (.int 1))) fNil)))))) (fRet (fC (.bl false))) fNext)) (f_law_b7 cs)
def f_law_b5 (cs : List Str) : FS :=
  fSeq (fIfS (fB (fOp oGe (fCall0 fLDeg [] (fCons (fVar 4) fNil)) (fLs oLen (fCons (fVar 3) fNil)))) (fIfS (fOr (fNot (fB (fCall0 (fLRefused cs) [] (fCons (fVar 6) (fCons (fVar 5) fNil))))) (fNot (fB (fCall0 (fLRefused cs) [] (fCons (fLs oTuple (fCons (fVar 6) fNil)) (fCons (fVar 5) fNil)))))) (fRet (fC (.bl false))) fNext) (fSeq (fSet 9 (fCall0 fLDue [] (fCons (fVar 3) (fCons (fVar 4) fNil))))
  (fSeq (fIfS (fOr (fNot (fB (fCall0 fIs [] (fCons (fCall0 (fMean cs) [] (fCons (fVar 6) (fCons (fVar 5) fNil))) (fCons (fOp oIxL (fVar 9) (fC (.int 0))) (fCons (fOp oIxL (fVar 9) (fC (.int 1))) fNil)))))) (fNot (fB (fCall0 fIs [] (fCons (fCallK0 (fMean cs) 1 1 (fCons (fLs oTuple (fCons (fVar 6) fNil)) fNil) (fCons (fVar 5) fNil)) (fCons (fOp oIxL (fVar 9) (fC (.int 0))) (fCons (fOp oIxL (fVar 9) (fC (.int 1))) fNil))))))) (fRet (fC (.bl false))) fNext)
  (fIfS (fNot (fB (fOp (oOwn0 "Ratio" (fRB fun a b => decide (a = b))) (fCallK0 (fMean cs) 0 2 fNil (fCons (fVar 6) (fCons (fOp (oOwn0 "Poly" (fPAdd cs)) (fVar 5) (fC (.int 3))) fNil))) (fOp (oOwn0 "Ratio" (fR2 fun a b => a + b)) (fCall0 (fMean cs) [] (fCons (fVar 6) (fCons (fVar 5) fNil))) (fOp (oRfl0 "Ratio" (fRI fun a b => b * a)) (fC (.int 3)) (fOp oIxL (fVar 6) (fC (.int 0)))))))) (fRet (fC (.bl false))) fNext)))) (f_law_b6 cs)
def f_law_b4 (cs : List Str) : FS :=
  fSeq (fSet 6 (fCall0 fLRatios [] (fCons (fVar 3) fNil))) (f_law_b5 cs)
def f_law_b3 (cs : List Str) : FS :=
  fSeq (fSet 5 (fCall0 (fMkPoly cs) [] (fCons (fCall0 fLRatios [] (fCons (fVar 4) fNil)) fNil))) (f_law_b4 cs)
def f_law_b2 (cs : List Str) : FS :=
  fSeq (fIfS (fB (fOp oEq (fCall0 fTake [] (fCons (fVar 1) (fCons (fC (.int 2)) fNil))) (fC (.int 0)))) (fSet 4 (fSl (fVar 4) fNoPart (fPart (fLs oLen (fCons (fVar 3) fNil))))) fNext) (f_law_b3 cs)
def f_law_b1 (cs : List Str) : FS :=
  fSeq (fSet 4 (fCall0 fLCoefs [] (fCons (fVar 1) (fCons (fC (.int 13)) fNil)))) (f_law_b2 cs)
def f_law_b0 (cs : List Str) : FS :=
  fSeq (fSet 3 (fCall0 fLRow [] (fCons (fVar 1) (fCons (fC (.int 13)) fNil)))) (f_law_b1 cs)
def tt_law_rest (K : PySem.W.Frag) (cs : List Str) : TS :=
  (tSeq (tFor (iRng1 (tCons (tOp rAdd0 (tC (.int 1)) (tCall (lift K fTake) [] E0 (tCons (tVar 1) (tCons (tC (.int 4)) tNil)))) tNil)) (gName 2) (tSeq (tAsg (tCall (lift K fLRow) [] E0 (tCons (tVar 1) (tCons (tC (.int 13)) tNil))) (gName 3))
  (tSeq (tAsg (tCall (lift K fLCoefs) [] E0 (tCons (tVar 1) (tCons (tC (.int 13)) tNil))) (gName 4))
  (tSeq (tIfS (tTest (tOp rEq (tCall (lift K fTake) [] E0 (tCons (tVar 1) (tCons (tC (.int 2)) tNil))) (tC (.int 0)))) (tAsg (tSl (rSlL K) (tVar 4) tNoPart (tPart (tCB (rLenA K) (tCons (tVar 3) tNil)))) (gName 4)) tNext)
  (tSeq (tAsg (tMake (He.ga K "Poly") (liftI K "Poly" (fMkPoly cs)) [] E0 (tCons (tCall (lift K fLRatios) [] E0 (tCons (tVar 4) tNil)) tNil)) (gName 5))
  (tSeq (tAsg (tCall (lift K fLRatios) [] E0 (tCons (tVar 3) tNil)) (gName 6))
  (tSeq (tIfS (tTest (tOp rGe0 (tCall (lift K fLDeg) [] E0 (tCons (tVar 4) tNil)) (tCB (rLenA K) (tCons (tVar 3) tNil)))) (tIfS (tOr (tNot (tB (tCall (lift K (fLRefused cs)) [] E0 (tCons (tVar 6) (tCons (tVar 5) tNil))))) (tNot (tB (tCall (lift K (fLRefused cs)) [] E0 (tCons (tCB (rTupOf0 K) (tCons (tVar 6) tNil)) (tCons (tVar 5) tNil)))))) (tRet (tC (.bl false))) tNext) (tSeq (tAsg (tCall (lift K fLDue) [] E0 (tCons (tVar 3) (tCons (tVar 4) tNil))) (gName 9))
  (tSeq (tIfS (tOr (tNot (tB (tCall (lift K fIs) [] E0 (tCons (tCall (lift K (fMean cs)) [] E0 (tCons (tVar 6) (tCons (tVar 5) tNil))) (tCons (tOp (rIxL K) (tVar 9) (tC (.int 0))) (tCons (tOp (rIxL K) (tVar 9) (tC (.int 1))) tNil)))))) (tNot (tB (tCall (lift K fIs) [] E0 (tCons (tCallN 1 1 (lift K (fMean cs)) gApp E0 (tCons (tCB (rTupOf0 K) (tCons (tVar 6) tNil)) tNil) (tCons (tVar 5) tNil)) (tCons (tOp (rIxL K) (tVar 9) (tC (.int 0))) (tCons (tOp (rIxL K) (tVar 9) (tC (.int 1))) tNil))))))) (tRet (tC (.bl false))) tNext)
  (tIfS (tNot (tTest (tOp (rOwn (He.ga K "Ratio") (lift K (fRB fun a b => decide (a = b))) E0) (tCallN 0 2 (lift K (fMean cs)) gApp E0 tNil (tCons (tVar 6) (tCons (tOp (rOwn (He.ga K "Poly") (lift K (fPAdd cs)) E0) (tVar 5) (tC (.int 3))) tNil))) (tOp (rOwn (He.ga K "Ratio") (lift K (fR2 fun a b => a + b)) E0) (tCall (lift K (fMean cs)) [] E0 (tCons (tVar 6) (tCons (tVar 5) tNil))) (tOp (rRefl (He.ga K "Ratio") (lift K (fRI fun a b => b * a)) E0) (tC (.int 3)) (tOp (rIxL K) (tVar 6) (tC (.int 0)))))))) (tRet (tC (.bl false))) tNext))))
  (tSeq (tFor (iRng1 (tCons (tCB (rLenA K) (tCons (tVar 3) tNil)) tNil)) (gName 7) (tIfS (tNot (tB (tCall (lift K fIs) [] E0 (tCons (tOp (rIxL K) (tVar 6) (tVar 7)) (tCons (tOp (rIxL K) (tOp (rIxL K) (tVar 3) (tVar 7)) (tC (.int 0))) (tCons (tOp (rIxL K) (tOp (rIxL K) (tVar 3) (tVar 7)) (tC (.int 1))) tNil)))))) (tRet (tC (.bl false))) tNext))
  (tSeq (tAsg (tOp rCat (tOp rRep (tLst (tCons (tC (.int 0)) tNil)) (tOp rSub0 (tCB (rLenA K) (tCons (tVar 3) tNil)) (tC (.int 1)))) (tLst (tCons (tC (.int 2)) tNil))) (gName 8))
  (tSeq (tIfS (tOr (tNot (tB (tCall (lift K fIs) [] E0 (tCons (tCall (lift K (fMean cs)) [] E0 (tCons (tVar 6) (tCons (tMake (He.ga K "Poly") (liftI K "Poly" (fMkPoly cs)) [] E0 (tCons (tVar 8) tNil)) tNil))) (tCons (tOp rMulI (tC (.int 2)) (tOp (rIxL K) (tOp (rIxL K) (tVar 3) (tUn rNeg0 (tC (.int 1)))) (tC (.int 0)))) (tCons (tOp (rIxL K) (tOp (rIxL K) (tVar 3) (tUn rNeg0 (tC (.int 1)))) (tC (.int 1))) tNil)))))) (tNot (tB (tCall (lift K (fLRefused cs)) [] E0 (tCons (tVar 6) (tCons (tMake (He.ga K "Poly") (liftI K "Poly" (fMkPoly cs)) [] E0 (tCons (tOp rCat (tLst (tCons (tC (.int 0)) tNil)) (tVar 8)) tNil)) tNil)))))) (tRet (tC (.bl false))) tNext)
  (tIfS (tOr (tNot (tB (tCall (lift K fIs) [] E0 (tCons (tCall (lift K (fMean cs)) [] E0 (tCons (tVar 6) (tCons (tMake (He.ga K "Poly") (liftI K "Poly" (fMkPoly cs)) [] E0 (tCons (tLst tNil) tNil)) tNil))) (tCons (tC (.int 0)) (tCons (tC (.int 1)) tNil)))))) (tNot (tB (tCall (lift K fIs) [] E0 (tCons (tCall (lift K (fMean cs)) [] E0 (tCons (tLst (tCons (tOp (rIxL K) (tOp (rIxL K) (tVar 3) (tC (.int 0))) (tC (.int 0))) tNil)) (tCons (tMake (He.ga K "Poly") (liftI K "Poly" (fMkPoly cs)) [] E0 (tCons (tLst (tCons (tC (.int 7)) tNil)) tNil)) tNil))) (tCons (tOp rMulI (tC (.int 7)) (tOp (rIxL K) (tOp (rIxL K) (tVar 3) (tC (.int 0))) (tC (.int 0)))) (tCons (tC (.int 1)) tNil))))))) (tRet (tC (.bl false))) tNext)))))))))))
  (tRet (tC (.bl true))))
def f_law_rest (cs : List Str) : FS :=
  (fSeq (fFor (fRng1 (fCons (fOp oAdd (fC (.int 1)) (fCall0 fTake [] (fCons (fVar 1) (fCons (fC (.int 4)) fNil)))) fNil)) (fName 2) (f_law_b0 cs))
  (fRet (fC (.bl true))))
theorem s_law_rest {K : PySem.W.Frag} {cs : List Str} (T : KF K cs) (hRatio : ("Ratio" : Str) ∈ cs) (hPoly : ("Poly" : Str) ∈ cs) : SS K [] [] [] [] (fun _ => E0) (tt_law_rest K cs) (f_law_rest cs) :=
  (ss_seq (ow1 := []) (ss_for (by decide) (si_rng1 (sa_cons (se_op (fun _ => os_add) se_int (se_call0 Lift.refl cst_nil (sa_cons (se_var (by decide)) (sa_cons se_int sa_nil)))) sa_nil)) (sg_name (by decide)) (ss_seq (ow1 := []) (ss_set (by decide) (by decide) (se_call0 Lift.refl cst_nil (sa_cons (se_var (by decide)) (sa_cons se_int sa_nil))))
  (ss_seq (ow1 := []) (ss_set (by decide) (by decide) (se_call0 Lift.refl cst_nil (sa_cons (se_var (by decide)) (sa_cons se_int sa_nil))))
  (ss_seq (ow1 := []) (ss_if (by decide) (st_test (se_op (fun _ => os_eq) (se_call0 Lift.refl cst_nil (sa_cons (se_var (by decide)) (sa_cons se_int sa_nil))) se_int)) (ss_set (by decide) (by decide) (SF.se (sf_sl (se_var (by decide)) so_none (so_some (se_cb (fun _ => ls_len) (sa_cons (se_var (by decide)) sa_nil)))))) (ss_next (by decide)))
  (ss_seq (ow1 := []) (ss_set (by decide) (by decide) (se_make0 mkl_lift cst_nil (sa_cons (se_call0 Lift.refl cst_nil (sa_cons (se_var (by decide)) sa_nil)) sa_nil)))
  (ss_seq (ow1 := []) (ss_set (by decide) (by decide) (se_call0 Lift.refl cst_nil (sa_cons (se_var (by decide)) sa_nil)))
  (ss_seq (ow1 := []) (ss_if (by decide) (st_test (se_op (fun _ => os_ge) (se_call0 Lift.refl cst_nil (sa_cons (se_var (by decide)) sa_nil)) (se_cb (fun _ => ls_len) (sa_cons (se_var (by decide)) sa_nil)))) (ss_if (by decide) (st_or (st_not (st_b (se_call0 Lift.refl cst_nil (sa_cons (se_var (by decide)) (sa_cons (se_var (by decide)) sa_nil))))) (st_not (st_b (se_call0 Lift.refl cst_nil (sa_cons (se_cb (fun _ => ls_tuple) (sa_cons (se_var (by decide)) sa_nil)) (sa_cons (se_var (by decide)) sa_nil)))))) (ss_ret (by decide) se_bl) (ss_next (by decide))) (ss_seq (ow1 := []) (ss_set (by decide) (by decide) (se_call0 Lift.refl cst_nil (sa_cons (se_var (by decide)) (sa_cons (se_var (by decide)) sa_nil))))
  (ss_seq (ow1 := []) (ss_if (by decide) (st_or (st_not (st_b (se_call0 Lift.refl cst_nil (sa_cons (se_call0 Lift.refl cst_nil (sa_cons (se_var (by decide)) (sa_cons (se_var (by decide)) sa_nil))) (sa_cons (se_op (fun _ => os_ixL) (se_var (by decide)) se_int) (sa_cons (se_op (fun _ => os_ixL) (se_var (by decide)) se_int) sa_nil)))))) (st_not (st_b (se_call0 Lift.refl cst_nil (sa_cons (se_callK0 Lift.refl (sa_cons (se_cb (fun _ => ls_tuple) (sa_cons (se_var (by decide)) sa_nil)) sa_nil) (sa_cons (se_var (by decide)) sa_nil)) (sa_cons (se_op (fun _ => os_ixL) (se_var (by decide)) se_int) (sa_cons (se_op (fun _ => os_ixL) (se_var (by decide)) se_int) sa_nil))))))) (ss_ret (by decide) se_bl) (ss_next (by decide)))
  (ss_if (by decide) (st_not (st_test (se_op (fun _ => (os_own0 Lift.refl)) (se_callK0 Lift.refl sa_nil (sa_cons (se_var (by decide)) (sa_cons (se_op (fun _ => (os_own0 Lift.refl)) (se_var (by decide)) se_int) sa_nil))) (se_op (fun _ => (os_own0 Lift.refl)) (se_call0 Lift.refl cst_nil (sa_cons (se_var (by decide)) (sa_cons (se_var (by decide)) sa_nil))) (se_op (fun _ => (os_rfl0 Lift.refl)) se_int (se_op (fun _ => os_ixL) (se_var (by decide)) se_int)))))) (ss_ret (by decide) se_bl) (ss_next (by decide))))))
  (ss_seq (ow1 := []) (ss_for (by decide) (si_rng1 (sa_cons (se_cb (fun _ => ls_len) (sa_cons (se_var (by decide)) sa_nil)) sa_nil)) (sg_name (by decide)) (ss_if (by decide) (st_not (st_b (se_call0 Lift.refl cst_nil (sa_cons (se_op (fun _ => os_ixL) (se_var (by decide)) (se_var (by decide))) (sa_cons (se_op (fun _ => os_ixL) (se_op (fun _ => os_ixL) (se_var (by decide)) (se_var (by decide))) se_int) (sa_cons (se_op (fun _ => os_ixL) (se_op (fun _ => os_ixL) (se_var (by decide)) (se_var (by decide))) se_int) sa_nil)))))) (ss_ret (by decide) se_bl) (ss_next (by decide))))
  (ss_seq (ow1 := []) (ss_set (by decide) (by decide) (se_op (fun _ => os_cat) (se_op (fun _ => os_rep) (se_lst (sa_cons se_int sa_nil)) (se_op (fun _ => os_sub) (se_cb (fun _ => ls_len) (sa_cons (se_var (by decide)) sa_nil)) se_int)) (se_lst (sa_cons se_int sa_nil))))
  (ss_seq (ow1 := []) (ss_if (by decide) (st_or (st_not (st_b (se_call0 Lift.refl cst_nil (sa_cons (se_call0 Lift.refl cst_nil (sa_cons (se_var (by decide)) (sa_cons (se_make0 mkl_lift cst_nil (sa_cons (se_var (by decide)) sa_nil)) sa_nil))) (sa_cons (se_op (fun _ => os_mul) se_int (se_op (fun _ => os_ixL) (se_op (fun _ => os_ixL) (se_var (by decide)) (se_un (fun _ => us_neg) se_int)) se_int)) (sa_cons (se_op (fun _ => os_ixL) (se_op (fun _ => os_ixL) (se_var (by decide)) (se_un (fun _ => us_neg) se_int)) se_int) sa_nil)))))) (st_not (st_b (se_call0 Lift.refl cst_nil (sa_cons (se_var (by decide)) (sa_cons (se_make0 mkl_lift cst_nil (sa_cons (se_op (fun _ => os_cat) (se_lst (sa_cons se_int sa_nil)) (se_var (by decide))) sa_nil)) sa_nil)))))) (ss_ret (by decide) se_bl) (ss_next (by decide)))
  (ss_if (by decide) (st_or (st_not (st_b (se_call0 Lift.refl cst_nil (sa_cons (se_call0 Lift.refl cst_nil (sa_cons (se_var (by decide)) (sa_cons (se_make0 mkl_lift cst_nil (sa_cons (se_lst sa_nil) sa_nil)) sa_nil))) (sa_cons se_int (sa_cons se_int sa_nil)))))) (st_not (st_b (se_call0 Lift.refl cst_nil (sa_cons (se_call0 Lift.refl cst_nil (sa_cons (se_lst (sa_cons (se_op (fun _ => os_ixL) (se_op (fun _ => os_ixL) (se_var (by decide)) se_int) se_int) sa_nil)) (sa_cons (se_make0 mkl_lift cst_nil (sa_cons (se_lst (sa_cons se_int sa_nil)) sa_nil)) sa_nil))) (sa_cons (se_op (fun _ => os_mul) se_int (se_op (fun _ => os_ixL) (se_op (fun _ => os_ixL) (se_var (by decide)) se_int) se_int)) (sa_cons se_int sa_nil))))))) (ss_ret (by decide) se_bl) (ss_next (by decide)))))))))))))
  (ss_ret (by decide) se_bl))
def tt_law (K : PySem.W.Frag) (cs : List Str) : TS :=
  (tSeq (tAsg (tCall (spFeedC K) [] E0 (tCons (tVar 0) tNil)) (gName 1))
  (tSeq (tFor (iRng1 (tCons (tOp rAdd0 (tC (.int 1)) (tCall (lift K fTake) [] E0 (tCons (tVar 1) (tCons (tC (.int 4)) tNil)))) tNil)) (gName 2) (tSeq (tAsg (tCall (lift K fLRow) [] E0 (tCons (tVar 1) (tCons (tC (.int 13)) tNil))) (gName 3))
  (tSeq (tAsg (tCall (lift K fLCoefs) [] E0 (tCons (tVar 1) (tCons (tC (.int 13)) tNil))) (gName 4))
  (tSeq (tIfS (tTest (tOp rEq (tCall (lift K fTake) [] E0 (tCons (tVar 1) (tCons (tC (.int 2)) tNil))) (tC (.int 0)))) (tAsg (tSl (rSlL K) (tVar 4) tNoPart (tPart (tCB (rLenA K) (tCons (tVar 3) tNil)))) (gName 4)) tNext)
  (tSeq (tAsg (tMake (He.ga K "Poly") (liftI K "Poly" (fMkPoly cs)) [] E0 (tCons (tCall (lift K fLRatios) [] E0 (tCons (tVar 4) tNil)) tNil)) (gName 5))
  (tSeq (tAsg (tCall (lift K fLRatios) [] E0 (tCons (tVar 3) tNil)) (gName 6))
  (tSeq (tIfS (tTest (tOp rGe0 (tCall (lift K fLDeg) [] E0 (tCons (tVar 4) tNil)) (tCB (rLenA K) (tCons (tVar 3) tNil)))) (tIfS (tOr (tNot (tB (tCall (lift K (fLRefused cs)) [] E0 (tCons (tVar 6) (tCons (tVar 5) tNil))))) (tNot (tB (tCall (lift K (fLRefused cs)) [] E0 (tCons (tCB (rTupOf0 K) (tCons (tVar 6) tNil)) (tCons (tVar 5) tNil)))))) (tRet (tC (.bl false))) tNext) (tSeq (tAsg (tCall (lift K fLDue) [] E0 (tCons (tVar 3) (tCons (tVar 4) tNil))) (gName 9))
  (tSeq (tIfS (tOr (tNot (tB (tCall (lift K fIs) [] E0 (tCons (tCall (lift K (fMean cs)) [] E0 (tCons (tVar 6) (tCons (tVar 5) tNil))) (tCons (tOp (rIxL K) (tVar 9) (tC (.int 0))) (tCons (tOp (rIxL K) (tVar 9) (tC (.int 1))) tNil)))))) (tNot (tB (tCall (lift K fIs) [] E0 (tCons (tCallN 1 1 (lift K (fMean cs)) gApp E0 (tCons (tCB (rTupOf0 K) (tCons (tVar 6) tNil)) tNil) (tCons (tVar 5) tNil)) (tCons (tOp (rIxL K) (tVar 9) (tC (.int 0))) (tCons (tOp (rIxL K) (tVar 9) (tC (.int 1))) tNil))))))) (tRet (tC (.bl false))) tNext)
  (tIfS (tNot (tTest (tOp (rOwn (He.ga K "Ratio") (lift K (fRB fun a b => decide (a = b))) E0) (tCallN 0 2 (lift K (fMean cs)) gApp E0 tNil (tCons (tVar 6) (tCons (tOp (rOwn (He.ga K "Poly") (lift K (fPAdd cs)) E0) (tVar 5) (tC (.int 3))) tNil))) (tOp (rOwn (He.ga K "Ratio") (lift K (fR2 fun a b => a + b)) E0) (tCall (lift K (fMean cs)) [] E0 (tCons (tVar 6) (tCons (tVar 5) tNil))) (tOp (rRefl (He.ga K "Ratio") (lift K (fRI fun a b => b * a)) E0) (tC (.int 3)) (tOp (rIxL K) (tVar 6) (tC (.int 0)))))))) (tRet (tC (.bl false))) tNext))))
  (tSeq (tFor (iRng1 (tCons (tCB (rLenA K) (tCons (tVar 3) tNil)) tNil)) (gName 7) (tIfS (tNot (tB (tCall (lift K fIs) [] E0 (tCons (tOp (rIxL K) (tVar 6) (tVar 7)) (tCons (tOp (rIxL K) (tOp (rIxL K) (tVar 3) (tVar 7)) (tC (.int 0))) (tCons (tOp (rIxL K) (tOp (rIxL K) (tVar 3) (tVar 7)) (tC (.int 1))) tNil)))))) (tRet (tC (.bl false))) tNext))
  (tSeq (tAsg (tOp rCat (tOp rRep (tLst (tCons (tC (.int 0)) tNil)) (tOp rSub0 (tCB (rLenA K) (tCons (tVar 3) tNil)) (tC (.int 1)))) (tLst (tCons (tC (.int 2)) tNil))) (gName 8))
  (tSeq (tIfS (tOr (tNot (tB (tCall (lift K fIs) [] E0 (tCons (tCall (lift K (fMean cs)) [] E0 (tCons (tVar 6) (tCons (tMake (He.ga K "Poly") (liftI K "Poly" (fMkPoly cs)) [] E0 (tCons (tVar 8) tNil)) tNil))) (tCons (tOp rMulI (tC (.int 2)) (tOp (rIxL K) (tOp (rIxL K) (tVar 3) (tUn rNeg0 (tC (.int 1)))) (tC (.int 0)))) (tCons (tOp (rIxL K) (tOp (rIxL K) (tVar 3) (tUn rNeg0 (tC (.int 1)))) (tC (.int 1))) tNil)))))) (tNot (tB (tCall (lift K (fLRefused cs)) [] E0 (tCons (tVar 6) (tCons (tMake (He.ga K "Poly") (liftI K "Poly" (fMkPoly cs)) [] E0 (tCons (tOp rCat (tLst (tCons (tC (.int 0)) tNil)) (tVar 8)) tNil)) tNil)))))) (tRet (tC (.bl false))) tNext)
  (tIfS (tOr (tNot (tB (tCall (lift K fIs) [] E0 (tCons (tCall (lift K (fMean cs)) [] E0 (tCons (tVar 6) (tCons (tMake (He.ga K "Poly") (liftI K "Poly" (fMkPoly cs)) [] E0 (tCons (tLst tNil) tNil)) tNil))) (tCons (tC (.int 0)) (tCons (tC (.int 1)) tNil)))))) (tNot (tB (tCall (lift K fIs) [] E0 (tCons (tCall (lift K (fMean cs)) [] E0 (tCons (tLst (tCons (tOp (rIxL K) (tOp (rIxL K) (tVar 3) (tC (.int 0))) (tC (.int 0))) tNil)) (tCons (tMake (He.ga K "Poly") (liftI K "Poly" (fMkPoly cs)) [] E0 (tCons (tLst (tCons (tC (.int 7)) tNil)) tNil)) tNil))) (tCons (tOp rMulI (tC (.int 7)) (tOp (rIxL K) (tOp (rIxL K) (tVar 3) (tC (.int 0))) (tC (.int 0)))) (tCons (tC (.int 1)) tNil))))))) (tRet (tC (.bl false))) tNext)))))))))))
  (tRet (tC (.bl true)))))
theorem row_isl {cs : List Str} {d : D} {items : List D} (h : itD d = some items) : ∃ b b', isD cs (.ty "list") d = some b ∧ isD cs (.ty "tuple") d = some b' ∧ (b || b') = true := by
  rcases itD_cases h with rfl | rfl
  · exact ⟨true, false, by simp [isD, tyN, subN], by simp [isD, tyN, subN], rfl⟩
  · exact ⟨false, true, by simp [isD, tyN, subN], by simp [isD, tyN, subN], rfl⟩
abbrev rowB (cs : List Str) : FS := fIfS (fNot (fB (fCall0 (fIsNum cs) [] (fCons (fVar 3) fNil)))) (fRaise "NoRow" "index" (fVar 2)) fNext
theorem row_loop {cs : List Str} {FD : FEnds} {d n : D} (hR : ("Ratio" : Str) ∈ cs) :
    ∀ (items : List D) (k : Nat) (v2 v3 : Option D), ((∃ qs, numsV items = some qs) ∧ ∀ v2 v3, FD.nx [some d, some n, v2, v3]) ∨ (∃ pre b post, items = pre ++ b :: post ∧ (∃ qs, numsV pre = some qs) ∧ numD cs b = some false ∧ ∀ ρ, FD.ex ⟨"NoRow", [("index", .int ((k + pre.length : Nat) : Int))]⟩ ρ) → forGo (fTupG [2, 3]) (rowB cs) FD (enD items k) [some d, some n, v2, v3]
  | [], k, v2, v3, h => by
    rcases h with ⟨_, h⟩ | ⟨pre, b, post, h, _⟩
    · exact h v2 v3
    · cases pre <;> cases h
  | e :: items, k, v2, v3, h => by
    rw [en_cons]
    unfold forGo
    simp only [fSeq, fIfS, fB, fIsi, fVar, fC, fOp, fUn, fLs, fRet, fRetN, fCall, fCall0, fCons, fNil, fNext, fNev, fFld, fSet, fOwn, fDrop, fAsg, fPar, fNot, fAnd, fOr, fAndV, fOrV, fNotV, fIf, fTru, fLst, fTup, fMeth, fMeth0, fName, fRaise, fRaise0, fBr, fBor, fApp, fSetI, fAug, fChain, fYes, fSl, fNoPart, fPart, fItL, fItT, fIt, fIsLT, fBrk, fCnt, topE, startD, toB, oI, oI0, oNeg, oAbs, oMax, oMin, oInt, oLen_lst, oLen_tup, oList, oTuple, oCat, oIsB, oNotB, oEq, oNe, eqD, oIsN, oNotN, isN, own_rr, own_ri, own_pp, own_pi, rfl_ir, rfl_ip, neg_r, neg_p, abs_r, tru_lst, tru_tup, tru_int, tru_bl, tru_non, tupG2, tupG4, lstEx, tupEx, lstIs, tupIs, intEx, lst1Ex, lst2Ex, int1Ex, int2Ex, en1Ex, setEx, it_lst, it_tup, oIxL, oIxT, InsD, List.map_cons, List.map_nil, List.cons_append, List.nil_append, List.length_cons, List.length_nil, List.getElem?_cons_zero, List.getElem?_cons_succ, List.set_cons_zero, List.set_cons_succ, List.replicate_succ, List.replicate_zero, Option.some.injEq, exists_eq_left', clsD_rat, clsD_poly, if_true, if_false, List.append_nil, true_and, and_true, true_or, or_true, Bool.false_eq_true, Bool.true_eq_false, reduceCtorEq, Nat.add_one_sub_one, Nat.reduceSub, Nat.reduceAdd, Nat.sub_self, Nat.zero_add, Nat.add_sub_cancel]
    rcases h with ⟨⟨qs, hq⟩, h⟩ | ⟨pre, b', post, h, ⟨qs, hq⟩, hn, hx⟩
    · have hv : ∃ q, numV e = some q ∧ ∃ qs, numsV items = some qs := by
        simp only [numsV] at hq
        split at hq
        · rename_i q' qs' h1 h2; exact ⟨_, h1, _, h2⟩
        · cases hq
      obtain ⟨q, hv, qs', hqs⟩ := hv
      refine ⟨e, true, rfl, numV_numD hR hv, ?_⟩
      simp only [fSeq, fIfS, fB, fIsi, fVar, fC, fOp, fUn, fLs, fRet, fRetN, fCall, fCall0, fCons, fNil, fNext, fNev, fFld, fSet, fOwn, fDrop, fAsg, fPar, fNot, fAnd, fOr, fAndV, fOrV, fNotV, fIf, fTru, fLst, fTup, fMeth, fMeth0, fName, fRaise, fRaise0, fBr, fBor, fApp, fSetI, fAug, fChain, fYes, fSl, fNoPart, fPart, fItL, fItT, fIt, fIsLT, fBrk, fCnt, topE, startD, toB, oI, oI0, oNeg, oAbs, oMax, oMin, oInt, oLen_lst, oLen_tup, oList, oTuple, oCat, oIsB, oNotB, oEq, oNe, eqD, oIsN, oNotN, isN, own_rr, own_ri, own_pp, own_pi, rfl_ir, rfl_ip, neg_r, neg_p, abs_r, tru_lst, tru_tup, tru_int, tru_bl, tru_non, tupG2, tupG4, lstEx, tupEx, lstIs, tupIs, intEx, lst1Ex, lst2Ex, int1Ex, int2Ex, en1Ex, setEx, it_lst, it_tup, oIxL, oIxT, InsD, List.map_cons, List.map_nil, List.cons_append, List.nil_append, List.length_cons, List.length_nil, List.getElem?_cons_zero, List.getElem?_cons_succ, List.set_cons_zero, List.set_cons_succ, List.replicate_succ, List.replicate_zero, Option.some.injEq, exists_eq_left', clsD_rat, clsD_poly, if_true, if_false, List.append_nil, true_and, and_true, true_or, or_true, Bool.false_eq_true, Bool.true_eq_false, reduceCtorEq, Nat.add_one_sub_one, Nat.reduceSub, Nat.reduceAdd, Nat.sub_self, Nat.zero_add, Nat.add_sub_cancel, Bool.not_true]
      exact row_loop hR items _ _ _ (.inl ⟨⟨qs', hqs⟩, h⟩)
    · cases pre with
      | nil =>
        simp only [List.nil_append, List.cons.injEq] at h
        obtain ⟨rfl, rfl⟩ := h
        refine ⟨e, false, rfl, hn, ?_⟩
        simp only [fSeq, fIfS, fB, fIsi, fVar, fC, fOp, fUn, fLs, fRet, fRetN, fCall, fCall0, fCons, fNil, fNext, fNev, fFld, fSet, fOwn, fDrop, fAsg, fPar, fNot, fAnd, fOr, fAndV, fOrV, fNotV, fIf, fTru, fLst, fTup, fMeth, fMeth0, fName, fRaise, fRaise0, fBr, fBor, fApp, fSetI, fAug, fChain, fYes, fSl, fNoPart, fPart, fItL, fItT, fIt, fIsLT, fBrk, fCnt, topE, startD, toB, oI, oI0, oNeg, oAbs, oMax, oMin, oInt, oLen_lst, oLen_tup, oList, oTuple, oCat, oIsB, oNotB, oEq, oNe, eqD, oIsN, oNotN, isN, own_rr, own_ri, own_pp, own_pi, rfl_ir, rfl_ip, neg_r, neg_p, abs_r, tru_lst, tru_tup, tru_int, tru_bl, tru_non, tupG2, tupG4, lstEx, tupEx, lstIs, tupIs, intEx, lst1Ex, lst2Ex, int1Ex, int2Ex, en1Ex, setEx, it_lst, it_tup, oIxL, oIxT, InsD, List.map_cons, List.map_nil, List.cons_append, List.nil_append, List.length_cons, List.length_nil, List.getElem?_cons_zero, List.getElem?_cons_succ, List.set_cons_zero, List.set_cons_succ, List.replicate_succ, List.replicate_zero, Option.some.injEq, exists_eq_left', clsD_rat, clsD_poly, if_true, if_false, List.append_nil, true_and, and_true, true_or, or_true, Bool.false_eq_true, Bool.true_eq_false, reduceCtorEq, Nat.add_one_sub_one, Nat.reduceSub, Nat.reduceAdd, Nat.sub_self, Nat.zero_add, Nat.add_sub_cancel, Bool.not_false]
        exact hx _
      | cons e' pre =>
        simp only [List.cons_append, List.cons.injEq] at h
        obtain ⟨rfl, rfl⟩ := h
        have hv : ∃ q, numV e = some q ∧ ∃ qs, numsV pre = some qs := by
          simp only [numsV] at hq
          split at hq
          · rename_i q' qs' h1 h2; exact ⟨_, h1, _, h2⟩
          · cases hq
        obtain ⟨q, hv, qs', hqs⟩ := hv
        refine ⟨e, true, rfl, numV_numD hR hv, ?_⟩
        simp only [fSeq, fIfS, fB, fIsi, fVar, fC, fOp, fUn, fLs, fRet, fRetN, fCall, fCall0, fCons, fNil, fNext, fNev, fFld, fSet, fOwn, fDrop, fAsg, fPar, fNot, fAnd, fOr, fAndV, fOrV, fNotV, fIf, fTru, fLst, fTup, fMeth, fMeth0, fName, fRaise, fRaise0, fBr, fBor, fApp, fSetI, fAug, fChain, fYes, fSl, fNoPart, fPart, fItL, fItT, fIt, fIsLT, fBrk, fCnt, topE, startD, toB, oI, oI0, oNeg, oAbs, oMax, oMin, oInt, oLen_lst, oLen_tup, oList, oTuple, oCat, oIsB, oNotB, oEq, oNe, eqD, oIsN, oNotN, isN, own_rr, own_ri, own_pp, own_pi, rfl_ir, rfl_ip, neg_r, neg_p, abs_r, tru_lst, tru_tup, tru_int, tru_bl, tru_non, tupG2, tupG4, lstEx, tupEx, lstIs, tupIs, intEx, lst1Ex, lst2Ex, int1Ex, int2Ex, en1Ex, setEx, it_lst, it_tup, oIxL, oIxT, InsD, List.map_cons, List.map_nil, List.cons_append, List.nil_append, List.length_cons, List.length_nil, List.getElem?_cons_zero, List.getElem?_cons_succ, List.set_cons_zero, List.set_cons_succ, List.replicate_succ, List.replicate_zero, Option.some.injEq, exists_eq_left', clsD_rat, clsD_poly, if_true, if_false, List.append_nil, true_and, and_true, true_or, or_true, Bool.false_eq_true, Bool.true_eq_false, reduceCtorEq, Nat.add_one_sub_one, Nat.reduceSub, Nat.reduceAdd, Nat.sub_self, Nat.zero_add, Nat.add_sub_cancel, Bool.not_true]
        refine row_loop hR _ _ _ _ (.inr ⟨pre, b', post, rfl, ⟨qs', hqs⟩, hn, fun ρ => ?_⟩)
        have z := hx ρ
        rw [List.length_cons] at z
        rw [show k + 1 + pre.length = k + (pre.length + 1) by omega]
        exact z
theorem p_check_row {cs : List Str} (hR : ("Ratio" : Str) ∈ cs) (hP : ("Poly" : Str) ∈ cs) (ds : List D) (P : D → Prop) (X : XP) (h : fCheckRow cs ds P X) : f_check_row cs (topE P X) (startD 4 ds) := by
  obtain ⟨d, n, rfl, h⟩ := h
  have good : ∀ items, itD d = some items → items ≠ [] → (items.length : Int) ≤ n → items.length ≤ 100000 → ((∃ qs, numsV items = some qs ∧ P (.lst (ratL qs))) ∨ (∃ pre b post, items = pre ++ b :: post ∧ (∃ qs, numsV pre = some qs) ∧ numD cs b = some false ∧ X ⟨"NoRow", [("index", .int (pre.length : Nat))]⟩)) → f_check_row cs (topE P X) (startD 4 [d, .int n]) := fun items hi he hn hl h => by
    obtain ⟨b, b', h1, h2, h3⟩ := row_isl (cs := cs) hi
    have em : items.isEmpty = false := by cases items with | nil => exact absurd rfl he | cons a l => rfl
    have dn : decide (n < (items.length : Int)) = false := decide_eq_false (by omega)
    simp only [fSeq, fIfS, fB, fIsi, fVar, fC, fOp, fUn, fLs, fRet, fRetN, fCall, fCall0, fCons, fNil, fNext, fNev, fFld, fSet, fOwn, fDrop, fAsg, fPar, fNot, fAnd, fOr, fAndV, fOrV, fNotV, fIf, fTru, fLst, fTup, fMeth, fMeth0, fName, fRaise, fRaise0, fBr, fBor, fApp, fSetI, fAug, fChain, fYes, fSl, fNoPart, fPart, fItL, fItT, fIt, fIsLT, fBrk, fCnt, topE, startD, toB, oI, oI0, oNeg, oAbs, oMax, oMin, oInt, oLen_lst, oLen_tup, oList, oTuple, oCat, oIsB, oNotB, oEq, oNe, eqD, oIsN, oNotN, isN, own_rr, own_ri, own_pp, own_pi, rfl_ir, rfl_ip, neg_r, neg_p, abs_r, tru_lst, tru_tup, tru_int, tru_bl, tru_non, tupG2, tupG4, lstEx, tupEx, lstIs, tupIs, intEx, lst1Ex, lst2Ex, int1Ex, int2Ex, en1Ex, setEx, it_lst, it_tup, oIxL, oIxT, InsD, List.map_cons, List.map_nil, List.cons_append, List.nil_append, List.length_cons, List.length_nil, List.getElem?_cons_zero, List.getElem?_cons_succ, List.set_cons_zero, List.set_cons_succ, List.replicate_succ, List.replicate_zero, Option.some.injEq, exists_eq_left', clsD_rat, clsD_poly, if_true, if_false, List.append_nil, true_and, and_true, true_or, or_true, Bool.false_eq_true, Bool.true_eq_false, reduceCtorEq, Nat.add_one_sub_one, Nat.reduceSub, Nat.reduceAdd, Nat.sub_self, Nat.zero_add, Nat.add_sub_cancel, f_check_row, fFor, fEn, itEx hi, tru_it hi, oLen_it hi]
    refine ⟨b, b', h1, h2, ?_⟩
    rw [h3]
    simp only [fSeq, fIfS, fB, fIsi, fVar, fC, fOp, fUn, fLs, fRet, fRetN, fCall, fCall0, fCons, fNil, fNext, fNev, fFld, fSet, fOwn, fDrop, fAsg, fPar, fNot, fAnd, fOr, fAndV, fOrV, fNotV, fIf, fTru, fLst, fTup, fMeth, fMeth0, fName, fRaise, fRaise0, fBr, fBor, fApp, fSetI, fAug, fChain, fYes, fSl, fNoPart, fPart, fItL, fItT, fIt, fIsLT, fBrk, fCnt, topE, startD, toB, oI, oI0, oNeg, oAbs, oMax, oMin, oInt, oLen_lst, oLen_tup, oList, oTuple, oCat, oIsB, oNotB, oEq, oNe, eqD, oIsN, oNotN, isN, own_rr, own_ri, own_pp, own_pi, rfl_ir, rfl_ip, neg_r, neg_p, abs_r, tru_lst, tru_tup, tru_int, tru_bl, tru_non, tupG2, tupG4, lstEx, tupEx, lstIs, tupIs, intEx, lst1Ex, lst2Ex, int1Ex, int2Ex, en1Ex, setEx, it_lst, it_tup, oIxL, oIxT, InsD, List.map_cons, List.map_nil, List.cons_append, List.nil_append, List.length_cons, List.length_nil, List.getElem?_cons_zero, List.getElem?_cons_succ, List.set_cons_zero, List.set_cons_succ, List.replicate_succ, List.replicate_zero, Option.some.injEq, exists_eq_left', clsD_rat, clsD_poly, if_true, if_false, List.append_nil, true_and, and_true, true_or, or_true, Bool.false_eq_true, Bool.true_eq_false, reduceCtorEq, Nat.add_one_sub_one, Nat.reduceSub, Nat.reduceAdd, Nat.sub_self, Nat.zero_add, Nat.add_sub_cancel, em, Bool.not_true, Bool.not_false, dn]
    refine row_loop hR items 0 none none ?_
    rcases h with ⟨qs, hq, hp⟩ | ⟨pre, bb, post, h, hq, hb, hX⟩
    · refine .inl ⟨⟨qs, hq⟩, fun v2 v3 => ?_⟩
      simp only [fSeq, fIfS, fB, fIsi, fVar, fC, fOp, fUn, fLs, fRet, fRetN, fCall, fCall0, fCons, fNil, fNext, fNev, fFld, fSet, fOwn, fDrop, fAsg, fPar, fNot, fAnd, fOr, fAndV, fOrV, fNotV, fIf, fTru, fLst, fTup, fMeth, fMeth0, fName, fRaise, fRaise0, fBr, fBor, fApp, fSetI, fAug, fChain, fYes, fSl, fNoPart, fPart, fItL, fItT, fIt, fIsLT, fBrk, fCnt, topE, startD, toB, oI, oI0, oNeg, oAbs, oMax, oMin, oInt, oLen_lst, oLen_tup, oList, oTuple, oCat, oIsB, oNotB, oEq, oNe, eqD, oIsN, oNotN, isN, own_rr, own_ri, own_pp, own_pi, rfl_ir, rfl_ip, neg_r, neg_p, abs_r, tru_lst, tru_tup, tru_int, tru_bl, tru_non, tupG2, tupG4, lstEx, tupEx, lstIs, tupIs, intEx, lst1Ex, lst2Ex, int1Ex, int2Ex, en1Ex, setEx, it_lst, it_tup, oIxL, oIxT, InsD, List.map_cons, List.map_nil, List.cons_append, List.nil_append, List.length_cons, List.length_nil, List.getElem?_cons_zero, List.getElem?_cons_succ, List.set_cons_zero, List.set_cons_succ, List.replicate_succ, List.replicate_zero, Option.some.injEq, exists_eq_left', clsD_rat, clsD_poly, if_true, if_false, List.append_nil, true_and, and_true, true_or, or_true, Bool.false_eq_true, Bool.true_eq_false, reduceCtorEq, Nat.add_one_sub_one, Nat.reduceSub, Nat.reduceAdd, Nat.sub_self, Nat.zero_add, Nat.add_sub_cancel, fLc, itEx hi]
      exact rats_lc hR (by simp [wipeD]) hq hl hp
    · exact .inr ⟨pre, bb, post, h, hq, hb, fun ρ => by rw [Nat.zero_add]; exact hX⟩
  rcases h with ⟨items, qs, hi, he, hn, hl, hq, hp⟩ | ⟨items, pre, b, post, hi, hn, h1, h2, h3, h4⟩ | ⟨items, hi, he, h4⟩ | ⟨h1, h2, h3⟩
  · exact good items hi he hn hl (.inl ⟨qs, hq, hp⟩)
  · by_cases hl : items.length ≤ 100000
    · exact good items hi (by rw [h1]; simp) hn hl (.inr ⟨pre, b, post, h1, h2, h3, h4⟩)
    · obtain ⟨b0, b', k1, k2, k3⟩ := row_isl (cs := cs) hi
      have em : items.isEmpty = false := by cases items with | nil => simp at hl | cons a l => rfl
      have dn : decide (n < (items.length : Int)) = false := decide_eq_false (by omega)
      simp only [fSeq, fIfS, fB, fIsi, fVar, fC, fOp, fUn, fLs, fRet, fRetN, fCall, fCall0, fCons, fNil, fNext, fNev, fFld, fSet, fOwn, fDrop, fAsg, fPar, fNot, fAnd, fOr, fAndV, fOrV, fNotV, fIf, fTru, fLst, fTup, fMeth, fMeth0, fName, fRaise, fRaise0, fBr, fBor, fApp, fSetI, fAug, fChain, fYes, fSl, fNoPart, fPart, fItL, fItT, fIt, fIsLT, fBrk, fCnt, topE, startD, toB, oI, oI0, oNeg, oAbs, oMax, oMin, oInt, oLen_lst, oLen_tup, oList, oTuple, oCat, oIsB, oNotB, oEq, oNe, eqD, oIsN, oNotN, isN, own_rr, own_ri, own_pp, own_pi, rfl_ir, rfl_ip, neg_r, neg_p, abs_r, tru_lst, tru_tup, tru_int, tru_bl, tru_non, tupG2, tupG4, lstEx, tupEx, lstIs, tupIs, intEx, lst1Ex, lst2Ex, int1Ex, int2Ex, en1Ex, setEx, it_lst, it_tup, oIxL, oIxT, InsD, List.map_cons, List.map_nil, List.cons_append, List.nil_append, List.length_cons, List.length_nil, List.getElem?_cons_zero, List.getElem?_cons_succ, List.set_cons_zero, List.set_cons_succ, List.replicate_succ, List.replicate_zero, Option.some.injEq, exists_eq_left', clsD_rat, clsD_poly, if_true, if_false, List.append_nil, true_and, and_true, true_or, or_true, Bool.false_eq_true, Bool.true_eq_false, reduceCtorEq, Nat.add_one_sub_one, Nat.reduceSub, Nat.reduceAdd, Nat.sub_self, Nat.zero_add, Nat.add_sub_cancel, f_check_row, fFor, fEn, itEx hi, tru_it hi, oLen_it hi]
      refine ⟨b0, b', k1, k2, ?_⟩
      rw [k3]
      simp only [fSeq, fIfS, fB, fIsi, fVar, fC, fOp, fUn, fLs, fRet, fRetN, fCall, fCall0, fCons, fNil, fNext, fNev, fFld, fSet, fOwn, fDrop, fAsg, fPar, fNot, fAnd, fOr, fAndV, fOrV, fNotV, fIf, fTru, fLst, fTup, fMeth, fMeth0, fName, fRaise, fRaise0, fBr, fBor, fApp, fSetI, fAug, fChain, fYes, fSl, fNoPart, fPart, fItL, fItT, fIt, fIsLT, fBrk, fCnt, topE, startD, toB, oI, oI0, oNeg, oAbs, oMax, oMin, oInt, oLen_lst, oLen_tup, oList, oTuple, oCat, oIsB, oNotB, oEq, oNe, eqD, oIsN, oNotN, isN, own_rr, own_ri, own_pp, own_pi, rfl_ir, rfl_ip, neg_r, neg_p, abs_r, tru_lst, tru_tup, tru_int, tru_bl, tru_non, tupG2, tupG4, lstEx, tupEx, lstIs, tupIs, intEx, lst1Ex, lst2Ex, int1Ex, int2Ex, en1Ex, setEx, it_lst, it_tup, oIxL, oIxT, InsD, List.map_cons, List.map_nil, List.cons_append, List.nil_append, List.length_cons, List.length_nil, List.getElem?_cons_zero, List.getElem?_cons_succ, List.set_cons_zero, List.set_cons_succ, List.replicate_succ, List.replicate_zero, Option.some.injEq, exists_eq_left', clsD_rat, clsD_poly, if_true, if_false, List.append_nil, true_and, and_true, true_or, or_true, Bool.false_eq_true, Bool.true_eq_false, reduceCtorEq, Nat.add_one_sub_one, Nat.reduceSub, Nat.reduceAdd, Nat.sub_self, Nat.zero_add, Nat.add_sub_cancel, em, Bool.not_true, Bool.not_false, dn]
      exact row_loop hR items 0 none none (.inr ⟨pre, b, post, h1, h2, h3, fun ρ => by rw [Nat.zero_add]; exact h4⟩)
  · obtain ⟨b, b', h1, h2, h3⟩ := row_isl (cs := cs) hi
    simp only [fSeq, fIfS, fB, fIsi, fVar, fC, fOp, fUn, fLs, fRet, fRetN, fCall, fCall0, fCons, fNil, fNext, fNev, fFld, fSet, fOwn, fDrop, fAsg, fPar, fNot, fAnd, fOr, fAndV, fOrV, fNotV, fIf, fTru, fLst, fTup, fMeth, fMeth0, fName, fRaise, fRaise0, fBr, fBor, fApp, fSetI, fAug, fChain, fYes, fSl, fNoPart, fPart, fItL, fItT, fIt, fIsLT, fBrk, fCnt, topE, startD, toB, oI, oI0, oNeg, oAbs, oMax, oMin, oInt, oLen_lst, oLen_tup, oList, oTuple, oCat, oIsB, oNotB, oEq, oNe, eqD, oIsN, oNotN, isN, own_rr, own_ri, own_pp, own_pi, rfl_ir, rfl_ip, neg_r, neg_p, abs_r, tru_lst, tru_tup, tru_int, tru_bl, tru_non, tupG2, tupG4, lstEx, tupEx, lstIs, tupIs, intEx, lst1Ex, lst2Ex, int1Ex, int2Ex, en1Ex, setEx, it_lst, it_tup, oIxL, oIxT, InsD, List.map_cons, List.map_nil, List.cons_append, List.nil_append, List.length_cons, List.length_nil, List.getElem?_cons_zero, List.getElem?_cons_succ, List.set_cons_zero, List.set_cons_succ, List.replicate_succ, List.replicate_zero, Option.some.injEq, exists_eq_left', clsD_rat, clsD_poly, if_true, if_false, List.append_nil, true_and, and_true, true_or, or_true, Bool.false_eq_true, Bool.true_eq_false, reduceCtorEq, Nat.add_one_sub_one, Nat.reduceSub, Nat.reduceAdd, Nat.sub_self, Nat.zero_add, Nat.add_sub_cancel, f_check_row, tru_it hi, oLen_it hi]
    refine ⟨b, b', h1, h2, ?_⟩
    rw [h3]
    simp only [fSeq, fIfS, fB, fIsi, fVar, fC, fOp, fUn, fLs, fRet, fRetN, fCall, fCall0, fCons, fNil, fNext, fNev, fFld, fSet, fOwn, fDrop, fAsg, fPar, fNot, fAnd, fOr, fAndV, fOrV, fNotV, fIf, fTru, fLst, fTup, fMeth, fMeth0, fName, fRaise, fRaise0, fBr, fBor, fApp, fSetI, fAug, fChain, fYes, fSl, fNoPart, fPart, fItL, fItT, fIt, fIsLT, fBrk, fCnt, topE, startD, toB, oI, oI0, oNeg, oAbs, oMax, oMin, oInt, oLen_lst, oLen_tup, oList, oTuple, oCat, oIsB, oNotB, oEq, oNe, eqD, oIsN, oNotN, isN, own_rr, own_ri, own_pp, own_pi, rfl_ir, rfl_ip, neg_r, neg_p, abs_r, tru_lst, tru_tup, tru_int, tru_bl, tru_non, tupG2, tupG4, lstEx, tupEx, lstIs, tupIs, intEx, lst1Ex, lst2Ex, int1Ex, int2Ex, en1Ex, setEx, it_lst, it_tup, oIxL, oIxT, InsD, List.map_cons, List.map_nil, List.cons_append, List.nil_append, List.length_cons, List.length_nil, List.getElem?_cons_zero, List.getElem?_cons_succ, List.set_cons_zero, List.set_cons_succ, List.replicate_succ, List.replicate_zero, Option.some.injEq, exists_eq_left', clsD_rat, clsD_poly, if_true, if_false, List.append_nil, true_and, and_true, true_or, or_true, Bool.false_eq_true, Bool.true_eq_false, reduceCtorEq, Nat.add_one_sub_one, Nat.reduceSub, Nat.reduceAdd, Nat.sub_self, Nat.zero_add, Nat.add_sub_cancel, Bool.not_true]
    by_cases e : items = []
    · subst e
      simp only [fSeq, fIfS, fB, fIsi, fVar, fC, fOp, fUn, fLs, fRet, fRetN, fCall, fCall0, fCons, fNil, fNext, fNev, fFld, fSet, fOwn, fDrop, fAsg, fPar, fNot, fAnd, fOr, fAndV, fOrV, fNotV, fIf, fTru, fLst, fTup, fMeth, fMeth0, fName, fRaise, fRaise0, fBr, fBor, fApp, fSetI, fAug, fChain, fYes, fSl, fNoPart, fPart, fItL, fItT, fIt, fIsLT, fBrk, fCnt, topE, startD, toB, oI, oI0, oNeg, oAbs, oMax, oMin, oInt, oLen_lst, oLen_tup, oList, oTuple, oCat, oIsB, oNotB, oEq, oNe, eqD, oIsN, oNotN, isN, own_rr, own_ri, own_pp, own_pi, rfl_ir, rfl_ip, neg_r, neg_p, abs_r, tru_lst, tru_tup, tru_int, tru_bl, tru_non, tupG2, tupG4, lstEx, tupEx, lstIs, tupIs, intEx, lst1Ex, lst2Ex, int1Ex, int2Ex, en1Ex, setEx, it_lst, it_tup, oIxL, oIxT, InsD, List.map_cons, List.map_nil, List.cons_append, List.nil_append, List.length_cons, List.length_nil, List.getElem?_cons_zero, List.getElem?_cons_succ, List.set_cons_zero, List.set_cons_succ, List.replicate_succ, List.replicate_zero, Option.some.injEq, exists_eq_left', clsD_rat, clsD_poly, if_true, if_false, List.append_nil, true_and, and_true, true_or, or_true, Bool.false_eq_true, Bool.true_eq_false, reduceCtorEq, Nat.add_one_sub_one, Nat.reduceSub, Nat.reduceAdd, Nat.sub_self, Nat.zero_add, Nat.add_sub_cancel, List.isEmpty_nil, Bool.not_true, Bool.not_false]
      exact h4
    · have em : items.isEmpty = false := by cases items with | nil => exact absurd rfl e | cons a l => rfl
      have dn : decide (n < (items.length : Int)) = true := decide_eq_true (by rcases he with he | he; exact absurd he e; exact he)
      simp only [fSeq, fIfS, fB, fIsi, fVar, fC, fOp, fUn, fLs, fRet, fRetN, fCall, fCall0, fCons, fNil, fNext, fNev, fFld, fSet, fOwn, fDrop, fAsg, fPar, fNot, fAnd, fOr, fAndV, fOrV, fNotV, fIf, fTru, fLst, fTup, fMeth, fMeth0, fName, fRaise, fRaise0, fBr, fBor, fApp, fSetI, fAug, fChain, fYes, fSl, fNoPart, fPart, fItL, fItT, fIt, fIsLT, fBrk, fCnt, topE, startD, toB, oI, oI0, oNeg, oAbs, oMax, oMin, oInt, oLen_lst, oLen_tup, oList, oTuple, oCat, oIsB, oNotB, oEq, oNe, eqD, oIsN, oNotN, isN, own_rr, own_ri, own_pp, own_pi, rfl_ir, rfl_ip, neg_r, neg_p, abs_r, tru_lst, tru_tup, tru_int, tru_bl, tru_non, tupG2, tupG4, lstEx, tupEx, lstIs, tupIs, intEx, lst1Ex, lst2Ex, int1Ex, int2Ex, en1Ex, setEx, it_lst, it_tup, oIxL, oIxT, InsD, List.map_cons, List.map_nil, List.cons_append, List.nil_append, List.length_cons, List.length_nil, List.getElem?_cons_zero, List.getElem?_cons_succ, List.set_cons_zero, List.set_cons_succ, List.replicate_succ, List.replicate_zero, Option.some.injEq, exists_eq_left', clsD_rat, clsD_poly, if_true, if_false, List.append_nil, true_and, and_true, true_or, or_true, Bool.false_eq_true, Bool.true_eq_false, reduceCtorEq, Nat.add_one_sub_one, Nat.reduceSub, Nat.reduceAdd, Nat.sub_self, Nat.zero_add, Nat.add_sub_cancel, em, Bool.not_true, Bool.not_false, dn]
      exact h4
  · simp only [fSeq, fIfS, fB, fIsi, fVar, fC, fOp, fUn, fLs, fRet, fRetN, fCall, fCall0, fCons, fNil, fNext, fNev, fFld, fSet, fOwn, fDrop, fAsg, fPar, fNot, fAnd, fOr, fAndV, fOrV, fNotV, fIf, fTru, fLst, fTup, fMeth, fMeth0, fName, fRaise, fRaise0, fBr, fBor, fApp, fSetI, fAug, fChain, fYes, fSl, fNoPart, fPart, fItL, fItT, fIt, fIsLT, fBrk, fCnt, topE, startD, toB, oI, oI0, oNeg, oAbs, oMax, oMin, oInt, oLen_lst, oLen_tup, oList, oTuple, oCat, oIsB, oNotB, oEq, oNe, eqD, oIsN, oNotN, isN, own_rr, own_ri, own_pp, own_pi, rfl_ir, rfl_ip, neg_r, neg_p, abs_r, tru_lst, tru_tup, tru_int, tru_bl, tru_non, tupG2, tupG4, lstEx, tupEx, lstIs, tupIs, intEx, lst1Ex, lst2Ex, int1Ex, int2Ex, en1Ex, setEx, it_lst, it_tup, oIxL, oIxT, InsD, List.map_cons, List.map_nil, List.cons_append, List.nil_append, List.length_cons, List.length_nil, List.getElem?_cons_zero, List.getElem?_cons_succ, List.set_cons_zero, List.set_cons_succ, List.replicate_succ, List.replicate_zero, Option.some.injEq, exists_eq_left', clsD_rat, clsD_poly, if_true, if_false, List.append_nil, true_and, and_true, true_or, or_true, Bool.false_eq_true, Bool.true_eq_false, reduceCtorEq, Nat.add_one_sub_one, Nat.reduceSub, Nat.reduceAdd, Nat.sub_self, Nat.zero_add, Nat.add_sub_cancel, f_check_row]
    refine ⟨false, false, h1, h2, ?_⟩
    simp only [fSeq, fIfS, fB, fIsi, fVar, fC, fOp, fUn, fLs, fRet, fRetN, fCall, fCall0, fCons, fNil, fNext, fNev, fFld, fSet, fOwn, fDrop, fAsg, fPar, fNot, fAnd, fOr, fAndV, fOrV, fNotV, fIf, fTru, fLst, fTup, fMeth, fMeth0, fName, fRaise, fRaise0, fBr, fBor, fApp, fSetI, fAug, fChain, fYes, fSl, fNoPart, fPart, fItL, fItT, fIt, fIsLT, fBrk, fCnt, topE, startD, toB, oI, oI0, oNeg, oAbs, oMax, oMin, oInt, oLen_lst, oLen_tup, oList, oTuple, oCat, oIsB, oNotB, oEq, oNe, eqD, oIsN, oNotN, isN, own_rr, own_ri, own_pp, own_pi, rfl_ir, rfl_ip, neg_r, neg_p, abs_r, tru_lst, tru_tup, tru_int, tru_bl, tru_non, tupG2, tupG4, lstEx, tupEx, lstIs, tupIs, intEx, lst1Ex, lst2Ex, int1Ex, int2Ex, en1Ex, setEx, it_lst, it_tup, oIxL, oIxT, InsD, List.map_cons, List.map_nil, List.cons_append, List.nil_append, List.length_cons, List.length_nil, List.getElem?_cons_zero, List.getElem?_cons_succ, List.set_cons_zero, List.set_cons_succ, List.replicate_succ, List.replicate_zero, Option.some.injEq, exists_eq_left', clsD_rat, clsD_poly, if_true, if_false, List.append_nil, true_and, and_true, true_or, or_true, Bool.false_eq_true, Bool.true_eq_false, reduceCtorEq, Nat.add_one_sub_one, Nat.reduceSub, Nat.reduceAdd, Nat.sub_self, Nat.zero_add, Nat.add_sub_cancel, Bool.not_false, Bool.or_false]
    exact h3
theorem dot_sz {cs ms : List Rat} {n m : Nat} (z1 : SzL n cs) (z2 : SzL m ms) (n0 : 0 < n) (m0 : 0 < m) : ∀ k, Sz (1 + k * (n + m + 1)) (dotN cs ms k)
  | 0 => by
    rw [Nat.zero_mul]
    exact sz_zero
  | k + 1 => by
    refine ((dot_sz z1 z2 n0 m0 k).add ((z1.coef n0 k).mul (z2.coef m0 k))).mono ?_
    rw [Nat.add_mul]
    omega
theorem mean_loop {d : D} {ms cs : List Rat} {n m : Nat} {FD : FEnds} {p : D} (hd : itD d = some (ratL ms)) (hl : cs.length ≤ ms.length) (z1 : SzL n cs) (z2 : SzL m ms) (n0 : 0 < n) (m0 : 0 < m) (hs : (cs.length + 1) * (n + m + 1) ≤ 9000)
    (k : ∀ v3 v4, FD.nx [some d, some p, some (.rat (dotN cs ms cs.length)), v3, v4]) :
    ∀ (r i : Nat) (v3 v4 : Option D), i + r = cs.length → forGo (fTupG [3, 4]) (fSet 2 (fOp (oOwn0 "Ratio" (fR2 fun a b => a + b)) (fVar 2) (fOp (oOwn0 "Ratio" (fR2 fun a b => a * b)) (fVar 4) (fOp oIx (fVar 0) (fVar 3))))) FD (enD (ratL (cs.drop i)) i) [some d, some p, some (.rat (dotN cs ms i)), v3, v4]
  | 0, i, v3, v4, hi => by
    have : i = cs.length := by omega
    subst this
    rw [List.drop_length]
    exact k v3 v4
  | r + 1, i, v3, v4, hi => by
    have ih := mean_loop hd hl z1 z2 n0 m0 hs k r (i + 1)
    rw [drop_coef (by omega), ratL_cons, en_cons]
    unfold forGo
    simp only [fSeq, fIfS, fB, fIsi, fVar, fC, fOp, fUn, fLs, fRet, fRetN, fCall, fCall0, fCons, fNil, fNext, fNev, fFld, fSet, fOwn, fDrop, fAsg, fPar, fNot, fAnd, fOr, fAndV, fOrV, fNotV, fIf, fTru, fLst, fTup, fMeth, fMeth0, fName, fRaise, fRaise0, fBr, fBor, fApp, fSetI, fAug, fChain, fYes, fSl, fNoPart, fPart, fItL, fItT, fIt, fIsLT, fBrk, fCnt, topE, startD, toB, oI, oI0, oNeg, oAbs, oMax, oMin, oInt, oLen_lst, oLen_tup, oList, oTuple, oCat, oIsB, oNotB, oEq, oNe, eqD, oIsN, oNotN, isN, own_rr, own_ri, own_pp, own_pi, rfl_ir, rfl_ip, neg_r, neg_p, abs_r, tru_lst, tru_tup, tru_int, tru_bl, tru_non, tupG2, tupG4, lstEx, tupEx, lstIs, tupIs, intEx, lst1Ex, lst2Ex, int1Ex, int2Ex, en1Ex, setEx, it_lst, it_tup, oIxL, oIxT, InsD, List.map_cons, List.map_nil, List.cons_append, List.nil_append, List.length_cons, List.length_nil, List.getElem?_cons_zero, List.getElem?_cons_succ, List.set_cons_zero, List.set_cons_succ, List.replicate_succ, List.replicate_zero, Option.some.injEq, exists_eq_left', clsD_rat, clsD_poly, if_true, if_false, List.append_nil, true_and, and_true, true_or, or_true, Bool.false_eq_true, Bool.true_eq_false, reduceCtorEq, Nat.add_one_sub_one, Nat.reduceSub, Nat.reduceAdd, Nat.sub_self, Nat.zero_add, Nat.add_sub_cancel, fR2_rat]
    refine ix_it hd (ratL_get (by omega)) ?_
    simp only [fSeq, fIfS, fB, fIsi, fVar, fC, fOp, fUn, fLs, fRet, fRetN, fCall, fCall0, fCons, fNil, fNext, fNev, fFld, fSet, fOwn, fDrop, fAsg, fPar, fNot, fAnd, fOr, fAndV, fOrV, fNotV, fIf, fTru, fLst, fTup, fMeth, fMeth0, fName, fRaise, fRaise0, fBr, fBor, fApp, fSetI, fAug, fChain, fYes, fSl, fNoPart, fPart, fItL, fItT, fIt, fIsLT, fBrk, fCnt, topE, startD, toB, oI, oI0, oNeg, oAbs, oMax, oMin, oInt, oLen_lst, oLen_tup, oList, oTuple, oCat, oIsB, oNotB, oEq, oNe, eqD, oIsN, oNotN, isN, own_rr, own_ri, own_pp, own_pi, rfl_ir, rfl_ip, neg_r, neg_p, abs_r, tru_lst, tru_tup, tru_int, tru_bl, tru_non, tupG2, tupG4, lstEx, tupEx, lstIs, tupIs, intEx, lst1Ex, lst2Ex, int1Ex, int2Ex, en1Ex, setEx, it_lst, it_tup, oIxL, oIxT, InsD, List.map_cons, List.map_nil, List.cons_append, List.nil_append, List.length_cons, List.length_nil, List.getElem?_cons_zero, List.getElem?_cons_succ, List.set_cons_zero, List.set_cons_succ, List.replicate_succ, List.replicate_zero, Option.some.injEq, exists_eq_left', clsD_rat, clsD_poly, if_true, if_false, List.append_nil, true_and, and_true, true_or, or_true, Bool.false_eq_true, Bool.true_eq_false, reduceCtorEq, Nat.add_one_sub_one, Nat.reduceSub, Nat.reduceAdd, Nat.sub_self, Nat.zero_add, Nat.add_sub_cancel, fR2_rat]
    have s1 := dot_sz z1 z2 n0 m0 i
    have hb : (i + 1 + 1) * (n + m + 1) ≤ 9000 := Nat.le_trans (Nat.mul_le_mul_right _ (by omega)) hs
    have hb2 : 1 + i * (n + m + 1) + (n + m) ≤ 9000 := by
      rw [Nat.add_mul (i + 1) 1, Nat.add_mul i 1, Nat.one_mul] at hb
      omega
    refine ⟨⟨n, m, z1.coef n0 i, z2.coef m0 i, by omega⟩, ⟨_, _, s1, (z1.coef n0 i).mul (z2.coef m0 i), hb2⟩, ?_⟩
    exact ih _ _ (by omega)
theorem p_mean_of {cs : List Str} (hR : ("Ratio" : Str) ∈ cs) (hP : ("Poly" : Str) ∈ cs) (ds : List D) (P : D → Prop) (X : XP) (h : fMeanOf ds P X) : f_mean_of cs (topE P X0) (startD 5 ds) := by
  obtain ⟨d, ms, xs, n, m, rfl, hd, hl, z1, z2, n0, m0, hs, p⟩ := h
  simp only [fSeq, fIfS, fB, fIsi, fVar, fC, fOp, fUn, fLs, fRet, fRetN, fCall, fCall0, fCons, fNil, fNext, fNev, fFld, fSet, fOwn, fDrop, fAsg, fPar, fNot, fAnd, fOr, fAndV, fOrV, fNotV, fIf, fTru, fLst, fTup, fMeth, fMeth0, fName, fRaise, fRaise0, fBr, fBor, fApp, fSetI, fAug, fChain, fYes, fSl, fNoPart, fPart, fItL, fItT, fIt, fIsLT, fBrk, fCnt, topE, startD, toB, oI, oI0, oNeg, oAbs, oMax, oMin, oInt, oLen_lst, oLen_tup, oList, oTuple, oCat, oIsB, oNotB, oEq, oNe, eqD, oIsN, oNotN, isN, own_rr, own_ri, own_pp, own_pi, rfl_ir, rfl_ip, neg_r, neg_p, abs_r, tru_lst, tru_tup, tru_int, tru_bl, tru_non, tupG2, tupG4, lstEx, tupEx, lstIs, tupIs, intEx, lst1Ex, lst2Ex, int1Ex, int2Ex, en1Ex, setEx, it_lst, it_tup, oIxL, oIxT, InsD, List.map_cons, List.map_nil, List.cons_append, List.nil_append, List.length_cons, List.length_nil, List.getElem?_cons_zero, List.getElem?_cons_succ, List.set_cons_zero, List.set_cons_succ, List.replicate_succ, List.replicate_zero, Option.some.injEq, exists_eq_left', clsD_rat, clsD_poly, if_true, if_false, List.append_nil, true_and, and_true, true_or, or_true, Bool.false_eq_true, Bool.true_eq_false, reduceCtorEq, Nat.add_one_sub_one, Nat.reduceSub, Nat.reduceAdd, Nat.sub_self, Nat.zero_add, Nat.add_sub_cancel, f_mean_of, fFor, fEn, fld_co, mk_int, Rat.intCast_zero, itEx]
  have st := mean_loop (d := d) (p := .poly xs) (FD := (⟨fun ρ => (∃ d, ρ[2]? = some (some d) ∧ P d), P, fun _ => False, fun _ => False, fun _ _ => False⟩ : FEnds)) hd hl z1 z2 n0 m0 hs (fun v3 v4 => ⟨_, rfl, p⟩) xs.length 0 none none (by omega)
  exact st
/-- check_row, the wish carried over -/
theorem check_mono {cs : List Str} {ds : List D} {P P' : D → Prop} {X X' : XP} (h : fCheckRow cs ds P X) (hp : ∀ d, P d → P' d) (hx : ∀ x, X x → X' x) : fCheckRow cs ds P' X' := by
  obtain ⟨d, n, e, h⟩ := h
  refine ⟨d, n, e, ?_⟩
  rcases h with ⟨items, qs, h1, h2, h3, h4, h5, h6⟩ | ⟨items, pre, b, post, h1, h2, h3, h4, h5, h6⟩ | ⟨items, h1, h2, h3⟩ | ⟨h1, h2, h3⟩
  · exact .inl ⟨items, qs, h1, h2, h3, h4, h5, hp _ h6⟩
  · exact .inr (.inl ⟨items, pre, b, post, h1, h2, h3, h4, h5, hx _ h6⟩)
  · exact .inr (.inr (.inl ⟨items, h1, h2, hx _ h3⟩))
  · exact .inr (.inr (.inr ⟨h1, h2, hx _ h3⟩))
theorem p_mean {cs : List Str} (hR : ("Ratio" : Str) ∈ cs) (hP : ("Poly" : Str) ∈ cs) (ds : List D) (P : D → Prop) (X : XP) (h : fMean cs ds P X) : f_mean cs (topE P X) (startD 3 ds) := by
  obtain ⟨d, ps, n, m, rfl, z1, n0, m0, hs, hc⟩ := h
  simp only [fSeq, fIfS, fB, fIsi, fVar, fC, fOp, fUn, fLs, fRet, fRetN, fCall, fCall0, fCons, fNil, fNext, fNev, fFld, fSet, fOwn, fDrop, fAsg, fPar, fNot, fAnd, fOr, fAndV, fOrV, fNotV, fIf, fTru, fLst, fTup, fMeth, fMeth0, fName, fRaise, fRaise0, fBr, fBor, fApp, fSetI, fAug, fChain, fYes, fSl, fNoPart, fPart, fItL, fItT, fIt, fIsLT, fBrk, fCnt, topE, startD, toB, oI, oI0, oNeg, oAbs, oMax, oMin, oInt, oLen_lst, oLen_tup, oList, oTuple, oCat, oIsB, oNotB, oEq, oNe, eqD, oIsN, oNotN, isN, own_rr, own_ri, own_pp, own_pi, rfl_ir, rfl_ip, neg_r, neg_p, abs_r, tru_lst, tru_tup, tru_int, tru_bl, tru_non, tupG2, tupG4, lstEx, tupEx, lstIs, tupIs, intEx, lst1Ex, lst2Ex, int1Ex, int2Ex, en1Ex, setEx, it_lst, it_tup, oIxL, oIxT, InsD, List.map_cons, List.map_nil, List.cons_append, List.nil_append, List.length_cons, List.length_nil, List.getElem?_cons_zero, List.getElem?_cons_succ, List.set_cons_zero, List.set_cons_succ, List.replicate_succ, List.replicate_zero, Option.some.injEq, exists_eq_left', clsD_rat, clsD_poly, if_true, if_false, List.append_nil, true_and, and_true, true_or, or_true, Bool.false_eq_true, Bool.true_eq_false, reduceCtorEq, Nat.add_one_sub_one, Nat.reduceSub, Nat.reduceAdd, Nat.sub_self, Nat.zero_add, Nat.add_sub_cancel, f_mean]
  refine check_mono hc (fun e he => ?_) (fun x hx => hx)
  obtain ⟨qs, rfl, z2, h0, h1⟩ := he
  simp only [fSeq, fIfS, fB, fIsi, fVar, fC, fOp, fUn, fLs, fRet, fRetN, fCall, fCall0, fCons, fNil, fNext, fNev, fFld, fSet, fOwn, fDrop, fAsg, fPar, fNot, fAnd, fOr, fAndV, fOrV, fNotV, fIf, fTru, fLst, fTup, fMeth, fMeth0, fName, fRaise, fRaise0, fBr, fBor, fApp, fSetI, fAug, fChain, fYes, fSl, fNoPart, fPart, fItL, fItT, fIt, fIsLT, fBrk, fCnt, topE, startD, toB, oI, oI0, oNeg, oAbs, oMax, oMin, oInt, oLen_lst, oLen_tup, oList, oTuple, oCat, oIsB, oNotB, oEq, oNe, eqD, oIsN, oNotN, isN, own_rr, own_ri, own_pp, own_pi, rfl_ir, rfl_ip, neg_r, neg_p, abs_r, tru_lst, tru_tup, tru_int, tru_bl, tru_non, tupG2, tupG4, lstEx, tupEx, lstIs, tupIs, intEx, lst1Ex, lst2Ex, int1Ex, int2Ex, en1Ex, setEx, it_lst, it_tup, oIxL, oIxT, InsD, List.map_cons, List.map_nil, List.cons_append, List.nil_append, List.length_cons, List.length_nil, List.getElem?_cons_zero, List.getElem?_cons_succ, List.set_cons_zero, List.set_cons_succ, List.replicate_succ, List.replicate_zero, Option.some.injEq, exists_eq_left', clsD_rat, clsD_poly, if_true, if_false, List.append_nil, true_and, and_true, true_or, or_true, Bool.false_eq_true, Bool.true_eq_false, reduceCtorEq, Nat.add_one_sub_one, Nat.reduceSub, Nat.reduceAdd, Nat.sub_self, Nat.zero_add, Nat.add_sub_cancel, fld_de, ratL_len]
  by_cases hl : qs.length < ps.length
  · rw [decide_eq_true (by omega : (qs.length : Int) ≤ (ps.length : Int) - 1), if_pos rfl]
    exact h0 hl
  · rw [decide_eq_false (by omega : ¬ (qs.length : Int) ≤ (ps.length : Int) - 1), if_neg (by decide)]
    exact ⟨_, qs, ps, n, m, rfl, rfl, by omega, z1, z2, n0, m0, hs, h1 (by omega)⟩
theorem p__law_is_integer {cs : List Str} (hR : ("Ratio" : Str) ∈ cs) (hP : ("Poly" : Str) ∈ cs) (ds : List D) (P : D → Prop) (X : XP) (h : fIsInt cs ds P X) : f__law_is_integer cs (topE P X0) (startD 1 ds) := by
  obtain ⟨d, b, rfl, hb, p⟩ := h
  simp only [fSeq, fIfS, fB, fIsi, fVar, fC, fOp, fUn, fLs, fRet, fRetN, fCall, fCall0, fCons, fNil, fNext, fNev, fFld, fSet, fOwn, fDrop, fAsg, fPar, fNot, fAnd, fOr, fAndV, fOrV, fNotV, fIf, fTru, fLst, fTup, fMeth, fMeth0, fName, fRaise, fRaise0, fBr, fBor, fApp, fSetI, fAug, fChain, fYes, fSl, fNoPart, fPart, fItL, fItT, fIt, fIsLT, fBrk, fCnt, topE, startD, toB, oI, oI0, oNeg, oAbs, oMax, oMin, oInt, oLen_lst, oLen_tup, oList, oTuple, oCat, oIsB, oNotB, oEq, oNe, eqD, oIsN, oNotN, isN, own_rr, own_ri, own_pp, own_pi, rfl_ir, rfl_ip, neg_r, neg_p, abs_r, tru_lst, tru_tup, tru_int, tru_bl, tru_non, tupG2, tupG4, lstEx, tupEx, lstIs, tupIs, intEx, lst1Ex, lst2Ex, int1Ex, int2Ex, en1Ex, setEx, it_lst, it_tup, oIxL, oIxT, InsD, List.map_cons, List.map_nil, List.cons_append, List.nil_append, List.length_cons, List.length_nil, List.getElem?_cons_zero, List.getElem?_cons_succ, List.set_cons_zero, List.set_cons_succ, List.replicate_succ, List.replicate_zero, Option.some.injEq, exists_eq_left', clsD_rat, clsD_poly, if_true, if_false, List.append_nil, true_and, and_true, true_or, or_true, Bool.false_eq_true, Bool.true_eq_false, reduceCtorEq, Nat.add_one_sub_one, Nat.reduceSub, Nat.reduceAdd, Nat.sub_self, Nat.zero_add, Nat.add_sub_cancel, f__law_is_integer]
  unfold intD at hb
  cases h1 : isD cs (.ty "int") d with
  | none => rw [h1] at hb; cases hb
  | some k =>
    rw [h1] at hb
    refine ⟨k, rfl, ?_⟩
    cases k with
    | false => cases hb; exact p
    | true =>
      cases h2 : isD cs (.ty "bool") d with
      | none => rw [h2] at hb; cases hb
      | some k2 =>
        rw [h2] at hb
        have : (!k2) = b := Option.some.inj hb
        subst this
        exact ⟨k2, rfl, p⟩
theorem take_ok {z : Int} {P : D → Prop} {X : XP} (h0 : 0 < z) (h9 : z.natAbs < 2 ^ 9000) (h : ∀ d : Int, 0 ≤ d → d < z → P (.int d)) : fTake [.feed, .int z] P X := ⟨z, rfl, h0, h9, h⟩
theorem number_ok {z : Int} {P : D → Prop} {X : XP} (h0 : 0 < z) (h9 : z.natAbs < 2 ^ 9000) (h : ∀ d : Int, -z < d → d < z → P (.int d)) : fNumber [.feed, .int z] P X := ⟨z, rfl, h0, h9, h⟩
theorem p__law_number {cs : List Str} (hR : ("Ratio" : Str) ∈ cs) (hP : ("Poly" : Str) ∈ cs) (ds : List D) (P : D → Prop) (X : XP) (h : fNumber ds P X) : f__law_number cs (topE P X0) (startD 3 ds) := by
  obtain ⟨z, rfl, z0, z9, p⟩ := h
  simp only [fSeq, fIfS, fB, fIsi, fVar, fC, fOp, fUn, fLs, fRet, fRetN, fCall, fCall0, fCons, fNil, fNext, fNev, fFld, fSet, fOwn, fDrop, fAsg, fPar, fNot, fAnd, fOr, fAndV, fOrV, fNotV, fIf, fTru, fLst, fTup, fMeth, fMeth0, fName, fRaise, fRaise0, fBr, fBor, fApp, fSetI, fAug, fChain, fYes, fSl, fNoPart, fPart, fItL, fItT, fIt, fIsLT, fBrk, fCnt, topE, startD, toB, oI, oI0, oNeg, oAbs, oMax, oMin, oInt, oLen_lst, oLen_tup, oList, oTuple, oCat, oIsB, oNotB, oEq, oNe, eqD, oIsN, oNotN, isN, own_rr, own_ri, own_pp, own_pi, rfl_ir, rfl_ip, neg_r, neg_p, abs_r, tru_lst, tru_tup, tru_int, tru_bl, tru_non, tupG2, tupG4, lstEx, tupEx, lstIs, tupIs, intEx, lst1Ex, lst2Ex, int1Ex, int2Ex, en1Ex, setEx, it_lst, it_tup, oIxL, oIxT, InsD, List.map_cons, List.map_nil, List.cons_append, List.nil_append, List.length_cons, List.length_nil, List.getElem?_cons_zero, List.getElem?_cons_succ, List.set_cons_zero, List.set_cons_succ, List.replicate_succ, List.replicate_zero, Option.some.injEq, exists_eq_left', clsD_rat, clsD_poly, if_true, if_false, List.append_nil, true_and, and_true, true_or, or_true, Bool.false_eq_true, Bool.true_eq_false, reduceCtorEq, Nat.add_one_sub_one, Nat.reduceSub, Nat.reduceAdd, Nat.sub_self, Nat.zero_add, Nat.add_sub_cancel, f__law_number]
  refine take_ok (by decide) (by decide) fun d d0 d1 => ?_
  simp only [fSeq, fIfS, fB, fIsi, fVar, fC, fOp, fUn, fLs, fRet, fRetN, fCall, fCall0, fCons, fNil, fNext, fNev, fFld, fSet, fOwn, fDrop, fAsg, fPar, fNot, fAnd, fOr, fAndV, fOrV, fNotV, fIf, fTru, fLst, fTup, fMeth, fMeth0, fName, fRaise, fRaise0, fBr, fBor, fApp, fSetI, fAug, fChain, fYes, fSl, fNoPart, fPart, fItL, fItT, fIt, fIsLT, fBrk, fCnt, topE, startD, toB, oI, oI0, oNeg, oAbs, oMax, oMin, oInt, oLen_lst, oLen_tup, oList, oTuple, oCat, oIsB, oNotB, oEq, oNe, eqD, oIsN, oNotN, isN, own_rr, own_ri, own_pp, own_pi, rfl_ir, rfl_ip, neg_r, neg_p, abs_r, tru_lst, tru_tup, tru_int, tru_bl, tru_non, tupG2, tupG4, lstEx, tupEx, lstIs, tupIs, intEx, lst1Ex, lst2Ex, int1Ex, int2Ex, en1Ex, setEx, it_lst, it_tup, oIxL, oIxT, InsD, List.map_cons, List.map_nil, List.cons_append, List.nil_append, List.length_cons, List.length_nil, List.getElem?_cons_zero, List.getElem?_cons_succ, List.set_cons_zero, List.set_cons_succ, List.replicate_succ, List.replicate_zero, Option.some.injEq, exists_eq_left', clsD_rat, clsD_poly, if_true, if_false, List.append_nil, true_and, and_true, true_or, or_true, Bool.false_eq_true, Bool.true_eq_false, reduceCtorEq, Nat.add_one_sub_one, Nat.reduceSub, Nat.reduceAdd, Nat.sub_self, Nat.zero_add, Nat.add_sub_cancel]
  refine ⟨mul_okL (by decide), ?_⟩
  refine take_ok z0 z9 fun e e0 e1 => ?_
  simp only [fSeq, fIfS, fB, fIsi, fVar, fC, fOp, fUn, fLs, fRet, fRetN, fCall, fCall0, fCons, fNil, fNext, fNev, fFld, fSet, fOwn, fDrop, fAsg, fPar, fNot, fAnd, fOr, fAndV, fOrV, fNotV, fIf, fTru, fLst, fTup, fMeth, fMeth0, fName, fRaise, fRaise0, fBr, fBor, fApp, fSetI, fAug, fChain, fYes, fSl, fNoPart, fPart, fItL, fItT, fIt, fIsLT, fBrk, fCnt, topE, startD, toB, oI, oI0, oNeg, oAbs, oMax, oMin, oInt, oLen_lst, oLen_tup, oList, oTuple, oCat, oIsB, oNotB, oEq, oNe, eqD, oIsN, oNotN, isN, own_rr, own_ri, own_pp, own_pi, rfl_ir, rfl_ip, neg_r, neg_p, abs_r, tru_lst, tru_tup, tru_int, tru_bl, tru_non, tupG2, tupG4, lstEx, tupEx, lstIs, tupIs, intEx, lst1Ex, lst2Ex, int1Ex, int2Ex, en1Ex, setEx, it_lst, it_tup, oIxL, oIxT, InsD, List.map_cons, List.map_nil, List.cons_append, List.nil_append, List.length_cons, List.length_nil, List.getElem?_cons_zero, List.getElem?_cons_succ, List.set_cons_zero, List.set_cons_succ, List.replicate_succ, List.replicate_zero, Option.some.injEq, exists_eq_left', clsD_rat, clsD_poly, if_true, if_false, List.append_nil, true_and, and_true, true_or, or_true, Bool.false_eq_true, Bool.true_eq_false, reduceCtorEq, Nat.add_one_sub_one, Nat.reduceSub, Nat.reduceAdd, Nat.sub_self, Nat.zero_add, Nat.add_sub_cancel]
  refine ⟨mul_okL (by omega), ?_⟩
  have : d = 0 ∨ d = 1 := by omega
  rcases this with rfl | rfl
  · have := p e (by omega) e1
    rw [show (1 - 2 * 0 : Int) * e = e by omega]
    exact this
  · have := p (-e) (by omega) (by omega)
    rw [show (1 - 2 * 1 : Int) * e = -e by omega]
    exact this
theorem cross_eq {q : Rat} {a b : Int} (hb : b ≠ 0) : q.num * b = a * (q.den : Nat) ↔ q = Rat.divInt a b := by
  have h1 : Rat.divInt q.num (q.den : Nat) = Rat.divInt a b ↔ q.num * b = a * (q.den : Nat) := Rat.divInt_eq_divInt_iff (d_ne q) hb
  rw [Rat.num_divInt_den] at h1
  exact h1.symm
theorem p__law_is {cs : List Str} (hR : ("Ratio" : Str) ∈ cs) (hP : ("Poly" : Str) ∈ cs) (ds : List D) (P : D → Prop) (X : XP) (h : fIs ds P X) : f__law_is cs (topE P X0) (startD 3 ds) := by
  obtain ⟨q, a, b, n, m, rfl, hb, hq, ha, hb2, hs, p⟩ := h
  have d1 : decide ((1 : Int) ≤ ((q.den : Nat) : Int)) = true := decide_eq_true (by have := q.den_nz; omega)
  simp only [fSeq, fIfS, fB, fIsi, fVar, fC, fOp, fUn, fLs, fRet, fRetN, fCall, fCall0, fCons, fNil, fNext, fNev, fFld, fSet, fOwn, fDrop, fAsg, fPar, fNot, fAnd, fOr, fAndV, fOrV, fNotV, fIf, fTru, fLst, fTup, fMeth, fMeth0, fName, fRaise, fRaise0, fBr, fBor, fApp, fSetI, fAug, fChain, fYes, fSl, fNoPart, fPart, fItL, fItT, fIt, fIsLT, fBrk, fCnt, topE, startD, toB, oI, oI0, oNeg, oAbs, oMax, oMin, oInt, oLen_lst, oLen_tup, oList, oTuple, oCat, oIsB, oNotB, oEq, oNe, eqD, oIsN, oNotN, isN, own_rr, own_ri, own_pp, own_pi, rfl_ir, rfl_ip, neg_r, neg_p, abs_r, tru_lst, tru_tup, tru_int, tru_bl, tru_non, tupG2, tupG4, lstEx, tupEx, lstIs, tupIs, intEx, lst1Ex, lst2Ex, int1Ex, int2Ex, en1Ex, setEx, it_lst, it_tup, oIxL, oIxT, InsD, List.map_cons, List.map_nil, List.cons_append, List.nil_append, List.length_cons, List.length_nil, List.getElem?_cons_zero, List.getElem?_cons_succ, List.set_cons_zero, List.set_cons_succ, List.replicate_succ, List.replicate_zero, Option.some.injEq, exists_eq_left', clsD_rat, clsD_poly, if_true, if_false, List.append_nil, true_and, and_true, true_or, or_true, Bool.false_eq_true, Bool.true_eq_false, reduceCtorEq, Nat.add_one_sub_one, Nat.reduceSub, Nat.reduceAdd, Nat.sub_self, Nat.zero_add, Nat.add_sub_cancel, f__law_is, isR_rat hR, fIsInt_int, fld_top, fld_bot, Bool.not_true, d1]
  have m0 : 0 < m := by
    rcases Nat.eq_zero_or_pos m with e | e
    · subst e; omega
    · exact e
  refine ⟨mul_ok hq.num hb2 hq.pos m0 (by omega), mul_ok ha (dsz hq) m0 hq.pos (by omega), ?_⟩
  rw [decide_eq_decide.mpr (cross_eq hb)]
  exact p
theorem ix0 {a b : D} {P : D → Prop} {X : XP} : oIx (.lst [a, b]) (.int 0) P X ↔ P a := by
  constructor
  · rintro ⟨ds, n, d, h, hn, ha, p⟩
    cases hn
    rcases h with h | h <;> cases h
    cases ha; exact p
  · exact fun p => ⟨_, _, a, .inl rfl, rfl, rfl, p⟩
theorem ix1 {a b : D} {P : D → Prop} {X : XP} : oIx (.lst [a, b]) (.int 1) P X ↔ P b := by
  constructor
  · rintro ⟨ds, n, d, h, hn, ha, p⟩
    cases hn
    rcases h with h | h <;> cases h
    cases ha; exact p
  · exact fun p => ⟨_, _, b, .inl rfl, rfl, rfl, p⟩
theorem mulP_ok {i j : Int} {n m : Nat} (hi : i.natAbs < 2 ^ n) (hj : j.natAbs < 2 ^ m) (hs : n + m ≤ 100000) : IntMulOk i j := by
  refine mul_ok (a := n + 1) (b := m + 1) (Nat.lt_of_lt_of_le hi (Nat.pow_le_pow_right (by decide) (by omega))) (Nat.lt_of_lt_of_le hj (Nat.pow_le_pow_right (by decide) (by omega))) (by omega) (by omega) (by omega)
theorem p__law_add {cs : List Str} (hR : ("Ratio" : Str) ∈ cs) (hP : ("Poly" : Str) ∈ cs) (ds : List D) (P : D → Prop) (X : XP) (h : fLAdd ds P X) : f__law_add cs (topE P X0) (startD 2 ds) := by
  obtain ⟨⟨a, b⟩, ⟨c, d⟩, n, m, rfl, h1, h2, hs, p⟩ := h
  simp only [fSeq, fIfS, fB, fIsi, fVar, fC, fOp, fUn, fLs, fRet, fRetN, fCall, fCall0, fCons, fNil, fNext, fNev, fFld, fSet, fOwn, fDrop, fAsg, fPar, fNot, fAnd, fOr, fAndV, fOrV, fNotV, fIf, fTru, fLst, fTup, fMeth, fMeth0, fName, fRaise, fRaise0, fBr, fBor, fApp, fSetI, fAug, fChain, fYes, fSl, fNoPart, fPart, fItL, fItT, fIt, fIsLT, fBrk, fCnt, topE, startD, toB, oI, oI0, oNeg, oAbs, oMax, oMin, oInt, oLen_lst, oLen_tup, oList, oTuple, oCat, oIsB, oNotB, oEq, oNe, eqD, oIsN, oNotN, isN, own_rr, own_ri, own_pp, own_pi, rfl_ir, rfl_ip, neg_r, neg_p, abs_r, tru_lst, tru_tup, tru_int, tru_bl, tru_non, tupG2, tupG4, lstEx, tupEx, lstIs, tupIs, intEx, lst1Ex, lst2Ex, int1Ex, int2Ex, en1Ex, setEx, it_lst, it_tup, oIxL, oIxT, InsD, List.map_cons, List.map_nil, List.cons_append, List.nil_append, List.length_cons, List.length_nil, List.getElem?_cons_zero, List.getElem?_cons_succ, List.set_cons_zero, List.set_cons_succ, List.replicate_succ, List.replicate_zero, Option.some.injEq, exists_eq_left', clsD_rat, clsD_poly, if_true, if_false, List.append_nil, true_and, and_true, true_or, or_true, Bool.false_eq_true, Bool.true_eq_false, reduceCtorEq, Nat.add_one_sub_one, Nat.reduceSub, Nat.reduceAdd, Nat.sub_self, Nat.zero_add, Nat.add_sub_cancel, f__law_add, ix0, ix1]
  unfold addP at p
  dsimp only at p
  by_cases e1 : a = 0
  · rw [if_pos e1] at p
    rw [decide_eq_true e1, if_pos rfl]
    exact p
  · rw [if_neg e1] at p
    rw [decide_eq_false e1, if_neg (by decide)]
    by_cases e2 : c = 0
    · rw [if_pos e2] at p
      rw [decide_eq_true e2, if_pos rfl]
      exact p
    · rw [if_neg e2] at p
      rw [decide_eq_false e2, if_neg (by decide)]
      by_cases e3 : b = d
      · rw [if_pos e3] at p
        rw [decide_eq_true e3, if_pos rfl]
        exact ⟨by decide, p⟩
      · rw [if_neg e3] at p
        rw [decide_eq_false e3, if_neg (by decide)]
        exact ⟨mulP_ok h1.a h2.b hs, mulP_ok h2.a h1.b (by omega), mulP_ok h1.b h2.b hs, by decide, p⟩
theorem p__law_times {cs : List Str} (hR : ("Ratio" : Str) ∈ cs) (hP : ("Poly" : Str) ∈ cs) (ds : List D) (P : D → Prop) (X : XP) (h : fLTimes ds P X) : f__law_times cs (topE P X0) (startD 2 ds) := by
  obtain ⟨⟨a, b⟩, ⟨c, d⟩, n, m, rfl, h1, h2, hs, p⟩ := h
  simp only [fSeq, fIfS, fB, fIsi, fVar, fC, fOp, fUn, fLs, fRet, fRetN, fCall, fCall0, fCons, fNil, fNext, fNev, fFld, fSet, fOwn, fDrop, fAsg, fPar, fNot, fAnd, fOr, fAndV, fOrV, fNotV, fIf, fTru, fLst, fTup, fMeth, fMeth0, fName, fRaise, fRaise0, fBr, fBor, fApp, fSetI, fAug, fChain, fYes, fSl, fNoPart, fPart, fItL, fItT, fIt, fIsLT, fBrk, fCnt, topE, startD, toB, oI, oI0, oNeg, oAbs, oMax, oMin, oInt, oLen_lst, oLen_tup, oList, oTuple, oCat, oIsB, oNotB, oEq, oNe, eqD, oIsN, oNotN, isN, own_rr, own_ri, own_pp, own_pi, rfl_ir, rfl_ip, neg_r, neg_p, abs_r, tru_lst, tru_tup, tru_int, tru_bl, tru_non, tupG2, tupG4, lstEx, tupEx, lstIs, tupIs, intEx, lst1Ex, lst2Ex, int1Ex, int2Ex, en1Ex, setEx, it_lst, it_tup, oIxL, oIxT, InsD, List.map_cons, List.map_nil, List.cons_append, List.nil_append, List.length_cons, List.length_nil, List.getElem?_cons_zero, List.getElem?_cons_succ, List.set_cons_zero, List.set_cons_succ, List.replicate_succ, List.replicate_zero, Option.some.injEq, exists_eq_left', clsD_rat, clsD_poly, if_true, if_false, List.append_nil, true_and, and_true, true_or, or_true, Bool.false_eq_true, Bool.true_eq_false, reduceCtorEq, Nat.add_one_sub_one, Nat.reduceSub, Nat.reduceAdd, Nat.sub_self, Nat.zero_add, Nat.add_sub_cancel, f__law_times, ix0, ix1]
  exact ⟨mulP_ok h1.a h2.a hs, mulP_ok h1.b h2.b hs, by decide, p⟩
def ofPr (d : D) : D := match d with
  | .lst [.int a, .int b] => .rat (Rat.divInt a b)
  | e => e
theorem p__law_ratios {cs : List Str} (hR : ("Ratio" : Str) ∈ cs) (hP : ("Poly" : Str) ∈ cs) (ds : List D) (P : D → Prop) (X : XP) (h : fLRatios ds P X) : f__law_ratios cs (topE P X0) (startD 2 ds) := by
  obtain ⟨ps, n, rfl, h1, hn, hl, p⟩ := h
  simp only [fSeq, fIfS, fB, fIsi, fVar, fC, fOp, fUn, fLs, fRet, fRetN, fCall, fCall0, fCons, fNil, fNext, fNev, fFld, fSet, fOwn, fDrop, fAsg, fPar, fNot, fAnd, fOr, fAndV, fOrV, fNotV, fIf, fTru, fLst, fTup, fMeth, fMeth0, fName, fRaise, fRaise0, fBr, fBor, fApp, fSetI, fAug, fChain, fYes, fSl, fNoPart, fPart, fItL, fItT, fIt, fIsLT, fBrk, fCnt, topE, startD, toB, oI, oI0, oNeg, oAbs, oMax, oMin, oInt, oLen_lst, oLen_tup, oList, oTuple, oCat, oIsB, oNotB, oEq, oNe, eqD, oIsN, oNotN, isN, own_rr, own_ri, own_pp, own_pi, rfl_ir, rfl_ip, neg_r, neg_p, abs_r, tru_lst, tru_tup, tru_int, tru_bl, tru_non, tupG2, tupG4, lstEx, tupEx, lstIs, tupIs, intEx, lst1Ex, lst2Ex, int1Ex, int2Ex, en1Ex, setEx, it_lst, it_tup, oIxL, oIxT, InsD, List.map_cons, List.map_nil, List.cons_append, List.nil_append, List.length_cons, List.length_nil, List.getElem?_cons_zero, List.getElem?_cons_succ, List.set_cons_zero, List.set_cons_succ, List.replicate_succ, List.replicate_zero, Option.some.injEq, exists_eq_left', clsD_rat, clsD_poly, if_true, if_false, List.append_nil, true_and, and_true, true_or, or_true, Bool.false_eq_true, Bool.true_eq_false, reduceCtorEq, Nat.add_one_sub_one, Nat.reduceSub, Nat.reduceAdd, Nat.sub_self, Nat.zero_add, Nat.add_sub_cancel, f__law_ratios, fLc]
  refine lc_map ofPr _ [] (fun d hd Q q => ?_) ?_ ?_
  · obtain ⟨⟨a, b⟩, hp, rfl⟩ := List.mem_map.mp hd
    have s := h1 _ hp
    simp only [wipeD]
    simp only [fSeq, fIfS, fB, fIsi, fVar, fC, fOp, fUn, fLs, fRet, fRetN, fCall, fCall0, fCons, fNil, fNext, fNev, fFld, fSet, fOwn, fDrop, fAsg, fPar, fNot, fAnd, fOr, fAndV, fOrV, fNotV, fIf, fTru, fLst, fTup, fMeth, fMeth0, fName, fRaise, fRaise0, fBr, fBor, fApp, fSetI, fAug, fChain, fYes, fSl, fNoPart, fPart, fItL, fItT, fIt, fIsLT, fBrk, fCnt, topE, startD, toB, oI, oI0, oNeg, oAbs, oMax, oMin, oInt, oLen_lst, oLen_tup, oList, oTuple, oCat, oIsB, oNotB, oEq, oNe, eqD, oIsN, oNotN, isN, own_rr, own_ri, own_pp, own_pi, rfl_ir, rfl_ip, neg_r, neg_p, abs_r, tru_lst, tru_tup, tru_int, tru_bl, tru_non, tupG2, tupG4, lstEx, tupEx, lstIs, tupIs, intEx, lst1Ex, lst2Ex, int1Ex, int2Ex, en1Ex, setEx, it_lst, it_tup, oIxL, oIxT, InsD, List.map_cons, List.map_nil, List.cons_append, List.nil_append, List.length_cons, List.length_nil, List.getElem?_cons_zero, List.getElem?_cons_succ, List.set_cons_zero, List.set_cons_succ, List.replicate_succ, List.replicate_zero, Option.some.injEq, exists_eq_left', clsD_rat, clsD_poly, if_true, if_false, List.append_nil, true_and, and_true, true_or, or_true, Bool.false_eq_true, Bool.true_eq_false, reduceCtorEq, Nat.add_one_sub_one, Nat.reduceSub, Nat.reduceAdd, Nat.sub_self, Nat.zero_add, Nat.add_sub_cancel, ix0, ix1, mk_R]
    exact ⟨Int.ne_of_gt s.pos, Nat.lt_of_lt_of_le s.b (Nat.pow_le_pow_right (by decide) hn), q⟩
  · simp only [prL, List.length_map, List.length_nil]
    exact small_line (by omega)
  · have e : (prL ps).map ofPr = ratL (ps.map valP) := by
      unfold prL ratL
      rw [List.map_map, List.map_map]
      rfl
    rw [List.nil_append, e]
    exact p
theorem prL_get {ps : List (Int × Int)} {k : Nat} {p : Int × Int} (h : ps[k]? = some p) : (prL ps)[k]? = some (prD p) := by
  unfold prL
  rw [List.getElem?_map, h]
  rfl
theorem prL_len (ps : List (Int × Int)) : (prL ps).length = ps.length := List.length_map ..
theorem prL_app (ps : List (Int × Int)) (p : Int × Int) : prL ps ++ [prD p] = prL (ps ++ [p]) := by
  unfold prL
  rw [List.map_append]
  rfl
/-- a list of three ints, one of them -/
theorem ix3 {a b c : Int} {k : Int} {P : D → Prop} {X : XP} (h0 : 0 ≤ k) (h3 : k < 3) (p : ∀ z, z = a ∨ z = b ∨ z = c → P (.int z)) : oIx (.lst [.int a, .int b, .int c]) (.int k) P X := by
  have : k = 0 ∨ k = 1 ∨ k = 2 := by omega
  rcases this with rfl | rfl | rfl
  · exact ⟨_, _, _, .inl rfl, rfl, rfl, p _ (.inl rfl)⟩
  · exact ⟨_, _, _, .inl rfl, rfl, rfl, p _ (.inr (.inl rfl))⟩
  · exact ⟨_, _, _, .inl rfl, rfl, rfl, p _ (.inr (.inr rfl))⟩
theorem sz_pr {a b : Int} {n : Nat} {A B : Int} (ha : -A < a) (ha2 : a < A) (hb : 0 < b) (hb2 : b ≤ B) (hA : A ≤ 2 ^ n) (hB : B < 2 ^ n) : SzP n (a, b) := by
  have e : ((2 ^ n : Nat) : Int) = 2 ^ n := by simp
  refine ⟨?_, ?_, hb⟩
  · show a.natAbs < 2 ^ n
    omega
  · show b.natAbs < 2 ^ n
    omega
/-- a loop that draws, each turn puts one more behind -/
theorem draw_loop {α : Type} {body : FS} {FD : FEnds} {i N : Nat} {S : α → Prop} (mk : List α → Option D → Env) (hset : ∀ ps v d, (mk ps v).set i (some d) = mk ps (some d))
    (hstep : ∀ (d : D) (ps : List α) (FD' : FEnds), (∀ p, p ∈ ps → S p) → ps.length < N → (∀ p, S p → FD'.nx (mk (ps ++ [p]) (some d))) → body FD' (mk ps (some d))) :
    ∀ (items : List D) (ps : List α) (v : Option D), (∀ p, p ∈ ps → S p) → ps.length + items.length ≤ N → (∀ ps' v', (∀ p, p ∈ ps' → S p) → ps'.length = ps.length + items.length → FD.nx (mk ps' v')) → forGo (fName i) body FD items (mk ps v)
  | [], ps, v, hs, hl, fin => fin ps v hs (by simp)
  | d :: items, ps, v, hs, hl, fin => by
    unfold forGo
    show body _ ((mk ps v).set i (some d))
    rw [hset]
    rw [List.length_cons] at hl
    refine hstep d ps _ hs (by omega) fun p hp => ?_
    refine draw_loop mk hset hstep items (ps ++ [p]) (some d) (fun q hq => ?_) (by rw [List.length_append, List.length_singleton]; omega) (fun ps' v' h1 h2 => fin ps' v' h1 (by rw [h2, List.length_append, List.length_singleton, List.length_cons]; omega))
    rcases List.mem_append.mp hq with h | h
    · exact hs q h
    · rw [List.mem_singleton.mp h]; exact hp
theorem p2 {a : Int} {n : Nat} (h : a.natAbs < 2 ^ n) (hn : n ≤ 9000) : a.natAbs < 2 ^ 9000 := Nat.lt_of_lt_of_le h (Nat.pow_le_pow_right (by decide) hn)
theorem p__law_row {cs : List Str} (hR : ("Ratio" : Str) ∈ cs) (hP : ("Poly" : Str) ∈ cs) (ds : List D) (P : D → Prop) (X : XP) (h : fLRow ds P X) : f__law_row cs (topE P X0) (startD 6 ds) := by
  obtain ⟨k, rfl, k0, k1, p⟩ := h

  simp only [fSeq, fIfS, fB, fIsi, fVar, fC, fOp, fUn, fLs, fRet, fRetN, fCall, fCall0, fCons, fNil, fNext, fNev, fFld, fSet, fOwn, fDrop, fAsg, fPar, fNot, fAnd, fOr, fAndV, fOrV, fNotV, fIf, fTru, fLst, fTup, fMeth, fMeth0, fName, fRaise, fRaise0, fBr, fBor, fApp, fSetI, fAug, fChain, fYes, fSl, fNoPart, fPart, fItL, fItT, fIt, fIsLT, fBrk, fCnt, topE, startD, toB, oI, oI0, oNeg, oAbs, oMax, oMin, oInt, oLen_lst, oLen_tup, oList, oTuple, oCat, oIsB, oNotB, oEq, oNe, eqD, oIsN, oNotN, isN, own_rr, own_ri, own_pp, own_pi, rfl_ir, rfl_ip, neg_r, neg_p, abs_r, tru_lst, tru_tup, tru_int, tru_bl, tru_non, tupG2, tupG4, lstEx, tupEx, lstIs, tupIs, intEx, lst1Ex, lst2Ex, int1Ex, int2Ex, en1Ex, setEx, it_lst, it_tup, oIxL, oIxT, InsD, List.map_cons, List.map_nil, List.cons_append, List.nil_append, List.length_cons, List.length_nil, List.getElem?_cons_zero, List.getElem?_cons_succ, List.set_cons_zero, List.set_cons_succ, List.replicate_succ, List.replicate_zero, Option.some.injEq, exists_eq_left', clsD_rat, clsD_poly, if_true, if_false, List.append_nil, true_and, and_true, true_or, or_true, Bool.false_eq_true, Bool.true_eq_false, reduceCtorEq, Nat.add_one_sub_one, Nat.reduceSub, Nat.reduceAdd, Nat.sub_self, Nat.zero_add, Nat.add_sub_cancel, f__law_row, fFor, fRng1]
  refine ⟨⟨by decide, by decide, by decide⟩, by decide, ?_⟩
  refine take_ok (by decide) (by decide) fun d d0 d1 => ?_
  refine ix3 d0 d1 fun z hz => ?_
  have z1 : 0 < z ∧ z ≤ 2 ^ 100 := by rcases hz with rfl | rfl | rfl <;> decide
  refine ⟨⟨by decide, by decide, by decide⟩, by decide, ?_⟩
  refine take_ok (by decide) (by decide) fun d d0 d1 => ?_
  refine ix3 d0 d1 fun w hw => ?_
  have w1 : 0 < w ∧ w ≤ 2 ^ 100 := by rcases hw with rfl | rfl | rfl <;> decide
  refine ⟨by decide, by decide, ?_⟩
  refine take_ok k0 (p2 (n := 30) (by omega) (by decide)) fun r r0 r1 => ?_
  simp only [fSeq, fIfS, fB, fIsi, fVar, fC, fOp, fUn, fLs, fRet, fRetN, fCall, fCall0, fCons, fNil, fNext, fNev, fFld, fSet, fOwn, fDrop, fAsg, fPar, fNot, fAnd, fOr, fAndV, fOrV, fNotV, fIf, fTru, fLst, fTup, fMeth, fMeth0, fName, fRaise, fRaise0, fBr, fBor, fApp, fSetI, fAug, fChain, fYes, fSl, fNoPart, fPart, fItL, fItT, fIt, fIsLT, fBrk, fCnt, topE, startD, toB, oI, oI0, oNeg, oAbs, oMax, oMin, oInt, oLen_lst, oLen_tup, oList, oTuple, oCat, oIsB, oNotB, oEq, oNe, eqD, oIsN, oNotN, isN, own_rr, own_ri, own_pp, own_pi, rfl_ir, rfl_ip, neg_r, neg_p, abs_r, tru_lst, tru_tup, tru_int, tru_bl, tru_non, tupG2, tupG4, lstEx, tupEx, lstIs, tupIs, intEx, lst1Ex, lst2Ex, int1Ex, int2Ex, en1Ex, setEx, it_lst, it_tup, oIxL, oIxT, InsD, List.map_cons, List.map_nil, List.cons_append, List.nil_append, List.length_cons, List.length_nil, List.getElem?_cons_zero, List.getElem?_cons_succ, List.set_cons_zero, List.set_cons_succ, List.replicate_succ, List.replicate_zero, Option.some.injEq, exists_eq_left', clsD_rat, clsD_poly, if_true, if_false, List.append_nil, true_and, and_true, true_or, or_true, Bool.false_eq_true, Bool.true_eq_false, reduceCtorEq, Nat.add_one_sub_one, Nat.reduceSub, Nat.reduceAdd, Nat.sub_self, Nat.zero_add, Nat.add_sub_cancel]
  refine ⟨by omega, by omega, ?_⟩
  refine draw_loop (N := 2000) (S := SzP 101) (fun ps v => [some .feed, some (.int k), some (.int z), some (.int w), some (.lst (prL ps)), v]) (fun _ _ _ => rfl) (fun d ps FD' hs hl fin => ?_) _ [] none (fun _ h => nomatch h) (by simp [rngD]; omega) (fun ps' v' h1 h2 => ?_)
  · simp only [fSeq, fIfS, fB, fIsi, fVar, fC, fOp, fUn, fLs, fRet, fRetN, fCall, fCall0, fCons, fNil, fNext, fNev, fFld, fSet, fOwn, fDrop, fAsg, fPar, fNot, fAnd, fOr, fAndV, fOrV, fNotV, fIf, fTru, fLst, fTup, fMeth, fMeth0, fName, fRaise, fRaise0, fBr, fBor, fApp, fSetI, fAug, fChain, fYes, fSl, fNoPart, fPart, fItL, fItT, fIt, fIsLT, fBrk, fCnt, topE, startD, toB, oI, oI0, oNeg, oAbs, oMax, oMin, oInt, oLen_lst, oLen_tup, oList, oTuple, oCat, oIsB, oNotB, oEq, oNe, eqD, oIsN, oNotN, isN, own_rr, own_ri, own_pp, own_pi, rfl_ir, rfl_ip, neg_r, neg_p, abs_r, tru_lst, tru_tup, tru_int, tru_bl, tru_non, tupG2, tupG4, lstEx, tupEx, lstIs, tupIs, intEx, lst1Ex, lst2Ex, int1Ex, int2Ex, en1Ex, setEx, it_lst, it_tup, oIxL, oIxT, InsD, List.map_cons, List.map_nil, List.cons_append, List.nil_append, List.length_cons, List.length_nil, List.getElem?_cons_zero, List.getElem?_cons_succ, List.set_cons_zero, List.set_cons_succ, List.replicate_succ, List.replicate_zero, Option.some.injEq, exists_eq_left', clsD_rat, clsD_poly, if_true, if_false, List.append_nil, true_and, and_true, true_or, or_true, Bool.false_eq_true, Bool.true_eq_false, reduceCtorEq, Nat.add_one_sub_one, Nat.reduceSub, Nat.reduceAdd, Nat.sub_self, Nat.zero_add, Nat.add_sub_cancel]
    refine number_ok z1.1 (p2 (n := 101) (by have := z1.2; omega) (by decide)) fun a a0 a1 => ?_
    refine take_ok w1.1 (p2 (n := 101) (by have := w1.2; omega) (by decide)) fun b b0 b1 => ?_
    simp only [fSeq, fIfS, fB, fIsi, fVar, fC, fOp, fUn, fLs, fRet, fRetN, fCall, fCall0, fCons, fNil, fNext, fNev, fFld, fSet, fOwn, fDrop, fAsg, fPar, fNot, fAnd, fOr, fAndV, fOrV, fNotV, fIf, fTru, fLst, fTup, fMeth, fMeth0, fName, fRaise, fRaise0, fBr, fBor, fApp, fSetI, fAug, fChain, fYes, fSl, fNoPart, fPart, fItL, fItT, fIt, fIsLT, fBrk, fCnt, topE, startD, toB, oI, oI0, oNeg, oAbs, oMax, oMin, oInt, oLen_lst, oLen_tup, oList, oTuple, oCat, oIsB, oNotB, oEq, oNe, eqD, oIsN, oNotN, isN, own_rr, own_ri, own_pp, own_pi, rfl_ir, rfl_ip, neg_r, neg_p, abs_r, tru_lst, tru_tup, tru_int, tru_bl, tru_non, tupG2, tupG4, lstEx, tupEx, lstIs, tupIs, intEx, lst1Ex, lst2Ex, int1Ex, int2Ex, en1Ex, setEx, it_lst, it_tup, oIxL, oIxT, InsD, List.map_cons, List.map_nil, List.cons_append, List.nil_append, List.length_cons, List.length_nil, List.getElem?_cons_zero, List.getElem?_cons_succ, List.set_cons_zero, List.set_cons_succ, List.replicate_succ, List.replicate_zero, Option.some.injEq, exists_eq_left', clsD_rat, clsD_poly, if_true, if_false, List.append_nil, true_and, and_true, true_or, or_true, Bool.false_eq_true, Bool.true_eq_false, reduceCtorEq, Nat.add_one_sub_one, Nat.reduceSub, Nat.reduceAdd, Nat.sub_self, Nat.zero_add, Nat.add_sub_cancel]
    refine ⟨by decide, by rw [prL_len]; exact small_line (by omega), ?_⟩
    have := fin (a, 1 + b) (sz_pr (A := z) (B := w) a0 a1 (by omega) (by omega) (by have := z1.2; omega) (by have := w1.2; omega))
    rw [← prL_app] at this
    exact this
  · simp only [fSeq, fIfS, fB, fIsi, fVar, fC, fOp, fUn, fLs, fRet, fRetN, fCall, fCall0, fCons, fNil, fNext, fNev, fFld, fSet, fOwn, fDrop, fAsg, fPar, fNot, fAnd, fOr, fAndV, fOrV, fNotV, fIf, fTru, fLst, fTup, fMeth, fMeth0, fName, fRaise, fRaise0, fBr, fBor, fApp, fSetI, fAug, fChain, fYes, fSl, fNoPart, fPart, fItL, fItT, fIt, fIsLT, fBrk, fCnt, topE, startD, toB, oI, oI0, oNeg, oAbs, oMax, oMin, oInt, oLen_lst, oLen_tup, oList, oTuple, oCat, oIsB, oNotB, oEq, oNe, eqD, oIsN, oNotN, isN, own_rr, own_ri, own_pp, own_pi, rfl_ir, rfl_ip, neg_r, neg_p, abs_r, tru_lst, tru_tup, tru_int, tru_bl, tru_non, tupG2, tupG4, lstEx, tupEx, lstIs, tupIs, intEx, lst1Ex, lst2Ex, int1Ex, int2Ex, en1Ex, setEx, it_lst, it_tup, oIxL, oIxT, InsD, List.map_cons, List.map_nil, List.cons_append, List.nil_append, List.length_cons, List.length_nil, List.getElem?_cons_zero, List.getElem?_cons_succ, List.set_cons_zero, List.set_cons_succ, List.replicate_succ, List.replicate_zero, Option.some.injEq, exists_eq_left', clsD_rat, clsD_poly, if_true, if_false, List.append_nil, true_and, and_true, true_or, or_true, Bool.false_eq_true, Bool.true_eq_false, reduceCtorEq, Nat.add_one_sub_one, Nat.reduceSub, Nat.reduceAdd, Nat.sub_self, Nat.zero_add, Nat.add_sub_cancel]
    have e : (1 + r).toNat = r.toNat + 1 := by omega
    simp only [rngD, List.length_map, List.length_range, List.length_nil] at h2
    exact p ps' h1 (by omega) (by omega)
theorem min1 {t : Int} (h0 : 0 ≤ t) : min 1 t = 0 ∨ min 1 t = 1 := by omega
theorem p__law_coefficients {cs : List Str} (hR : ("Ratio" : Str) ∈ cs) (hP : ("Poly" : Str) ∈ cs) (ds : List D) (P : D → Prop) (X : XP) (h : fLCoefs ds P X) : f__law_coefficients cs (topE P X0) (startD 6 ds) := by
  obtain ⟨k, rfl, k0, k1, p⟩ := h
  simp only [fSeq, fIfS, fB, fIsi, fVar, fC, fOp, fUn, fLs, fRet, fRetN, fCall, fCall0, fCons, fNil, fNext, fNev, fFld, fSet, fOwn, fDrop, fAsg, fPar, fNot, fAnd, fOr, fAndV, fOrV, fNotV, fIf, fTru, fLst, fTup, fMeth, fMeth0, fName, fRaise, fRaise0, fBr, fBor, fApp, fSetI, fAug, fChain, fYes, fSl, fNoPart, fPart, fItL, fItT, fIt, fIsLT, fBrk, fCnt, topE, startD, toB, oI, oI0, oNeg, oAbs, oMax, oMin, oInt, oLen_lst, oLen_tup, oList, oTuple, oCat, oIsB, oNotB, oEq, oNe, eqD, oIsN, oNotN, isN, own_rr, own_ri, own_pp, own_pi, rfl_ir, rfl_ip, neg_r, neg_p, abs_r, tru_lst, tru_tup, tru_int, tru_bl, tru_non, tupG2, tupG4, lstEx, tupEx, lstIs, tupIs, intEx, lst1Ex, lst2Ex, int1Ex, int2Ex, en1Ex, setEx, it_lst, it_tup, oIxL, oIxT, InsD, List.map_cons, List.map_nil, List.cons_append, List.nil_append, List.length_cons, List.length_nil, List.getElem?_cons_zero, List.getElem?_cons_succ, List.set_cons_zero, List.set_cons_succ, List.replicate_succ, List.replicate_zero, Option.some.injEq, exists_eq_left', clsD_rat, clsD_poly, if_true, if_false, List.append_nil, true_and, and_true, true_or, or_true, Bool.false_eq_true, Bool.true_eq_false, reduceCtorEq, Nat.add_one_sub_one, Nat.reduceSub, Nat.reduceAdd, Nat.sub_self, Nat.zero_add, Nat.add_sub_cancel, f__law_coefficients, fFor, fRng1]
  refine ⟨by decide, by decide, ⟨by decide, by decide, by decide⟩, by decide, ?_⟩
  refine take_ok (by decide) (by decide) fun d d0 d1 => ?_
  refine ix3 d0 d1 fun z hz => ?_
  have z1 : 0 < z ∧ z ≤ 2 ^ 69 := by rcases hz with rfl | rfl | rfl <;> decide
  refine ⟨⟨by decide, by decide, by decide⟩, by decide, ?_⟩
  refine take_ok (by decide) (by decide) fun d d0 d1 => ?_
  refine ix3 d0 d1 fun w hw => ?_
  have w1 : 0 < w ∧ w ≤ 2 ^ 69 := by rcases hw with rfl | rfl | rfl <;> decide
  refine take_ok (by omega) (p2 (n := 30) (by omega) (by decide)) fun r r0 r1 => ?_
  simp only [fSeq, fIfS, fB, fIsi, fVar, fC, fOp, fUn, fLs, fRet, fRetN, fCall, fCall0, fCons, fNil, fNext, fNev, fFld, fSet, fOwn, fDrop, fAsg, fPar, fNot, fAnd, fOr, fAndV, fOrV, fNotV, fIf, fTru, fLst, fTup, fMeth, fMeth0, fName, fRaise, fRaise0, fBr, fBor, fApp, fSetI, fAug, fChain, fYes, fSl, fNoPart, fPart, fItL, fItT, fIt, fIsLT, fBrk, fCnt, topE, startD, toB, oI, oI0, oNeg, oAbs, oMax, oMin, oInt, oLen_lst, oLen_tup, oList, oTuple, oCat, oIsB, oNotB, oEq, oNe, eqD, oIsN, oNotN, isN, own_rr, own_ri, own_pp, own_pi, rfl_ir, rfl_ip, neg_r, neg_p, abs_r, tru_lst, tru_tup, tru_int, tru_bl, tru_non, tupG2, tupG4, lstEx, tupEx, lstIs, tupIs, intEx, lst1Ex, lst2Ex, int1Ex, int2Ex, en1Ex, setEx, it_lst, it_tup, oIxL, oIxT, InsD, List.map_cons, List.map_nil, List.cons_append, List.nil_append, List.length_cons, List.length_nil, List.getElem?_cons_zero, List.getElem?_cons_succ, List.set_cons_zero, List.set_cons_succ, List.replicate_succ, List.replicate_zero, Option.some.injEq, exists_eq_left', clsD_rat, clsD_poly, if_true, if_false, List.append_nil, true_and, and_true, true_or, or_true, Bool.false_eq_true, Bool.true_eq_false, reduceCtorEq, Nat.add_one_sub_one, Nat.reduceSub, Nat.reduceAdd, Nat.sub_self, Nat.zero_add, Nat.add_sub_cancel]
  refine ⟨by omega, by omega, ?_⟩
  refine draw_loop (N := 2000) (S := SzP 70) (fun ps v => [some .feed, some (.int k), some (.lst (prL ps)), some (.int z), some (.int w), v]) (fun _ _ _ => rfl) (fun d ps FD' hs hl fin => ?_) _ [] none (fun _ h => nomatch h) (by simp [rngD]; omega) (fun ps' v' h1 h2 => ?_)
  · simp only [fSeq, fIfS, fB, fIsi, fVar, fC, fOp, fUn, fLs, fRet, fRetN, fCall, fCall0, fCons, fNil, fNext, fNev, fFld, fSet, fOwn, fDrop, fAsg, fPar, fNot, fAnd, fOr, fAndV, fOrV, fNotV, fIf, fTru, fLst, fTup, fMeth, fMeth0, fName, fRaise, fRaise0, fBr, fBor, fApp, fSetI, fAug, fChain, fYes, fSl, fNoPart, fPart, fItL, fItT, fIt, fIsLT, fBrk, fCnt, topE, startD, toB, oI, oI0, oNeg, oAbs, oMax, oMin, oInt, oLen_lst, oLen_tup, oList, oTuple, oCat, oIsB, oNotB, oEq, oNe, eqD, oIsN, oNotN, isN, own_rr, own_ri, own_pp, own_pi, rfl_ir, rfl_ip, neg_r, neg_p, abs_r, tru_lst, tru_tup, tru_int, tru_bl, tru_non, tupG2, tupG4, lstEx, tupEx, lstIs, tupIs, intEx, lst1Ex, lst2Ex, int1Ex, int2Ex, en1Ex, setEx, it_lst, it_tup, oIxL, oIxT, InsD, List.map_cons, List.map_nil, List.cons_append, List.nil_append, List.length_cons, List.length_nil, List.getElem?_cons_zero, List.getElem?_cons_succ, List.set_cons_zero, List.set_cons_succ, List.replicate_succ, List.replicate_zero, Option.some.injEq, exists_eq_left', clsD_rat, clsD_poly, if_true, if_false, List.append_nil, true_and, and_true, true_or, or_true, Bool.false_eq_true, Bool.true_eq_false, reduceCtorEq, Nat.add_one_sub_one, Nat.reduceSub, Nat.reduceAdd, Nat.sub_self, Nat.zero_add, Nat.add_sub_cancel]
    refine number_ok z1.1 (p2 (n := 101) (by have := z1.2; omega) (by decide)) fun a a0 a1 => ?_
    refine take_ok (by decide) (by decide) fun t t0 t1 => ?_
    simp only [fSeq, fIfS, fB, fIsi, fVar, fC, fOp, fUn, fLs, fRet, fRetN, fCall, fCall0, fCons, fNil, fNext, fNev, fFld, fSet, fOwn, fDrop, fAsg, fPar, fNot, fAnd, fOr, fAndV, fOrV, fNotV, fIf, fTru, fLst, fTup, fMeth, fMeth0, fName, fRaise, fRaise0, fBr, fBor, fApp, fSetI, fAug, fChain, fYes, fSl, fNoPart, fPart, fItL, fItT, fIt, fIsLT, fBrk, fCnt, topE, startD, toB, oI, oI0, oNeg, oAbs, oMax, oMin, oInt, oLen_lst, oLen_tup, oList, oTuple, oCat, oIsB, oNotB, oEq, oNe, eqD, oIsN, oNotN, isN, own_rr, own_ri, own_pp, own_pi, rfl_ir, rfl_ip, neg_r, neg_p, abs_r, tru_lst, tru_tup, tru_int, tru_bl, tru_non, tupG2, tupG4, lstEx, tupEx, lstIs, tupIs, intEx, lst1Ex, lst2Ex, int1Ex, int2Ex, en1Ex, setEx, it_lst, it_tup, oIxL, oIxT, InsD, List.map_cons, List.map_nil, List.cons_append, List.nil_append, List.length_cons, List.length_nil, List.getElem?_cons_zero, List.getElem?_cons_succ, List.set_cons_zero, List.set_cons_succ, List.replicate_succ, List.replicate_zero, Option.some.injEq, exists_eq_left', clsD_rat, clsD_poly, if_true, if_false, List.append_nil, true_and, and_true, true_or, or_true, Bool.false_eq_true, Bool.true_eq_false, reduceCtorEq, Nat.add_one_sub_one, Nat.reduceSub, Nat.reduceAdd, Nat.sub_self, Nat.zero_add, Nat.add_sub_cancel]
    have mt := min1 t0
    refine ⟨mul_okR (by omega), ?_⟩
    refine take_ok w1.1 (p2 (n := 101) (by have := w1.2; omega) (by decide)) fun b b0 b1 => ?_
    simp only [fSeq, fIfS, fB, fIsi, fVar, fC, fOp, fUn, fLs, fRet, fRetN, fCall, fCall0, fCons, fNil, fNext, fNev, fFld, fSet, fOwn, fDrop, fAsg, fPar, fNot, fAnd, fOr, fAndV, fOrV, fNotV, fIf, fTru, fLst, fTup, fMeth, fMeth0, fName, fRaise, fRaise0, fBr, fBor, fApp, fSetI, fAug, fChain, fYes, fSl, fNoPart, fPart, fItL, fItT, fIt, fIsLT, fBrk, fCnt, topE, startD, toB, oI, oI0, oNeg, oAbs, oMax, oMin, oInt, oLen_lst, oLen_tup, oList, oTuple, oCat, oIsB, oNotB, oEq, oNe, eqD, oIsN, oNotN, isN, own_rr, own_ri, own_pp, own_pi, rfl_ir, rfl_ip, neg_r, neg_p, abs_r, tru_lst, tru_tup, tru_int, tru_bl, tru_non, tupG2, tupG4, lstEx, tupEx, lstIs, tupIs, intEx, lst1Ex, lst2Ex, int1Ex, int2Ex, en1Ex, setEx, it_lst, it_tup, oIxL, oIxT, InsD, List.map_cons, List.map_nil, List.cons_append, List.nil_append, List.length_cons, List.length_nil, List.getElem?_cons_zero, List.getElem?_cons_succ, List.set_cons_zero, List.set_cons_succ, List.replicate_succ, List.replicate_zero, Option.some.injEq, exists_eq_left', clsD_rat, clsD_poly, if_true, if_false, List.append_nil, true_and, and_true, true_or, or_true, Bool.false_eq_true, Bool.true_eq_false, reduceCtorEq, Nat.add_one_sub_one, Nat.reduceSub, Nat.reduceAdd, Nat.sub_self, Nat.zero_add, Nat.add_sub_cancel]
    refine ⟨by decide, by rw [prL_len]; exact small_line (by omega), ?_⟩
    have ab : -z < a * min 1 t ∧ a * min 1 t < z := by
      rcases mt with e | e <;> rw [e] <;> omega
    have := fin (a * min 1 t, 1 + b) (sz_pr (A := z) (B := w) ab.1 ab.2 (by omega) (by omega) (by have := z1.2; omega) (by have := w1.2; omega))
    rw [← prL_app] at this
    exact this
  · simp only [fSeq, fIfS, fB, fIsi, fVar, fC, fOp, fUn, fLs, fRet, fRetN, fCall, fCall0, fCons, fNil, fNext, fNev, fFld, fSet, fOwn, fDrop, fAsg, fPar, fNot, fAnd, fOr, fAndV, fOrV, fNotV, fIf, fTru, fLst, fTup, fMeth, fMeth0, fName, fRaise, fRaise0, fBr, fBor, fApp, fSetI, fAug, fChain, fYes, fSl, fNoPart, fPart, fItL, fItT, fIt, fIsLT, fBrk, fCnt, topE, startD, toB, oI, oI0, oNeg, oAbs, oMax, oMin, oInt, oLen_lst, oLen_tup, oList, oTuple, oCat, oIsB, oNotB, oEq, oNe, eqD, oIsN, oNotN, isN, own_rr, own_ri, own_pp, own_pi, rfl_ir, rfl_ip, neg_r, neg_p, abs_r, tru_lst, tru_tup, tru_int, tru_bl, tru_non, tupG2, tupG4, lstEx, tupEx, lstIs, tupIs, intEx, lst1Ex, lst2Ex, int1Ex, int2Ex, en1Ex, setEx, it_lst, it_tup, oIxL, oIxT, InsD, List.map_cons, List.map_nil, List.cons_append, List.nil_append, List.length_cons, List.length_nil, List.getElem?_cons_zero, List.getElem?_cons_succ, List.set_cons_zero, List.set_cons_succ, List.replicate_succ, List.replicate_zero, Option.some.injEq, exists_eq_left', clsD_rat, clsD_poly, if_true, if_false, List.append_nil, true_and, and_true, true_or, or_true, Bool.false_eq_true, Bool.true_eq_false, reduceCtorEq, Nat.add_one_sub_one, Nat.reduceSub, Nat.reduceAdd, Nat.sub_self, Nat.zero_add, Nat.add_sub_cancel]
    simp only [rngD, List.length_map, List.length_range, List.length_nil] at h2
    exact p ps' h1 (by omega)
theorem val_zero {p : Int × Int} (h : 0 < p.2) : valP p = 0 ↔ p.1 = 0 := by
  unfold valP
  have e : Rat.divInt p.1 p.2 = Rat.divInt 0 1 ↔ p.1 * 1 = 0 * p.2 := Rat.divInt_eq_divInt_iff (by omega) (by decide)
  have z : Rat.divInt 0 1 = 0 := by decide
  rw [z, Int.mul_one, Int.zero_mul] at e
  exact e
theorem int_ne {b : Int} (h : 0 < b) : ((b : Int) : Rat) ≠ 0 := fun z => by
  have := Rat.intCast_eq_zero_iff.mp z
  omega
theorem val_add {p q : Int × Int} (hp : 0 < p.2) (hq : 0 < q.2) : valP (addP p q) = valP p + valP q := by
  unfold addP
  split
  · rename_i h
    rw [(val_zero hp).mpr h, Rat.zero_add]
  · split
    · rename_i h
      rw [(val_zero hq).mpr h, Rat.add_zero]
    · have h1 := int_ne hp
      have h2 := int_ne hq
      split
      · rename_i h
        unfold valP
        dsimp only
        rw [Rat.divInt_eq_div, Rat.divInt_eq_div, Rat.divInt_eq_div, Rat.intCast_add, ← h]
        grind
      · unfold valP
        dsimp only
        rw [Rat.divInt_eq_div, Rat.divInt_eq_div, Rat.divInt_eq_div, Rat.intCast_add, Rat.intCast_mul, Rat.intCast_mul, Rat.intCast_mul]
        grind
theorem val_mul {p q : Int × Int} (hp : 0 < p.2) (hq : 0 < q.2) : valP (mulP p q) = valP p * valP q := by
  have h1 := int_ne hp
  have h2 := int_ne hq
  unfold valP mulP
  dsimp only
  rw [Rat.divInt_eq_div, Rat.divInt_eq_div, Rat.divInt_eq_div, Rat.intCast_mul, Rat.intCast_mul]
  grind
theorem SzP.mono {n m : Nat} {p : Int × Int} (h : SzP n p) (hn : n ≤ m) : SzP m p := ⟨Nat.lt_of_lt_of_le h.a (Nat.pow_le_pow_right (by decide) hn), Nat.lt_of_lt_of_le h.b (Nat.pow_le_pow_right (by decide) hn), h.pos⟩
theorem mulI_lt {i j : Int} {n m : Nat} (h1 : i.natAbs < 2 ^ n) (h2 : j.natAbs < 2 ^ m) : (i * j).natAbs < 2 ^ (n + m) := by
  rw [Int.natAbs_mul]
  exact lt_mul_pow h1 h2
theorem szP_mul {n m : Nat} {p q : Int × Int} (h1 : SzP n p) (h2 : SzP m q) : SzP (n + m) (mulP p q) := ⟨mulI_lt h1.a h2.a, mulI_lt h1.b h2.b, Int.mul_pos h1.pos h2.pos⟩
theorem szP_add {n m : Nat} {p q : Int × Int} (h1 : SzP n p) (h2 : SzP m q) : SzP (n + m + 1) (addP p q) := by
  unfold addP
  split
  · exact h2.mono (by omega)
  · split
    · exact h1.mono (by omega)
    · split
      · refine ⟨absadd (n := n + m) (Nat.lt_of_lt_of_le h1.a (Nat.pow_le_pow_right (by decide) (by omega))) (Nat.lt_of_lt_of_le h2.a (Nat.pow_le_pow_right (by decide) (by omega))), (h1.mono (m := n + m + 1) (by omega)).b, h1.pos⟩
      · refine ⟨absadd (n := n + m) (mulI_lt h1.a h2.b) (by rw [Nat.add_comm n m]; exact mulI_lt h2.a h1.b), ?_, Int.mul_pos h1.pos h2.pos⟩
        exact Nat.lt_of_lt_of_le (mulI_lt h1.b h2.b) (Nat.pow_le_pow_right (by decide) (by omega))
theorem szP_val {n : Nat} {p : Int × Int} (h : SzP n p) : Sz n (valP p) := sz_div (Int.ne_of_gt h.pos) h.a h.b
theorem coef_val {ps : List (Int × Int)} {k : Nat} {p : Int × Int} (h : ps[k]? = some p) : coef (ps.map valP) k = valP p := coef_some (by rw [List.getElem?_map, h]; rfl)
theorem szL_val {ps : List (Int × Int)} {n : Nat} (h : ∀ p, p ∈ ps → SzP n p) : SzL n (ps.map valP) := fun c hc => by
  obtain ⟨p, hp, rfl⟩ := List.mem_map.mp hc
  exact szP_val (h p hp)
abbrev dueB : FS := fIfS (fB (fOp oNe (fOp oIxL (fOp oIxL (fVar 1) (fVar 3)) (fC (.int 0))) (fC (.int 0)))) (fSet 2 (fCall0 fLAdd [] (fCons (fVar 2) (fCons (fCall0 fLTimes [] (fCons (fOp oIxL (fVar 0) (fVar 3)) (fCons (fOp oIxL (fVar 1) (fVar 3)) fNil))) fNil)))) fNext
theorem due_loop {rs cs : List (Int × Int)} {FD : FEnds} (hr : ∀ p, p ∈ rs → SzP 101 p) (hc : ∀ p, p ∈ cs → SzP 70 p) (hl : cs.length ≤ 100) (hk : ∀ k c, cs[k]? = some c → c.1 ≠ 0 → k < rs.length)
    (fin : ∀ p v3, SzP (1 + cs.length * 172) p → valP p = dotN (cs.map valP) (rs.map valP) cs.length → FD.nx [some (.lst (prL rs)), some (.lst (prL cs)), some (prD p), v3]) :
    ∀ (r i : Nat) (p : Int × Int) (v3 : Option D), i + r = cs.length → SzP (1 + i * 172) p → valP p = dotN (cs.map valP) (rs.map valP) i → forGo (fName 3) dueB FD (rngD (i : Nat) r) [some (.lst (prL rs)), some (.lst (prL cs)), some (prD p), v3]
  | 0, i, p, v3, hi, s, v => by
    have : i = cs.length := by omega
    subst this
    exact fin p v3 s v
  | r + 1, i, p, v3, hi, s, v => by
    have ih := due_loop hr hc hl hk fin r (i + 1)
    have hlt : i < cs.length := by omega
    obtain ⟨c, hci⟩ : ∃ c, cs[i]? = some c := ⟨_, List.getElem?_eq_getElem hlt⟩
    have sc := hc c (List.mem_of_getElem? hci)
    rw [rng_cons]
    unfold forGo
    simp only [fSeq, fIfS, fB, fIsi, fVar, fC, fOp, fUn, fLs, fRet, fRetN, fCall, fCall0, fCons, fNil, fNext, fNev, fFld, fSet, fOwn, fDrop, fAsg, fPar, fNot, fAnd, fOr, fAndV, fOrV, fNotV, fIf, fTru, fLst, fTup, fMeth, fMeth0, fName, fRaise, fRaise0, fBr, fBor, fApp, fSetI, fAug, fChain, fYes, fSl, fNoPart, fPart, fItL, fItT, fIt, fIsLT, fBrk, fCnt, topE, startD, toB, oI, oI0, oNeg, oAbs, oMax, oMin, oInt, oLen_lst, oLen_tup, oList, oTuple, oCat, oIsB, oNotB, oEq, oNe, eqD, oIsN, oNotN, isN, own_rr, own_ri, own_pp, own_pi, rfl_ir, rfl_ip, neg_r, neg_p, abs_r, tru_lst, tru_tup, tru_int, tru_bl, tru_non, tupG2, tupG4, lstEx, tupEx, lstIs, tupIs, intEx, lst1Ex, lst2Ex, int1Ex, int2Ex, en1Ex, setEx, it_lst, it_tup, oIxL, oIxT, InsD, List.map_cons, List.map_nil, List.cons_append, List.nil_append, List.length_cons, List.length_nil, List.getElem?_cons_zero, List.getElem?_cons_succ, List.set_cons_zero, List.set_cons_succ, List.replicate_succ, List.replicate_zero, Option.some.injEq, exists_eq_left', clsD_rat, clsD_poly, if_true, if_false, List.append_nil, true_and, and_true, true_or, or_true, Bool.false_eq_true, Bool.true_eq_false, reduceCtorEq, Nat.add_one_sub_one, Nat.reduceSub, Nat.reduceAdd, Nat.sub_self, Nat.zero_add, Nat.add_sub_cancel]
    refine ix_it rfl (prL_get hci) ?_
    simp only [fSeq, fIfS, fB, fIsi, fVar, fC, fOp, fUn, fLs, fRet, fRetN, fCall, fCall0, fCons, fNil, fNext, fNev, fFld, fSet, fOwn, fDrop, fAsg, fPar, fNot, fAnd, fOr, fAndV, fOrV, fNotV, fIf, fTru, fLst, fTup, fMeth, fMeth0, fName, fRaise, fRaise0, fBr, fBor, fApp, fSetI, fAug, fChain, fYes, fSl, fNoPart, fPart, fItL, fItT, fIt, fIsLT, fBrk, fCnt, topE, startD, toB, oI, oI0, oNeg, oAbs, oMax, oMin, oInt, oLen_lst, oLen_tup, oList, oTuple, oCat, oIsB, oNotB, oEq, oNe, eqD, oIsN, oNotN, isN, own_rr, own_ri, own_pp, own_pi, rfl_ir, rfl_ip, neg_r, neg_p, abs_r, tru_lst, tru_tup, tru_int, tru_bl, tru_non, tupG2, tupG4, lstEx, tupEx, lstIs, tupIs, intEx, lst1Ex, lst2Ex, int1Ex, int2Ex, en1Ex, setEx, it_lst, it_tup, oIxL, oIxT, InsD, List.map_cons, List.map_nil, List.cons_append, List.nil_append, List.length_cons, List.length_nil, List.getElem?_cons_zero, List.getElem?_cons_succ, List.set_cons_zero, List.set_cons_succ, List.replicate_succ, List.replicate_zero, Option.some.injEq, exists_eq_left', clsD_rat, clsD_poly, if_true, if_false, List.append_nil, true_and, and_true, true_or, or_true, Bool.false_eq_true, Bool.true_eq_false, reduceCtorEq, Nat.add_one_sub_one, Nat.reduceSub, Nat.reduceAdd, Nat.sub_self, Nat.zero_add, Nat.add_sub_cancel, ix0]
    by_cases h0 : c.1 = 0
    · rw [decide_eq_true h0, if_neg (by decide)]
      refine ih p _ (by omega) (s.mono (by omega)) ?_
      rw [v]
      show _ = dotN _ _ i + coef _ i * _
      rw [coef_val hci, (val_zero sc.pos).mpr h0, Rat.zero_mul, Rat.add_zero]
    · rw [decide_eq_false h0, if_pos (by decide)]
      have hri := hk i c hci h0
      obtain ⟨q, hqi⟩ : ∃ q, rs[i]? = some q := ⟨_, List.getElem?_eq_getElem hri⟩
      have sq := hr q (List.mem_of_getElem? hqi)
      refine ix_it rfl (prL_get hqi) ?_
      refine ix_it rfl (prL_get hci) ?_
      refine ⟨q, c, 101, 70, rfl, sq, sc, by decide, ?_⟩
      refine ⟨p, mulP q c, _, _, rfl, s, szP_mul sq sc, by omega, ?_⟩
      refine ih (addP p (mulP q c)) _ (by omega) ((szP_add s (szP_mul sq sc)).mono (by omega)) ?_
      rw [val_add s.pos (szP_mul sq sc).pos, val_mul sq.pos sc.pos, v]
      show _ = dotN _ _ i + coef _ i * coef _ i
      rw [coef_val hci, coef_val hqi, Rat.mul_comm]
theorem p__law_due {cs : List Str} (hR : ("Ratio" : Str) ∈ cs) (hP : ("Poly" : Str) ∈ cs) (ds : List D) (P : D → Prop) (X : XP) (h : fLDue ds P X) : f__law_due cs (topE P X0) (startD 4 ds) := by
  obtain ⟨rs, qs, rfl, hr, hc, hl, hk, p⟩ := h
  simp only [fSeq, fIfS, fB, fIsi, fVar, fC, fOp, fUn, fLs, fRet, fRetN, fCall, fCall0, fCons, fNil, fNext, fNev, fFld, fSet, fOwn, fDrop, fAsg, fPar, fNot, fAnd, fOr, fAndV, fOrV, fNotV, fIf, fTru, fLst, fTup, fMeth, fMeth0, fName, fRaise, fRaise0, fBr, fBor, fApp, fSetI, fAug, fChain, fYes, fSl, fNoPart, fPart, fItL, fItT, fIt, fIsLT, fBrk, fCnt, topE, startD, toB, oI, oI0, oNeg, oAbs, oMax, oMin, oInt, oLen_lst, oLen_tup, oList, oTuple, oCat, oIsB, oNotB, oEq, oNe, eqD, oIsN, oNotN, isN, own_rr, own_ri, own_pp, own_pi, rfl_ir, rfl_ip, neg_r, neg_p, abs_r, tru_lst, tru_tup, tru_int, tru_bl, tru_non, tupG2, tupG4, lstEx, tupEx, lstIs, tupIs, intEx, lst1Ex, lst2Ex, int1Ex, int2Ex, en1Ex, setEx, it_lst, it_tup, oIxL, oIxT, InsD, List.map_cons, List.map_nil, List.cons_append, List.nil_append, List.length_cons, List.length_nil, List.getElem?_cons_zero, List.getElem?_cons_succ, List.set_cons_zero, List.set_cons_succ, List.replicate_succ, List.replicate_zero, Option.some.injEq, exists_eq_left', clsD_rat, clsD_poly, if_true, if_false, List.append_nil, true_and, and_true, true_or, or_true, Bool.false_eq_true, Bool.true_eq_false, reduceCtorEq, Nat.add_one_sub_one, Nat.reduceSub, Nat.reduceAdd, Nat.sub_self, Nat.zero_add, Nat.add_sub_cancel, f__law_due, fFor, fRng1, prL_len]
  refine ⟨by decide, by omega, by omega, ?_⟩
  rw [Int.toNat_natCast]
  exact due_loop (FD := (⟨fun ρ => (∃ d, ρ[2]? = some (some d) ∧ P d), P, fun _ => False, fun _ => False, fun _ _ => False⟩ : FEnds)) hr hc hl hk (fun p' v3 s v => ⟨_, rfl, p p' s v⟩) qs.length 0 (0, 1) none (by omega) ⟨by decide, by decide, by decide⟩ rfl
abbrev degB : FS := fIfS (fB (fOp oNe (fOp oIxL (fOp oIxL (fVar 0) (fVar 2)) (fC (.int 0))) (fC (.int 0)))) (fSet 1 (fVar 2)) fNext
theorem deg_loop {cs : List (Int × Int)} {FD : FEnds} (hc : ∀ p, p ∈ cs → SzP 70 p)
    (fin : ∀ v2, FD.nx [some (.lst (prL cs)), some (.int ((szN (coef (cs.map valP)) cs.length : Int) - 1)), v2]) :
    ∀ (r i : Nat) (v2 : Option D), i + r = cs.length → forGo (fName 2) degB FD (rngD (i : Nat) r) [some (.lst (prL cs)), some (.int ((szN (coef (cs.map valP)) i : Int) - 1)), v2]
  | 0, i, v2, hi => by
    have : i = cs.length := by omega
    subst this
    exact fin v2
  | r + 1, i, v2, hi => by
    have ih := deg_loop hc fin r (i + 1)
    have hlt : i < cs.length := by omega
    obtain ⟨c, hci⟩ : ∃ c, cs[i]? = some c := ⟨_, List.getElem?_eq_getElem hlt⟩
    have sc := hc c (List.mem_of_getElem? hci)
    rw [rng_cons]
    unfold forGo
    simp only [fSeq, fIfS, fB, fIsi, fVar, fC, fOp, fUn, fLs, fRet, fRetN, fCall, fCall0, fCons, fNil, fNext, fNev, fFld, fSet, fOwn, fDrop, fAsg, fPar, fNot, fAnd, fOr, fAndV, fOrV, fNotV, fIf, fTru, fLst, fTup, fMeth, fMeth0, fName, fRaise, fRaise0, fBr, fBor, fApp, fSetI, fAug, fChain, fYes, fSl, fNoPart, fPart, fItL, fItT, fIt, fIsLT, fBrk, fCnt, topE, startD, toB, oI, oI0, oNeg, oAbs, oMax, oMin, oInt, oLen_lst, oLen_tup, oList, oTuple, oCat, oIsB, oNotB, oEq, oNe, eqD, oIsN, oNotN, isN, own_rr, own_ri, own_pp, own_pi, rfl_ir, rfl_ip, neg_r, neg_p, abs_r, tru_lst, tru_tup, tru_int, tru_bl, tru_non, tupG2, tupG4, lstEx, tupEx, lstIs, tupIs, intEx, lst1Ex, lst2Ex, int1Ex, int2Ex, en1Ex, setEx, it_lst, it_tup, oIxL, oIxT, InsD, List.map_cons, List.map_nil, List.cons_append, List.nil_append, List.length_cons, List.length_nil, List.getElem?_cons_zero, List.getElem?_cons_succ, List.set_cons_zero, List.set_cons_succ, List.replicate_succ, List.replicate_zero, Option.some.injEq, exists_eq_left', clsD_rat, clsD_poly, if_true, if_false, List.append_nil, true_and, and_true, true_or, or_true, Bool.false_eq_true, Bool.true_eq_false, reduceCtorEq, Nat.add_one_sub_one, Nat.reduceSub, Nat.reduceAdd, Nat.sub_self, Nat.zero_add, Nat.add_sub_cancel]
    refine ix_it rfl (prL_get hci) ?_
    simp only [fSeq, fIfS, fB, fIsi, fVar, fC, fOp, fUn, fLs, fRet, fRetN, fCall, fCall0, fCons, fNil, fNext, fNev, fFld, fSet, fOwn, fDrop, fAsg, fPar, fNot, fAnd, fOr, fAndV, fOrV, fNotV, fIf, fTru, fLst, fTup, fMeth, fMeth0, fName, fRaise, fRaise0, fBr, fBor, fApp, fSetI, fAug, fChain, fYes, fSl, fNoPart, fPart, fItL, fItT, fIt, fIsLT, fBrk, fCnt, topE, startD, toB, oI, oI0, oNeg, oAbs, oMax, oMin, oInt, oLen_lst, oLen_tup, oList, oTuple, oCat, oIsB, oNotB, oEq, oNe, eqD, oIsN, oNotN, isN, own_rr, own_ri, own_pp, own_pi, rfl_ir, rfl_ip, neg_r, neg_p, abs_r, tru_lst, tru_tup, tru_int, tru_bl, tru_non, tupG2, tupG4, lstEx, tupEx, lstIs, tupIs, intEx, lst1Ex, lst2Ex, int1Ex, int2Ex, en1Ex, setEx, it_lst, it_tup, oIxL, oIxT, InsD, List.map_cons, List.map_nil, List.cons_append, List.nil_append, List.length_cons, List.length_nil, List.getElem?_cons_zero, List.getElem?_cons_succ, List.set_cons_zero, List.set_cons_succ, List.replicate_succ, List.replicate_zero, Option.some.injEq, exists_eq_left', clsD_rat, clsD_poly, if_true, if_false, List.append_nil, true_and, and_true, true_or, or_true, Bool.false_eq_true, Bool.true_eq_false, reduceCtorEq, Nat.add_one_sub_one, Nat.reduceSub, Nat.reduceAdd, Nat.sub_self, Nat.zero_add, Nat.add_sub_cancel, ix0]
    have hz : szN (coef (cs.map valP)) (i + 1) = if coef (cs.map valP) i = 0 then szN (coef (cs.map valP)) i else i + 1 := rfl
    by_cases h0 : c.1 = 0
    · rw [decide_eq_true h0, if_neg (by decide)]
      have := ih (some (.int (i : Nat))) (by omega)
      rw [hz, coef_val hci, if_pos ((val_zero sc.pos).mpr h0)] at this
      exact this
    · rw [decide_eq_false h0, if_pos (by decide)]
      have := ih (some (.int (i : Nat))) (by omega)
      rw [hz, coef_val hci, if_neg (fun z => h0 ((val_zero sc.pos).mp z)), show ((i + 1 : Nat) : Int) - 1 = (i : Nat) by omega] at this
      exact this
theorem p__law_degree {cs : List Str} (hR : ("Ratio" : Str) ∈ cs) (hP : ("Poly" : Str) ∈ cs) (ds : List D) (P : D → Prop) (X : XP) (h : fLDeg ds P X) : f__law_degree cs (topE P X0) (startD 3 ds) := by
  obtain ⟨qs, rfl, hc, hl, p⟩ := h
  simp only [fSeq, fIfS, fB, fIsi, fVar, fC, fOp, fUn, fLs, fRet, fRetN, fCall, fCall0, fCons, fNil, fNext, fNev, fFld, fSet, fOwn, fDrop, fAsg, fPar, fNot, fAnd, fOr, fAndV, fOrV, fNotV, fIf, fTru, fLst, fTup, fMeth, fMeth0, fName, fRaise, fRaise0, fBr, fBor, fApp, fSetI, fAug, fChain, fYes, fSl, fNoPart, fPart, fItL, fItT, fIt, fIsLT, fBrk, fCnt, topE, startD, toB, oI, oI0, oNeg, oAbs, oMax, oMin, oInt, oLen_lst, oLen_tup, oList, oTuple, oCat, oIsB, oNotB, oEq, oNe, eqD, oIsN, oNotN, isN, own_rr, own_ri, own_pp, own_pi, rfl_ir, rfl_ip, neg_r, neg_p, abs_r, tru_lst, tru_tup, tru_int, tru_bl, tru_non, tupG2, tupG4, lstEx, tupEx, lstIs, tupIs, intEx, lst1Ex, lst2Ex, int1Ex, int2Ex, en1Ex, setEx, it_lst, it_tup, oIxL, oIxT, InsD, List.map_cons, List.map_nil, List.cons_append, List.nil_append, List.length_cons, List.length_nil, List.getElem?_cons_zero, List.getElem?_cons_succ, List.set_cons_zero, List.set_cons_succ, List.replicate_succ, List.replicate_zero, Option.some.injEq, exists_eq_left', clsD_rat, clsD_poly, if_true, if_false, List.append_nil, true_and, and_true, true_or, or_true, Bool.false_eq_true, Bool.true_eq_false, reduceCtorEq, Nat.add_one_sub_one, Nat.reduceSub, Nat.reduceAdd, Nat.sub_self, Nat.zero_add, Nat.add_sub_cancel, f__law_degree, fFor, fRng1, prL_len]
  refine ⟨by omega, by omega, ?_⟩
  rw [Int.toNat_natCast]
  exact deg_loop (FD := (⟨fun ρ => (∃ d, ρ[1]? = some (some d) ∧ P d), P, fun _ => False, fun _ => False, fun _ _ => False⟩ : FEnds)) hc (fun v2 => ⟨_, rfl, p⟩) qs.length 0 none (by omega)
theorem mean_mono {cs : List Str} {ds : List D} {P P' : D → Prop} {X X' : XP} (h : fMean cs ds P X) (hp : ∀ d, P d → P' d) (hx : ∀ x, X x → X' x) : fMean cs ds P' X' := by
  obtain ⟨d, ps, n, m, e, h1, h2, h3, h4, h5⟩ := h
  exact ⟨d, ps, n, m, e, h1, h2, h3, h4, check_mono h5 (fun e ⟨qs, k1, k2, k3, k4⟩ => ⟨qs, k1, k2, fun z => hx _ (k3 z), fun z => hp _ (k4 z)⟩) hx⟩
theorem p__law_refused {cs : List Str} (hR : ("Ratio" : Str) ∈ cs) (hP : ("Poly" : Str) ∈ cs) (ds : List D) (P : D → Prop) (X : XP) (h : fLRefused cs ds P X) : f__law_refused cs xt18 (topE P X0) (startD 4 ds) := by
  obtain ⟨d, ps, rfl, hm, p⟩ := h
  simp only [fSeq, fIfS, fB, fIsi, fVar, fC, fOp, fUn, fLs, fRet, fRetN, fCall, fCall0, fCons, fNil, fNext, fNev, fFld, fSet, fOwn, fDrop, fAsg, fPar, fNot, fAnd, fOr, fAndV, fOrV, fNotV, fIf, fTru, fLst, fTup, fMeth, fMeth0, fName, fRaise, fRaise0, fBr, fBor, fApp, fSetI, fAug, fChain, fYes, fSl, fNoPart, fPart, fItL, fItT, fIt, fIsLT, fBrk, fCnt, topE, startD, toB, oI, oI0, oNeg, oAbs, oMax, oMin, oInt, oLen_lst, oLen_tup, oList, oTuple, oCat, oIsB, oNotB, oEq, oNe, eqD, oIsN, oNotN, isN, own_rr, own_ri, own_pp, own_pi, rfl_ir, rfl_ip, neg_r, neg_p, abs_r, tru_lst, tru_tup, tru_int, tru_bl, tru_non, tupG2, tupG4, lstEx, tupEx, lstIs, tupIs, intEx, lst1Ex, lst2Ex, int1Ex, int2Ex, en1Ex, setEx, it_lst, it_tup, oIxL, oIxT, InsD, List.map_cons, List.map_nil, List.cons_append, List.nil_append, List.length_cons, List.length_nil, List.getElem?_cons_zero, List.getElem?_cons_succ, List.set_cons_zero, List.set_cons_succ, List.replicate_succ, List.replicate_zero, Option.some.injEq, exists_eq_left', clsD_rat, clsD_poly, if_true, if_false, List.append_nil, true_and, and_true, true_or, or_true, Bool.false_eq_true, Bool.true_eq_false, reduceCtorEq, Nat.add_one_sub_one, Nat.reduceSub, Nat.reduceAdd, Nat.sub_self, Nat.zero_add, Nat.add_sub_cancel, f__law_refused, fTryAs, fLen, fIsX]
  refine mean_mono hm (fun _ z => z.elim) (fun x hx => ?_)
  subst hx
  refine ⟨by simp, by decide, true, by simp, ?_⟩
  simp only [fSeq, fIfS, fB, fIsi, fVar, fC, fOp, fUn, fLs, fRet, fRetN, fCall, fCall0, fCons, fNil, fNext, fNev, fFld, fSet, fOwn, fDrop, fAsg, fPar, fNot, fAnd, fOr, fAndV, fOrV, fNotV, fIf, fTru, fLst, fTup, fMeth, fMeth0, fName, fRaise, fRaise0, fBr, fBor, fApp, fSetI, fAug, fChain, fYes, fSl, fNoPart, fPart, fItL, fItT, fIt, fIsLT, fBrk, fCnt, topE, startD, toB, oI, oI0, oNeg, oAbs, oMax, oMin, oInt, oLen_lst, oLen_tup, oList, oTuple, oCat, oIsB, oNotB, oEq, oNe, eqD, oIsN, oNotN, isN, own_rr, own_ri, own_pp, own_pi, rfl_ir, rfl_ip, neg_r, neg_p, abs_r, tru_lst, tru_tup, tru_int, tru_bl, tru_non, tupG2, tupG4, lstEx, tupEx, lstIs, tupIs, intEx, lst1Ex, lst2Ex, int1Ex, int2Ex, en1Ex, setEx, it_lst, it_tup, oIxL, oIxT, InsD, List.map_cons, List.map_nil, List.cons_append, List.nil_append, List.length_cons, List.length_nil, List.getElem?_cons_zero, List.getElem?_cons_succ, List.set_cons_zero, List.set_cons_succ, List.replicate_succ, List.replicate_zero, Option.some.injEq, exists_eq_left', clsD_rat, clsD_poly, if_true, if_false, List.append_nil, true_and, and_true, true_or, or_true, Bool.false_eq_true, Bool.true_eq_false, reduceCtorEq, Nat.add_one_sub_one, Nat.reduceSub, Nat.reduceAdd, Nat.sub_self, Nat.zero_add, Nat.add_sub_cancel]
  exact ⟨false, by simp, p⟩
/-! ### the law -/
theorem dot_ext {cs ms : List Rat} : ∀ {N : Nat}, cs.length ≤ N → dotN cs ms N = dotN cs ms cs.length
  | 0, h => by rw [show cs.length = 0 by omega]
  | N + 1, h => by
    by_cases e : cs.length = N + 1
    · rw [e]
    · show dotN cs ms N + coef cs N * coef ms N = _
      rw [dot_ext (N := N) (by omega), coef_ge (by omega), Rat.zero_mul, Rat.add_zero]
theorem dot_congr {cs es ms : List Rat} : ∀ {N : Nat}, (∀ k, k < N → coef cs k = coef es k) → dotN cs ms N = dotN es ms N
  | 0, _ => rfl
  | N + 1, h => by
    show dotN cs ms N + coef cs N * coef ms N = dotN es ms N + coef es N * coef ms N
    rw [dot_congr fun k hk => h k (by omega), h N (by omega)]
theorem dot_add {cs es ms : List Rat} : ∀ {N : Nat}, dotN (addL cs es) ms N = dotN cs ms N + dotN es ms N
  | 0 => (Rat.add_zero 0).symm
  | N + 1 => by
    show dotN (addL cs es) ms N + coef (addL cs es) N * coef ms N = (dotN cs ms N + coef cs N * coef ms N) + (dotN es ms N + coef es N * coef ms N)
    rw [dot_add, coef_add]
    grind
theorem strip_le (cs : List Rat) : (strip cs).length ≤ cs.length := by
  rw [strip_len]
  exact szN_le _ _
theorem dot_strip {cs ms : List Rat} {N : Nat} (h : (strip cs).length ≤ N) : dotN (strip cs) ms (strip cs).length = dotN cs ms N := by
  rw [← dot_ext h]
  exact dot_congr fun k _ => coef_strip cs k
theorem szL_strip {n : Nat} {cs : List Rat} (h : SzL n cs) : SzL n (strip cs) := fun c hc => h c (List.mem_of_mem_take hc)
/-- a mean that is there -/
theorem mean_ok {cs : List Str} {d : D} {ps qs : List Rat} {n m : Nat} {items : List D} {P : D → Prop} {X : XP} (hi : itD d = some items) (hq : numsV items = some qs) (h0 : qs ≠ []) (h13 : qs.length ≤ 13) (z1 : SzL n ps) (z2 : SzL m qs) (n0 : 0 < n) (m0 : 0 < m) (hs : (ps.length + 1) * (n + m + 1) ≤ 9000)
    (hl : ps.length ≤ qs.length) (p : P (.rat (dotN ps qs ps.length))) : fMean cs [d, .poly ps] P X := by
  have le := numsV_len hq
  refine ⟨d, ps, n, m, rfl, z1, n0, m0, hs, d, 13, rfl, .inl ⟨items, qs, hi, fun e => h0 (by rw [e] at le; exact List.eq_nil_of_length_eq_zero le.symm), by omega, by omega, hq, qs, rfl, z2, fun z => by omega, fun _ => p⟩⟩
/-- a mean that is not there -/
theorem mean_no {cs : List Str} {d : D} {ps qs : List Rat} {n m : Nat} {items : List D} {P : D → Prop} {X : XP} (hi : itD d = some items) (hq : numsV items = some qs) (h0 : qs ≠ []) (h13 : qs.length ≤ 13) (z1 : SzL n ps) (z2 : SzL m qs) (n0 : 0 < n) (m0 : 0 < m) (hs : (ps.length + 1) * (n + m + 1) ≤ 9000)
    (hl : qs.length < ps.length) (p : X ⟨"NoMean", []⟩) : fMean cs [d, .poly ps] P X := by
  have le := numsV_len hq
  refine ⟨d, ps, n, m, rfl, z1, n0, m0, hs, d, 13, rfl, .inl ⟨items, qs, hi, fun e => h0 (by rw [e] at le; exact List.eq_nil_of_length_eq_zero le.symm), by omega, by omega, hq, qs, rfl, z2, fun _ => p, fun z => by omega⟩⟩
/-- what is drawn -/
structure Dr (rs cs : List (Int × Int)) : Prop where
  r : ∀ p, p ∈ rs → SzP 101 p
  c : ∀ p, p ∈ cs → SzP 70 p
  r0 : 0 < rs.length
  r1 : rs.length ≤ 13
  c1 : cs.length ≤ 14
abbrev E18 (rs cs : List (Int × Int)) (v2 v7 v8 v9 : Option D) : Env := [some .exc, some .feed, v2, some (.lst (prL rs)), some (.lst (prL cs)), some (.poly (strip (cs.map valP))), some (.lst (ratL (rs.map valP))), v7, v8, v9]
section
variable {cs : List Str} {FD : FEnds} {rs qs : List (Int × Int)} {v2 v7 v8 v9 : Option D}
theorem Dr.q0 (h : Dr rs qs) : rs.map valP ≠ [] := fun e => by
  have := congrArg List.length e
  rw [List.length_map, List.length_nil] at this
  have := h.r0
  omega
theorem is_ok {q : Rat} {a b : Int} {n m : Nat} {P : D → Prop} {X : XP} (hb : b ≠ 0) (hq : Sz n q) (ha : a.natAbs < 2 ^ m) (hb2 : b.natAbs < 2 ^ m) (hs : n + m ≤ 1000000) (e : q = Rat.divInt a b) (p : P (.bl true)) : fIs [.rat q, .int a, .int b] P X := ⟨q, a, b, n, m, rfl, hb, hq, ha, hb2, hs, by rw [decide_eq_true e]; exact p⟩
theorem mkPoly_ok {d : D} {items : List D} {es : List Rat} {P : D → Prop} {X : XP} (hi : itD d = some items) (hl : items.length ≤ 100000) (hq : numsV items = some es) (p : P (.poly (strip es))) : fMkPoly cs [d] P X := ⟨d, rfl, .inl ⟨items, es, hi, hl, hq, p⟩⟩
theorem bd_of {L n m : Nat} (h : L ≤ 15) (hn : n + m + 1 ≤ 500) : (L + 1) * (n + m + 1) ≤ 9000 := Nat.le_trans (Nat.mul_le_mul (Nat.succ_le_succ h) hn) (by decide)
theorem b9_ok (h : Dr rs qs) (k : ∀ v7 v8 v9, FD.nx (E18 rs qs v2 v7 v8 v9)) : f_law_b9 cs FD (E18 rs qs v2 v7 v8 v9) := by
  obtain ⟨r, hr⟩ : ∃ r, rs[0]? = some r := ⟨_, List.getElem?_eq_getElem h.r0⟩
  have sr := h.r r (List.mem_of_getElem? hr)
  have z2 := szL_val h.r
  unfold f_law_b9 E18
  simp only [fSeq, fIfS, fB, fIsi, fVar, fC, fOp, fUn, fLs, fRet, fRetN, fCall, fCall0, fCons, fNil, fNext, fNev, fFld, fSet, fOwn, fDrop, fAsg, fPar, fNot, fAnd, fOr, fAndV, fOrV, fNotV, fIf, fTru, fLst, fTup, fMeth, fMeth0, fName, fRaise, fRaise0, fBr, fBor, fApp, fSetI, fAug, fChain, fYes, fSl, fNoPart, fPart, fItL, fItT, fIt, fIsLT, fBrk, fCnt, topE, startD, toB, oI, oI0, oNeg, oAbs, oMax, oMin, oInt, oLen_lst, oLen_tup, oList, oTuple, oCat, oIsB, oNotB, oEq, oNe, eqD, oIsN, oNotN, isN, own_rr, own_ri, own_pp, own_pi, rfl_ir, rfl_ip, neg_r, neg_p, abs_r, tru_lst, tru_tup, tru_int, tru_bl, tru_non, tupG2, tupG4, lstEx, tupEx, lstIs, tupIs, intEx, lst1Ex, lst2Ex, int1Ex, int2Ex, en1Ex, setEx, it_lst, it_tup, oIxL, oIxT, InsD, List.map_cons, List.map_nil, List.cons_append, List.nil_append, List.length_cons, List.length_nil, List.getElem?_cons_zero, List.getElem?_cons_succ, List.set_cons_zero, List.set_cons_succ, List.replicate_succ, List.replicate_zero, Option.some.injEq, exists_eq_left', clsD_rat, clsD_poly, if_true, if_false, List.append_nil, true_and, and_true, true_or, or_true, Bool.false_eq_true, Bool.true_eq_false, reduceCtorEq, Nat.add_one_sub_one, Nat.reduceSub, Nat.reduceAdd, Nat.sub_self, Nat.zero_add, Nat.add_sub_cancel]
  refine ⟨by decide, mkPoly_ok (es := []) rfl (by decide) rfl ?_⟩
  refine mean_ok (n := 1) (m := 101) rfl (nums_ratL _) h.q0 (by rw [List.length_map]; exact h.r1) (ps := strip []) (fun _ h => nomatch h) z2 (by decide) (by decide) (by decide) (by simp [strip]) ?_
  refine is_ok (n := 1) (m := 1) (by decide) sz_zero (by decide) (by decide) (by decide) rfl ?_
  simp only [fSeq, fIfS, fB, fIsi, fVar, fC, fOp, fUn, fLs, fRet, fRetN, fCall, fCall0, fCons, fNil, fNext, fNev, fFld, fSet, fOwn, fDrop, fAsg, fPar, fNot, fAnd, fOr, fAndV, fOrV, fNotV, fIf, fTru, fLst, fTup, fMeth, fMeth0, fName, fRaise, fRaise0, fBr, fBor, fApp, fSetI, fAug, fChain, fYes, fSl, fNoPart, fPart, fItL, fItT, fIt, fIsLT, fBrk, fCnt, topE, startD, toB, oI, oI0, oNeg, oAbs, oMax, oMin, oInt, oLen_lst, oLen_tup, oList, oTuple, oCat, oIsB, oNotB, oEq, oNe, eqD, oIsN, oNotN, isN, own_rr, own_ri, own_pp, own_pi, rfl_ir, rfl_ip, neg_r, neg_p, abs_r, tru_lst, tru_tup, tru_int, tru_bl, tru_non, tupG2, tupG4, lstEx, tupEx, lstIs, tupIs, intEx, lst1Ex, lst2Ex, int1Ex, int2Ex, en1Ex, setEx, it_lst, it_tup, oIxL, oIxT, InsD, List.map_cons, List.map_nil, List.cons_append, List.nil_append, List.length_cons, List.length_nil, List.getElem?_cons_zero, List.getElem?_cons_succ, List.set_cons_zero, List.set_cons_succ, List.replicate_succ, List.replicate_zero, Option.some.injEq, exists_eq_left', clsD_rat, clsD_poly, if_true, if_false, List.append_nil, true_and, and_true, true_or, or_true, Bool.false_eq_true, Bool.true_eq_false, reduceCtorEq, Nat.add_one_sub_one, Nat.reduceSub, Nat.reduceAdd, Nat.sub_self, Nat.zero_add, Nat.add_sub_cancel, Bool.not_true]
  refine ix_it rfl (prL_get hr) ?_
  simp only [fSeq, fIfS, fB, fIsi, fVar, fC, fOp, fUn, fLs, fRet, fRetN, fCall, fCall0, fCons, fNil, fNext, fNev, fFld, fSet, fOwn, fDrop, fAsg, fPar, fNot, fAnd, fOr, fAndV, fOrV, fNotV, fIf, fTru, fLst, fTup, fMeth, fMeth0, fName, fRaise, fRaise0, fBr, fBor, fApp, fSetI, fAug, fChain, fYes, fSl, fNoPart, fPart, fItL, fItT, fIt, fIsLT, fBrk, fCnt, topE, startD, toB, oI, oI0, oNeg, oAbs, oMax, oMin, oInt, oLen_lst, oLen_tup, oList, oTuple, oCat, oIsB, oNotB, oEq, oNe, eqD, oIsN, oNotN, isN, own_rr, own_ri, own_pp, own_pi, rfl_ir, rfl_ip, neg_r, neg_p, abs_r, tru_lst, tru_tup, tru_int, tru_bl, tru_non, tupG2, tupG4, lstEx, tupEx, lstIs, tupIs, intEx, lst1Ex, lst2Ex, int1Ex, int2Ex, en1Ex, setEx, it_lst, it_tup, oIxL, oIxT, InsD, List.map_cons, List.map_nil, List.cons_append, List.nil_append, List.length_cons, List.length_nil, List.getElem?_cons_zero, List.getElem?_cons_succ, List.set_cons_zero, List.set_cons_succ, List.replicate_succ, List.replicate_zero, Option.some.injEq, exists_eq_left', clsD_rat, clsD_poly, if_true, if_false, List.append_nil, true_and, and_true, true_or, or_true, Bool.false_eq_true, Bool.true_eq_false, reduceCtorEq, Nat.add_one_sub_one, Nat.reduceSub, Nat.reduceAdd, Nat.sub_self, Nat.zero_add, Nat.add_sub_cancel, ix0]
  refine ⟨by decide, by decide, mkPoly_ok (es := [((7 : Int) : Rat)]) rfl (by decide) rfl ?_⟩
  have s7 : strip [((7 : Int) : Rat)] = [((7 : Int) : Rat)] := by
    have : ¬ ((7 : Int) : Rat) = 0 := by decide
    simp [strip, szN, coef, this]
  rw [s7]
  have hr1 : Sz 101 ((r.1 : Int) : Rat) := sz_int (by decide) sr.a
  refine mean_ok (n := 4) (m := 101) (qs := [((r.1 : Int) : Rat)]) rfl rfl (by simp) (by simp) (fun c hc => by rw [List.mem_singleton.mp hc]; exact ⟨by decide, by decide⟩) (fun c hc => by rw [List.mem_singleton.mp hc]; exact hr1) (by decide) (by decide) (by decide) (by simp) ?_
  refine ix_it rfl (prL_get hr) ?_
  simp only [fSeq, fIfS, fB, fIsi, fVar, fC, fOp, fUn, fLs, fRet, fRetN, fCall, fCall0, fCons, fNil, fNext, fNev, fFld, fSet, fOwn, fDrop, fAsg, fPar, fNot, fAnd, fOr, fAndV, fOrV, fNotV, fIf, fTru, fLst, fTup, fMeth, fMeth0, fName, fRaise, fRaise0, fBr, fBor, fApp, fSetI, fAug, fChain, fYes, fSl, fNoPart, fPart, fItL, fItT, fIt, fIsLT, fBrk, fCnt, topE, startD, toB, oI, oI0, oNeg, oAbs, oMax, oMin, oInt, oLen_lst, oLen_tup, oList, oTuple, oCat, oIsB, oNotB, oEq, oNe, eqD, oIsN, oNotN, isN, own_rr, own_ri, own_pp, own_pi, rfl_ir, rfl_ip, neg_r, neg_p, abs_r, tru_lst, tru_tup, tru_int, tru_bl, tru_non, tupG2, tupG4, lstEx, tupEx, lstIs, tupIs, intEx, lst1Ex, lst2Ex, int1Ex, int2Ex, en1Ex, setEx, it_lst, it_tup, oIxL, oIxT, InsD, List.map_cons, List.map_nil, List.cons_append, List.nil_append, List.length_cons, List.length_nil, List.getElem?_cons_zero, List.getElem?_cons_succ, List.set_cons_zero, List.set_cons_succ, List.replicate_succ, List.replicate_zero, Option.some.injEq, exists_eq_left', clsD_rat, clsD_poly, if_true, if_false, List.append_nil, true_and, and_true, true_or, or_true, Bool.false_eq_true, Bool.true_eq_false, reduceCtorEq, Nat.add_one_sub_one, Nat.reduceSub, Nat.reduceAdd, Nat.sub_self, Nat.zero_add, Nat.add_sub_cancel, ix0]
  have e : dotN [((7 : Int) : Rat)] [((r.1 : Int) : Rat)] 1 = ((7 * r.1 : Int) : Rat) := by
    show 0 + ((7 : Int) : Rat) * ((r.1 : Int) : Rat) = _
    rw [Rat.zero_add, Rat.intCast_mul]
  have s77 : (7 * r.1).natAbs < 2 ^ 105 := by
    have := sr.a
    omega
  refine ⟨mul_okL (by decide), ?_⟩
  show fIs [.rat (dotN [((7 : Int) : Rat)] [((r.1 : Int) : Rat)] 1), _, _] _ _
  rw [e]
  refine is_ok (n := 105) (m := 105) (by decide) (sz_int (by decide) s77) s77 (by decide) (by decide) (int_div1 _) ?_
  simp only [fSeq, fIfS, fB, fIsi, fVar, fC, fOp, fUn, fLs, fRet, fRetN, fCall, fCall0, fCons, fNil, fNext, fNev, fFld, fSet, fOwn, fDrop, fAsg, fPar, fNot, fAnd, fOr, fAndV, fOrV, fNotV, fIf, fTru, fLst, fTup, fMeth, fMeth0, fName, fRaise, fRaise0, fBr, fBor, fApp, fSetI, fAug, fChain, fYes, fSl, fNoPart, fPart, fItL, fItT, fIt, fIsLT, fBrk, fCnt, topE, startD, toB, oI, oI0, oNeg, oAbs, oMax, oMin, oInt, oLen_lst, oLen_tup, oList, oTuple, oCat, oIsB, oNotB, oEq, oNe, eqD, oIsN, oNotN, isN, own_rr, own_ri, own_pp, own_pi, rfl_ir, rfl_ip, neg_r, neg_p, abs_r, tru_lst, tru_tup, tru_int, tru_bl, tru_non, tupG2, tupG4, lstEx, tupEx, lstIs, tupIs, intEx, lst1Ex, lst2Ex, int1Ex, int2Ex, en1Ex, setEx, it_lst, it_tup, oIxL, oIxT, InsD, List.map_cons, List.map_nil, List.cons_append, List.nil_append, List.length_cons, List.length_nil, List.getElem?_cons_zero, List.getElem?_cons_succ, List.set_cons_zero, List.set_cons_succ, List.replicate_succ, List.replicate_zero, Option.some.injEq, exists_eq_left', clsD_rat, clsD_poly, if_true, if_false, List.append_nil, true_and, and_true, true_or, or_true, Bool.false_eq_true, Bool.true_eq_false, reduceCtorEq, Nat.add_one_sub_one, Nat.reduceSub, Nat.reduceAdd, Nat.sub_self, Nat.zero_add, Nat.add_sub_cancel, Bool.not_true]
  exact k _ _ _
theorem val_list_len : (rs.map valP).length = rs.length := List.length_map ..
theorem szN_zero' (f : Nat → Rat) : ∀ n, (∀ k, k < n → f k = 0) → szN f n = 0
  | 0, _ => rfl
  | n + 1, h => by
    unfold szN
    rw [if_pos (h n (by omega))]
    exact szN_zero' f n fun k hk => h k (by omega)
/-- k zeros, then c -/
def edgeL (k : Nat) (c : Rat) : List Rat := List.replicate k 0 ++ [c]
theorem edge_len (k : Nat) (c : Rat) : (edgeL k c).length = k + 1 := by simp [edgeL]
theorem edge_lt {k j : Nat} {c : Rat} (h : j < k) : coef (edgeL k c) j = 0 := by
  unfold coef edgeL
  rw [List.getElem?_append_left (by simpa using h), List.getElem?_replicate, if_pos h]
  rfl
theorem edge_at (k : Nat) (c : Rat) : coef (edgeL k c) k = c := by
  unfold coef edgeL
  rw [List.getElem?_append_right (by simp)]
  simp
theorem edge_strip {k : Nat} {c : Rat} (h : c ≠ 0) : strip (edgeL k c) = edgeL k c := by
  unfold strip
  have : szN (coef (edgeL k c)) (edgeL k c).length = k + 1 := by
    rw [edge_len]
    unfold szN
    rw [edge_at, if_neg h]
  rw [this, List.take_of_length_le (by simp only [edge_len]; omega)]
theorem edge_dot {k : Nat} {c : Rat} {ms : List Rat} : dotN (edgeL k c) ms (k + 1) = c * coef ms k := by
  have z : ∀ j, j ≤ k → dotN (edgeL k c) ms j = 0 := by
    intro j
    induction j with
    | zero => intro _; rfl
    | succ j ih =>
      intro hj
      show dotN (edgeL k c) ms j + coef (edgeL k c) j * coef ms j = 0
      rw [ih (by omega), edge_lt (by omega), Rat.zero_mul, Rat.add_zero]
  show dotN (edgeL k c) ms k + coef (edgeL k c) k * coef ms k = _
  rw [z k (Nat.le_refl _), edge_at, Rat.zero_add]
theorem edge_sz {k : Nat} {c : Rat} {n : Nat} (h : Sz n c) (hn : 0 < n) : SzL n (edgeL k c) := fun d hd => by
  unfold edgeL at hd
  rcases List.mem_append.mp hd with h1 | h1
  · rw [(List.mem_replicate.mp h1).2]
    exact sz_zero.mono hn
  · rw [List.mem_singleton.mp h1]
    exact h
theorem nums_edge : ∀ (k : Nat) (c : Int), numsV (List.replicate k (.int 0) ++ [.int c]) = some (edgeL k (c : Rat))
  | 0, c => rfl
  | k + 1, c => by
    rw [List.replicate_succ, List.cons_append]
    simp only [numsV, numV, nums_edge k c]
    rfl
theorem last_at {α : Type} {xs : List α} {x : α} (h : xs[xs.length - 1]? = some x) (h0 : 0 < xs.length) : atI xs (-1) = some x := by
  unfold atI ixN
  rw [if_neg (by decide), if_pos (by omega)]
  show xs[(-1 + (xs.length : Int)).toNat]? = _
  rw [show (-1 + (xs.length : Int)).toNat = xs.length - 1 by omega]
  exact h
theorem b8_ok (h : Dr rs qs) (k : ∀ v7 v8 v9, FD.nx (E18 rs qs v2 v7 v8 v9)) : f_law_b8 cs FD (E18 rs qs v2 v7 (some (.lst (List.replicate (rs.length - 1) (.int 0) ++ [.int 2]))) v9) := by
  have h0 := h.r0
  obtain ⟨r, hr⟩ : ∃ r, rs[rs.length - 1]? = some r := ⟨_, List.getElem?_eq_getElem (by omega)⟩
  have sr := h.r r (List.mem_of_getElem? hr)
  have z2 := szL_val h.r
  have two : ((2 : Int) : Rat) ≠ 0 := by decide
  have s2 : Sz 2 ((2 : Int) : Rat) := ⟨by decide, by decide⟩
  have r13 := h.r1
  have lenv : (rs.map valP).length = rs.length := List.length_map ..
  have le1 : (edgeL (rs.length - 1) ((2 : Int) : Rat)).length = rs.length := by rw [edge_len]; omega
  have le2 : (edgeL rs.length ((2 : Int) : Rat)).length = rs.length + 1 := edge_len _ _
  have lix : ∀ {P : D → Prop} {X : XP}, P (prD r) → oIx (.lst (prL rs)) (.int (-1)) P X := fun p => ⟨_, _, _, .inl rfl, rfl, last_at (by rw [prL_len]; exact prL_get hr) (by rw [prL_len]; exact h0), p⟩
  unfold f_law_b8 E18
  simp only [fSeq, fIfS, fB, fIsi, fVar, fC, fOp, fUn, fLs, fRet, fRetN, fCall, fCall0, fCons, fNil, fNext, fNev, fFld, fSet, fOwn, fDrop, fAsg, fPar, fNot, fAnd, fOr, fAndV, fOrV, fNotV, fIf, fTru, fLst, fTup, fMeth, fMeth0, fName, fRaise, fRaise0, fBr, fBor, fApp, fSetI, fAug, fChain, fYes, fSl, fNoPart, fPart, fItL, fItT, fIt, fIsLT, fBrk, fCnt, topE, startD, toB, oI, oI0, oNeg, oAbs, oMax, oMin, oInt, oLen_lst, oLen_tup, oList, oTuple, oCat, oIsB, oNotB, oEq, oNe, eqD, oIsN, oNotN, isN, own_rr, own_ri, own_pp, own_pi, rfl_ir, rfl_ip, neg_r, neg_p, abs_r, tru_lst, tru_tup, tru_int, tru_bl, tru_non, tupG2, tupG4, lstEx, tupEx, lstIs, tupIs, intEx, lst1Ex, lst2Ex, int1Ex, int2Ex, en1Ex, setEx, it_lst, it_tup, oIxL, oIxT, InsD, List.map_cons, List.map_nil, List.cons_append, List.nil_append, List.length_cons, List.length_nil, List.getElem?_cons_zero, List.getElem?_cons_succ, List.set_cons_zero, List.set_cons_succ, List.replicate_succ, List.replicate_zero, Option.some.injEq, exists_eq_left', clsD_rat, clsD_poly, if_true, if_false, List.append_nil, true_and, and_true, true_or, or_true, Bool.false_eq_true, Bool.true_eq_false, reduceCtorEq, Nat.add_one_sub_one, Nat.reduceSub, Nat.reduceAdd, Nat.sub_self, Nat.zero_add, Nat.add_sub_cancel]
  refine mkPoly_ok (es := edgeL (rs.length - 1) ((2 : Int) : Rat)) rfl (by simp; omega) (nums_edge _ _) ?_
  rw [edge_strip two]
  refine mean_ok (n := 2) (m := 101) rfl (nums_ratL _) h.q0 (by simp only [lenv]; exact h.r1) (edge_sz s2 (by decide)) z2 (by decide) (by decide) (bd_of (by rw [le1]; omega) (by decide)) (by rw [le1, lenv]; exact Nat.le_refl _) ?_
  refine lix ?_
  simp only [fSeq, fIfS, fB, fIsi, fVar, fC, fOp, fUn, fLs, fRet, fRetN, fCall, fCall0, fCons, fNil, fNext, fNev, fFld, fSet, fOwn, fDrop, fAsg, fPar, fNot, fAnd, fOr, fAndV, fOrV, fNotV, fIf, fTru, fLst, fTup, fMeth, fMeth0, fName, fRaise, fRaise0, fBr, fBor, fApp, fSetI, fAug, fChain, fYes, fSl, fNoPart, fPart, fItL, fItT, fIt, fIsLT, fBrk, fCnt, topE, startD, toB, oI, oI0, oNeg, oAbs, oMax, oMin, oInt, oLen_lst, oLen_tup, oList, oTuple, oCat, oIsB, oNotB, oEq, oNe, eqD, oIsN, oNotN, isN, own_rr, own_ri, own_pp, own_pi, rfl_ir, rfl_ip, neg_r, neg_p, abs_r, tru_lst, tru_tup, tru_int, tru_bl, tru_non, tupG2, tupG4, lstEx, tupEx, lstIs, tupIs, intEx, lst1Ex, lst2Ex, int1Ex, int2Ex, en1Ex, setEx, it_lst, it_tup, oIxL, oIxT, InsD, List.map_cons, List.map_nil, List.cons_append, List.nil_append, List.length_cons, List.length_nil, List.getElem?_cons_zero, List.getElem?_cons_succ, List.set_cons_zero, List.set_cons_succ, List.replicate_succ, List.replicate_zero, Option.some.injEq, exists_eq_left', clsD_rat, clsD_poly, if_true, if_false, List.append_nil, true_and, and_true, true_or, or_true, Bool.false_eq_true, Bool.true_eq_false, reduceCtorEq, Nat.add_one_sub_one, Nat.reduceSub, Nat.reduceAdd, Nat.sub_self, Nat.zero_add, Nat.add_sub_cancel, ix0]
  refine ⟨mul_okL (by decide), ?_⟩
  refine lix ?_
  simp only [fSeq, fIfS, fB, fIsi, fVar, fC, fOp, fUn, fLs, fRet, fRetN, fCall, fCall0, fCons, fNil, fNext, fNev, fFld, fSet, fOwn, fDrop, fAsg, fPar, fNot, fAnd, fOr, fAndV, fOrV, fNotV, fIf, fTru, fLst, fTup, fMeth, fMeth0, fName, fRaise, fRaise0, fBr, fBor, fApp, fSetI, fAug, fChain, fYes, fSl, fNoPart, fPart, fItL, fItT, fIt, fIsLT, fBrk, fCnt, topE, startD, toB, oI, oI0, oNeg, oAbs, oMax, oMin, oInt, oLen_lst, oLen_tup, oList, oTuple, oCat, oIsB, oNotB, oEq, oNe, eqD, oIsN, oNotN, isN, own_rr, own_ri, own_pp, own_pi, rfl_ir, rfl_ip, neg_r, neg_p, abs_r, tru_lst, tru_tup, tru_int, tru_bl, tru_non, tupG2, tupG4, lstEx, tupEx, lstIs, tupIs, intEx, lst1Ex, lst2Ex, int1Ex, int2Ex, en1Ex, setEx, it_lst, it_tup, oIxL, oIxT, InsD, List.map_cons, List.map_nil, List.cons_append, List.nil_append, List.length_cons, List.length_nil, List.getElem?_cons_zero, List.getElem?_cons_succ, List.set_cons_zero, List.set_cons_succ, List.replicate_succ, List.replicate_zero, Option.some.injEq, exists_eq_left', clsD_rat, clsD_poly, if_true, if_false, List.append_nil, true_and, and_true, true_or, or_true, Bool.false_eq_true, Bool.true_eq_false, reduceCtorEq, Nat.add_one_sub_one, Nat.reduceSub, Nat.reduceAdd, Nat.sub_self, Nat.zero_add, Nat.add_sub_cancel, ix1]
  rw [edge_len, edge_dot, coef_val hr]
  have e2 : ((2 : Int) : Rat) * valP r = Rat.divInt (2 * r.1) r.2 := by
    have h2 := int_ne sr.pos
    unfold valP
    rw [Rat.divInt_eq_div, Rat.divInt_eq_div, Rat.intCast_mul]
    grind
  refine is_ok (n := 103) (m := 103) (Int.ne_of_gt sr.pos) (s2.mul (szP_val sr)) (by have := sr.a; omega) (by have := sr.b; omega) (by decide) e2 ?_
  simp only [fSeq, fIfS, fB, fIsi, fVar, fC, fOp, fUn, fLs, fRet, fRetN, fCall, fCall0, fCons, fNil, fNext, fNev, fFld, fSet, fOwn, fDrop, fAsg, fPar, fNot, fAnd, fOr, fAndV, fOrV, fNotV, fIf, fTru, fLst, fTup, fMeth, fMeth0, fName, fRaise, fRaise0, fBr, fBor, fApp, fSetI, fAug, fChain, fYes, fSl, fNoPart, fPart, fItL, fItT, fIt, fIsLT, fBrk, fCnt, topE, startD, toB, oI, oI0, oNeg, oAbs, oMax, oMin, oInt, oLen_lst, oLen_tup, oList, oTuple, oCat, oIsB, oNotB, oEq, oNe, eqD, oIsN, oNotN, isN, own_rr, own_ri, own_pp, own_pi, rfl_ir, rfl_ip, neg_r, neg_p, abs_r, tru_lst, tru_tup, tru_int, tru_bl, tru_non, tupG2, tupG4, lstEx, tupEx, lstIs, tupIs, intEx, lst1Ex, lst2Ex, int1Ex, int2Ex, en1Ex, setEx, it_lst, it_tup, oIxL, oIxT, InsD, List.map_cons, List.map_nil, List.cons_append, List.nil_append, List.length_cons, List.length_nil, List.getElem?_cons_zero, List.getElem?_cons_succ, List.set_cons_zero, List.set_cons_succ, List.replicate_succ, List.replicate_zero, Option.some.injEq, exists_eq_left', clsD_rat, clsD_poly, if_true, if_false, List.append_nil, true_and, and_true, true_or, or_true, Bool.false_eq_true, Bool.true_eq_false, reduceCtorEq, Nat.add_one_sub_one, Nat.reduceSub, Nat.reduceAdd, Nat.sub_self, Nat.zero_add, Nat.add_sub_cancel, Bool.not_true]
  refine ⟨by decide, by simp; have : sizeLine = 2 ^ 24 := rfl; omega, ?_⟩
  have ed : [D.int 0] ++ (List.replicate (rs.length - 1) (.int 0) ++ [.int 2]) = List.replicate rs.length (.int 0) ++ [.int 2] := by
    conv => rhs; rw [show rs.length = rs.length - 1 + 1 by omega, List.replicate_succ]
    rfl
  rw [show (D.int 0 :: (List.replicate (rs.length - 1) (.int 0) ++ [.int 2])) = List.replicate rs.length (.int 0) ++ [.int 2] from ed]
  refine mkPoly_ok (es := edgeL rs.length ((2 : Int) : Rat)) rfl (by simp; omega) (nums_edge _ _) ?_
  rw [edge_strip two]
  refine ⟨_, _, rfl, mean_no (n := 2) (m := 101) rfl (nums_ratL _) h.q0 (by simp only [lenv]; exact h.r1) (edge_sz s2 (by decide)) z2 (by decide) (by decide) (bd_of (by rw [le2]; omega) (by decide)) (by rw [le2, lenv]; exact Nat.lt_succ_self _) rfl, ?_⟩
  simp only [fSeq, fIfS, fB, fIsi, fVar, fC, fOp, fUn, fLs, fRet, fRetN, fCall, fCall0, fCons, fNil, fNext, fNev, fFld, fSet, fOwn, fDrop, fAsg, fPar, fNot, fAnd, fOr, fAndV, fOrV, fNotV, fIf, fTru, fLst, fTup, fMeth, fMeth0, fName, fRaise, fRaise0, fBr, fBor, fApp, fSetI, fAug, fChain, fYes, fSl, fNoPart, fPart, fItL, fItT, fIt, fIsLT, fBrk, fCnt, topE, startD, toB, oI, oI0, oNeg, oAbs, oMax, oMin, oInt, oLen_lst, oLen_tup, oList, oTuple, oCat, oIsB, oNotB, oEq, oNe, eqD, oIsN, oNotN, isN, own_rr, own_ri, own_pp, own_pi, rfl_ir, rfl_ip, neg_r, neg_p, abs_r, tru_lst, tru_tup, tru_int, tru_bl, tru_non, tupG2, tupG4, lstEx, tupEx, lstIs, tupIs, intEx, lst1Ex, lst2Ex, int1Ex, int2Ex, en1Ex, setEx, it_lst, it_tup, oIxL, oIxT, InsD, List.map_cons, List.map_nil, List.cons_append, List.nil_append, List.length_cons, List.length_nil, List.getElem?_cons_zero, List.getElem?_cons_succ, List.set_cons_zero, List.set_cons_succ, List.replicate_succ, List.replicate_zero, Option.some.injEq, exists_eq_left', clsD_rat, clsD_poly, if_true, if_false, List.append_nil, true_and, and_true, true_or, or_true, Bool.false_eq_true, Bool.true_eq_false, reduceCtorEq, Nat.add_one_sub_one, Nat.reduceSub, Nat.reduceAdd, Nat.sub_self, Nat.zero_add, Nat.add_sub_cancel, Bool.not_true]
  exact b9_ok h k
theorem b7_ok (h : Dr rs qs) (k : ∀ v7 v8 v9, FD.nx (E18 rs qs v2 v7 v8 v9)) : f_law_b7 cs FD (E18 rs qs v2 v7 v8 v9) := by
  have h0 := h.r0
  have h1 := h.r1
  have sl : sizeLine = 2 ^ 24 := rfl
  unfold f_law_b7 E18
  simp only [fSeq, fIfS, fB, fIsi, fVar, fC, fOp, fUn, fLs, fRet, fRetN, fCall, fCall0, fCons, fNil, fNext, fNev, fFld, fSet, fOwn, fDrop, fAsg, fPar, fNot, fAnd, fOr, fAndV, fOrV, fNotV, fIf, fTru, fLst, fTup, fMeth, fMeth0, fName, fRaise, fRaise0, fBr, fBor, fApp, fSetI, fAug, fChain, fYes, fSl, fNoPart, fPart, fItL, fItT, fIt, fIsLT, fBrk, fCnt, topE, startD, toB, oI, oI0, oNeg, oAbs, oMax, oMin, oInt, oLen_lst, oLen_tup, oList, oTuple, oCat, oIsB, oNotB, oEq, oNe, eqD, oIsN, oNotN, isN, own_rr, own_ri, own_pp, own_pi, rfl_ir, rfl_ip, neg_r, neg_p, abs_r, tru_lst, tru_tup, tru_int, tru_bl, tru_non, tupG2, tupG4, lstEx, tupEx, lstIs, tupIs, intEx, lst1Ex, lst2Ex, int1Ex, int2Ex, en1Ex, setEx, it_lst, it_tup, oIxL, oIxT, InsD, List.map_cons, List.map_nil, List.cons_append, List.nil_append, List.length_cons, List.length_nil, List.getElem?_cons_zero, List.getElem?_cons_succ, List.set_cons_zero, List.set_cons_succ, List.replicate_succ, List.replicate_zero, Option.some.injEq, exists_eq_left', clsD_rat, clsD_poly, if_true, if_false, List.append_nil, true_and, and_true, true_or, or_true, Bool.false_eq_true, Bool.true_eq_false, reduceCtorEq, Nat.add_one_sub_one, Nat.reduceSub, Nat.reduceAdd, Nat.sub_self, Nat.zero_add, Nat.add_sub_cancel, oRep, prL_len]
  refine ⟨by decide, ⟨by omega, by omega⟩, by omega, by decide, ?_, ?_⟩
  · simp
    omega
  · have e : (List.replicate ((rs.length : Int) - 1).toNat [D.int 0]).flatten = List.replicate (rs.length - 1) (.int 0) := by
      rw [show ((rs.length : Int) - 1).toNat = rs.length - 1 by omega]
      generalize rs.length - 1 = m
      induction m with
      | zero => rfl
      | succ m ih => rw [List.replicate_succ, List.flatten_cons, ih, List.replicate_succ]; rfl
    rw [e]
    exact b8_ok h k
abbrev numB : FS := fIfS (fNot (fB (fCall0 fIs [] (fCons (fOp oIxL (fVar 6) (fVar 7)) (fCons (fOp oIxL (fOp oIxL (fVar 3) (fVar 7)) (fC (.int 0))) (fCons (fOp oIxL (fOp oIxL (fVar 3) (fVar 7)) (fC (.int 1))) fNil)))))) (fRet (fC (.bl false))) fNext
theorem num_loop (h : Dr rs qs) (fin : ∀ v7, FD.nx (E18 rs qs v2 v7 v8 v9)) :
    ∀ (r i : Nat) (v7 : Option D), i + r = rs.length → forGo (fName 7) numB FD (rngD (i : Nat) r) (E18 rs qs v2 v7 v8 v9)
  | 0, i, v7, hi => fin v7
  | r + 1, i, v7, hi => by
    have ih := num_loop h fin r (i + 1)
    have hlt : i < rs.length := by omega
    obtain ⟨c, hci⟩ : ∃ c, rs[i]? = some c := ⟨_, List.getElem?_eq_getElem hlt⟩
    have sc := h.r c (List.mem_of_getElem? hci)
    rw [rng_cons]
    unfold forGo E18
    simp only [fSeq, fIfS, fB, fIsi, fVar, fC, fOp, fUn, fLs, fRet, fRetN, fCall, fCall0, fCons, fNil, fNext, fNev, fFld, fSet, fOwn, fDrop, fAsg, fPar, fNot, fAnd, fOr, fAndV, fOrV, fNotV, fIf, fTru, fLst, fTup, fMeth, fMeth0, fName, fRaise, fRaise0, fBr, fBor, fApp, fSetI, fAug, fChain, fYes, fSl, fNoPart, fPart, fItL, fItT, fIt, fIsLT, fBrk, fCnt, topE, startD, toB, oI, oI0, oNeg, oAbs, oMax, oMin, oInt, oLen_lst, oLen_tup, oList, oTuple, oCat, oIsB, oNotB, oEq, oNe, eqD, oIsN, oNotN, isN, own_rr, own_ri, own_pp, own_pi, rfl_ir, rfl_ip, neg_r, neg_p, abs_r, tru_lst, tru_tup, tru_int, tru_bl, tru_non, tupG2, tupG4, lstEx, tupEx, lstIs, tupIs, intEx, lst1Ex, lst2Ex, int1Ex, int2Ex, en1Ex, setEx, it_lst, it_tup, oIxL, oIxT, InsD, List.map_cons, List.map_nil, List.cons_append, List.nil_append, List.length_cons, List.length_nil, List.getElem?_cons_zero, List.getElem?_cons_succ, List.set_cons_zero, List.set_cons_succ, List.replicate_succ, List.replicate_zero, Option.some.injEq, exists_eq_left', clsD_rat, clsD_poly, if_true, if_false, List.append_nil, true_and, and_true, true_or, or_true, Bool.false_eq_true, Bool.true_eq_false, reduceCtorEq, Nat.add_one_sub_one, Nat.reduceSub, Nat.reduceAdd, Nat.sub_self, Nat.zero_add, Nat.add_sub_cancel]
    refine ix_it rfl (ratL_get (by rw [List.length_map]; exact hlt)) ?_
    refine ix_it rfl (prL_get hci) ?_
    simp only [fSeq, fIfS, fB, fIsi, fVar, fC, fOp, fUn, fLs, fRet, fRetN, fCall, fCall0, fCons, fNil, fNext, fNev, fFld, fSet, fOwn, fDrop, fAsg, fPar, fNot, fAnd, fOr, fAndV, fOrV, fNotV, fIf, fTru, fLst, fTup, fMeth, fMeth0, fName, fRaise, fRaise0, fBr, fBor, fApp, fSetI, fAug, fChain, fYes, fSl, fNoPart, fPart, fItL, fItT, fIt, fIsLT, fBrk, fCnt, topE, startD, toB, oI, oI0, oNeg, oAbs, oMax, oMin, oInt, oLen_lst, oLen_tup, oList, oTuple, oCat, oIsB, oNotB, oEq, oNe, eqD, oIsN, oNotN, isN, own_rr, own_ri, own_pp, own_pi, rfl_ir, rfl_ip, neg_r, neg_p, abs_r, tru_lst, tru_tup, tru_int, tru_bl, tru_non, tupG2, tupG4, lstEx, tupEx, lstIs, tupIs, intEx, lst1Ex, lst2Ex, int1Ex, int2Ex, en1Ex, setEx, it_lst, it_tup, oIxL, oIxT, InsD, List.map_cons, List.map_nil, List.cons_append, List.nil_append, List.length_cons, List.length_nil, List.getElem?_cons_zero, List.getElem?_cons_succ, List.set_cons_zero, List.set_cons_succ, List.replicate_succ, List.replicate_zero, Option.some.injEq, exists_eq_left', clsD_rat, clsD_poly, if_true, if_false, List.append_nil, true_and, and_true, true_or, or_true, Bool.false_eq_true, Bool.true_eq_false, reduceCtorEq, Nat.add_one_sub_one, Nat.reduceSub, Nat.reduceAdd, Nat.sub_self, Nat.zero_add, Nat.add_sub_cancel, ix0]
    refine ix_it rfl (prL_get hci) ?_
    simp only [fSeq, fIfS, fB, fIsi, fVar, fC, fOp, fUn, fLs, fRet, fRetN, fCall, fCall0, fCons, fNil, fNext, fNev, fFld, fSet, fOwn, fDrop, fAsg, fPar, fNot, fAnd, fOr, fAndV, fOrV, fNotV, fIf, fTru, fLst, fTup, fMeth, fMeth0, fName, fRaise, fRaise0, fBr, fBor, fApp, fSetI, fAug, fChain, fYes, fSl, fNoPart, fPart, fItL, fItT, fIt, fIsLT, fBrk, fCnt, topE, startD, toB, oI, oI0, oNeg, oAbs, oMax, oMin, oInt, oLen_lst, oLen_tup, oList, oTuple, oCat, oIsB, oNotB, oEq, oNe, eqD, oIsN, oNotN, isN, own_rr, own_ri, own_pp, own_pi, rfl_ir, rfl_ip, neg_r, neg_p, abs_r, tru_lst, tru_tup, tru_int, tru_bl, tru_non, tupG2, tupG4, lstEx, tupEx, lstIs, tupIs, intEx, lst1Ex, lst2Ex, int1Ex, int2Ex, en1Ex, setEx, it_lst, it_tup, oIxL, oIxT, InsD, List.map_cons, List.map_nil, List.cons_append, List.nil_append, List.length_cons, List.length_nil, List.getElem?_cons_zero, List.getElem?_cons_succ, List.set_cons_zero, List.set_cons_succ, List.replicate_succ, List.replicate_zero, Option.some.injEq, exists_eq_left', clsD_rat, clsD_poly, if_true, if_false, List.append_nil, true_and, and_true, true_or, or_true, Bool.false_eq_true, Bool.true_eq_false, reduceCtorEq, Nat.add_one_sub_one, Nat.reduceSub, Nat.reduceAdd, Nat.sub_self, Nat.zero_add, Nat.add_sub_cancel, ix1]
    rw [coef_val hci]
    refine is_ok (n := 101) (m := 101) (Int.ne_of_gt sc.pos) (szP_val sc) sc.a sc.b (by decide) rfl ?_
    simp only [fSeq, fIfS, fB, fIsi, fVar, fC, fOp, fUn, fLs, fRet, fRetN, fCall, fCall0, fCons, fNil, fNext, fNev, fFld, fSet, fOwn, fDrop, fAsg, fPar, fNot, fAnd, fOr, fAndV, fOrV, fNotV, fIf, fTru, fLst, fTup, fMeth, fMeth0, fName, fRaise, fRaise0, fBr, fBor, fApp, fSetI, fAug, fChain, fYes, fSl, fNoPart, fPart, fItL, fItT, fIt, fIsLT, fBrk, fCnt, topE, startD, toB, oI, oI0, oNeg, oAbs, oMax, oMin, oInt, oLen_lst, oLen_tup, oList, oTuple, oCat, oIsB, oNotB, oEq, oNe, eqD, oIsN, oNotN, isN, own_rr, own_ri, own_pp, own_pi, rfl_ir, rfl_ip, neg_r, neg_p, abs_r, tru_lst, tru_tup, tru_int, tru_bl, tru_non, tupG2, tupG4, lstEx, tupEx, lstIs, tupIs, intEx, lst1Ex, lst2Ex, int1Ex, int2Ex, en1Ex, setEx, it_lst, it_tup, oIxL, oIxT, InsD, List.map_cons, List.map_nil, List.cons_append, List.nil_append, List.length_cons, List.length_nil, List.getElem?_cons_zero, List.getElem?_cons_succ, List.set_cons_zero, List.set_cons_succ, List.replicate_succ, List.replicate_zero, Option.some.injEq, exists_eq_left', clsD_rat, clsD_poly, if_true, if_false, List.append_nil, true_and, and_true, true_or, or_true, Bool.false_eq_true, Bool.true_eq_false, reduceCtorEq, Nat.add_one_sub_one, Nat.reduceSub, Nat.reduceAdd, Nat.sub_self, Nat.zero_add, Nat.add_sub_cancel, Bool.not_true]
    exact ih _ (by omega)
theorem b6_ok (h : Dr rs qs) (k : ∀ v7 v8 v9, FD.nx (E18 rs qs v2 v7 v8 v9)) : f_law_b6 cs FD (E18 rs qs v2 v7 v8 v9) := by
  have h1 := h.r1
  unfold f_law_b6
  simp only [fSeq, fIfS, fB, fIsi, fVar, fC, fOp, fUn, fLs, fRet, fRetN, fCall, fCall0, fCons, fNil, fNext, fNev, fFld, fSet, fOwn, fDrop, fAsg, fPar, fNot, fAnd, fOr, fAndV, fOrV, fNotV, fIf, fTru, fLst, fTup, fMeth, fMeth0, fName, fRaise, fRaise0, fBr, fBor, fApp, fSetI, fAug, fChain, fYes, fSl, fNoPart, fPart, fItL, fItT, fIt, fIsLT, fBrk, fCnt, topE, startD, toB, oI, oI0, oNeg, oAbs, oMax, oMin, oInt, oLen_lst, oLen_tup, oList, oTuple, oCat, oIsB, oNotB, oEq, oNe, eqD, oIsN, oNotN, isN, own_rr, own_ri, own_pp, own_pi, rfl_ir, rfl_ip, neg_r, neg_p, abs_r, tru_lst, tru_tup, tru_int, tru_bl, tru_non, tupG2, tupG4, lstEx, tupEx, lstIs, tupIs, intEx, lst1Ex, lst2Ex, int1Ex, int2Ex, en1Ex, setEx, it_lst, it_tup, oIxL, oIxT, InsD, List.map_cons, List.map_nil, List.cons_append, List.nil_append, List.length_cons, List.length_nil, List.getElem?_cons_zero, List.getElem?_cons_succ, List.set_cons_zero, List.set_cons_succ, List.replicate_succ, List.replicate_zero, Option.some.injEq, exists_eq_left', clsD_rat, clsD_poly, if_true, if_false, List.append_nil, true_and, and_true, true_or, or_true, Bool.false_eq_true, Bool.true_eq_false, reduceCtorEq, Nat.add_one_sub_one, Nat.reduceSub, Nat.reduceAdd, Nat.sub_self, Nat.zero_add, Nat.add_sub_cancel, fFor, fRng1, prL_len]
  refine ⟨by omega, by omega, ?_⟩
  rw [Int.toNat_natCast]
  exact num_loop h (fun v7 => b7_ok h k) rs.length 0 v7 (by omega)
theorem strip_val_len : (strip (qs.map valP)).length = szN (coef (qs.map valP)) qs.length := by
  rw [strip_len, List.length_map]
theorem b5_ok (h : Dr rs qs) (k : ∀ v7 v8 v9, FD.nx (E18 rs qs v2 v7 v8 v9)) : f_law_b5 cs FD (E18 rs qs v2 v7 v8 v9) := by
  have h0 := h.r0
  have h1 := h.r1
  have c1 := h.c1
  have lenv : (rs.map valP).length = rs.length := List.length_map ..
  have lenq : (qs.map valP).length = qs.length := List.length_map ..
  have zr := szL_val h.r
  have zc := szL_val h.c
  have zs := szL_strip zc
  have ls : (strip (qs.map valP)).length ≤ qs.length := by have := strip_le (qs.map valP); omega
  have bd : ((strip (qs.map valP)).length + 1) * (70 + 101 + 1) ≤ 9000 := bd_of (by omega) (by decide)
  unfold f_law_b5 E18
  simp only [fSeq, fIfS, fB, fIsi, fVar, fC, fOp, fUn, fLs, fRet, fRetN, fCall, fCall0, fCons, fNil, fNext, fNev, fFld, fSet, fOwn, fDrop, fAsg, fPar, fNot, fAnd, fOr, fAndV, fOrV, fNotV, fIf, fTru, fLst, fTup, fMeth, fMeth0, fName, fRaise, fRaise0, fBr, fBor, fApp, fSetI, fAug, fChain, fYes, fSl, fNoPart, fPart, fItL, fItT, fIt, fIsLT, fBrk, fCnt, topE, startD, toB, oI, oI0, oNeg, oAbs, oMax, oMin, oInt, oLen_lst, oLen_tup, oList, oTuple, oCat, oIsB, oNotB, oEq, oNe, eqD, oIsN, oNotN, isN, own_rr, own_ri, own_pp, own_pi, rfl_ir, rfl_ip, neg_r, neg_p, abs_r, tru_lst, tru_tup, tru_int, tru_bl, tru_non, tupG2, tupG4, lstEx, tupEx, lstIs, tupIs, intEx, lst1Ex, lst2Ex, int1Ex, int2Ex, en1Ex, setEx, it_lst, it_tup, oIxL, oIxT, InsD, List.map_cons, List.map_nil, List.cons_append, List.nil_append, List.length_cons, List.length_nil, List.getElem?_cons_zero, List.getElem?_cons_succ, List.set_cons_zero, List.set_cons_succ, List.replicate_succ, List.replicate_zero, Option.some.injEq, exists_eq_left', clsD_rat, clsD_poly, if_true, if_false, List.append_nil, true_and, and_true, true_or, or_true, Bool.false_eq_true, Bool.true_eq_false, reduceCtorEq, Nat.add_one_sub_one, Nat.reduceSub, Nat.reduceAdd, Nat.sub_self, Nat.zero_add, Nat.add_sub_cancel, prL_len]
  refine ⟨qs, rfl, h.c, by omega, ?_⟩
  simp only [fSeq, fIfS, fB, fIsi, fVar, fC, fOp, fUn, fLs, fRet, fRetN, fCall, fCall0, fCons, fNil, fNext, fNev, fFld, fSet, fOwn, fDrop, fAsg, fPar, fNot, fAnd, fOr, fAndV, fOrV, fNotV, fIf, fTru, fLst, fTup, fMeth, fMeth0, fName, fRaise, fRaise0, fBr, fBor, fApp, fSetI, fAug, fChain, fYes, fSl, fNoPart, fPart, fItL, fItT, fIt, fIsLT, fBrk, fCnt, topE, startD, toB, oI, oI0, oNeg, oAbs, oMax, oMin, oInt, oLen_lst, oLen_tup, oList, oTuple, oCat, oIsB, oNotB, oEq, oNe, eqD, oIsN, oNotN, isN, own_rr, own_ri, own_pp, own_pi, rfl_ir, rfl_ip, neg_r, neg_p, abs_r, tru_lst, tru_tup, tru_int, tru_bl, tru_non, tupG2, tupG4, lstEx, tupEx, lstIs, tupIs, intEx, lst1Ex, lst2Ex, int1Ex, int2Ex, en1Ex, setEx, it_lst, it_tup, oIxL, oIxT, InsD, List.map_cons, List.map_nil, List.cons_append, List.nil_append, List.length_cons, List.length_nil, List.getElem?_cons_zero, List.getElem?_cons_succ, List.set_cons_zero, List.set_cons_succ, List.replicate_succ, List.replicate_zero, Option.some.injEq, exists_eq_left', clsD_rat, clsD_poly, if_true, if_false, List.append_nil, true_and, and_true, true_or, or_true, Bool.false_eq_true, Bool.true_eq_false, reduceCtorEq, Nat.add_one_sub_one, Nat.reduceSub, Nat.reduceAdd, Nat.sub_self, Nat.zero_add, Nat.add_sub_cancel]
  by_cases hd : rs.length < (strip (qs.map valP)).length
  · rw [decide_eq_true (by rw [← strip_val_len]; omega), if_pos rfl]
    refine ⟨_, _, rfl, mean_no (n := 70) (m := 101) rfl (nums_ratL _) h.q0 (by rw [lenv]; exact h1) zs zr (by decide) (by decide) bd (by rw [lenv]; exact hd) rfl, ?_⟩
    simp only [fSeq, fIfS, fB, fIsi, fVar, fC, fOp, fUn, fLs, fRet, fRetN, fCall, fCall0, fCons, fNil, fNext, fNev, fFld, fSet, fOwn, fDrop, fAsg, fPar, fNot, fAnd, fOr, fAndV, fOrV, fNotV, fIf, fTru, fLst, fTup, fMeth, fMeth0, fName, fRaise, fRaise0, fBr, fBor, fApp, fSetI, fAug, fChain, fYes, fSl, fNoPart, fPart, fItL, fItT, fIt, fIsLT, fBrk, fCnt, topE, startD, toB, oI, oI0, oNeg, oAbs, oMax, oMin, oInt, oLen_lst, oLen_tup, oList, oTuple, oCat, oIsB, oNotB, oEq, oNe, eqD, oIsN, oNotN, isN, own_rr, own_ri, own_pp, own_pi, rfl_ir, rfl_ip, neg_r, neg_p, abs_r, tru_lst, tru_tup, tru_int, tru_bl, tru_non, tupG2, tupG4, lstEx, tupEx, lstIs, tupIs, intEx, lst1Ex, lst2Ex, int1Ex, int2Ex, en1Ex, setEx, it_lst, it_tup, oIxL, oIxT, InsD, List.map_cons, List.map_nil, List.cons_append, List.nil_append, List.length_cons, List.length_nil, List.getElem?_cons_zero, List.getElem?_cons_succ, List.set_cons_zero, List.set_cons_succ, List.replicate_succ, List.replicate_zero, Option.some.injEq, exists_eq_left', clsD_rat, clsD_poly, if_true, if_false, List.append_nil, true_and, and_true, true_or, or_true, Bool.false_eq_true, Bool.true_eq_false, reduceCtorEq, Nat.add_one_sub_one, Nat.reduceSub, Nat.reduceAdd, Nat.sub_self, Nat.zero_add, Nat.add_sub_cancel, Bool.not_true]
    refine ⟨_, _, rfl, mean_no (n := 70) (m := 101) rfl (nums_ratL _) h.q0 (by rw [lenv]; exact h1) zs zr (by decide) (by decide) bd (by rw [lenv]; exact hd) rfl, ?_⟩
    simp only [fSeq, fIfS, fB, fIsi, fVar, fC, fOp, fUn, fLs, fRet, fRetN, fCall, fCall0, fCons, fNil, fNext, fNev, fFld, fSet, fOwn, fDrop, fAsg, fPar, fNot, fAnd, fOr, fAndV, fOrV, fNotV, fIf, fTru, fLst, fTup, fMeth, fMeth0, fName, fRaise, fRaise0, fBr, fBor, fApp, fSetI, fAug, fChain, fYes, fSl, fNoPart, fPart, fItL, fItT, fIt, fIsLT, fBrk, fCnt, topE, startD, toB, oI, oI0, oNeg, oAbs, oMax, oMin, oInt, oLen_lst, oLen_tup, oList, oTuple, oCat, oIsB, oNotB, oEq, oNe, eqD, oIsN, oNotN, isN, own_rr, own_ri, own_pp, own_pi, rfl_ir, rfl_ip, neg_r, neg_p, abs_r, tru_lst, tru_tup, tru_int, tru_bl, tru_non, tupG2, tupG4, lstEx, tupEx, lstIs, tupIs, intEx, lst1Ex, lst2Ex, int1Ex, int2Ex, en1Ex, setEx, it_lst, it_tup, oIxL, oIxT, InsD, List.map_cons, List.map_nil, List.cons_append, List.nil_append, List.length_cons, List.length_nil, List.getElem?_cons_zero, List.getElem?_cons_succ, List.set_cons_zero, List.set_cons_succ, List.replicate_succ, List.replicate_zero, Option.some.injEq, exists_eq_left', clsD_rat, clsD_poly, if_true, if_false, List.append_nil, true_and, and_true, true_or, or_true, Bool.false_eq_true, Bool.true_eq_false, reduceCtorEq, Nat.add_one_sub_one, Nat.reduceSub, Nat.reduceAdd, Nat.sub_self, Nat.zero_add, Nat.add_sub_cancel, Bool.not_true]
    exact b6_ok h k
  · have hle : (strip (qs.map valP)).length ≤ (rs.map valP).length := by omega
    rw [decide_eq_false (by rw [← strip_val_len]; omega), if_neg (by decide)]
    refine ⟨rs, qs, rfl, h.r, h.c, by omega, fun j c hj hc => ?_, fun p sp vp => ?_⟩
    · rcases Nat.lt_or_ge j rs.length with z | z
      · exact z
      · exfalso
        have hjl := (List.getElem?_eq_some_iff.mp hj).1
        have := szN_zero (coef (qs.map valP)) qs.length j (by rw [← strip_val_len]; omega) hjl
        rw [coef_val hj] at this
        exact hc ((val_zero (h.c c (List.mem_of_getElem? hj)).pos).mp this)
    · have ed : dotN (strip (qs.map valP)) (rs.map valP) (strip (qs.map valP)).length = valP p := by
        rw [vp]
        exact dot_strip ls
      have sd : Sz (1 + (strip (qs.map valP)).length * 172) (dotN (strip (qs.map valP)) (rs.map valP) (strip (qs.map valP)).length) := dot_sz zs zr (by decide) (by decide) _
      have isd : ∀ {P : D → Prop} {X : XP}, P (.bl true) → fIs [.rat (dotN (strip (qs.map valP)) (rs.map valP) (strip (qs.map valP)).length), .int p.1, .int p.2] P X := fun q => is_ok (Int.ne_of_gt sp.pos) sd sp.a sp.b (by omega) ed q
      simp only [fSeq, fIfS, fB, fIsi, fVar, fC, fOp, fUn, fLs, fRet, fRetN, fCall, fCall0, fCons, fNil, fNext, fNev, fFld, fSet, fOwn, fDrop, fAsg, fPar, fNot, fAnd, fOr, fAndV, fOrV, fNotV, fIf, fTru, fLst, fTup, fMeth, fMeth0, fName, fRaise, fRaise0, fBr, fBor, fApp, fSetI, fAug, fChain, fYes, fSl, fNoPart, fPart, fItL, fItT, fIt, fIsLT, fBrk, fCnt, topE, startD, toB, oI, oI0, oNeg, oAbs, oMax, oMin, oInt, oLen_lst, oLen_tup, oList, oTuple, oCat, oIsB, oNotB, oEq, oNe, eqD, oIsN, oNotN, isN, own_rr, own_ri, own_pp, own_pi, rfl_ir, rfl_ip, neg_r, neg_p, abs_r, tru_lst, tru_tup, tru_int, tru_bl, tru_non, tupG2, tupG4, lstEx, tupEx, lstIs, tupIs, intEx, lst1Ex, lst2Ex, int1Ex, int2Ex, en1Ex, setEx, it_lst, it_tup, oIxL, oIxT, InsD, List.map_cons, List.map_nil, List.cons_append, List.nil_append, List.length_cons, List.length_nil, List.getElem?_cons_zero, List.getElem?_cons_succ, List.set_cons_zero, List.set_cons_succ, List.replicate_succ, List.replicate_zero, Option.some.injEq, exists_eq_left', clsD_rat, clsD_poly, if_true, if_false, List.append_nil, true_and, and_true, true_or, or_true, Bool.false_eq_true, Bool.true_eq_false, reduceCtorEq, Nat.add_one_sub_one, Nat.reduceSub, Nat.reduceAdd, Nat.sub_self, Nat.zero_add, Nat.add_sub_cancel, fCallK0, ix0, ix1]
      refine mean_ok (n := 70) (m := 101) rfl (nums_ratL _) h.q0 (by rw [lenv]; exact h1) zs zr (by decide) (by decide) bd hle (isd ?_)
      simp only [fSeq, fIfS, fB, fIsi, fVar, fC, fOp, fUn, fLs, fRet, fRetN, fCall, fCall0, fCons, fNil, fNext, fNev, fFld, fSet, fOwn, fDrop, fAsg, fPar, fNot, fAnd, fOr, fAndV, fOrV, fNotV, fIf, fTru, fLst, fTup, fMeth, fMeth0, fName, fRaise, fRaise0, fBr, fBor, fApp, fSetI, fAug, fChain, fYes, fSl, fNoPart, fPart, fItL, fItT, fIt, fIsLT, fBrk, fCnt, topE, startD, toB, oI, oI0, oNeg, oAbs, oMax, oMin, oInt, oLen_lst, oLen_tup, oList, oTuple, oCat, oIsB, oNotB, oEq, oNe, eqD, oIsN, oNotN, isN, own_rr, own_ri, own_pp, own_pi, rfl_ir, rfl_ip, neg_r, neg_p, abs_r, tru_lst, tru_tup, tru_int, tru_bl, tru_non, tupG2, tupG4, lstEx, tupEx, lstIs, tupIs, intEx, lst1Ex, lst2Ex, int1Ex, int2Ex, en1Ex, setEx, it_lst, it_tup, oIxL, oIxT, InsD, List.map_cons, List.map_nil, List.cons_append, List.nil_append, List.length_cons, List.length_nil, List.getElem?_cons_zero, List.getElem?_cons_succ, List.set_cons_zero, List.set_cons_succ, List.replicate_succ, List.replicate_zero, Option.some.injEq, exists_eq_left', clsD_rat, clsD_poly, if_true, if_false, List.append_nil, true_and, and_true, true_or, or_true, Bool.false_eq_true, Bool.true_eq_false, reduceCtorEq, Nat.add_one_sub_one, Nat.reduceSub, Nat.reduceAdd, Nat.sub_self, Nat.zero_add, Nat.add_sub_cancel, Bool.not_true]
      refine mean_ok (n := 70) (m := 101) rfl (nums_ratL _) h.q0 (by rw [lenv]; exact h1) zs zr (by decide) (by decide) bd hle (isd ?_)
      simp only [fSeq, fIfS, fB, fIsi, fVar, fC, fOp, fUn, fLs, fRet, fRetN, fCall, fCall0, fCons, fNil, fNext, fNev, fFld, fSet, fOwn, fDrop, fAsg, fPar, fNot, fAnd, fOr, fAndV, fOrV, fNotV, fIf, fTru, fLst, fTup, fMeth, fMeth0, fName, fRaise, fRaise0, fBr, fBor, fApp, fSetI, fAug, fChain, fYes, fSl, fNoPart, fPart, fItL, fItT, fIt, fIsLT, fBrk, fCnt, topE, startD, toB, oI, oI0, oNeg, oAbs, oMax, oMin, oInt, oLen_lst, oLen_tup, oList, oTuple, oCat, oIsB, oNotB, oEq, oNe, eqD, oIsN, oNotN, isN, own_rr, own_ri, own_pp, own_pi, rfl_ir, rfl_ip, neg_r, neg_p, abs_r, tru_lst, tru_tup, tru_int, tru_bl, tru_non, tupG2, tupG4, lstEx, tupEx, lstIs, tupIs, intEx, lst1Ex, lst2Ex, int1Ex, int2Ex, en1Ex, setEx, it_lst, it_tup, oIxL, oIxT, InsD, List.map_cons, List.map_nil, List.cons_append, List.nil_append, List.length_cons, List.length_nil, List.getElem?_cons_zero, List.getElem?_cons_succ, List.set_cons_zero, List.set_cons_succ, List.replicate_succ, List.replicate_zero, Option.some.injEq, exists_eq_left', clsD_rat, clsD_poly, if_true, if_false, List.append_nil, true_and, and_true, true_or, or_true, Bool.false_eq_true, Bool.true_eq_false, reduceCtorEq, Nat.add_one_sub_one, Nat.reduceSub, Nat.reduceAdd, Nat.sub_self, Nat.zero_add, Nat.add_sub_cancel, Bool.not_true]
      have s3 : Sz 2 ((3 : Int) : Rat) := ⟨by decide, by decide⟩
      have z3 : SzL 2 [((3 : Int) : Rat)] := fun c hc => by rw [List.mem_singleton.mp hc]; exact s3
      refine ⟨_, _, [((3 : Int) : Rat)], 70, 2, rfl, rfl, zs, z3, by decide, by decide, by decide, by omega, by decide, ?_⟩
      simp only [fSeq, fIfS, fB, fIsi, fVar, fC, fOp, fUn, fLs, fRet, fRetN, fCall, fCall0, fCons, fNil, fNext, fNev, fFld, fSet, fOwn, fDrop, fAsg, fPar, fNot, fAnd, fOr, fAndV, fOrV, fNotV, fIf, fTru, fLst, fTup, fMeth, fMeth0, fName, fRaise, fRaise0, fBr, fBor, fApp, fSetI, fAug, fChain, fYes, fSl, fNoPart, fPart, fItL, fItT, fIt, fIsLT, fBrk, fCnt, topE, startD, toB, oI, oI0, oNeg, oAbs, oMax, oMin, oInt, oLen_lst, oLen_tup, oList, oTuple, oCat, oIsB, oNotB, oEq, oNe, eqD, oIsN, oNotN, isN, own_rr, own_ri, own_pp, own_pi, rfl_ir, rfl_ip, neg_r, neg_p, abs_r, tru_lst, tru_tup, tru_int, tru_bl, tru_non, tupG2, tupG4, lstEx, tupEx, lstIs, tupIs, intEx, lst1Ex, lst2Ex, int1Ex, int2Ex, en1Ex, setEx, it_lst, it_tup, oIxL, oIxT, InsD, List.map_cons, List.map_nil, List.cons_append, List.nil_append, List.length_cons, List.length_nil, List.getElem?_cons_zero, List.getElem?_cons_succ, List.set_cons_zero, List.set_cons_succ, List.replicate_succ, List.replicate_zero, Option.some.injEq, exists_eq_left', clsD_rat, clsD_poly, if_true, if_false, List.append_nil, true_and, and_true, true_or, or_true, Bool.false_eq_true, Bool.true_eq_false, reduceCtorEq, Nat.add_one_sub_one, Nat.reduceSub, Nat.reduceAdd, Nat.sub_self, Nat.zero_add, Nat.add_sub_cancel]
      have la : (strip (addL (strip (qs.map valP)) [((3 : Int) : Rat)])).length ≤ rs.length := by
        refine Nat.le_trans (strip_le _) ?_
        rw [addL_len]
        show max _ 1 ≤ _
        omega
      have za : SzL 73 (strip (addL (strip (qs.map valP)) [((3 : Int) : Rat)])) := szL_strip fun c hc => by
        unfold addL at hc
        obtain ⟨j, _, rfl⟩ := List.mem_map.mp hc
        exact (zs.coef (by decide) j).add (z3.coef (by decide) j)
      refine mean_ok (n := 73) (m := 101) rfl (nums_ratL _) h.q0 (by rw [lenv]; exact h1) za zr (by decide) (by decide) (bd_of (by omega) (by decide)) (by rw [lenv]; exact la) ?_
      refine mean_ok (n := 70) (m := 101) rfl (nums_ratL _) h.q0 (by rw [lenv]; exact h1) zs zr (by decide) (by decide) bd hle ?_
      refine ix_it (k := 0) rfl (ratL_get (by rw [lenv]; exact h0)) ?_
      simp only [fSeq, fIfS, fB, fIsi, fVar, fC, fOp, fUn, fLs, fRet, fRetN, fCall, fCall0, fCons, fNil, fNext, fNev, fFld, fSet, fOwn, fDrop, fAsg, fPar, fNot, fAnd, fOr, fAndV, fOrV, fNotV, fIf, fTru, fLst, fTup, fMeth, fMeth0, fName, fRaise, fRaise0, fBr, fBor, fApp, fSetI, fAug, fChain, fYes, fSl, fNoPart, fPart, fItL, fItT, fIt, fIsLT, fBrk, fCnt, topE, startD, toB, oI, oI0, oNeg, oAbs, oMax, oMin, oInt, oLen_lst, oLen_tup, oList, oTuple, oCat, oIsB, oNotB, oEq, oNe, eqD, oIsN, oNotN, isN, own_rr, own_ri, own_pp, own_pi, rfl_ir, rfl_ip, neg_r, neg_p, abs_r, tru_lst, tru_tup, tru_int, tru_bl, tru_non, tupG2, tupG4, lstEx, tupEx, lstIs, tupIs, intEx, lst1Ex, lst2Ex, int1Ex, int2Ex, en1Ex, setEx, it_lst, it_tup, oIxL, oIxT, InsD, List.map_cons, List.map_nil, List.cons_append, List.nil_append, List.length_cons, List.length_nil, List.getElem?_cons_zero, List.getElem?_cons_succ, List.set_cons_zero, List.set_cons_succ, List.replicate_succ, List.replicate_zero, Option.some.injEq, exists_eq_left', clsD_rat, clsD_poly, if_true, if_false, List.append_nil, true_and, and_true, true_or, or_true, Bool.false_eq_true, Bool.true_eq_false, reduceCtorEq, Nat.add_one_sub_one, Nat.reduceSub, Nat.reduceAdd, Nat.sub_self, Nat.zero_add, Nat.add_sub_cancel, fRI_int, fR2_rat, fRB_rat]
      have q0z := zr.coef (by decide) 0
      have s30 := s3.mul q0z
      have sa := dot_sz za zr (by decide) (by decide) (strip (addL (strip (qs.map valP)) [((3 : Int) : Rat)])).length
      have eq : dotN (strip (addL (strip (qs.map valP)) [((3 : Int) : Rat)])) (rs.map valP) (strip (addL (strip (qs.map valP)) [((3 : Int) : Rat)])).length = dotN (strip (qs.map valP)) (rs.map valP) (strip (qs.map valP)).length + ((3 : Int) : Rat) * coef (rs.map valP) 0 := by
        rw [dot_strip (N := rs.length) la, dot_add, dot_ext (cs := strip (qs.map valP)) (N := rs.length) (by omega), dot_ext (cs := [((3 : Int) : Rat)]) (N := rs.length) h0]
        congr 1
        show 0 + ((3 : Int) : Rat) * coef (rs.map valP) 0 = _
        rw [Rat.zero_add]
      refine ⟨⟨101, 2, q0z, s3, by decide⟩, ⟨_, _, sd, s30, by omega⟩, ⟨_, _, sa, sd.add s30, by omega⟩, ?_⟩
      rw [decide_eq_true eq]
      simp only [fSeq, fIfS, fB, fIsi, fVar, fC, fOp, fUn, fLs, fRet, fRetN, fCall, fCall0, fCons, fNil, fNext, fNev, fFld, fSet, fOwn, fDrop, fAsg, fPar, fNot, fAnd, fOr, fAndV, fOrV, fNotV, fIf, fTru, fLst, fTup, fMeth, fMeth0, fName, fRaise, fRaise0, fBr, fBor, fApp, fSetI, fAug, fChain, fYes, fSl, fNoPart, fPart, fItL, fItT, fIt, fIsLT, fBrk, fCnt, topE, startD, toB, oI, oI0, oNeg, oAbs, oMax, oMin, oInt, oLen_lst, oLen_tup, oList, oTuple, oCat, oIsB, oNotB, oEq, oNe, eqD, oIsN, oNotN, isN, own_rr, own_ri, own_pp, own_pi, rfl_ir, rfl_ip, neg_r, neg_p, abs_r, tru_lst, tru_tup, tru_int, tru_bl, tru_non, tupG2, tupG4, lstEx, tupEx, lstIs, tupIs, intEx, lst1Ex, lst2Ex, int1Ex, int2Ex, en1Ex, setEx, it_lst, it_tup, oIxL, oIxT, InsD, List.map_cons, List.map_nil, List.cons_append, List.nil_append, List.length_cons, List.length_nil, List.getElem?_cons_zero, List.getElem?_cons_succ, List.set_cons_zero, List.set_cons_succ, List.replicate_succ, List.replicate_zero, Option.some.injEq, exists_eq_left', clsD_rat, clsD_poly, if_true, if_false, List.append_nil, true_and, and_true, true_or, or_true, Bool.false_eq_true, Bool.true_eq_false, reduceCtorEq, Nat.add_one_sub_one, Nat.reduceSub, Nat.reduceAdd, Nat.sub_self, Nat.zero_add, Nat.add_sub_cancel, Bool.not_true]
      exact b6_ok h k
theorem b3_ok (h : Dr rs qs) (v5 v6 : Option D) (k : ∀ v7 v8 v9, FD.nx (E18 rs qs v2 v7 v8 v9)) : f_law_b3 cs FD [some .exc, some .feed, v2, some (.lst (prL rs)), some (.lst (prL qs)), v5, v6, v7, v8, v9] := by
  have h1 := h.r1
  have c1 := h.c1
  unfold f_law_b3
  simp only [fSeq, fIfS, fB, fIsi, fVar, fC, fOp, fUn, fLs, fRet, fRetN, fCall, fCall0, fCons, fNil, fNext, fNev, fFld, fSet, fOwn, fDrop, fAsg, fPar, fNot, fAnd, fOr, fAndV, fOrV, fNotV, fIf, fTru, fLst, fTup, fMeth, fMeth0, fName, fRaise, fRaise0, fBr, fBor, fApp, fSetI, fAug, fChain, fYes, fSl, fNoPart, fPart, fItL, fItT, fIt, fIsLT, fBrk, fCnt, topE, startD, toB, oI, oI0, oNeg, oAbs, oMax, oMin, oInt, oLen_lst, oLen_tup, oList, oTuple, oCat, oIsB, oNotB, oEq, oNe, eqD, oIsN, oNotN, isN, own_rr, own_ri, own_pp, own_pi, rfl_ir, rfl_ip, neg_r, neg_p, abs_r, tru_lst, tru_tup, tru_int, tru_bl, tru_non, tupG2, tupG4, lstEx, tupEx, lstIs, tupIs, intEx, lst1Ex, lst2Ex, int1Ex, int2Ex, en1Ex, setEx, it_lst, it_tup, oIxL, oIxT, InsD, List.map_cons, List.map_nil, List.cons_append, List.nil_append, List.length_cons, List.length_nil, List.getElem?_cons_zero, List.getElem?_cons_succ, List.set_cons_zero, List.set_cons_succ, List.replicate_succ, List.replicate_zero, Option.some.injEq, exists_eq_left', clsD_rat, clsD_poly, if_true, if_false, List.append_nil, true_and, and_true, true_or, or_true, Bool.false_eq_true, Bool.true_eq_false, reduceCtorEq, Nat.add_one_sub_one, Nat.reduceSub, Nat.reduceAdd, Nat.sub_self, Nat.zero_add, Nat.add_sub_cancel]
  refine ⟨qs, 70, rfl, h.c, by decide, by omega, ?_⟩
  refine mkPoly_ok rfl (by rw [ratL_len, List.length_map]; omega) (nums_ratL _) ?_
  unfold f_law_b4
  simp only [fSeq, fIfS, fB, fIsi, fVar, fC, fOp, fUn, fLs, fRet, fRetN, fCall, fCall0, fCons, fNil, fNext, fNev, fFld, fSet, fOwn, fDrop, fAsg, fPar, fNot, fAnd, fOr, fAndV, fOrV, fNotV, fIf, fTru, fLst, fTup, fMeth, fMeth0, fName, fRaise, fRaise0, fBr, fBor, fApp, fSetI, fAug, fChain, fYes, fSl, fNoPart, fPart, fItL, fItT, fIt, fIsLT, fBrk, fCnt, topE, startD, toB, oI, oI0, oNeg, oAbs, oMax, oMin, oInt, oLen_lst, oLen_tup, oList, oTuple, oCat, oIsB, oNotB, oEq, oNe, eqD, oIsN, oNotN, isN, own_rr, own_ri, own_pp, own_pi, rfl_ir, rfl_ip, neg_r, neg_p, abs_r, tru_lst, tru_tup, tru_int, tru_bl, tru_non, tupG2, tupG4, lstEx, tupEx, lstIs, tupIs, intEx, lst1Ex, lst2Ex, int1Ex, int2Ex, en1Ex, setEx, it_lst, it_tup, oIxL, oIxT, InsD, List.map_cons, List.map_nil, List.cons_append, List.nil_append, List.length_cons, List.length_nil, List.getElem?_cons_zero, List.getElem?_cons_succ, List.set_cons_zero, List.set_cons_succ, List.replicate_succ, List.replicate_zero, Option.some.injEq, exists_eq_left', clsD_rat, clsD_poly, if_true, if_false, List.append_nil, true_and, and_true, true_or, or_true, Bool.false_eq_true, Bool.true_eq_false, reduceCtorEq, Nat.add_one_sub_one, Nat.reduceSub, Nat.reduceAdd, Nat.sub_self, Nat.zero_add, Nat.add_sub_cancel]
  refine ⟨rs, 101, rfl, h.r, by decide, by omega, ?_⟩
  exact b5_ok h k
theorem cut_prL (ps : List (Int × Int)) (k : Nat) : cutD (prL ps) none (some (k : Int)) = prL (ps.take k) := by
  rw [cut_take]
  unfold prL
  rw [List.map_take]
theorem b0_ok (v3 v4 v5 v6 : Option D) (k : ∀ v3 v4 v5 v6 v7 v8 v9, FD.nx [some .exc, some .feed, v2, v3, v4, v5, v6, v7, v8, v9]) : f_law_b0 cs FD [some .exc, some .feed, v2, v3, v4, v5, v6, v7, v8, v9] := by
  unfold f_law_b0
  simp only [fSeq, fIfS, fB, fIsi, fVar, fC, fOp, fUn, fLs, fRet, fRetN, fCall, fCall0, fCons, fNil, fNext, fNev, fFld, fSet, fOwn, fDrop, fAsg, fPar, fNot, fAnd, fOr, fAndV, fOrV, fNotV, fIf, fTru, fLst, fTup, fMeth, fMeth0, fName, fRaise, fRaise0, fBr, fBor, fApp, fSetI, fAug, fChain, fYes, fSl, fNoPart, fPart, fItL, fItT, fIt, fIsLT, fBrk, fCnt, topE, startD, toB, oI, oI0, oNeg, oAbs, oMax, oMin, oInt, oLen_lst, oLen_tup, oList, oTuple, oCat, oIsB, oNotB, oEq, oNe, eqD, oIsN, oNotN, isN, own_rr, own_ri, own_pp, own_pi, rfl_ir, rfl_ip, neg_r, neg_p, abs_r, tru_lst, tru_tup, tru_int, tru_bl, tru_non, tupG2, tupG4, lstEx, tupEx, lstIs, tupIs, intEx, lst1Ex, lst2Ex, int1Ex, int2Ex, en1Ex, setEx, it_lst, it_tup, oIxL, oIxT, InsD, List.map_cons, List.map_nil, List.cons_append, List.nil_append, List.length_cons, List.length_nil, List.getElem?_cons_zero, List.getElem?_cons_succ, List.set_cons_zero, List.set_cons_succ, List.replicate_succ, List.replicate_zero, Option.some.injEq, exists_eq_left', clsD_rat, clsD_poly, if_true, if_false, List.append_nil, true_and, and_true, true_or, or_true, Bool.false_eq_true, Bool.true_eq_false, reduceCtorEq, Nat.add_one_sub_one, Nat.reduceSub, Nat.reduceAdd, Nat.sub_self, Nat.zero_add, Nat.add_sub_cancel]
  refine ⟨13, rfl, by decide, by decide, fun rs hr h0 h1 => ?_⟩
  unfold f_law_b1
  simp only [fSeq, fIfS, fB, fIsi, fVar, fC, fOp, fUn, fLs, fRet, fRetN, fCall, fCall0, fCons, fNil, fNext, fNev, fFld, fSet, fOwn, fDrop, fAsg, fPar, fNot, fAnd, fOr, fAndV, fOrV, fNotV, fIf, fTru, fLst, fTup, fMeth, fMeth0, fName, fRaise, fRaise0, fBr, fBor, fApp, fSetI, fAug, fChain, fYes, fSl, fNoPart, fPart, fItL, fItT, fIt, fIsLT, fBrk, fCnt, topE, startD, toB, oI, oI0, oNeg, oAbs, oMax, oMin, oInt, oLen_lst, oLen_tup, oList, oTuple, oCat, oIsB, oNotB, oEq, oNe, eqD, oIsN, oNotN, isN, own_rr, own_ri, own_pp, own_pi, rfl_ir, rfl_ip, neg_r, neg_p, abs_r, tru_lst, tru_tup, tru_int, tru_bl, tru_non, tupG2, tupG4, lstEx, tupEx, lstIs, tupIs, intEx, lst1Ex, lst2Ex, int1Ex, int2Ex, en1Ex, setEx, it_lst, it_tup, oIxL, oIxT, InsD, List.map_cons, List.map_nil, List.cons_append, List.nil_append, List.length_cons, List.length_nil, List.getElem?_cons_zero, List.getElem?_cons_succ, List.set_cons_zero, List.set_cons_succ, List.replicate_succ, List.replicate_zero, Option.some.injEq, exists_eq_left', clsD_rat, clsD_poly, if_true, if_false, List.append_nil, true_and, and_true, true_or, or_true, Bool.false_eq_true, Bool.true_eq_false, reduceCtorEq, Nat.add_one_sub_one, Nat.reduceSub, Nat.reduceAdd, Nat.sub_self, Nat.zero_add, Nat.add_sub_cancel]
  refine ⟨13, rfl, by decide, by decide, fun qs hc c1 => ?_⟩
  unfold f_law_b2
  simp only [fSeq, fIfS, fB, fIsi, fVar, fC, fOp, fUn, fLs, fRet, fRetN, fCall, fCall0, fCons, fNil, fNext, fNev, fFld, fSet, fOwn, fDrop, fAsg, fPar, fNot, fAnd, fOr, fAndV, fOrV, fNotV, fIf, fTru, fLst, fTup, fMeth, fMeth0, fName, fRaise, fRaise0, fBr, fBor, fApp, fSetI, fAug, fChain, fYes, fSl, fNoPart, fPart, fItL, fItT, fIt, fIsLT, fBrk, fCnt, topE, startD, toB, oI, oI0, oNeg, oAbs, oMax, oMin, oInt, oLen_lst, oLen_tup, oList, oTuple, oCat, oIsB, oNotB, oEq, oNe, eqD, oIsN, oNotN, isN, own_rr, own_ri, own_pp, own_pi, rfl_ir, rfl_ip, neg_r, neg_p, abs_r, tru_lst, tru_tup, tru_int, tru_bl, tru_non, tupG2, tupG4, lstEx, tupEx, lstIs, tupIs, intEx, lst1Ex, lst2Ex, int1Ex, int2Ex, en1Ex, setEx, it_lst, it_tup, oIxL, oIxT, InsD, List.map_cons, List.map_nil, List.cons_append, List.nil_append, List.length_cons, List.length_nil, List.getElem?_cons_zero, List.getElem?_cons_succ, List.set_cons_zero, List.set_cons_succ, List.replicate_succ, List.replicate_zero, Option.some.injEq, exists_eq_left', clsD_rat, clsD_poly, if_true, if_false, List.append_nil, true_and, and_true, true_or, or_true, Bool.false_eq_true, Bool.true_eq_false, reduceCtorEq, Nat.add_one_sub_one, Nat.reduceSub, Nat.reduceAdd, Nat.sub_self, Nat.zero_add, Nat.add_sub_cancel, prL_len]
  refine take_ok (by decide) (by decide) fun d d0 d1 => ?_
  simp only [fSeq, fIfS, fB, fIsi, fVar, fC, fOp, fUn, fLs, fRet, fRetN, fCall, fCall0, fCons, fNil, fNext, fNev, fFld, fSet, fOwn, fDrop, fAsg, fPar, fNot, fAnd, fOr, fAndV, fOrV, fNotV, fIf, fTru, fLst, fTup, fMeth, fMeth0, fName, fRaise, fRaise0, fBr, fBor, fApp, fSetI, fAug, fChain, fYes, fSl, fNoPart, fPart, fItL, fItT, fIt, fIsLT, fBrk, fCnt, topE, startD, toB, oI, oI0, oNeg, oAbs, oMax, oMin, oInt, oLen_lst, oLen_tup, oList, oTuple, oCat, oIsB, oNotB, oEq, oNe, eqD, oIsN, oNotN, isN, own_rr, own_ri, own_pp, own_pi, rfl_ir, rfl_ip, neg_r, neg_p, abs_r, tru_lst, tru_tup, tru_int, tru_bl, tru_non, tupG2, tupG4, lstEx, tupEx, lstIs, tupIs, intEx, lst1Ex, lst2Ex, int1Ex, int2Ex, en1Ex, setEx, it_lst, it_tup, oIxL, oIxT, InsD, List.map_cons, List.map_nil, List.cons_append, List.nil_append, List.length_cons, List.length_nil, List.getElem?_cons_zero, List.getElem?_cons_succ, List.set_cons_zero, List.set_cons_succ, List.replicate_succ, List.replicate_zero, Option.some.injEq, exists_eq_left', clsD_rat, clsD_poly, if_true, if_false, List.append_nil, true_and, and_true, true_or, or_true, Bool.false_eq_true, Bool.true_eq_false, reduceCtorEq, Nat.add_one_sub_one, Nat.reduceSub, Nat.reduceAdd, Nat.sub_self, Nat.zero_add, Nat.add_sub_cancel]
  by_cases hd : d = 0
  · rw [decide_eq_true hd, if_pos rfl, cut_prL]
    refine b3_ok ⟨hr, fun p hp => hc p (List.mem_of_mem_take hp), h0, by omega, by rw [List.length_take]; omega⟩ _ _ fun v7 v8 v9 => k _ _ _ _ _ _ _
  · rw [decide_eq_false hd, if_neg (by decide)]
    exact b3_ok ⟨hr, hc, h0, by omega, by omega⟩ _ _ fun v7 v8 v9 => k _ _ _ _ _ _ _
theorem law_loop (fin : ∀ v2 v3 v4 v5 v6 v7 v8 v9, FD.nx [some .exc, some .feed, v2, v3, v4, v5, v6, v7, v8, v9]) :
    ∀ (items : List D) (v2 v3 v4 v5 v6 v7 v8 v9 : Option D), forGo (fName 2) (f_law_b0 cs) FD items [some .exc, some .feed, v2, v3, v4, v5, v6, v7, v8, v9]
  | [], v2, v3, v4, v5, v6, v7, v8, v9 => fin _ _ _ _ _ _ _ _
  | d :: items, v2, v3, v4, v5, v6, v7, v8, v9 => by
    unfold forGo
    simp only [fSeq, fIfS, fB, fIsi, fVar, fC, fOp, fUn, fLs, fRet, fRetN, fCall, fCall0, fCons, fNil, fNext, fNev, fFld, fSet, fOwn, fDrop, fAsg, fPar, fNot, fAnd, fOr, fAndV, fOrV, fNotV, fIf, fTru, fLst, fTup, fMeth, fMeth0, fName, fRaise, fRaise0, fBr, fBor, fApp, fSetI, fAug, fChain, fYes, fSl, fNoPart, fPart, fItL, fItT, fIt, fIsLT, fBrk, fCnt, topE, startD, toB, oI, oI0, oNeg, oAbs, oMax, oMin, oInt, oLen_lst, oLen_tup, oList, oTuple, oCat, oIsB, oNotB, oEq, oNe, eqD, oIsN, oNotN, isN, own_rr, own_ri, own_pp, own_pi, rfl_ir, rfl_ip, neg_r, neg_p, abs_r, tru_lst, tru_tup, tru_int, tru_bl, tru_non, tupG2, tupG4, lstEx, tupEx, lstIs, tupIs, intEx, lst1Ex, lst2Ex, int1Ex, int2Ex, en1Ex, setEx, it_lst, it_tup, oIxL, oIxT, InsD, List.map_cons, List.map_nil, List.cons_append, List.nil_append, List.length_cons, List.length_nil, List.getElem?_cons_zero, List.getElem?_cons_succ, List.set_cons_zero, List.set_cons_succ, List.replicate_succ, List.replicate_zero, Option.some.injEq, exists_eq_left', clsD_rat, clsD_poly, if_true, if_false, List.append_nil, true_and, and_true, true_or, or_true, Bool.false_eq_true, Bool.true_eq_false, reduceCtorEq, Nat.add_one_sub_one, Nat.reduceSub, Nat.reduceAdd, Nat.sub_self, Nat.zero_add, Nat.add_sub_cancel]
    exact b0_ok _ _ _ _ fun v3 v4 v5 v6 v7 v8 v9 => law_loop fin items _ _ _ _ _ _ _ _
end
theorem p_law {cs : List Str} (hRatio : ("Ratio" : Str) ∈ cs) (hPoly : ("Poly" : Str) ∈ cs) : f_law_rest cs (topE yes X0) (some .exc :: some .feed :: List.replicate 8 none) := by
  simp only [fSeq, fIfS, fB, fIsi, fVar, fC, fOp, fUn, fLs, fRet, fRetN, fCall, fCall0, fCons, fNil, fNext, fNev, fFld, fSet, fOwn, fDrop, fAsg, fPar, fNot, fAnd, fOr, fAndV, fOrV, fNotV, fIf, fTru, fLst, fTup, fMeth, fMeth0, fName, fRaise, fRaise0, fBr, fBor, fApp, fSetI, fAug, fChain, fYes, fSl, fNoPart, fPart, fItL, fItT, fIt, fIsLT, fBrk, fCnt, topE, startD, toB, oI, oI0, oNeg, oAbs, oMax, oMin, oInt, oLen_lst, oLen_tup, oList, oTuple, oCat, oIsB, oNotB, oEq, oNe, eqD, oIsN, oNotN, isN, own_rr, own_ri, own_pp, own_pi, rfl_ir, rfl_ip, neg_r, neg_p, abs_r, tru_lst, tru_tup, tru_int, tru_bl, tru_non, tupG2, tupG4, lstEx, tupEx, lstIs, tupIs, intEx, lst1Ex, lst2Ex, int1Ex, int2Ex, en1Ex, setEx, it_lst, it_tup, oIxL, oIxT, InsD, List.map_cons, List.map_nil, List.cons_append, List.nil_append, List.length_cons, List.length_nil, List.getElem?_cons_zero, List.getElem?_cons_succ, List.set_cons_zero, List.set_cons_succ, List.replicate_succ, List.replicate_zero, Option.some.injEq, exists_eq_left', clsD_rat, clsD_poly, if_true, if_false, List.append_nil, true_and, and_true, true_or, or_true, Bool.false_eq_true, Bool.true_eq_false, reduceCtorEq, Nat.add_one_sub_one, Nat.reduceSub, Nat.reduceAdd, Nat.sub_self, Nat.zero_add, Nat.add_sub_cancel, f_law_rest, fFor, fRng1]
  refine take_ok (by decide) (by decide) fun d d0 d1 => ?_
  simp only [fSeq, fIfS, fB, fIsi, fVar, fC, fOp, fUn, fLs, fRet, fRetN, fCall, fCall0, fCons, fNil, fNext, fNev, fFld, fSet, fOwn, fDrop, fAsg, fPar, fNot, fAnd, fOr, fAndV, fOrV, fNotV, fIf, fTru, fLst, fTup, fMeth, fMeth0, fName, fRaise, fRaise0, fBr, fBor, fApp, fSetI, fAug, fChain, fYes, fSl, fNoPart, fPart, fItL, fItT, fIt, fIsLT, fBrk, fCnt, topE, startD, toB, oI, oI0, oNeg, oAbs, oMax, oMin, oInt, oLen_lst, oLen_tup, oList, oTuple, oCat, oIsB, oNotB, oEq, oNe, eqD, oIsN, oNotN, isN, own_rr, own_ri, own_pp, own_pi, rfl_ir, rfl_ip, neg_r, neg_p, abs_r, tru_lst, tru_tup, tru_int, tru_bl, tru_non, tupG2, tupG4, lstEx, tupEx, lstIs, tupIs, intEx, lst1Ex, lst2Ex, int1Ex, int2Ex, en1Ex, setEx, it_lst, it_tup, oIxL, oIxT, InsD, List.map_cons, List.map_nil, List.cons_append, List.nil_append, List.length_cons, List.length_nil, List.getElem?_cons_zero, List.getElem?_cons_succ, List.set_cons_zero, List.set_cons_succ, List.replicate_succ, List.replicate_zero, Option.some.injEq, exists_eq_left', clsD_rat, clsD_poly, if_true, if_false, List.append_nil, true_and, and_true, true_or, or_true, Bool.false_eq_true, Bool.true_eq_false, reduceCtorEq, Nat.add_one_sub_one, Nat.reduceSub, Nat.reduceAdd, Nat.sub_self, Nat.zero_add, Nat.add_sub_cancel]
  refine ⟨by omega, by omega, ?_⟩
  refine law_loop (fun _ _ _ _ _ _ _ _ => ?_) _ _ _ _ _ _ _ _ _
  rfl
theorem len_check_row {K : PySem.W.Frag} {cs : List Str} (vs : List V) (H : Hp) (Q : VK) (E : XK) (h : lift K (fCheckRow cs) vs H Q E) : vs.length = 2 := lift_len (fun ds P X h => by unfold fCheckRow at h; first | (obtain ⟨rfl, _⟩ := h; rfl) | (obtain ⟨_, rfl, _⟩ := h; rfl) | (obtain ⟨_, _, rfl, _⟩ := h; rfl) | (obtain ⟨_, _, _, rfl, _⟩ := h; rfl) | (obtain ⟨_, _, _, _, rfl, _⟩ := h; rfl) | (obtain ⟨_, _, _, _, _, rfl, _⟩ := h; rfl) | (obtain ⟨_, _, _, _, _, _, rfl, _⟩ := h; rfl) | (obtain ⟨_, _, _, _, _, _, _, rfl, _⟩ := h; rfl) | (obtain ⟨_, _, _, _, _, _, _, _, rfl, _⟩ := h; rfl) | (obtain ⟨_, _, _, _, _, _, _, _, _, rfl, _⟩ := h; rfl) | (obtain ⟨_, _, _, _, _, _, _, _, _, _, rfl, _⟩ := h; rfl) | (obtain ⟨_, _, _, _, _, _, _, _, _, _, _, rfl, _⟩ := h; rfl) | (split at h <;> first | rfl | exact h.elim)) h
theorem pp_check_row {K : PySem.W.Frag} {cs : List Str} (T : KF K cs) (hRatio : ("Ratio" : Str) ∈ cs) (hPoly : ("Poly" : Str) ∈ cs) (vs : List V) (H : Hp) (Q : VK) (E : XK) (h : lift K (fCheckRow cs) vs H Q E) : tt_check_row K cs E { nx := fun _ H' => Q .non H', rt := Q } (start ["row", "limit", "index", "item"] vs) H :=
  fn_ok (t := fun E => tt_check_row K cs E) rfl (s_check_row T hRatio hPoly) (p_check_row hRatio hPoly) vs H Q E h
theorem len_mean_of {K : PySem.W.Frag} {cs : List Str} (vs : List V) (H : Hp) (Q : VK) (E : XK) (h : lift K fMeanOf vs H Q E) : vs.length = 2 := lift_len (fun ds P X h => by unfold fMeanOf at h; first | (obtain ⟨rfl, _⟩ := h; rfl) | (obtain ⟨_, rfl, _⟩ := h; rfl) | (obtain ⟨_, _, rfl, _⟩ := h; rfl) | (obtain ⟨_, _, _, rfl, _⟩ := h; rfl) | (obtain ⟨_, _, _, _, rfl, _⟩ := h; rfl) | (obtain ⟨_, _, _, _, _, rfl, _⟩ := h; rfl) | (obtain ⟨_, _, _, _, _, _, rfl, _⟩ := h; rfl) | (obtain ⟨_, _, _, _, _, _, _, rfl, _⟩ := h; rfl) | (obtain ⟨_, _, _, _, _, _, _, _, rfl, _⟩ := h; rfl) | (obtain ⟨_, _, _, _, _, _, _, _, _, rfl, _⟩ := h; rfl) | (obtain ⟨_, _, _, _, _, _, _, _, _, _, rfl, _⟩ := h; rfl) | (obtain ⟨_, _, _, _, _, _, _, _, _, _, _, rfl, _⟩ := h; rfl) | (split at h <;> first | rfl | exact h.elim)) h
theorem pp_mean_of {K : PySem.W.Frag} {cs : List Str} (T : KF K cs) (hRatio : ("Ratio" : Str) ∈ cs) (hPoly : ("Poly" : Str) ∈ cs) (vs : List V) (H : Hp) (Q : VK) (E : XK) (h : lift K fMeanOf vs H Q E) : tt_mean_of K cs { nx := fun _ H' => Q .non H', rt := Q } (start ["numbers", "p", "total", "k", "c"] vs) H :=
  fn_ok0 rfl (s_mean_of T hRatio hPoly) (p_mean_of hRatio hPoly) vs H Q E h
theorem len_mean {K : PySem.W.Frag} {cs : List Str} (vs : List V) (H : Hp) (Q : VK) (E : XK) (h : lift K (fMean cs) vs H Q E) : vs.length = 2 := lift_len (fun ds P X h => by unfold fMean at h; first | (obtain ⟨rfl, _⟩ := h; rfl) | (obtain ⟨_, rfl, _⟩ := h; rfl) | (obtain ⟨_, _, rfl, _⟩ := h; rfl) | (obtain ⟨_, _, _, rfl, _⟩ := h; rfl) | (obtain ⟨_, _, _, _, rfl, _⟩ := h; rfl) | (obtain ⟨_, _, _, _, _, rfl, _⟩ := h; rfl) | (obtain ⟨_, _, _, _, _, _, rfl, _⟩ := h; rfl) | (obtain ⟨_, _, _, _, _, _, _, rfl, _⟩ := h; rfl) | (obtain ⟨_, _, _, _, _, _, _, _, rfl, _⟩ := h; rfl) | (obtain ⟨_, _, _, _, _, _, _, _, _, rfl, _⟩ := h; rfl) | (obtain ⟨_, _, _, _, _, _, _, _, _, _, rfl, _⟩ := h; rfl) | (obtain ⟨_, _, _, _, _, _, _, _, _, _, _, rfl, _⟩ := h; rfl) | (split at h <;> first | rfl | exact h.elim)) h
theorem pp_mean {K : PySem.W.Frag} {cs : List Str} (T : KF K cs) (hRatio : ("Ratio" : Str) ∈ cs) (hPoly : ("Poly" : Str) ∈ cs) (vs : List V) (H : Hp) (Q : VK) (E : XK) (h : lift K (fMean cs) vs H Q E) : tt_mean K cs E { nx := fun _ H' => Q .non H', rt := Q } (start ["row", "p", "numbers"] vs) H :=
  fn_ok (t := fun E => tt_mean K cs E) rfl (s_mean T hRatio hPoly) (p_mean hRatio hPoly) vs H Q E h
theorem len__law_is_integer {K : PySem.W.Frag} {cs : List Str} (vs : List V) (H : Hp) (Q : VK) (E : XK) (h : lift K (fIsInt cs) vs H Q E) : vs.length = 1 := lift_len (fun ds P X h => by unfold fIsInt at h; first | (obtain ⟨rfl, _⟩ := h; rfl) | (obtain ⟨_, rfl, _⟩ := h; rfl) | (obtain ⟨_, _, rfl, _⟩ := h; rfl) | (obtain ⟨_, _, _, rfl, _⟩ := h; rfl) | (obtain ⟨_, _, _, _, rfl, _⟩ := h; rfl) | (obtain ⟨_, _, _, _, _, rfl, _⟩ := h; rfl) | (obtain ⟨_, _, _, _, _, _, rfl, _⟩ := h; rfl) | (obtain ⟨_, _, _, _, _, _, _, rfl, _⟩ := h; rfl) | (obtain ⟨_, _, _, _, _, _, _, _, rfl, _⟩ := h; rfl) | (obtain ⟨_, _, _, _, _, _, _, _, _, rfl, _⟩ := h; rfl) | (obtain ⟨_, _, _, _, _, _, _, _, _, _, rfl, _⟩ := h; rfl) | (obtain ⟨_, _, _, _, _, _, _, _, _, _, _, rfl, _⟩ := h; rfl) | (split at h <;> first | rfl | exact h.elim)) h
theorem pp__law_is_integer {K : PySem.W.Frag} {cs : List Str} (T : KF K cs) (hRatio : ("Ratio" : Str) ∈ cs) (hPoly : ("Poly" : Str) ∈ cs) (vs : List V) (H : Hp) (Q : VK) (E : XK) (h : lift K (fIsInt cs) vs H Q E) : tt__law_is_integer K cs { nx := fun _ H' => Q .non H', rt := Q } (start ["_law_value"] vs) H :=
  fn_ok0 rfl (s__law_is_integer T hRatio hPoly) (p__law_is_integer hRatio hPoly) vs H Q E h
theorem len__law_number {K : PySem.W.Frag} {cs : List Str} (vs : List V) (H : Hp) (Q : VK) (E : XK) (h : lift K fNumber vs H Q E) : vs.length = 2 := lift_len (fun ds P X h => by unfold fNumber at h; first | (obtain ⟨rfl, _⟩ := h; rfl) | (obtain ⟨_, rfl, _⟩ := h; rfl) | (obtain ⟨_, _, rfl, _⟩ := h; rfl) | (obtain ⟨_, _, _, rfl, _⟩ := h; rfl) | (obtain ⟨_, _, _, _, rfl, _⟩ := h; rfl) | (obtain ⟨_, _, _, _, _, rfl, _⟩ := h; rfl) | (obtain ⟨_, _, _, _, _, _, rfl, _⟩ := h; rfl) | (obtain ⟨_, _, _, _, _, _, _, rfl, _⟩ := h; rfl) | (obtain ⟨_, _, _, _, _, _, _, _, rfl, _⟩ := h; rfl) | (obtain ⟨_, _, _, _, _, _, _, _, _, rfl, _⟩ := h; rfl) | (obtain ⟨_, _, _, _, _, _, _, _, _, _, rfl, _⟩ := h; rfl) | (obtain ⟨_, _, _, _, _, _, _, _, _, _, _, rfl, _⟩ := h; rfl) | (split at h <;> first | rfl | exact h.elim)) h
theorem pp__law_number {K : PySem.W.Frag} {cs : List Str} (T : KF K cs) (hRatio : ("Ratio" : Str) ∈ cs) (hPoly : ("Poly" : Str) ∈ cs) (vs : List V) (H : Hp) (Q : VK) (E : XK) (h : lift K fNumber vs H Q E) : tt__law_number K cs { nx := fun _ H' => Q .non H', rt := Q } (start ["_law_feed_here", "_law_size", "_law_sign"] vs) H :=
  fn_ok0 rfl (s__law_number T hRatio hPoly) (p__law_number hRatio hPoly) vs H Q E h
theorem len__law_is {K : PySem.W.Frag} {cs : List Str} (vs : List V) (H : Hp) (Q : VK) (E : XK) (h : lift K fIs vs H Q E) : vs.length = 3 := lift_len (fun ds P X h => by unfold fIs at h; first | (obtain ⟨rfl, _⟩ := h; rfl) | (obtain ⟨_, rfl, _⟩ := h; rfl) | (obtain ⟨_, _, rfl, _⟩ := h; rfl) | (obtain ⟨_, _, _, rfl, _⟩ := h; rfl) | (obtain ⟨_, _, _, _, rfl, _⟩ := h; rfl) | (obtain ⟨_, _, _, _, _, rfl, _⟩ := h; rfl) | (obtain ⟨_, _, _, _, _, _, rfl, _⟩ := h; rfl) | (obtain ⟨_, _, _, _, _, _, _, rfl, _⟩ := h; rfl) | (obtain ⟨_, _, _, _, _, _, _, _, rfl, _⟩ := h; rfl) | (obtain ⟨_, _, _, _, _, _, _, _, _, rfl, _⟩ := h; rfl) | (obtain ⟨_, _, _, _, _, _, _, _, _, _, rfl, _⟩ := h; rfl) | (obtain ⟨_, _, _, _, _, _, _, _, _, _, _, rfl, _⟩ := h; rfl) | (split at h <;> first | rfl | exact h.elim)) h
theorem pp__law_is {K : PySem.W.Frag} {cs : List Str} (T : KF K cs) (hRatio : ("Ratio" : Str) ∈ cs) (hPoly : ("Poly" : Str) ∈ cs) (vs : List V) (H : Hp) (Q : VK) (E : XK) (h : lift K fIs vs H Q E) : tt__law_is K cs { nx := fun _ H' => Q .non H', rt := Q } (start ["_law_value", "_law_top", "_law_bottom"] vs) H :=
  fn_ok0 rfl (s__law_is T hRatio hPoly) (p__law_is hRatio hPoly) vs H Q E h
theorem len__law_add {K : PySem.W.Frag} {cs : List Str} (vs : List V) (H : Hp) (Q : VK) (E : XK) (h : lift K fLAdd vs H Q E) : vs.length = 2 := lift_len (fun ds P X h => by unfold fLAdd at h; first | (obtain ⟨rfl, _⟩ := h; rfl) | (obtain ⟨_, rfl, _⟩ := h; rfl) | (obtain ⟨_, _, rfl, _⟩ := h; rfl) | (obtain ⟨_, _, _, rfl, _⟩ := h; rfl) | (obtain ⟨_, _, _, _, rfl, _⟩ := h; rfl) | (obtain ⟨_, _, _, _, _, rfl, _⟩ := h; rfl) | (obtain ⟨_, _, _, _, _, _, rfl, _⟩ := h; rfl) | (obtain ⟨_, _, _, _, _, _, _, rfl, _⟩ := h; rfl) | (obtain ⟨_, _, _, _, _, _, _, _, rfl, _⟩ := h; rfl) | (obtain ⟨_, _, _, _, _, _, _, _, _, rfl, _⟩ := h; rfl) | (obtain ⟨_, _, _, _, _, _, _, _, _, _, rfl, _⟩ := h; rfl) | (obtain ⟨_, _, _, _, _, _, _, _, _, _, _, rfl, _⟩ := h; rfl) | (split at h <;> first | rfl | exact h.elim)) h
theorem pp__law_add {K : PySem.W.Frag} {cs : List Str} (T : KF K cs) (hRatio : ("Ratio" : Str) ∈ cs) (hPoly : ("Poly" : Str) ∈ cs) (vs : List V) (H : Hp) (Q : VK) (E : XK) (h : lift K fLAdd vs H Q E) : tt__law_add K cs { nx := fun _ H' => Q .non H', rt := Q } (start ["_law_a", "_law_b"] vs) H :=
  fn_ok0 rfl (s__law_add T hRatio hPoly) (p__law_add hRatio hPoly) vs H Q E h
theorem len__law_times {K : PySem.W.Frag} {cs : List Str} (vs : List V) (H : Hp) (Q : VK) (E : XK) (h : lift K fLTimes vs H Q E) : vs.length = 2 := lift_len (fun ds P X h => by unfold fLTimes at h; first | (obtain ⟨rfl, _⟩ := h; rfl) | (obtain ⟨_, rfl, _⟩ := h; rfl) | (obtain ⟨_, _, rfl, _⟩ := h; rfl) | (obtain ⟨_, _, _, rfl, _⟩ := h; rfl) | (obtain ⟨_, _, _, _, rfl, _⟩ := h; rfl) | (obtain ⟨_, _, _, _, _, rfl, _⟩ := h; rfl) | (obtain ⟨_, _, _, _, _, _, rfl, _⟩ := h; rfl) | (obtain ⟨_, _, _, _, _, _, _, rfl, _⟩ := h; rfl) | (obtain ⟨_, _, _, _, _, _, _, _, rfl, _⟩ := h; rfl) | (obtain ⟨_, _, _, _, _, _, _, _, _, rfl, _⟩ := h; rfl) | (obtain ⟨_, _, _, _, _, _, _, _, _, _, rfl, _⟩ := h; rfl) | (obtain ⟨_, _, _, _, _, _, _, _, _, _, _, rfl, _⟩ := h; rfl) | (split at h <;> first | rfl | exact h.elim)) h
theorem pp__law_times {K : PySem.W.Frag} {cs : List Str} (T : KF K cs) (hRatio : ("Ratio" : Str) ∈ cs) (hPoly : ("Poly" : Str) ∈ cs) (vs : List V) (H : Hp) (Q : VK) (E : XK) (h : lift K fLTimes vs H Q E) : tt__law_times K cs { nx := fun _ H' => Q .non H', rt := Q } (start ["_law_a", "_law_b"] vs) H :=
  fn_ok0 rfl (s__law_times T hRatio hPoly) (p__law_times hRatio hPoly) vs H Q E h
theorem len__law_ratios {K : PySem.W.Frag} {cs : List Str} (vs : List V) (H : Hp) (Q : VK) (E : XK) (h : lift K fLRatios vs H Q E) : vs.length = 1 := lift_len (fun ds P X h => by unfold fLRatios at h; first | (obtain ⟨rfl, _⟩ := h; rfl) | (obtain ⟨_, rfl, _⟩ := h; rfl) | (obtain ⟨_, _, rfl, _⟩ := h; rfl) | (obtain ⟨_, _, _, rfl, _⟩ := h; rfl) | (obtain ⟨_, _, _, _, rfl, _⟩ := h; rfl) | (obtain ⟨_, _, _, _, _, rfl, _⟩ := h; rfl) | (obtain ⟨_, _, _, _, _, _, rfl, _⟩ := h; rfl) | (obtain ⟨_, _, _, _, _, _, _, rfl, _⟩ := h; rfl) | (obtain ⟨_, _, _, _, _, _, _, _, rfl, _⟩ := h; rfl) | (obtain ⟨_, _, _, _, _, _, _, _, _, rfl, _⟩ := h; rfl) | (obtain ⟨_, _, _, _, _, _, _, _, _, _, rfl, _⟩ := h; rfl) | (obtain ⟨_, _, _, _, _, _, _, _, _, _, _, rfl, _⟩ := h; rfl) | (split at h <;> first | rfl | exact h.elim)) h
theorem pp__law_ratios {K : PySem.W.Frag} {cs : List Str} (T : KF K cs) (hRatio : ("Ratio" : Str) ∈ cs) (hPoly : ("Poly" : Str) ∈ cs) (vs : List V) (H : Hp) (Q : VK) (E : XK) (h : lift K fLRatios vs H Q E) : tt__law_ratios K cs { nx := fun _ H' => Q .non H', rt := Q } (start ["_law_pairs", "_law_pair"] vs) H :=
  fn_ok0 rfl (s__law_ratios T hRatio hPoly) (p__law_ratios hRatio hPoly) vs H Q E h
theorem len__law_row {K : PySem.W.Frag} {cs : List Str} (vs : List V) (H : Hp) (Q : VK) (E : XK) (h : lift K fLRow vs H Q E) : vs.length = 2 := lift_len (fun ds P X h => by unfold fLRow at h; first | (obtain ⟨rfl, _⟩ := h; rfl) | (obtain ⟨_, rfl, _⟩ := h; rfl) | (obtain ⟨_, _, rfl, _⟩ := h; rfl) | (obtain ⟨_, _, _, rfl, _⟩ := h; rfl) | (obtain ⟨_, _, _, _, rfl, _⟩ := h; rfl) | (obtain ⟨_, _, _, _, _, rfl, _⟩ := h; rfl) | (obtain ⟨_, _, _, _, _, _, rfl, _⟩ := h; rfl) | (obtain ⟨_, _, _, _, _, _, _, rfl, _⟩ := h; rfl) | (obtain ⟨_, _, _, _, _, _, _, _, rfl, _⟩ := h; rfl) | (obtain ⟨_, _, _, _, _, _, _, _, _, rfl, _⟩ := h; rfl) | (obtain ⟨_, _, _, _, _, _, _, _, _, _, rfl, _⟩ := h; rfl) | (obtain ⟨_, _, _, _, _, _, _, _, _, _, _, rfl, _⟩ := h; rfl) | (split at h <;> first | rfl | exact h.elim)) h
theorem pp__law_row {K : PySem.W.Frag} {cs : List Str} (T : KF K cs) (hRatio : ("Ratio" : Str) ∈ cs) (hPoly : ("Poly" : Str) ∈ cs) (vs : List V) (H : Hp) (Q : VK) (E : XK) (h : lift K fLRow vs H Q E) : tt__law_row K cs { nx := fun _ H' => Q .non H', rt := Q } (start ["_law_feed_here", "_law_most", "_law_size", "_law_bottom", "_law_row_here", "_law_k"] vs) H :=
  fn_ok0 rfl (s__law_row T hRatio hPoly) (p__law_row hRatio hPoly) vs H Q E h
theorem len__law_coefficients {K : PySem.W.Frag} {cs : List Str} (vs : List V) (H : Hp) (Q : VK) (E : XK) (h : lift K fLCoefs vs H Q E) : vs.length = 2 := lift_len (fun ds P X h => by unfold fLCoefs at h; first | (obtain ⟨rfl, _⟩ := h; rfl) | (obtain ⟨_, rfl, _⟩ := h; rfl) | (obtain ⟨_, _, rfl, _⟩ := h; rfl) | (obtain ⟨_, _, _, rfl, _⟩ := h; rfl) | (obtain ⟨_, _, _, _, rfl, _⟩ := h; rfl) | (obtain ⟨_, _, _, _, _, rfl, _⟩ := h; rfl) | (obtain ⟨_, _, _, _, _, _, rfl, _⟩ := h; rfl) | (obtain ⟨_, _, _, _, _, _, _, rfl, _⟩ := h; rfl) | (obtain ⟨_, _, _, _, _, _, _, _, rfl, _⟩ := h; rfl) | (obtain ⟨_, _, _, _, _, _, _, _, _, rfl, _⟩ := h; rfl) | (obtain ⟨_, _, _, _, _, _, _, _, _, _, rfl, _⟩ := h; rfl) | (obtain ⟨_, _, _, _, _, _, _, _, _, _, _, rfl, _⟩ := h; rfl) | (split at h <;> first | rfl | exact h.elim)) h
theorem pp__law_coefficients {K : PySem.W.Frag} {cs : List Str} (T : KF K cs) (hRatio : ("Ratio" : Str) ∈ cs) (hPoly : ("Poly" : Str) ∈ cs) (vs : List V) (H : Hp) (Q : VK) (E : XK) (h : lift K fLCoefs vs H Q E) : tt__law_coefficients K cs { nx := fun _ H' => Q .non H', rt := Q } (start ["_law_feed_here", "_law_most", "_law_row_here", "_law_size", "_law_bottom", "_law_k"] vs) H :=
  fn_ok0 rfl (s__law_coefficients T hRatio hPoly) (p__law_coefficients hRatio hPoly) vs H Q E h
theorem len__law_due {K : PySem.W.Frag} {cs : List Str} (vs : List V) (H : Hp) (Q : VK) (E : XK) (h : lift K fLDue vs H Q E) : vs.length = 2 := lift_len (fun ds P X h => by unfold fLDue at h; first | (obtain ⟨rfl, _⟩ := h; rfl) | (obtain ⟨_, rfl, _⟩ := h; rfl) | (obtain ⟨_, _, rfl, _⟩ := h; rfl) | (obtain ⟨_, _, _, rfl, _⟩ := h; rfl) | (obtain ⟨_, _, _, _, rfl, _⟩ := h; rfl) | (obtain ⟨_, _, _, _, _, rfl, _⟩ := h; rfl) | (obtain ⟨_, _, _, _, _, _, rfl, _⟩ := h; rfl) | (obtain ⟨_, _, _, _, _, _, _, rfl, _⟩ := h; rfl) | (obtain ⟨_, _, _, _, _, _, _, _, rfl, _⟩ := h; rfl) | (obtain ⟨_, _, _, _, _, _, _, _, _, rfl, _⟩ := h; rfl) | (obtain ⟨_, _, _, _, _, _, _, _, _, _, rfl, _⟩ := h; rfl) | (obtain ⟨_, _, _, _, _, _, _, _, _, _, _, rfl, _⟩ := h; rfl) | (split at h <;> first | rfl | exact h.elim)) h
theorem pp__law_due {K : PySem.W.Frag} {cs : List Str} (T : KF K cs) (hRatio : ("Ratio" : Str) ∈ cs) (hPoly : ("Poly" : Str) ∈ cs) (vs : List V) (H : Hp) (Q : VK) (E : XK) (h : lift K fLDue vs H Q E) : tt__law_due K cs { nx := fun _ H' => Q .non H', rt := Q } (start ["_law_row_here", "_law_coefficients_here", "_law_total", "_law_k"] vs) H :=
  fn_ok0 rfl (s__law_due T hRatio hPoly) (p__law_due hRatio hPoly) vs H Q E h
theorem len__law_degree {K : PySem.W.Frag} {cs : List Str} (vs : List V) (H : Hp) (Q : VK) (E : XK) (h : lift K fLDeg vs H Q E) : vs.length = 1 := lift_len (fun ds P X h => by unfold fLDeg at h; first | (obtain ⟨rfl, _⟩ := h; rfl) | (obtain ⟨_, rfl, _⟩ := h; rfl) | (obtain ⟨_, _, rfl, _⟩ := h; rfl) | (obtain ⟨_, _, _, rfl, _⟩ := h; rfl) | (obtain ⟨_, _, _, _, rfl, _⟩ := h; rfl) | (obtain ⟨_, _, _, _, _, rfl, _⟩ := h; rfl) | (obtain ⟨_, _, _, _, _, _, rfl, _⟩ := h; rfl) | (obtain ⟨_, _, _, _, _, _, _, rfl, _⟩ := h; rfl) | (obtain ⟨_, _, _, _, _, _, _, _, rfl, _⟩ := h; rfl) | (obtain ⟨_, _, _, _, _, _, _, _, _, rfl, _⟩ := h; rfl) | (obtain ⟨_, _, _, _, _, _, _, _, _, _, rfl, _⟩ := h; rfl) | (obtain ⟨_, _, _, _, _, _, _, _, _, _, _, rfl, _⟩ := h; rfl) | (split at h <;> first | rfl | exact h.elim)) h
theorem pp__law_degree {K : PySem.W.Frag} {cs : List Str} (T : KF K cs) (hRatio : ("Ratio" : Str) ∈ cs) (hPoly : ("Poly" : Str) ∈ cs) (vs : List V) (H : Hp) (Q : VK) (E : XK) (h : lift K fLDeg vs H Q E) : tt__law_degree K cs { nx := fun _ H' => Q .non H', rt := Q } (start ["_law_coefficients_here", "_law_degree_here", "_law_k"] vs) H :=
  fn_ok0 rfl (s__law_degree T hRatio hPoly) (p__law_degree hRatio hPoly) vs H Q E h
theorem len__law_refused {K : PySem.W.Frag} {cs : List Str} (vs : List V) (H : Hp) (Q : VK) (E : XK) (h : lift K (fLRefused cs) vs H Q E) : vs.length = 2 := lift_len (fun ds P X h => by unfold fLRefused at h; first | (obtain ⟨rfl, _⟩ := h; rfl) | (obtain ⟨_, rfl, _⟩ := h; rfl) | (obtain ⟨_, _, rfl, _⟩ := h; rfl) | (obtain ⟨_, _, _, rfl, _⟩ := h; rfl) | (obtain ⟨_, _, _, _, rfl, _⟩ := h; rfl) | (obtain ⟨_, _, _, _, _, rfl, _⟩ := h; rfl) | (obtain ⟨_, _, _, _, _, _, rfl, _⟩ := h; rfl) | (obtain ⟨_, _, _, _, _, _, _, rfl, _⟩ := h; rfl) | (obtain ⟨_, _, _, _, _, _, _, _, rfl, _⟩ := h; rfl) | (obtain ⟨_, _, _, _, _, _, _, _, _, rfl, _⟩ := h; rfl) | (obtain ⟨_, _, _, _, _, _, _, _, _, _, rfl, _⟩ := h; rfl) | (obtain ⟨_, _, _, _, _, _, _, _, _, _, _, rfl, _⟩ := h; rfl) | (split at h <;> first | rfl | exact h.elim)) h
theorem pp__law_refused {K : PySem.W.Frag} {cs : List Str} (T : KF K cs) (XO : XOk K xt18) (IX : IOk K xt18) (hRatio : ("Ratio" : Str) ∈ cs) (hPoly : ("Poly" : Str) ∈ cs) (vs : List V) (H : Hp) (Q : VK) (E : XK) (h : lift K (fLRefused cs) vs H Q E) : tt__law_refused K cs { nx := fun _ H' => Q .non H', rt := Q } (start ["_law_row_here", "_law_p", "_law_found", "e"] vs) H :=
  fn_ok0 rfl (s__law_refused T XO IX hRatio hPoly) (p__law_refused hRatio hPoly) vs H Q E h
theorem pp_law {K : PySem.W.Frag} {cs : List Str} (T : KF K cs) (hRatio : ("Ratio" : Str) ∈ cs) (hPoly : ("Poly" : Str) ∈ cs) (vs : List V) (H : Hp) (Q : VK) (E : XK) (h : spLaw K vs H Q E) : tt_law K cs { nx := fun _ H' => Q .non H', rt := Q } (start ["_law_script", "_law_feed_here", "_law_k", "_law_row_here", "_law_coefficients_here", "_law_p", "_law_numbers", "_law_j", "_law_edge", "_law_due_here"] vs) H :=
  law_ok (n := 8) rfl (s_law_rest T hRatio hPoly) (p_law hRatio hPoly) vs H Q E h
end MR

set_option Elab.async false
set_option linter.all false
set_option maxRecDepth 100000
set_option maxHeartbeats 4000000
set_option exponentiation.threshold 20000
namespace MR
open PySem PySem.Spec PyProof.Rows L2
def top (i : Nat) : Stmt := PySem.Challenge.pw_momentrows_k18_mean_of_a_poly.main.body.getD i (.Pass ⟨0, 0, 0, 0⟩)
abbrev s_is_integer_ : Stmt := top 11
abbrev s_common_part_ : Stmt := top 12
abbrev s_Ratio_init_ : Stmt := inClass (top 13) 0
abbrev s_Ratio_add_ : Stmt := inClass (top 13) 7
abbrev s_Ratio_mul_ : Stmt := inClass (top 13) 11
abbrev s_Ratio_rmul_ : Stmt := inClass (top 13) 12
abbrev s_Ratio_eq_ : Stmt := inClass (top 13) 1
abbrev s_is_number_ : Stmt := top 19
abbrev s_as_ratio_ : Stmt := top 20
abbrev s_without_zeros_ : Stmt := top 32
abbrev s_coefficients_of_ : Stmt := top 31
abbrev s_added_ : Stmt := top 33
abbrev s_Poly_init_ : Stmt := inClass (top 27) 0
abbrev s_Poly_add_ : Stmt := inClass (top 27) 3
abbrev s_check_row_ : Stmt := top 23
abbrev s_mean_of_ : Stmt := top 24
abbrev s_mean_ : Stmt := top 25
abbrev s__law_is_integer_ : Stmt := top 37
abbrev s__law_feed_ : Stmt := top 38
abbrev s__law_take_ : Stmt := top 39
abbrev s__law_number_ : Stmt := top 40
abbrev s__law_is_ : Stmt := top 41
abbrev s__law_add_ : Stmt := top 42
abbrev s__law_times_ : Stmt := top 43
abbrev s__law_ratios_ : Stmt := top 44
abbrev s__law_row_ : Stmt := top 45
abbrev s__law_coefficients_ : Stmt := top 46
abbrev s__law_due_ : Stmt := top 47
abbrev s__law_degree_ : Stmt := top 48
abbrev s__law_refused_ : Stmt := top 49
abbrev s_law_ : Stmt := top 50
theorem sc_is_integer : FnScope ["value"] ["value"] (defScope s_is_integer_) := ⟨rfl, rfl, rfl, by decide +kernel, rfl, by decide +kernel, by decide +kernel⟩
theorem sc_common_part : FnScope ["one", "other"] ["one", "other"] (defScope s_common_part_) := ⟨rfl, rfl, rfl, by decide +kernel, rfl, by decide +kernel, by decide +kernel⟩
theorem sc_Ratio_init : FnScope ["self", "top", "bottom", "divisor"] ["self", "top", "bottom"] (defScope s_Ratio_init_) := ⟨rfl, rfl, rfl, by decide +kernel, rfl, by decide +kernel, by decide +kernel⟩
theorem sc_Ratio_add : FnScope ["self", "other"] ["self", "other"] (defScope s_Ratio_add_) := ⟨rfl, rfl, rfl, by decide +kernel, rfl, by decide +kernel, by decide +kernel⟩
theorem sc_Ratio_mul : FnScope ["self", "other"] ["self", "other"] (defScope s_Ratio_mul_) := ⟨rfl, rfl, rfl, by decide +kernel, rfl, by decide +kernel, by decide +kernel⟩
theorem sc_Ratio_rmul : FnScope ["self", "other"] ["self", "other"] (defScope s_Ratio_rmul_) := ⟨rfl, rfl, rfl, by decide +kernel, rfl, by decide +kernel, by decide +kernel⟩
theorem sc_Ratio_eq : FnScope ["self", "other"] ["self", "other"] (defScope s_Ratio_eq_) := ⟨rfl, rfl, rfl, by decide +kernel, rfl, by decide +kernel, by decide +kernel⟩
theorem sc_is_number : FnScope ["value"] ["value"] (defScope s_is_number_) := ⟨rfl, rfl, rfl, by decide +kernel, rfl, by decide +kernel, by decide +kernel⟩
theorem sc_as_ratio : FnScope ["value", "word"] ["value", "word"] (defScope s_as_ratio_) := ⟨rfl, rfl, rfl, by decide +kernel, rfl, by decide +kernel, by decide +kernel⟩
theorem sc_without_zeros : FnScope ["row", "size"] ["row"] (defScope s_without_zeros_) := ⟨rfl, rfl, rfl, by decide +kernel, rfl, by decide +kernel, by decide +kernel⟩
theorem sc_coefficients_of : FnScope ["value"] ["value"] (defScope s_coefficients_of_) := ⟨rfl, rfl, rfl, by decide +kernel, rfl, by decide +kernel, by decide +kernel⟩
theorem sc_added : FnScope ["one", "other", "row", "k", "total"] ["one", "other"] (defScope s_added_) := ⟨rfl, rfl, rfl, by decide +kernel, rfl, by decide +kernel, by decide +kernel⟩
theorem sc_Poly_init : FnScope ["self", "coefficients", "item", "kept"] ["self", "coefficients"] (defScope s_Poly_init_) := ⟨rfl, rfl, rfl, by decide +kernel, rfl, by decide +kernel, by decide +kernel⟩
theorem sc_Poly_add : FnScope ["self", "other", "row"] ["self", "other"] (defScope s_Poly_add_) := ⟨rfl, rfl, rfl, by decide +kernel, rfl, by decide +kernel, by decide +kernel⟩
theorem sc_check_row : FnScope ["row", "limit", "index", "item"] ["row", "limit"] (defScope s_check_row_) := ⟨rfl, rfl, rfl, by decide +kernel, rfl, by decide +kernel, by decide +kernel⟩
theorem sc_mean_of : FnScope ["numbers", "p", "total", "k", "c"] ["numbers", "p"] (defScope s_mean_of_) := ⟨rfl, rfl, rfl, by decide +kernel, rfl, by decide +kernel, by decide +kernel⟩
theorem sc_mean : FnScope ["row", "p", "numbers"] ["row", "p"] (defScope s_mean_) := ⟨rfl, rfl, rfl, by decide +kernel, rfl, by decide +kernel, by decide +kernel⟩
theorem sc__law_is_integer : FnScope ["_law_value"] ["_law_value"] (defScope s__law_is_integer_) := ⟨rfl, rfl, rfl, by decide +kernel, rfl, by decide +kernel, by decide +kernel⟩
theorem sc__law_feed : FnScope ["_law_script", "_law_cell"] ["_law_script"] (defScope s__law_feed_) := ⟨rfl, rfl, rfl, by decide +kernel, rfl, by decide +kernel, by decide +kernel⟩
theorem sc__law_take : FnScope ["_law_feed_here", "_law_size", "_law_number_here", "_law_cell", "_law_digit"] ["_law_feed_here", "_law_size"] (defScope s__law_take_) := ⟨rfl, rfl, rfl, by decide +kernel, rfl, by decide +kernel, by decide +kernel⟩
theorem sc__law_number : FnScope ["_law_feed_here", "_law_size", "_law_sign"] ["_law_feed_here", "_law_size"] (defScope s__law_number_) := ⟨rfl, rfl, rfl, by decide +kernel, rfl, by decide +kernel, by decide +kernel⟩
theorem sc__law_is : FnScope ["_law_value", "_law_top", "_law_bottom"] ["_law_value", "_law_top", "_law_bottom"] (defScope s__law_is_) := ⟨rfl, rfl, rfl, by decide +kernel, rfl, by decide +kernel, by decide +kernel⟩
theorem sc__law_add : FnScope ["_law_a", "_law_b"] ["_law_a", "_law_b"] (defScope s__law_add_) := ⟨rfl, rfl, rfl, by decide +kernel, rfl, by decide +kernel, by decide +kernel⟩
theorem sc__law_times : FnScope ["_law_a", "_law_b"] ["_law_a", "_law_b"] (defScope s__law_times_) := ⟨rfl, rfl, rfl, by decide +kernel, rfl, by decide +kernel, by decide +kernel⟩
theorem sc__law_ratios : FnScope ["_law_pairs", "_law_pair"] ["_law_pairs"] (defScope s__law_ratios_) := ⟨rfl, rfl, rfl, by decide +kernel, rfl, by decide +kernel, by decide +kernel⟩
theorem sc__law_row : FnScope ["_law_feed_here", "_law_most", "_law_size", "_law_bottom", "_law_row_here", "_law_k"] ["_law_feed_here", "_law_most"] (defScope s__law_row_) := ⟨rfl, rfl, rfl, by decide +kernel, rfl, by decide +kernel, by decide +kernel⟩
theorem sc__law_coefficients : FnScope ["_law_feed_here", "_law_most", "_law_row_here", "_law_size", "_law_bottom", "_law_k"] ["_law_feed_here", "_law_most"] (defScope s__law_coefficients_) := ⟨rfl, rfl, rfl, by decide +kernel, rfl, by decide +kernel, by decide +kernel⟩
theorem sc__law_due : FnScope ["_law_row_here", "_law_coefficients_here", "_law_total", "_law_k"] ["_law_row_here", "_law_coefficients_here"] (defScope s__law_due_) := ⟨rfl, rfl, rfl, by decide +kernel, rfl, by decide +kernel, by decide +kernel⟩
theorem sc__law_degree : FnScope ["_law_coefficients_here", "_law_degree_here", "_law_k"] ["_law_coefficients_here"] (defScope s__law_degree_) := ⟨rfl, rfl, rfl, by decide +kernel, rfl, by decide +kernel, by decide +kernel⟩
theorem sc__law_refused : FnScope ["_law_row_here", "_law_p", "_law_found", "e"] ["_law_row_here", "_law_p"] (defScope s__law_refused_) := ⟨rfl, rfl, rfl, by decide +kernel, rfl, by decide +kernel, by decide +kernel⟩
theorem sc_law : FnScope ["_law_script", "_law_feed_here", "_law_k", "_law_row_here", "_law_coefficients_here", "_law_p", "_law_numbers", "_law_j", "_law_edge", "_law_due_here"] ["_law_script"] (defScope s_law_) := ⟨rfl, rfl, rfl, by decide +kernel, rfl, by decide +kernel, by decide +kernel⟩
def dd_is_integer : He.DefD := ⟨("is_integer", none), "is_integer", "is_integer", defArgs s_is_integer_, defBody s_is_integer_, defScope s_is_integer_, [], []⟩
def dd_common_part : He.DefD := ⟨("common_part", none), "common_part", "common_part", defArgs s_common_part_, defBody s_common_part_, defScope s_common_part_, [], []⟩
def dd_Ratio_init : He.DefD := ⟨("Ratio", some "__init__"), "__init__", "Ratio.__init__", defArgs s_Ratio_init_, defBody s_Ratio_init_, defScope s_Ratio_init_, [.int 1], []⟩
def dd_Ratio_add : He.DefD := ⟨("Ratio", some "__add__"), "__add__", "Ratio.__add__", defArgs s_Ratio_add_, defBody s_Ratio_add_, defScope s_Ratio_add_, [], []⟩
def dd_Ratio_mul : He.DefD := ⟨("Ratio", some "__mul__"), "__mul__", "Ratio.__mul__", defArgs s_Ratio_mul_, defBody s_Ratio_mul_, defScope s_Ratio_mul_, [], []⟩
def dd_Ratio_rmul : He.DefD := ⟨("Ratio", some "__rmul__"), "__rmul__", "Ratio.__rmul__", defArgs s_Ratio_rmul_, defBody s_Ratio_rmul_, defScope s_Ratio_rmul_, [], []⟩
def dd_Ratio_eq : He.DefD := ⟨("Ratio", some "__eq__"), "__eq__", "Ratio.__eq__", defArgs s_Ratio_eq_, defBody s_Ratio_eq_, defScope s_Ratio_eq_, [], []⟩
def dd_is_number : He.DefD := ⟨("is_number", none), "is_number", "is_number", defArgs s_is_number_, defBody s_is_number_, defScope s_is_number_, [], []⟩
def dd_as_ratio : He.DefD := ⟨("as_ratio", none), "as_ratio", "as_ratio", defArgs s_as_ratio_, defBody s_as_ratio_, defScope s_as_ratio_, [], []⟩
def dd_without_zeros : He.DefD := ⟨("without_zeros", none), "without_zeros", "without_zeros", defArgs s_without_zeros_, defBody s_without_zeros_, defScope s_without_zeros_, [], []⟩
def dd_coefficients_of : He.DefD := ⟨("coefficients_of", none), "coefficients_of", "coefficients_of", defArgs s_coefficients_of_, defBody s_coefficients_of_, defScope s_coefficients_of_, [], []⟩
def dd_added : He.DefD := ⟨("added", none), "added", "added", defArgs s_added_, defBody s_added_, defScope s_added_, [], []⟩
def dd_Poly_init : He.DefD := ⟨("Poly", some "__init__"), "__init__", "Poly.__init__", defArgs s_Poly_init_, defBody s_Poly_init_, defScope s_Poly_init_, [], []⟩
def dd_Poly_add : He.DefD := ⟨("Poly", some "__add__"), "__add__", "Poly.__add__", defArgs s_Poly_add_, defBody s_Poly_add_, defScope s_Poly_add_, [], []⟩
def dd_check_row : He.DefD := ⟨("check_row", none), "check_row", "check_row", defArgs s_check_row_, defBody s_check_row_, defScope s_check_row_, [.int 13], []⟩
def dd_mean_of : He.DefD := ⟨("mean_of", none), "mean_of", "mean_of", defArgs s_mean_of_, defBody s_mean_of_, defScope s_mean_of_, [], []⟩
def dd_mean : He.DefD := ⟨("mean", none), "mean", "mean", defArgs s_mean_, defBody s_mean_, defScope s_mean_, [], []⟩
def dd__law_is_integer : He.DefD := ⟨("_law_is_integer", none), "_law_is_integer", "_law_is_integer", defArgs s__law_is_integer_, defBody s__law_is_integer_, defScope s__law_is_integer_, [], []⟩
def dd__law_feed : He.DefD := ⟨("_law_feed", none), "_law_feed", "_law_feed", defArgs s__law_feed_, defBody s__law_feed_, defScope s__law_feed_, [], []⟩
def dd__law_take : He.DefD := ⟨("_law_take", none), "_law_take", "_law_take", defArgs s__law_take_, defBody s__law_take_, defScope s__law_take_, [], []⟩
def dd__law_number : He.DefD := ⟨("_law_number", none), "_law_number", "_law_number", defArgs s__law_number_, defBody s__law_number_, defScope s__law_number_, [], []⟩
def dd__law_is : He.DefD := ⟨("_law_is", none), "_law_is", "_law_is", defArgs s__law_is_, defBody s__law_is_, defScope s__law_is_, [], []⟩
def dd__law_add : He.DefD := ⟨("_law_add", none), "_law_add", "_law_add", defArgs s__law_add_, defBody s__law_add_, defScope s__law_add_, [], []⟩
def dd__law_times : He.DefD := ⟨("_law_times", none), "_law_times", "_law_times", defArgs s__law_times_, defBody s__law_times_, defScope s__law_times_, [], []⟩
def dd__law_ratios : He.DefD := ⟨("_law_ratios", none), "_law_ratios", "_law_ratios", defArgs s__law_ratios_, defBody s__law_ratios_, defScope s__law_ratios_, [], []⟩
def dd__law_row : He.DefD := ⟨("_law_row", none), "_law_row", "_law_row", defArgs s__law_row_, defBody s__law_row_, defScope s__law_row_, [], []⟩
def dd__law_coefficients : He.DefD := ⟨("_law_coefficients", none), "_law_coefficients", "_law_coefficients", defArgs s__law_coefficients_, defBody s__law_coefficients_, defScope s__law_coefficients_, [], []⟩
def dd__law_due : He.DefD := ⟨("_law_due", none), "_law_due", "_law_due", defArgs s__law_due_, defBody s__law_due_, defScope s__law_due_, [], []⟩
def dd__law_degree : He.DefD := ⟨("_law_degree", none), "_law_degree", "_law_degree", defArgs s__law_degree_, defBody s__law_degree_, defScope s__law_degree_, [], []⟩
def dd__law_refused : He.DefD := ⟨("_law_refused", none), "_law_refused", "_law_refused", defArgs s__law_refused_, defBody s__law_refused_, defScope s__law_refused_, [], []⟩
def dd_law : He.DefD := ⟨("law", none), "law", "law", defArgs s_law_, defBody s_law_, defScope s_law_, [], []⟩
def fnL : List He.DefD := [dd_is_integer, dd_common_part, dd_Ratio_init, dd_Ratio_add, dd_Ratio_mul, dd_Ratio_rmul, dd_Ratio_eq, dd_is_number, dd_as_ratio, dd_without_zeros, dd_coefficients_of, dd_added, dd_Poly_init, dd_Poly_add, dd_check_row, dd_mean_of, dd_mean, dd__law_is_integer, dd__law_feed, dd__law_take, dd__law_number, dd__law_is, dd__law_add, dd__law_times, dd__law_ratios, dd__law_row, dd__law_coefficients, dd__law_due, dd__law_degree, dd__law_refused, dd_law]
abbrev csL : List Str := ["Ratio", "Poly"]
abbrev xtL : XTab := [("NoMean", "NoMean", true), ("NoMean", "MeansError", true), ("NoMean", "NoRow", false)]
def bsL : List Fct := [(fun K => (He.Fa.free "isinstance").ok K),
  (fun K => (He.Fa.free "int").ok K),
  (fun K => (He.Fa.free "bool").ok K),
  (fun K => (He.Fa.free "abs").ok K),
  (fun K => (He.Fa.free "len").ok K),
  (fun K => (He.Fa.free "list").ok K),
  (fun K => (He.Fa.free "range").ok K),
  (fun K => (He.Fa.free "max").ok K),
  (fun K => (He.Fa.free "tuple").ok K),
  (fun K => (He.Fa.free "enumerate").ok K),
  (fun K => (He.Fa.free "min").ok K),
  (fun K => (He.Fa.glo "is_integer").ok K),
  (fun K => (He.Fa.glo "common_part").ok K),
  (fun K => (He.Fa.glo "NoRatio").ok K),
  (fun K => (He.Fa.glo "Ratio").ok K),
  (fun K => (He.Fa.glo "is_number").ok K),
  (fun K => (He.Fa.glo "NoNumber").ok K),
  (fun K => (He.Fa.glo "as_ratio").ok K),
  (fun K => (He.Fa.glo "without_zeros").ok K),
  (fun K => (He.Fa.glo "Poly").ok K),
  (fun K => (He.Fa.glo "coefficients_of").ok K),
  (fun K => (He.Fa.glo "added").ok K),
  (fun K => (He.Fa.glo "NoPoly").ok K),
  (fun K => (He.Fa.glo "NoRow").ok K),
  (fun K => (He.Fa.glo "check_row").ok K),
  (fun K => (He.Fa.glo "mean_of").ok K),
  (fun K => (He.Fa.glo "NoMean").ok K),
  (fun K => (He.Fa.glo "mean").ok K),
  (fun K => (He.Fa.glo "_law_is_integer").ok K),
  (fun K => (He.Fa.glo "_law_feed").ok K),
  (fun K => (He.Fa.glo "_law_take").ok K),
  (fun K => (He.Fa.glo "_law_number").ok K),
  (fun K => (He.Fa.glo "_law_is").ok K),
  (fun K => (He.Fa.glo "_law_add").ok K),
  (fun K => (He.Fa.glo "_law_times").ok K),
  (fun K => (He.Fa.glo "_law_ratios").ok K),
  (fun K => (He.Fa.glo "_law_row").ok K),
  (fun K => (He.Fa.glo "_law_coefficients").ok K),
  (fun K => (He.Fa.glo "_law_due").ok K),
  (fun K => (He.Fa.glo "_law_degree").ok K),
  (fun K => (He.Fa.glo "MeansError").ok K),
  (fun K => (He.Fa.glo "_law_refused").ok K),
  (fun K => (He.Fa.glo "law").ok K),
  (supF PySem.Challenge.pw_momentrows_k18_mean_of_a_poly "NoRatio" "word"),
  (supF PySem.Challenge.pw_momentrows_k18_mean_of_a_poly "NoNumber" "word"),
  (supF PySem.Challenge.pw_momentrows_k18_mean_of_a_poly "NoRow" "index"),
  (ex0F "NoPoly"),
  (ex0F "NoMean"),
  (ktF csL),
  (xoF xtL),
  (ioF xtL),
  (opF "Ratio" "add"),
  (opF "Ratio" "mul"),
  (opF "Poly" "add"),
  (fun K => (He.Fa.mkr "Ratio").ok K),
  (fun K => (He.Fa.meth "Ratio" "__add__").ok K),
  (fun K => (He.Fa.meth "Ratio" "__mul__").ok K),
  (fun K => (He.Fa.meth "Ratio" "__rmul__").ok K),
  (fun K => (He.Fa.meth "Ratio" "__eq__").ok K),
  (fun K => (He.Fa.mkr "Poly").ok K),
  (fun K => (He.Fa.meth "Poly" "__add__").ok K)]
structure Bd (K : PySem.W.Frag) (mg : Str → Option Value) : Prop where
  st : ∃ h : Heap, K.In h ∧ h.Ns mainGlobals mg
  says : SaysM bsL fnL K
section
variable {K : PySem.W.Frag} {mg : Str → Option Value}
theorem fr_isinstance (B : Bd K mg) : mg "isinstance" = none := let ⟨_, X, G⟩ := B.st; He.free_ok X G (B.says.fact 0 rfl)
theorem fr_int (B : Bd K mg) : mg "int" = none := let ⟨_, X, G⟩ := B.st; He.free_ok X G (B.says.fact 1 rfl)
theorem fr_bool (B : Bd K mg) : mg "bool" = none := let ⟨_, X, G⟩ := B.st; He.free_ok X G (B.says.fact 2 rfl)
theorem fr_abs (B : Bd K mg) : mg "abs" = none := let ⟨_, X, G⟩ := B.st; He.free_ok X G (B.says.fact 3 rfl)
theorem fr_len (B : Bd K mg) : mg "len" = none := let ⟨_, X, G⟩ := B.st; He.free_ok X G (B.says.fact 4 rfl)
theorem fr_list (B : Bd K mg) : mg "list" = none := let ⟨_, X, G⟩ := B.st; He.free_ok X G (B.says.fact 5 rfl)
theorem fr_range (B : Bd K mg) : mg "range" = none := let ⟨_, X, G⟩ := B.st; He.free_ok X G (B.says.fact 6 rfl)
theorem fr_max (B : Bd K mg) : mg "max" = none := let ⟨_, X, G⟩ := B.st; He.free_ok X G (B.says.fact 7 rfl)
theorem fr_tuple (B : Bd K mg) : mg "tuple" = none := let ⟨_, X, G⟩ := B.st; He.free_ok X G (B.says.fact 8 rfl)
theorem fr_enumerate (B : Bd K mg) : mg "enumerate" = none := let ⟨_, X, G⟩ := B.st; He.free_ok X G (B.says.fact 9 rfl)
theorem fr_min (B : Bd K mg) : mg "min" = none := let ⟨_, X, G⟩ := B.st; He.free_ok X G (B.says.fact 10 rfl)
theorem gl_is_integer (B : Bd K mg) : mg "is_integer" = some (.ref (He.ga K "is_integer")) := let ⟨_, X, G⟩ := B.st; He.glo_ok X G (B.says.fact 11 rfl)
theorem gl_common_part (B : Bd K mg) : mg "common_part" = some (.ref (He.ga K "common_part")) := let ⟨_, X, G⟩ := B.st; He.glo_ok X G (B.says.fact 12 rfl)
theorem gl_NoRatio (B : Bd K mg) : mg "NoRatio" = some (.ref (He.ga K "NoRatio")) := let ⟨_, X, G⟩ := B.st; He.glo_ok X G (B.says.fact 13 rfl)
theorem gl_Ratio (B : Bd K mg) : mg "Ratio" = some (.ref (He.ga K "Ratio")) := let ⟨_, X, G⟩ := B.st; He.glo_ok X G (B.says.fact 14 rfl)
theorem gl_is_number (B : Bd K mg) : mg "is_number" = some (.ref (He.ga K "is_number")) := let ⟨_, X, G⟩ := B.st; He.glo_ok X G (B.says.fact 15 rfl)
theorem gl_NoNumber (B : Bd K mg) : mg "NoNumber" = some (.ref (He.ga K "NoNumber")) := let ⟨_, X, G⟩ := B.st; He.glo_ok X G (B.says.fact 16 rfl)
theorem gl_as_ratio (B : Bd K mg) : mg "as_ratio" = some (.ref (He.ga K "as_ratio")) := let ⟨_, X, G⟩ := B.st; He.glo_ok X G (B.says.fact 17 rfl)
theorem gl_without_zeros (B : Bd K mg) : mg "without_zeros" = some (.ref (He.ga K "without_zeros")) := let ⟨_, X, G⟩ := B.st; He.glo_ok X G (B.says.fact 18 rfl)
theorem gl_Poly (B : Bd K mg) : mg "Poly" = some (.ref (He.ga K "Poly")) := let ⟨_, X, G⟩ := B.st; He.glo_ok X G (B.says.fact 19 rfl)
theorem gl_coefficients_of (B : Bd K mg) : mg "coefficients_of" = some (.ref (He.ga K "coefficients_of")) := let ⟨_, X, G⟩ := B.st; He.glo_ok X G (B.says.fact 20 rfl)
theorem gl_added (B : Bd K mg) : mg "added" = some (.ref (He.ga K "added")) := let ⟨_, X, G⟩ := B.st; He.glo_ok X G (B.says.fact 21 rfl)
theorem gl_NoPoly (B : Bd K mg) : mg "NoPoly" = some (.ref (He.ga K "NoPoly")) := let ⟨_, X, G⟩ := B.st; He.glo_ok X G (B.says.fact 22 rfl)
theorem gl_NoRow (B : Bd K mg) : mg "NoRow" = some (.ref (He.ga K "NoRow")) := let ⟨_, X, G⟩ := B.st; He.glo_ok X G (B.says.fact 23 rfl)
theorem gl_check_row (B : Bd K mg) : mg "check_row" = some (.ref (He.ga K "check_row")) := let ⟨_, X, G⟩ := B.st; He.glo_ok X G (B.says.fact 24 rfl)
theorem gl_mean_of (B : Bd K mg) : mg "mean_of" = some (.ref (He.ga K "mean_of")) := let ⟨_, X, G⟩ := B.st; He.glo_ok X G (B.says.fact 25 rfl)
theorem gl_NoMean (B : Bd K mg) : mg "NoMean" = some (.ref (He.ga K "NoMean")) := let ⟨_, X, G⟩ := B.st; He.glo_ok X G (B.says.fact 26 rfl)
theorem gl_mean (B : Bd K mg) : mg "mean" = some (.ref (He.ga K "mean")) := let ⟨_, X, G⟩ := B.st; He.glo_ok X G (B.says.fact 27 rfl)
theorem gl__law_is_integer (B : Bd K mg) : mg "_law_is_integer" = some (.ref (He.ga K "_law_is_integer")) := let ⟨_, X, G⟩ := B.st; He.glo_ok X G (B.says.fact 28 rfl)
theorem gl__law_feed (B : Bd K mg) : mg "_law_feed" = some (.ref (He.ga K "_law_feed")) := let ⟨_, X, G⟩ := B.st; He.glo_ok X G (B.says.fact 29 rfl)
theorem gl__law_take (B : Bd K mg) : mg "_law_take" = some (.ref (He.ga K "_law_take")) := let ⟨_, X, G⟩ := B.st; He.glo_ok X G (B.says.fact 30 rfl)
theorem gl__law_number (B : Bd K mg) : mg "_law_number" = some (.ref (He.ga K "_law_number")) := let ⟨_, X, G⟩ := B.st; He.glo_ok X G (B.says.fact 31 rfl)
theorem gl__law_is (B : Bd K mg) : mg "_law_is" = some (.ref (He.ga K "_law_is")) := let ⟨_, X, G⟩ := B.st; He.glo_ok X G (B.says.fact 32 rfl)
theorem gl__law_add (B : Bd K mg) : mg "_law_add" = some (.ref (He.ga K "_law_add")) := let ⟨_, X, G⟩ := B.st; He.glo_ok X G (B.says.fact 33 rfl)
theorem gl__law_times (B : Bd K mg) : mg "_law_times" = some (.ref (He.ga K "_law_times")) := let ⟨_, X, G⟩ := B.st; He.glo_ok X G (B.says.fact 34 rfl)
theorem gl__law_ratios (B : Bd K mg) : mg "_law_ratios" = some (.ref (He.ga K "_law_ratios")) := let ⟨_, X, G⟩ := B.st; He.glo_ok X G (B.says.fact 35 rfl)
theorem gl__law_row (B : Bd K mg) : mg "_law_row" = some (.ref (He.ga K "_law_row")) := let ⟨_, X, G⟩ := B.st; He.glo_ok X G (B.says.fact 36 rfl)
theorem gl__law_coefficients (B : Bd K mg) : mg "_law_coefficients" = some (.ref (He.ga K "_law_coefficients")) := let ⟨_, X, G⟩ := B.st; He.glo_ok X G (B.says.fact 37 rfl)
theorem gl__law_due (B : Bd K mg) : mg "_law_due" = some (.ref (He.ga K "_law_due")) := let ⟨_, X, G⟩ := B.st; He.glo_ok X G (B.says.fact 38 rfl)
theorem gl__law_degree (B : Bd K mg) : mg "_law_degree" = some (.ref (He.ga K "_law_degree")) := let ⟨_, X, G⟩ := B.st; He.glo_ok X G (B.says.fact 39 rfl)
theorem gl_MeansError (B : Bd K mg) : mg "MeansError" = some (.ref (He.ga K "MeansError")) := let ⟨_, X, G⟩ := B.st; He.glo_ok X G (B.says.fact 40 rfl)
theorem gl__law_refused (B : Bd K mg) : mg "_law_refused" = some (.ref (He.ga K "_law_refused")) := let ⟨_, X, G⟩ := B.st; He.glo_ok X G (B.says.fact 41 rfl)
theorem gl_law (B : Bd K mg) : mg "law" = some (.ref (He.ga K "law")) := let ⟨_, X, G⟩ := B.st; He.glo_ok X G (B.says.fact 42 rfl)
theorem sup_NoRatio (B : Bd K mg) : SupC PySem.Challenge.pw_momentrows_k18_mean_of_a_poly K (He.ga K "NoRatio") (He.ma K (He.ga K "NoRatio") "__init__") "word" := supF_ok (B.says.fact 43 rfl)
theorem sup_NoNumber (B : Bd K mg) : SupC PySem.Challenge.pw_momentrows_k18_mean_of_a_poly K (He.ga K "NoNumber") (He.ma K (He.ga K "NoNumber") "__init__") "word" := supF_ok (B.says.fact 44 rfl)
theorem sup_NoRow (B : Bd K mg) : SupC PySem.Challenge.pw_momentrows_k18_mean_of_a_poly K (He.ga K "NoRow") (He.ma K (He.ga K "NoRow") "__init__") "index" := supF_ok (B.says.fact 45 rfl)
theorem x0_NoPoly (B : Bd K mg) : Ex0 K (He.ga K "NoPoly") := ex0F_ok (B.says.fact 46 rfl)
theorem x0_NoMean (B : Bd K mg) : Ex0 K (He.ga K "NoMean") := ex0F_ok (B.says.fact 47 rfl)
theorem KFB (B : Bd K mg) : KF K csL := ktF_ok (B.says.fact 48 rfl)
theorem XOB (B : Bd K mg) : XOk K xtL := xoF_ok (B.says.fact 49 rfl)
theorem IOB (B : Bd K mg) : IOk K xtL := ioF_ok (B.says.fact 50 rfl)
theorem oc_Ratio_add (B : Bd K mg) : OpC K (He.ga K "Ratio") "add" := opF_ok (B.says.fact 51 rfl)
theorem oc_Ratio_mul (B : Bd K mg) : OpC K (He.ga K "Ratio") "mul" := opF_ok (B.says.fact 52 rfl)
theorem oc_Poly_add (B : Bd K mg) : OpC K (He.ga K "Poly") "add" := opF_ok (B.says.fact 53 rfl)
theorem RT (B : Bd K mg) : RTxt K := ⟨(KFB B).own _ (by decide), ((KFB B).fld "Ratio" (by decide) "top" (by decide)).na, ((KFB B).fld "Ratio" (by decide) "bottom" (by decide)).na⟩
end
section
variable {w : World} {K : PySem.W.Frag} {mg : Str → Option Value} {base : Heap}
theorem fo_is_integer (B : Bd K mg) : ∃ fd, FunD K "is_integer" "is_integer" (defArgs s_is_integer_) (defBody s_is_integer_) (defScope s_is_integer_) [] [] (He.ga K "is_integer") fd ∧ FnOk PySem.Challenge.pw_momentrows_k18_mean_of_a_poly w K mg base (CXX PySem.Challenge.pw_momentrows_k18_mean_of_a_poly w) 1 (He.ga K "is_integer") fd ["value"] (spIsInt K) := by
  obtain ⟨fd, F0⟩ := B.says.def_ 0 (d := dd_is_integer) rfl
  have F : FunD K "is_integer" "is_integer" (defArgs s_is_integer_) (defBody s_is_integer_) (defScope s_is_integer_) [] [] (He.ga K "is_integer") fd := F0
  refine ⟨fd, F, F.ok sc_is_integer (fun vs H Q E h => ?_) (fun cdv A outer s H vs Q E hr h => ⟨t_is_integer K, ?_, pure_is_integer vs H Q E h⟩)⟩
  · first | (obtain ⟨_, rfl, _⟩ := h; rfl) | (obtain ⟨_, _, rfl, _⟩ := h; rfl) | (obtain ⟨_, _, _, rfl, _⟩ := h; rfl) | (obtain ⟨_, _, _, _, rfl, _⟩ := h; rfl) | (obtain ⟨_, _, _, _, _, rfl, _⟩ := h; rfl) | (obtain ⟨_, _, _, _, _, _, rfl, _⟩ := h; rfl) | (obtain ⟨_, _, _, _, _, _, _, rfl, _⟩ := h; rfl) | (obtain ⟨_, _, _, _, _, _, _, _, rfl, _⟩ := h; rfl) | (obtain ⟨_, _, _, _, _, _, _, _, _, rfl, _⟩ := h; rfl) | (obtain ⟨_, _, _, _, _, _, _, _, _, _, rfl, _⟩ := h; rfl) | (obtain ⟨_, _, _, _, _, _, _, _, _, _, _, rfl, _⟩ := h; rfl) | (obtain ⟨_, _, _, _, _, _, _, _, _, _, _, _, rfl, _⟩ := h; rfl)
  · exact (pss_one (ps_ret (pe_and (pe_callB call_isi (by rfl) (fr_isinstance B) (by decide +kernel) (pa_cons (pv 0) (pa_cons (pe_bltn (v := .ty "int") (by rfl) (fr_int B) (by decide +kernel) rfl) pa_nil))) (pe_one (pe_not (pe_callB call_isi (by rfl) (fr_isinstance B) (by decide +kernel) (pa_cons (pv 0) (pa_cons (pe_bltn (v := .ty "bool") (by rfl) (fr_bool B) (by decide +kernel) rfl) pa_nil))))))))
theorem d_is_integer (B : Bd K mg) : DefOk PySem.Challenge.pw_momentrows_k18_mean_of_a_poly w K mg base 1 "is_integer" [] (spIsInt K) := by
  obtain ⟨fd, F, G⟩ := fo_is_integer (w := w) (base := base) B
  exact ⟨_, fd, ["value"], [], gl_is_integer B, F.kp, G, F.bindsN fun _ _ _ _ _ _ us hl => match us, hl with | [_], _ => rfl, .nil⟩
theorem fo_common_part (B : Bd K mg) : ∃ fd, FunD K "common_part" "common_part" (defArgs s_common_part_) (defBody s_common_part_) (defScope s_common_part_) [] [] (He.ga K "common_part") fd ∧ FnOk PySem.Challenge.pw_momentrows_k18_mean_of_a_poly w K mg base (CXX PySem.Challenge.pw_momentrows_k18_mean_of_a_poly w) 1 (He.ga K "common_part") fd ["one", "other"] spGcd := by
  obtain ⟨fd, F0⟩ := B.says.def_ 1 (d := dd_common_part) rfl
  have F : FunD K "common_part" "common_part" (defArgs s_common_part_) (defBody s_common_part_) (defScope s_common_part_) [] [] (He.ga K "common_part") fd := F0
  refine ⟨fd, F, F.ok sc_common_part (fun vs H Q E h => ?_) (fun cdv A outer s H vs Q E hr h => ⟨t_common_part K, ?_, pure_common_part vs H Q E h⟩)⟩
  · first | (obtain ⟨_, rfl, _⟩ := h; rfl) | (obtain ⟨_, _, rfl, _⟩ := h; rfl) | (obtain ⟨_, _, _, rfl, _⟩ := h; rfl) | (obtain ⟨_, _, _, _, rfl, _⟩ := h; rfl) | (obtain ⟨_, _, _, _, _, rfl, _⟩ := h; rfl) | (obtain ⟨_, _, _, _, _, _, rfl, _⟩ := h; rfl) | (obtain ⟨_, _, _, _, _, _, _, rfl, _⟩ := h; rfl) | (obtain ⟨_, _, _, _, _, _, _, _, rfl, _⟩ := h; rfl) | (obtain ⟨_, _, _, _, _, _, _, _, _, rfl, _⟩ := h; rfl) | (obtain ⟨_, _, _, _, _, _, _, _, _, _, rfl, _⟩ := h; rfl) | (obtain ⟨_, _, _, _, _, _, _, _, _, _, _, rfl, _⟩ := h; rfl) | (obtain ⟨_, _, _, _, _, _, _, _, _, _, _, _, rfl, _⟩ := h; rfl)
  · exact (pss_cons (ps_par (by rfl) sc_common_part.nd rfl rfl (by decide) rfl rfl (pa_cons (pe_callB call_abs (by rfl) (fr_abs B) (by decide +kernel) (pa_cons (pv 0) pa_nil)) (pa_cons (pe_callB call_abs (by rfl) (fr_abs B) (by decide +kernel) (pa_cons (pv 1) pa_nil)) pa_nil)) (by rfl))
  (pss_cons (ps_while (passes_of rfl) (pt_cmpR op_gt (pv 1) pe_int (nomark _)) (pss_one (ps_par (by rfl) sc_common_part.nd rfl rfl (by decide) rfl rfl (pa_cons (pv 1) (pa_cons (pe_op op_modN (pv 0) (pv 1)) pa_nil)) (by rfl))))
  (pss_one (ps_ret (pv 0)))))
theorem d_common_part (B : Bd K mg) : DefOk PySem.Challenge.pw_momentrows_k18_mean_of_a_poly w K mg base 1 "common_part" [] spGcd := by
  obtain ⟨fd, F, G⟩ := fo_common_part (w := w) (base := base) B
  exact ⟨_, fd, ["one", "other"], [], gl_common_part B, F.kp, G, F.bindsN fun _ _ _ _ _ _ us hl => match us, hl with | [_, _], _ => rfl, .nil⟩
theorem fo_without_zeros (B : Bd K mg) : ∃ fd, FunD K "without_zeros" "without_zeros" (defArgs s_without_zeros_) (defBody s_without_zeros_) (defScope s_without_zeros_) [] [] (He.ga K "without_zeros") fd ∧ FnOk PySem.Challenge.pw_momentrows_k18_mean_of_a_poly w K mg base (CXX PySem.Challenge.pw_momentrows_k18_mean_of_a_poly w) 1 (He.ga K "without_zeros") fd ["row"] (lift K fStrip) := by
  obtain ⟨fd, F0⟩ := B.says.def_ 9 (d := dd_without_zeros) rfl
  have F : FunD K "without_zeros" "without_zeros" (defArgs s_without_zeros_) (defBody s_without_zeros_) (defScope s_without_zeros_) [] [] (He.ga K "without_zeros") fd := F0
  refine ⟨fd, F, F.ok sc_without_zeros (fun vs H Q E h => ?_) (fun cdv A outer s H vs Q E hr h => ⟨tt_without_zeros K csL, ?_, pp_without_zeros (KFB B) (by decide) (by decide) vs H Q E h⟩)⟩
  · exact len_without_zeros (cs := csL) _ _ _ _ h
  · exact (pss_cons (ps_set (i := 1) sc_without_zeros.nd rfl (Or.inl rfl) (pe_callB call_len (by rfl) (fr_len B) (by decide +kernel) (pa_cons (pv 0) pa_nil)))
  (pss_cons (ps_while (passes_of rfl) (PW.pt (pw_and (pt_cmpR op_gt (pv 1) pe_int (nomark _)) (pw_and1 (pt_cmpR op_eq (pe_fld (pe_ix ix_list (pv 0) (pe_op op_sub (pv 1) pe_int) (fun _ _ => rfl)) rfl) pe_int (nomark _))))) (pss_one (ps_set (i := 1) sc_without_zeros.nd rfl (Or.inl rfl) (pe_op op_sub (pv 1) pe_int))))
  (pss_one (ps_ret (pe_slice sl_list (pv 0) po_none (po_some (pv 1)))))))
theorem d_without_zeros (B : Bd K mg) : DefOk PySem.Challenge.pw_momentrows_k18_mean_of_a_poly w K mg base 1 "without_zeros" [] (lift K fStrip) := by
  obtain ⟨fd, F, G⟩ := fo_without_zeros (w := w) (base := base) B
  exact ⟨_, fd, ["row"], [], gl_without_zeros B, F.kp, G, F.bindsN fun _ _ _ _ _ _ us hl => match us, hl with | [_], _ => rfl, .nil⟩
theorem fo__law_is_integer (B : Bd K mg) : ∃ fd, FunD K "_law_is_integer" "_law_is_integer" (defArgs s__law_is_integer_) (defBody s__law_is_integer_) (defScope s__law_is_integer_) [] [] (He.ga K "_law_is_integer") fd ∧ FnOk PySem.Challenge.pw_momentrows_k18_mean_of_a_poly w K mg base (CXX PySem.Challenge.pw_momentrows_k18_mean_of_a_poly w) 1 (He.ga K "_law_is_integer") fd ["_law_value"] (lift K (fIsInt csL)) := by
  obtain ⟨fd, F0⟩ := B.says.def_ 17 (d := dd__law_is_integer) rfl
  have F : FunD K "_law_is_integer" "_law_is_integer" (defArgs s__law_is_integer_) (defBody s__law_is_integer_) (defScope s__law_is_integer_) [] [] (He.ga K "_law_is_integer") fd := F0
  refine ⟨fd, F, F.ok sc__law_is_integer (fun vs H Q E h => ?_) (fun cdv A outer s H vs Q E hr h => ⟨tt__law_is_integer K csL, ?_, pp__law_is_integer (KFB B) (by decide) (by decide) vs H Q E h⟩)⟩
  · exact len__law_is_integer (cs := csL) _ _ _ _ h
  · exact (pss_one (ps_ret (pe_and (pe_callB call_isi (by rfl) (fr_isinstance B) (by decide +kernel) (pa_cons (pv 0) (pa_cons (pe_bltn (v := .ty "int") (by rfl) (fr_int B) (by decide +kernel) rfl) pa_nil))) (pe_one (pe_not (pe_callB call_isi (by rfl) (fr_isinstance B) (by decide +kernel) (pa_cons (pv 0) (pa_cons (pe_bltn (v := .ty "bool") (by rfl) (fr_bool B) (by decide +kernel) rfl) pa_nil))))))))
theorem d__law_is_integer (B : Bd K mg) : DefOk PySem.Challenge.pw_momentrows_k18_mean_of_a_poly w K mg base 1 "_law_is_integer" [] (lift K (fIsInt csL)) := by
  obtain ⟨fd, F, G⟩ := fo__law_is_integer (w := w) (base := base) B
  exact ⟨_, fd, ["_law_value"], [], gl__law_is_integer B, F.kp, G, F.bindsN fun _ _ _ _ _ _ us hl => match us, hl with | [_], _ => rfl, .nil⟩
theorem fo__law_feed (B : Bd K mg) : ∃ fd, FunD K "_law_feed" "_law_feed" (defArgs s__law_feed_) (defBody s__law_feed_) (defScope s__law_feed_) [] [] (He.ga K "_law_feed") fd ∧ FnOk PySem.Challenge.pw_momentrows_k18_mean_of_a_poly w K mg base (CXX PySem.Challenge.pw_momentrows_k18_mean_of_a_poly w) 1 (He.ga K "_law_feed") fd ["_law_script"] (spFeedC K) := by
  obtain ⟨fd, F0⟩ := B.says.def_ 18 (d := dd__law_feed) rfl
  have F : FunD K "_law_feed" "_law_feed" (defArgs s__law_feed_) (defBody s__law_feed_) (defScope s__law_feed_) [] [] (He.ga K "_law_feed") fd := F0
  refine ⟨fd, F, F.ok sc__law_feed (fun vs H Q E h => ?_) (fun cdv A outer s H vs Q E hr h => ⟨t__law_feed K, ?_, pure_feedC vs H Q E h⟩)⟩
  · first | (obtain ⟨_, rfl, _⟩ := h; rfl) | (obtain ⟨_, _, rfl, _⟩ := h; rfl) | (obtain ⟨_, _, _, rfl, _⟩ := h; rfl) | (obtain ⟨_, _, _, _, rfl, _⟩ := h; rfl) | (obtain ⟨_, _, _, _, _, rfl, _⟩ := h; rfl) | (obtain ⟨_, _, _, _, _, _, rfl, _⟩ := h; rfl) | (obtain ⟨_, _, _, _, _, _, _, rfl, _⟩ := h; rfl) | (obtain ⟨_, _, _, _, _, _, _, _, rfl, _⟩ := h; rfl) | (obtain ⟨_, _, _, _, _, _, _, _, _, rfl, _⟩ := h; rfl) | (obtain ⟨_, _, _, _, _, _, _, _, _, _, rfl, _⟩ := h; rfl) | (obtain ⟨_, _, _, _, _, _, _, _, _, _, _, rfl, _⟩ := h; rfl) | (obtain ⟨_, _, _, _, _, _, _, _, _, _, _, _, rfl, _⟩ := h; rfl)
  · exact (pss_one (ps_ret (pe_lst (pa_cons (pe_lc (own := [("_law_cell", 1)]) (g := (gName 1)) (tt := tYes) rfl sc__law_feed.nd (pi_list (pe_slice sl_list (pv 0) po_none (po_some pe_int))) (blkOk_by (N := ["_law_script", "_law_cell"]) (sc := defScope s__law_feed_) (own := [("_law_cell", 1)]) (by decide +kernel)) (fun _ _ _ _ _ => pg_name (i := 1) sc__law_feed.nd rfl (Or.inl rfl)) (fun _ _ _ _ _ => pts_nil) (fun _ _ _ _ _ => (pe_callB call_abs (by rfl) (fr_abs B) (by decide +kernel) (pa_cons (pe_callTy call_int1 (by rfl) (fr_int B) (by decide +kernel) (pa_cons (pv 1) pa_nil)) pa_nil)))) (pa_cons pe_int (pa_cons pe_int (pa_cons pe_int (pa_cons pe_int (pa_cons pe_int pa_nil)))))))))
theorem d__law_feed (B : Bd K mg) : DefOk PySem.Challenge.pw_momentrows_k18_mean_of_a_poly w K mg base 1 "_law_feed" [] (spFeedC K) := by
  obtain ⟨fd, F, G⟩ := fo__law_feed (w := w) (base := base) B
  exact ⟨_, fd, ["_law_script"], [], gl__law_feed B, F.kp, G, F.bindsN fun _ _ _ _ _ _ us hl => match us, hl with | [_], _ => rfl, .nil⟩
theorem fo__law_take (B : Bd K mg) : ∃ fd, FunD K "_law_take" "_law_take" (defArgs s__law_take_) (defBody s__law_take_) (defScope s__law_take_) [] [] (He.ga K "_law_take") fd ∧ FnOk PySem.Challenge.pw_momentrows_k18_mean_of_a_poly w K mg base (CXX PySem.Challenge.pw_momentrows_k18_mean_of_a_poly w) 1 (He.ga K "_law_take") fd ["_law_feed_here", "_law_size"] (lift K fTake) := by
  obtain ⟨fd, F0⟩ := B.says.def_ 19 (d := dd__law_take) rfl
  have F : FunD K "_law_take" "_law_take" (defArgs s__law_take_) (defBody s__law_take_) (defScope s__law_take_) [] [] (He.ga K "_law_take") fd := F0
  refine ⟨fd, F, F.ok sc__law_take (fun vs H Q E h => ?_) (fun cdv A outer s H vs Q E hr h => ⟨t__law_take K, ?_, pure__law_take' vs H Q E h⟩)⟩
  · exact lift_len (n := 2) (fun ds P X h => by obtain ⟨_, rfl, _⟩ := h; rfl) h
  · exact (pss_cons (ps_augS (pv 0) pe_int get_list pe_int ip_add set_list)
  (pss_cons (ps_if (PW.pt (pw_and (pt_cmpR op_eq (pe_ix ix_list (pv 0) pe_int (fun _ _ => rfl)) pe_int (nomark _)) (pw_and (pt_cmpR op_eq (pe_ix ix_list (pv 0) pe_int (fun _ _ => rfl)) pe_int (nomark _)) (pw_and1 (pt_cmpR op_lt (pe_ix ix_list (pv 0) pe_int (fun _ _ => rfl)) (pe_callB call_len (by rfl) (fr_len B) (by decide +kernel) (pa_cons (pe_ix ix_list (pv 0) pe_int (fun _ _ => rfl)) pa_nil)) (nomark _)))))) (pss_cons (ps_set (i := 3) sc__law_take.nd rfl (Or.inl rfl) (pe_ix ix_list (pe_ix ix_list (pv 0) pe_int (fun _ _ => rfl)) (pe_ix ix_list (pv 0) pe_int (fun _ _ => rfl)) (fun _ _ => rfl)))
  (pss_cons (ps_augS (pv 0) pe_int get_list pe_int ip_add set_list)
  (pss_one (ps_if (pt_cmpR op_ge (pv 3) (pe_op op_pow pe_int pe_int) (nomark _)) (pss_one (ps_asg (pv 3) (pg_sub (pv 0) pe_int set_list))) (pss_cons (ps_asg pe_int (pg_sub (pv 0) pe_int set_list))
  (pss_one (ps_asg (pe_op op_add (pe_ix ix_list (pv 0) pe_int (fun _ _ => rfl)) (pv 3)) (pg_sub (pv 0) pe_int set_list)))))))) pss_nil)
  (pss_cons (ps_if (pt_cmpR op_gt (pe_ix ix_list (pv 0) pe_int (fun _ _ => rfl)) pe_int (nomark _)) (pss_cons (ps_set (i := 4) sc__law_take.nd rfl (Or.inl rfl) (pe_op op_modN (pe_callTy call_int1 (by rfl) (fr_int B) (by decide +kernel) (pa_cons (pe_ix ix_list (pv 0) pe_int (fun _ _ => rfl)) pa_nil)) (pv 1)))
  (pss_cons (ps_asg (pe_op op_fdivZ (pe_ix ix_list (pv 0) pe_int (fun _ _ => rfl)) (pv 1)) (pg_sub (pv 0) pe_int set_list))
  (pss_one (ps_ret (pv 4))))) pss_nil)
  (pss_cons (ps_asg (pe_callB (call_max2 rfl) (by rfl) (fr_max B) (by decide +kernel) (pa_cons pe_int (pa_cons (pe_op op_sub (pe_ix ix_list (pv 0) pe_int (fun _ _ => rfl)) pe_int) pa_nil))) (pg_sub (pv 0) pe_int set_list))
  (pss_cons (ps_set (i := 2) sc__law_take.nd rfl (Or.inl rfl) (pe_op op_modN (pe_callTy call_int1 (by rfl) (fr_int B) (by decide +kernel) (pa_cons (pe_op op_mulI (pe_op op_add (pe_op op_add (pe_ix ix_list (pv 0) pe_int (fun _ _ => rfl)) (pe_op op_mulI pe_int (pe_ix ix_list (pv 0) pe_int (fun _ _ => rfl)))) pe_int) pe_int) pa_nil)) pe_int))
  (pss_cons (ps_set (i := 2) sc__law_take.nd rfl (Or.inl rfl) (pe_op op_modN (pe_callTy call_int1 (by rfl) (fr_int B) (by decide +kernel) (pa_cons (pe_op op_mulI (pv 2) (pe_op op_add (pe_op op_fdivZ (pv 2) pe_int) pe_int)) pa_nil)) pe_int))
  (pss_cons (ps_set (i := 2) sc__law_take.nd rfl (Or.inl rfl) (pe_op op_modN (pe_callTy call_int1 (by rfl) (fr_int B) (by decide +kernel) (pa_cons (pe_op op_mulI (pv 2) (pe_op op_add (pe_op op_fdivZ (pv 2) pe_int) pe_int)) pa_nil)) pe_int))
  (pss_one (ps_ret (pe_op op_modN (pv 2) (pv 1)))))))))))
theorem d__law_take (B : Bd K mg) : DefOk PySem.Challenge.pw_momentrows_k18_mean_of_a_poly w K mg base 1 "_law_take" [] (lift K fTake) := by
  obtain ⟨fd, F, G⟩ := fo__law_take (w := w) (base := base) B
  exact ⟨_, fd, ["_law_feed_here", "_law_size"], [], gl__law_take B, F.kp, G, F.bindsN fun _ _ _ _ _ _ us hl => match us, hl with | [_, _], _ => rfl, .nil⟩
theorem fo__law_add (B : Bd K mg) : ∃ fd, FunD K "_law_add" "_law_add" (defArgs s__law_add_) (defBody s__law_add_) (defScope s__law_add_) [] [] (He.ga K "_law_add") fd ∧ FnOk PySem.Challenge.pw_momentrows_k18_mean_of_a_poly w K mg base (CXX PySem.Challenge.pw_momentrows_k18_mean_of_a_poly w) 1 (He.ga K "_law_add") fd ["_law_a", "_law_b"] (lift K fLAdd) := by
  obtain ⟨fd, F0⟩ := B.says.def_ 22 (d := dd__law_add) rfl
  have F : FunD K "_law_add" "_law_add" (defArgs s__law_add_) (defBody s__law_add_) (defScope s__law_add_) [] [] (He.ga K "_law_add") fd := F0
  refine ⟨fd, F, F.ok sc__law_add (fun vs H Q E h => ?_) (fun cdv A outer s H vs Q E hr h => ⟨tt__law_add K csL, ?_, pp__law_add (KFB B) (by decide) (by decide) vs H Q E h⟩)⟩
  · exact len__law_add (cs := csL) _ _ _ _ h
  · exact (pss_cons (ps_if (pt_cmpR op_eq (pe_ix ix_list (pv 0) pe_int (fun _ _ => rfl)) pe_int (nomark _)) (pss_one (ps_ret (pv 1))) pss_nil)
  (pss_cons (ps_if (pt_cmpR op_eq (pe_ix ix_list (pv 1) pe_int (fun _ _ => rfl)) pe_int (nomark _)) (pss_one (ps_ret (pv 0))) pss_nil)
  (pss_cons (ps_if (pt_cmpR op_eq (pe_ix ix_list (pv 0) pe_int (fun _ _ => rfl)) (pe_ix ix_list (pv 1) pe_int (fun _ _ => rfl)) (nomark _)) (pss_one (ps_ret (pe_lst (pa_cons (pe_op op_add (pe_ix ix_list (pv 0) pe_int (fun _ _ => rfl)) (pe_ix ix_list (pv 1) pe_int (fun _ _ => rfl))) (pa_cons (pe_ix ix_list (pv 0) pe_int (fun _ _ => rfl)) pa_nil))))) pss_nil)
  (pss_one (ps_ret (pe_lst (pa_cons (pe_op op_add (pe_op op_mulI (pe_ix ix_list (pv 0) pe_int (fun _ _ => rfl)) (pe_ix ix_list (pv 1) pe_int (fun _ _ => rfl))) (pe_op op_mulI (pe_ix ix_list (pv 1) pe_int (fun _ _ => rfl)) (pe_ix ix_list (pv 0) pe_int (fun _ _ => rfl)))) (pa_cons (pe_op op_mulI (pe_ix ix_list (pv 0) pe_int (fun _ _ => rfl)) (pe_ix ix_list (pv 1) pe_int (fun _ _ => rfl))) pa_nil))))))))
theorem d__law_add (B : Bd K mg) : DefOk PySem.Challenge.pw_momentrows_k18_mean_of_a_poly w K mg base 1 "_law_add" [] (lift K fLAdd) := by
  obtain ⟨fd, F, G⟩ := fo__law_add (w := w) (base := base) B
  exact ⟨_, fd, ["_law_a", "_law_b"], [], gl__law_add B, F.kp, G, F.bindsN fun _ _ _ _ _ _ us hl => match us, hl with | [_, _], _ => rfl, .nil⟩
theorem fo__law_times (B : Bd K mg) : ∃ fd, FunD K "_law_times" "_law_times" (defArgs s__law_times_) (defBody s__law_times_) (defScope s__law_times_) [] [] (He.ga K "_law_times") fd ∧ FnOk PySem.Challenge.pw_momentrows_k18_mean_of_a_poly w K mg base (CXX PySem.Challenge.pw_momentrows_k18_mean_of_a_poly w) 1 (He.ga K "_law_times") fd ["_law_a", "_law_b"] (lift K fLTimes) := by
  obtain ⟨fd, F0⟩ := B.says.def_ 23 (d := dd__law_times) rfl
  have F : FunD K "_law_times" "_law_times" (defArgs s__law_times_) (defBody s__law_times_) (defScope s__law_times_) [] [] (He.ga K "_law_times") fd := F0
  refine ⟨fd, F, F.ok sc__law_times (fun vs H Q E h => ?_) (fun cdv A outer s H vs Q E hr h => ⟨tt__law_times K csL, ?_, pp__law_times (KFB B) (by decide) (by decide) vs H Q E h⟩)⟩
  · exact len__law_times (cs := csL) _ _ _ _ h
  · exact (pss_one (ps_ret (pe_lst (pa_cons (pe_op op_mulI (pe_ix ix_list (pv 0) pe_int (fun _ _ => rfl)) (pe_ix ix_list (pv 1) pe_int (fun _ _ => rfl))) (pa_cons (pe_op op_mulI (pe_ix ix_list (pv 0) pe_int (fun _ _ => rfl)) (pe_ix ix_list (pv 1) pe_int (fun _ _ => rfl))) pa_nil)))))
theorem d__law_times (B : Bd K mg) : DefOk PySem.Challenge.pw_momentrows_k18_mean_of_a_poly w K mg base 1 "_law_times" [] (lift K fLTimes) := by
  obtain ⟨fd, F, G⟩ := fo__law_times (w := w) (base := base) B
  exact ⟨_, fd, ["_law_a", "_law_b"], [], gl__law_times B, F.kp, G, F.bindsN fun _ _ _ _ _ _ us hl => match us, hl with | [_, _], _ => rfl, .nil⟩
theorem fo__law_degree (B : Bd K mg) : ∃ fd, FunD K "_law_degree" "_law_degree" (defArgs s__law_degree_) (defBody s__law_degree_) (defScope s__law_degree_) [] [] (He.ga K "_law_degree") fd ∧ FnOk PySem.Challenge.pw_momentrows_k18_mean_of_a_poly w K mg base (CXX PySem.Challenge.pw_momentrows_k18_mean_of_a_poly w) 1 (He.ga K "_law_degree") fd ["_law_coefficients_here"] (lift K fLDeg) := by
  obtain ⟨fd, F0⟩ := B.says.def_ 28 (d := dd__law_degree) rfl
  have F : FunD K "_law_degree" "_law_degree" (defArgs s__law_degree_) (defBody s__law_degree_) (defScope s__law_degree_) [] [] (He.ga K "_law_degree") fd := F0
  refine ⟨fd, F, F.ok sc__law_degree (fun vs H Q E h => ?_) (fun cdv A outer s H vs Q E hr h => ⟨tt__law_degree K csL, ?_, pp__law_degree (KFB B) (by decide) (by decide) vs H Q E h⟩)⟩
  · exact len__law_degree (cs := csL) _ _ _ _ h
  · exact (pss_cons (ps_set (i := 1) sc__law_degree.nd rfl (Or.inl rfl) (pe_un un_neg pe_int))
  (pss_cons (ps_for (passes_of rfl) rfl (pi_range1 (by rfl) (fr_range B) (pa_cons (pe_callB call_len (by rfl) (fr_len B) (by decide +kernel) (pa_cons (pv 0) pa_nil)) pa_nil)) (pg_name (i := 2) sc__law_degree.nd rfl (Or.inl rfl)) (pss_one (ps_if (pt_cmpR op_ne (pe_ix ix_list (pe_ix ix_list (pv 0) (pv 2) (fun _ _ => rfl)) pe_int (fun _ _ => rfl)) pe_int (nomark _)) (pss_one (ps_set (i := 1) sc__law_degree.nd rfl (Or.inl rfl) (pv 2))) pss_nil)))
  (pss_one (ps_ret (pv 1)))))
theorem d__law_degree (B : Bd K mg) : DefOk PySem.Challenge.pw_momentrows_k18_mean_of_a_poly w K mg base 1 "_law_degree" [] (lift K fLDeg) := by
  obtain ⟨fd, F, G⟩ := fo__law_degree (w := w) (base := base) B
  exact ⟨_, fd, ["_law_coefficients_here"], [], gl__law_degree B, F.kp, G, F.bindsN fun _ _ _ _ _ _ us hl => match us, hl with | [_], _ => rfl, .nil⟩
theorem fo_Ratio_init (B : Bd K mg) : ∃ fd, FunD K "__init__" "Ratio.__init__" (defArgs s_Ratio_init_) (defBody s_Ratio_init_) (defScope s_Ratio_init_) [.int 1] [] (He.ma K (He.ga K "Ratio") "__init__") fd ∧ FnOk PySem.Challenge.pw_momentrows_k18_mean_of_a_poly w K mg base (CXX PySem.Challenge.pw_momentrows_k18_mean_of_a_poly w) 3 (He.ma K (He.ga K "Ratio") "__init__") fd ["self", "top", "bottom"] (spRInit K) := by
  obtain ⟨fd, F0⟩ := B.says.def_ 2 (d := dd_Ratio_init) rfl
  have F : FunD K "__init__" "Ratio.__init__" (defArgs s_Ratio_init_) (defBody s_Ratio_init_) (defScope s_Ratio_init_) [.int 1] [] (He.ma K (He.ga K "Ratio") "__init__") fd := F0
  refine ⟨fd, F, F.ok sc_Ratio_init (fun vs H Q E h => ?_) (fun cdv A outer s H vs Q E hr h => ⟨t_Ratio_init K E, ?_, pure_Ratio_init (RT B) vs H Q E h⟩)⟩
  · first | (obtain ⟨_, rfl, _⟩ := h; rfl) | (obtain ⟨_, _, rfl, _⟩ := h; rfl) | (obtain ⟨_, _, _, rfl, _⟩ := h; rfl) | (obtain ⟨_, _, _, _, rfl, _⟩ := h; rfl) | (obtain ⟨_, _, _, _, _, rfl, _⟩ := h; rfl) | (obtain ⟨_, _, _, _, _, _, rfl, _⟩ := h; rfl) | (obtain ⟨_, _, _, _, _, _, _, rfl, _⟩ := h; rfl) | (obtain ⟨_, _, _, _, _, _, _, _, rfl, _⟩ := h; rfl) | (obtain ⟨_, _, _, _, _, _, _, _, _, rfl, _⟩ := h; rfl) | (obtain ⟨_, _, _, _, _, _, _, _, _, _, rfl, _⟩ := h; rfl) | (obtain ⟨_, _, _, _, _, _, _, _, _, _, _, rfl, _⟩ := h; rfl) | (obtain ⟨_, _, _, _, _, _, _, _, _, _, _, _, rfl, _⟩ := h; rfl)
  · exact (pss_cons (ps_if (pt_not (pt_val (pe_callD (dvs := []) (d_is_integer B) (hr.mono (by decide)) rfl passL (pa_cons (pv 1) pa_nil)))) (pss_one (ps_raiseS rfl (sup_NoRatio B) pn_word (gl_NoRatio B) hr (takes_of rfl rfl rfl rfl) (pa_cons pe_str pa_nil))) pss_nil)
  (pss_cons (ps_if (pt_not (pt_val (pe_callD (dvs := []) (d_is_integer B) (hr.mono (by decide)) rfl passL (pa_cons (pv 2) pa_nil)))) (pss_one (ps_raiseS rfl (sup_NoRatio B) pn_word (gl_NoRatio B) hr (takes_of rfl rfl rfl rfl) (pa_cons pe_str pa_nil))) pss_nil)
  (pss_cons (ps_if (pt_cmpR op_eq (pv 2) pe_int (nomark _)) (pss_one (ps_raiseS rfl (sup_NoRatio B) pn_word (gl_NoRatio B) hr (takes_of rfl rfl rfl rfl) (pa_cons pe_str pa_nil))) pss_nil)
  (pss_cons (ps_set (i := 3) sc_Ratio_init.nd rfl (Or.inl rfl) (pe_callD (dvs := []) (d_common_part B) (hr.mono (by decide)) rfl passL (pa_cons (pv 1) (pa_cons (pv 2) pa_nil))))
  (pss_cons (ps_if (pt_cmpR op_lt (pv 2) pe_int (nomark _)) (pss_one (ps_set (i := 3) sc_Ratio_init.nd rfl (Or.inl rfl) (pe_un un_neg (pv 3)))) pss_nil)
  (pss_cons (ps_fld (pv 0) (pe_op op_fdivZ (pv 1) (pv 3)) rfl)
  (pss_one (ps_fld (pv 0) (pe_op op_fdivZ (pv 2) (pv 3)) rfl))))))))
theorem d_Ratio_init_0 (B : Bd K mg) : MakeOk PySem.Challenge.pw_momentrows_k18_mean_of_a_poly w K mg base 3 "Ratio" (He.ga K "Ratio") [] (spRInit K) := by
  obtain ⟨fd, F, G⟩ := fo_Ratio_init (w := w) (base := base) B
  obtain ⟨ds, v, b⟩ := F.binds1 (ps := ["self", "top", "bottom"]) 3 1 (by simp) rfl fun T kV doc pm an cdv ct us its hu hi => match us, hu, its, hi with | [_, _, _], _, [_], _ => ⟨_, rfl, rfl⟩
  exact ⟨_, fd, ["self", "top", "bottom"], ds, gl_Ratio B, He.mkr_ok (B.says.fact 54 rfl), G, b, v⟩
theorem d_Ratio_init_1 (B : Bd K mg) : MakeOk PySem.Challenge.pw_momentrows_k18_mean_of_a_poly w K mg base 3 "Ratio" (He.ga K "Ratio") [.int 1] (spRInit K) := by
  obtain ⟨fd, F, G⟩ := fo_Ratio_init (w := w) (base := base) B
  obtain ⟨ds, v, b⟩ := F.binds1 (ps := ["self", "top", "bottom"]) 2 0 (by simp) rfl fun T kV doc pm an cdv ct us its hu hi => match us, hu, its, hi with | [_, _], _, [_], _ => ⟨_, rfl, rfl⟩
  exact ⟨_, fd, ["self", "top", "bottom"], ds, gl_Ratio B, He.mkr_ok (B.says.fact 54 rfl), G, b, v⟩
theorem fo_Ratio_eq (B : Bd K mg) : ∃ fd, FunD K "__eq__" "Ratio.__eq__" (defArgs s_Ratio_eq_) (defBody s_Ratio_eq_) (defScope s_Ratio_eq_) [] [] (He.ma K (He.ga K "Ratio") "__eq__") fd ∧ FnOk PySem.Challenge.pw_momentrows_k18_mean_of_a_poly w K mg base (CXX PySem.Challenge.pw_momentrows_k18_mean_of_a_poly w) 3 (He.ma K (He.ga K "Ratio") "__eq__") fd ["self", "other"] (lift K (fRB fun a b => decide (a = b))) := by
  obtain ⟨fd, F0⟩ := B.says.def_ 6 (d := dd_Ratio_eq) rfl
  have F : FunD K "__eq__" "Ratio.__eq__" (defArgs s_Ratio_eq_) (defBody s_Ratio_eq_) (defScope s_Ratio_eq_) [] [] (He.ma K (He.ga K "Ratio") "__eq__") fd := F0
  refine ⟨fd, F, F.ok sc_Ratio_eq (fun vs H Q E h => ?_) (fun cdv A outer s H vs Q E hr h => ⟨tt_Ratio_eq K csL, ?_, pp_Ratio_eq (KFB B) (by decide) vs H Q E h⟩)⟩
  · exact len_Ratio_eq (cs := csL) _ _ _ _ h
  · exact (pss_cons (ps_if (pt_val (pe_callB call_isi (by rfl) (fr_isinstance B) (by decide +kernel) (pa_cons (pv 1) (pa_cons (pe_glob (v := .ref (He.ga K "Ratio")) (by rfl) (gl_Ratio B) rfl) pa_nil)))) (pss_one (ps_ret (pe_and (pe_cmpR op_eq (pe_fld (pv 0) rfl) (pe_fld (pv 1) rfl) (nomark _)) (pe_one (pe_cmpR op_eq (pe_fld (pv 0) rfl) (pe_fld (pv 1) rfl) (nomark _)))))) pss_nil)
  (pss_cons (ps_if (pt_val (pe_callD (dvs := []) (d_is_integer B) (hr.mono (by decide)) rfl passL (pa_cons (pv 1) pa_nil))) (pss_one (ps_ret (pe_and (pe_cmpR op_eq (pe_fld (pv 0) rfl) pe_int (nomark _)) (pe_one (pe_cmpR op_eq (pe_fld (pv 0) rfl) (pv 1) (nomark _)))))) pss_nil)
  (pss_one (ps_ret pe_bl))))
theorem d_Ratio_eq (B : Bd K mg) : MethOk PySem.Challenge.pw_momentrows_k18_mean_of_a_poly w K mg base 3 (He.ga K "Ratio") "__eq__" [] (lift K (fRB fun a b => decide (a = b))) := by
  obtain ⟨fd, F, G⟩ := fo_Ratio_eq (w := w) (base := base) B
  exact ⟨_, fd, ["self", "other"], [], ((KFB B).own _ (by decide)).cl, He.meth_ok (B.says.fact 58 rfl), G, F.bindsN fun _ _ _ _ _ _ us hl => match us, hl with | [_, _], _ => rfl, .nil⟩
theorem fo_is_number (B : Bd K mg) : ∃ fd, FunD K "is_number" "is_number" (defArgs s_is_number_) (defBody s_is_number_) (defScope s_is_number_) [] [] (He.ga K "is_number") fd ∧ FnOk PySem.Challenge.pw_momentrows_k18_mean_of_a_poly w K mg base (CXX PySem.Challenge.pw_momentrows_k18_mean_of_a_poly w) 3 (He.ga K "is_number") fd ["value"] (lift K (fIsNum csL)) := by
  obtain ⟨fd, F0⟩ := B.says.def_ 7 (d := dd_is_number) rfl
  have F : FunD K "is_number" "is_number" (defArgs s_is_number_) (defBody s_is_number_) (defScope s_is_number_) [] [] (He.ga K "is_number") fd := F0
  refine ⟨fd, F, F.ok sc_is_number (fun vs H Q E h => ?_) (fun cdv A outer s H vs Q E hr h => ⟨tt_is_number K csL, ?_, pp_is_number (KFB B) (by decide) vs H Q E h⟩)⟩
  · exact len_is_number (cs := csL) _ _ _ _ h
  · exact (pss_one (ps_ret (pe_or (pe_callB call_isi (by rfl) (fr_isinstance B) (by decide +kernel) (pa_cons (pv 0) (pa_cons (pe_glob (v := .ref (He.ga K "Ratio")) (by rfl) (gl_Ratio B) rfl) pa_nil))) (pe_one (pe_callD (dvs := []) (d_is_integer B) (hr.mono (by decide)) rfl passL (pa_cons (pv 0) pa_nil))))))
theorem d_is_number (B : Bd K mg) : DefOk PySem.Challenge.pw_momentrows_k18_mean_of_a_poly w K mg base 3 "is_number" [] (lift K (fIsNum csL)) := by
  obtain ⟨fd, F, G⟩ := fo_is_number (w := w) (base := base) B
  exact ⟨_, fd, ["value"], [], gl_is_number B, F.kp, G, F.bindsN fun _ _ _ _ _ _ us hl => match us, hl with | [_], _ => rfl, .nil⟩
theorem fo__law_number (B : Bd K mg) : ∃ fd, FunD K "_law_number" "_law_number" (defArgs s__law_number_) (defBody s__law_number_) (defScope s__law_number_) [] [] (He.ga K "_law_number") fd ∧ FnOk PySem.Challenge.pw_momentrows_k18_mean_of_a_poly w K mg base (CXX PySem.Challenge.pw_momentrows_k18_mean_of_a_poly w) 3 (He.ga K "_law_number") fd ["_law_feed_here", "_law_size"] (lift K fNumber) := by
  obtain ⟨fd, F0⟩ := B.says.def_ 20 (d := dd__law_number) rfl
  have F : FunD K "_law_number" "_law_number" (defArgs s__law_number_) (defBody s__law_number_) (defScope s__law_number_) [] [] (He.ga K "_law_number") fd := F0
  refine ⟨fd, F, F.ok sc__law_number (fun vs H Q E h => ?_) (fun cdv A outer s H vs Q E hr h => ⟨tt__law_number K csL, ?_, pp__law_number (KFB B) (by decide) (by decide) vs H Q E h⟩)⟩
  · exact len__law_number (cs := csL) _ _ _ _ h
  · exact (pss_cons (ps_set (i := 2) sc__law_number.nd rfl (Or.inl rfl) (pe_op op_sub pe_int (pe_op op_mulI pe_int (pe_callD (dvs := []) (d__law_take B) (hr.mono (by decide)) rfl passL (pa_cons (pv 0) (pa_cons pe_int pa_nil))))))
  (pss_one (ps_ret (pe_op op_mulI (pv 2) (pe_callD (dvs := []) (d__law_take B) (hr.mono (by decide)) rfl passL (pa_cons (pv 0) (pa_cons (pv 1) pa_nil)))))))
theorem d__law_number (B : Bd K mg) : DefOk PySem.Challenge.pw_momentrows_k18_mean_of_a_poly w K mg base 3 "_law_number" [] (lift K fNumber) := by
  obtain ⟨fd, F, G⟩ := fo__law_number (w := w) (base := base) B
  exact ⟨_, fd, ["_law_feed_here", "_law_size"], [], gl__law_number B, F.kp, G, F.bindsN fun _ _ _ _ _ _ us hl => match us, hl with | [_, _], _ => rfl, .nil⟩
theorem fo__law_is (B : Bd K mg) : ∃ fd, FunD K "_law_is" "_law_is" (defArgs s__law_is_) (defBody s__law_is_) (defScope s__law_is_) [] [] (He.ga K "_law_is") fd ∧ FnOk PySem.Challenge.pw_momentrows_k18_mean_of_a_poly w K mg base (CXX PySem.Challenge.pw_momentrows_k18_mean_of_a_poly w) 3 (He.ga K "_law_is") fd ["_law_value", "_law_top", "_law_bottom"] (lift K fIs) := by
  obtain ⟨fd, F0⟩ := B.says.def_ 21 (d := dd__law_is) rfl
  have F : FunD K "_law_is" "_law_is" (defArgs s__law_is_) (defBody s__law_is_) (defScope s__law_is_) [] [] (He.ga K "_law_is") fd := F0
  refine ⟨fd, F, F.ok sc__law_is (fun vs H Q E h => ?_) (fun cdv A outer s H vs Q E hr h => ⟨tt__law_is K csL, ?_, pp__law_is (KFB B) (by decide) (by decide) vs H Q E h⟩)⟩
  · exact len__law_is (cs := csL) _ _ _ _ h
  · exact (pss_cons (ps_if (PW.pt (pw_or (pt_not (pt_val (pe_callB call_isi (by rfl) (fr_isinstance B) (by decide +kernel) (pa_cons (pv 0) (pa_cons (pe_glob (v := .ref (He.ga K "Ratio")) (by rfl) (gl_Ratio B) rfl) pa_nil))))) (pw_or (pt_not (pt_val (pe_callD (dvs := []) (d__law_is_integer B) (hr.mono (by decide)) rfl passL (pa_cons (pe_fld (pv 0) rfl) pa_nil)))) (pw_or1 (pt_not (pt_val (pe_callD (dvs := []) (d__law_is_integer B) (hr.mono (by decide)) rfl passL (pa_cons (pe_fld (pv 0) rfl) pa_nil)))))))) (pss_one (ps_ret pe_bl)) pss_nil)
  (pss_one (ps_ret (pe_and (pe_cmpR op_ge (pe_fld (pv 0) rfl) pe_int (nomark _)) (pe_one (pe_cmpR op_eq (pe_op op_mulI (pe_fld (pv 0) rfl) (pv 2)) (pe_op op_mulI (pv 1) (pe_fld (pv 0) rfl)) (nomark _)))))))
theorem d__law_is (B : Bd K mg) : DefOk PySem.Challenge.pw_momentrows_k18_mean_of_a_poly w K mg base 3 "_law_is" [] (lift K fIs) := by
  obtain ⟨fd, F, G⟩ := fo__law_is (w := w) (base := base) B
  exact ⟨_, fd, ["_law_value", "_law_top", "_law_bottom"], [], gl__law_is B, F.kp, G, F.bindsN fun _ _ _ _ _ _ us hl => match us, hl with | [_, _, _], _ => rfl, .nil⟩
theorem fo__law_due (B : Bd K mg) : ∃ fd, FunD K "_law_due" "_law_due" (defArgs s__law_due_) (defBody s__law_due_) (defScope s__law_due_) [] [] (He.ga K "_law_due") fd ∧ FnOk PySem.Challenge.pw_momentrows_k18_mean_of_a_poly w K mg base (CXX PySem.Challenge.pw_momentrows_k18_mean_of_a_poly w) 3 (He.ga K "_law_due") fd ["_law_row_here", "_law_coefficients_here"] (lift K fLDue) := by
  obtain ⟨fd, F0⟩ := B.says.def_ 27 (d := dd__law_due) rfl
  have F : FunD K "_law_due" "_law_due" (defArgs s__law_due_) (defBody s__law_due_) (defScope s__law_due_) [] [] (He.ga K "_law_due") fd := F0
  refine ⟨fd, F, F.ok sc__law_due (fun vs H Q E h => ?_) (fun cdv A outer s H vs Q E hr h => ⟨tt__law_due K csL, ?_, pp__law_due (KFB B) (by decide) (by decide) vs H Q E h⟩)⟩
  · exact len__law_due (cs := csL) _ _ _ _ h
  · exact (pss_cons (ps_set (i := 2) sc__law_due.nd rfl (Or.inl rfl) (pe_lst (pa_cons pe_int (pa_cons pe_int pa_nil))))
  (pss_cons (ps_for (passes_of rfl) rfl (pi_range1 (by rfl) (fr_range B) (pa_cons (pe_callB call_len (by rfl) (fr_len B) (by decide +kernel) (pa_cons (pv 1) pa_nil)) pa_nil)) (pg_name (i := 3) sc__law_due.nd rfl (Or.inl rfl)) (pss_one (ps_if (pt_cmpR op_ne (pe_ix ix_list (pe_ix ix_list (pv 1) (pv 3) (fun _ _ => rfl)) pe_int (fun _ _ => rfl)) pe_int (nomark _)) (pss_one (ps_set (i := 2) sc__law_due.nd rfl (Or.inl rfl) (pe_callD (dvs := []) (d__law_add B) (hr.mono (by decide)) rfl passL (pa_cons (pv 2) (pa_cons (pe_callD (dvs := []) (d__law_times B) (hr.mono (by decide)) rfl passL (pa_cons (pe_ix ix_list (pv 0) (pv 3) (fun _ _ => rfl)) (pa_cons (pe_ix ix_list (pv 1) (pv 3) (fun _ _ => rfl)) pa_nil))) pa_nil))))) pss_nil)))
  (pss_one (ps_ret (pv 2)))))
theorem d__law_due (B : Bd K mg) : DefOk PySem.Challenge.pw_momentrows_k18_mean_of_a_poly w K mg base 3 "_law_due" [] (lift K fLDue) := by
  obtain ⟨fd, F, G⟩ := fo__law_due (w := w) (base := base) B
  exact ⟨_, fd, ["_law_row_here", "_law_coefficients_here"], [], gl__law_due B, F.kp, G, F.bindsN fun _ _ _ _ _ _ us hl => match us, hl with | [_, _], _ => rfl, .nil⟩
theorem fo_Ratio_add (B : Bd K mg) : ∃ fd, FunD K "__add__" "Ratio.__add__" (defArgs s_Ratio_add_) (defBody s_Ratio_add_) (defScope s_Ratio_add_) [] [] (He.ma K (He.ga K "Ratio") "__add__") fd ∧ FnOk PySem.Challenge.pw_momentrows_k18_mean_of_a_poly w K mg base (CXX PySem.Challenge.pw_momentrows_k18_mean_of_a_poly w) 5 (He.ma K (He.ga K "Ratio") "__add__") fd ["self", "other"] (lift K (fR2 fun a b => a + b)) := by
  obtain ⟨fd, F0⟩ := B.says.def_ 3 (d := dd_Ratio_add) rfl
  have F : FunD K "__add__" "Ratio.__add__" (defArgs s_Ratio_add_) (defBody s_Ratio_add_) (defScope s_Ratio_add_) [] [] (He.ma K (He.ga K "Ratio") "__add__") fd := F0
  refine ⟨fd, F, F.ok sc_Ratio_add (fun vs H Q E h => ?_) (fun cdv A outer s H vs Q E hr h => ⟨tt_Ratio_add K csL, ?_, pp_Ratio_add (KFB B) (by decide) vs H Q E h⟩)⟩
  · exact len_Ratio_add (cs := csL) _ _ _ _ h
  · exact (pss_cons (ps_if (pt_val (pe_callB call_isi (by rfl) (fr_isinstance B) (by decide +kernel) (pa_cons (pv 1) (pa_cons (pe_glob (v := .ref (He.ga K "Ratio")) (by rfl) (gl_Ratio B) rfl) pa_nil)))) (pss_one (ps_ret (pe_makeD (dvs := []) (d_Ratio_init_0 B) (hr.mono (by decide)) rfl passL (pa_cons (pe_op op_add (pe_op op_mulI (pe_fld (pv 0) rfl) (pe_fld (pv 1) rfl)) (pe_op op_mulI (pe_fld (pv 1) rfl) (pe_fld (pv 0) rfl))) (pa_cons (pe_op op_mulI (pe_fld (pv 0) rfl) (pe_fld (pv 1) rfl)) pa_nil))))) pss_nil)
  (pss_cons (ps_if (pt_val (pe_callD (dvs := []) (d_is_integer B) (hr.mono (by decide)) rfl passL (pa_cons (pv 1) pa_nil))) (pss_one (ps_ret (pe_makeD (dvs := []) (d_Ratio_init_0 B) (hr.mono (by decide)) rfl passL (pa_cons (pe_op op_add (pe_fld (pv 0) rfl) (pe_op op_mulI (pv 1) (pe_fld (pv 0) rfl))) (pa_cons (pe_fld (pv 0) rfl) pa_nil))))) pss_nil)
  (pss_one ps_never)))
theorem d_Ratio_add (B : Bd K mg) : MethOk PySem.Challenge.pw_momentrows_k18_mean_of_a_poly w K mg base 5 (He.ga K "Ratio") "__add__" [] (lift K (fR2 fun a b => a + b)) := by
  obtain ⟨fd, F, G⟩ := fo_Ratio_add (w := w) (base := base) B
  exact ⟨_, fd, ["self", "other"], [], ((KFB B).own _ (by decide)).cl, He.meth_ok (B.says.fact 55 rfl), G, F.bindsN fun _ _ _ _ _ _ us hl => match us, hl with | [_, _], _ => rfl, .nil⟩
theorem fo_Ratio_mul (B : Bd K mg) : ∃ fd, FunD K "__mul__" "Ratio.__mul__" (defArgs s_Ratio_mul_) (defBody s_Ratio_mul_) (defScope s_Ratio_mul_) [] [] (He.ma K (He.ga K "Ratio") "__mul__") fd ∧ FnOk PySem.Challenge.pw_momentrows_k18_mean_of_a_poly w K mg base (CXX PySem.Challenge.pw_momentrows_k18_mean_of_a_poly w) 5 (He.ma K (He.ga K "Ratio") "__mul__") fd ["self", "other"] (lift K (fR2 fun a b => a * b)) := by
  obtain ⟨fd, F0⟩ := B.says.def_ 4 (d := dd_Ratio_mul) rfl
  have F : FunD K "__mul__" "Ratio.__mul__" (defArgs s_Ratio_mul_) (defBody s_Ratio_mul_) (defScope s_Ratio_mul_) [] [] (He.ma K (He.ga K "Ratio") "__mul__") fd := F0
  refine ⟨fd, F, F.ok sc_Ratio_mul (fun vs H Q E h => ?_) (fun cdv A outer s H vs Q E hr h => ⟨tt_Ratio_mul K csL, ?_, pp_Ratio_mul (KFB B) (by decide) vs H Q E h⟩)⟩
  · exact len_Ratio_mul (cs := csL) _ _ _ _ h
  · exact (pss_cons (ps_if (pt_val (pe_callB call_isi (by rfl) (fr_isinstance B) (by decide +kernel) (pa_cons (pv 1) (pa_cons (pe_glob (v := .ref (He.ga K "Ratio")) (by rfl) (gl_Ratio B) rfl) pa_nil)))) (pss_one (ps_ret (pe_makeD (dvs := []) (d_Ratio_init_0 B) (hr.mono (by decide)) rfl passL (pa_cons (pe_op op_mulI (pe_fld (pv 0) rfl) (pe_fld (pv 1) rfl)) (pa_cons (pe_op op_mulI (pe_fld (pv 0) rfl) (pe_fld (pv 1) rfl)) pa_nil))))) pss_nil)
  (pss_cons (ps_if (pt_val (pe_callD (dvs := []) (d_is_integer B) (hr.mono (by decide)) rfl passL (pa_cons (pv 1) pa_nil))) (pss_one (ps_ret (pe_makeD (dvs := []) (d_Ratio_init_0 B) (hr.mono (by decide)) rfl passL (pa_cons (pe_op op_mulI (pe_fld (pv 0) rfl) (pv 1)) (pa_cons (pe_fld (pv 0) rfl) pa_nil))))) pss_nil)
  (pss_one ps_never)))
theorem d_Ratio_mul (B : Bd K mg) : MethOk PySem.Challenge.pw_momentrows_k18_mean_of_a_poly w K mg base 5 (He.ga K "Ratio") "__mul__" [] (lift K (fR2 fun a b => a * b)) := by
  obtain ⟨fd, F, G⟩ := fo_Ratio_mul (w := w) (base := base) B
  exact ⟨_, fd, ["self", "other"], [], ((KFB B).own _ (by decide)).cl, He.meth_ok (B.says.fact 56 rfl), G, F.bindsN fun _ _ _ _ _ _ us hl => match us, hl with | [_, _], _ => rfl, .nil⟩
theorem fo_Ratio_rmul (B : Bd K mg) : ∃ fd, FunD K "__rmul__" "Ratio.__rmul__" (defArgs s_Ratio_rmul_) (defBody s_Ratio_rmul_) (defScope s_Ratio_rmul_) [] [] (He.ma K (He.ga K "Ratio") "__rmul__") fd ∧ FnOk PySem.Challenge.pw_momentrows_k18_mean_of_a_poly w K mg base (CXX PySem.Challenge.pw_momentrows_k18_mean_of_a_poly w) 5 (He.ma K (He.ga K "Ratio") "__rmul__") fd ["self", "other"] (lift K (fRI fun a b => b * a)) := by
  obtain ⟨fd, F0⟩ := B.says.def_ 5 (d := dd_Ratio_rmul) rfl
  have F : FunD K "__rmul__" "Ratio.__rmul__" (defArgs s_Ratio_rmul_) (defBody s_Ratio_rmul_) (defScope s_Ratio_rmul_) [] [] (He.ma K (He.ga K "Ratio") "__rmul__") fd := F0
  refine ⟨fd, F, F.ok sc_Ratio_rmul (fun vs H Q E h => ?_) (fun cdv A outer s H vs Q E hr h => ⟨tt_Ratio_rmul K csL, ?_, pp_Ratio_rmul (KFB B) (by decide) vs H Q E h⟩)⟩
  · exact len_Ratio_rmul (cs := csL) _ _ _ _ h
  · exact (pss_cons (ps_if (pt_val (pe_callD (dvs := []) (d_is_integer B) (hr.mono (by decide)) rfl passL (pa_cons (pv 1) pa_nil))) (pss_one (ps_ret (pe_makeD (dvs := []) (d_Ratio_init_0 B) (hr.mono (by decide)) rfl passL (pa_cons (pe_op op_mulI (pe_fld (pv 0) rfl) (pv 1)) (pa_cons (pe_fld (pv 0) rfl) pa_nil))))) pss_nil)
  (pss_one ps_never))
theorem d_Ratio_rmul (B : Bd K mg) : MethOk PySem.Challenge.pw_momentrows_k18_mean_of_a_poly w K mg base 5 (He.ga K "Ratio") "__rmul__" [] (lift K (fRI fun a b => b * a)) := by
  obtain ⟨fd, F, G⟩ := fo_Ratio_rmul (w := w) (base := base) B
  exact ⟨_, fd, ["self", "other"], [], ((KFB B).own _ (by decide)).cl, He.meth_ok (B.says.fact 57 rfl), G, F.bindsN fun _ _ _ _ _ _ us hl => match us, hl with | [_, _], _ => rfl, .nil⟩
theorem fo_as_ratio (B : Bd K mg) : ∃ fd, FunD K "as_ratio" "as_ratio" (defArgs s_as_ratio_) (defBody s_as_ratio_) (defScope s_as_ratio_) [] [] (He.ga K "as_ratio") fd ∧ FnOk PySem.Challenge.pw_momentrows_k18_mean_of_a_poly w K mg base (CXX PySem.Challenge.pw_momentrows_k18_mean_of_a_poly w) 5 (He.ga K "as_ratio") fd ["value", "word"] (lift K (fAsRat csL)) := by
  obtain ⟨fd, F0⟩ := B.says.def_ 8 (d := dd_as_ratio) rfl
  have F : FunD K "as_ratio" "as_ratio" (defArgs s_as_ratio_) (defBody s_as_ratio_) (defScope s_as_ratio_) [] [] (He.ga K "as_ratio") fd := F0
  refine ⟨fd, F, F.ok sc_as_ratio (fun vs H Q E h => ?_) (fun cdv A outer s H vs Q E hr h => ⟨tt_as_ratio K csL E, ?_, pp_as_ratio (KFB B) (by decide) vs H Q E h⟩)⟩
  · exact len_as_ratio (cs := csL) _ _ _ _ h
  · exact (pss_cons (ps_if (pt_val (pe_callB call_isi (by rfl) (fr_isinstance B) (by decide +kernel) (pa_cons (pv 0) (pa_cons (pe_glob (v := .ref (He.ga K "Ratio")) (by rfl) (gl_Ratio B) rfl) pa_nil)))) (pss_one (ps_ret (pv 0))) pss_nil)
  (pss_cons (ps_if (pt_val (pe_callD (dvs := []) (d_is_integer B) (hr.mono (by decide)) rfl passL (pa_cons (pv 0) pa_nil))) (pss_one (ps_ret (pe_makeD (dvs := [.int 1]) (d_Ratio_init_1 B) (hr.mono (by decide)) rfl (pass_on (takes_of rfl rfl rfl rfl) fun _ _ _ _ z => z) (pa_cons (pv 0) pa_nil)))) pss_nil)
  (pss_one (ps_raiseS rfl (sup_NoNumber B) pn_word (gl_NoNumber B) hr (takes_of rfl rfl rfl rfl) (pa_cons (pv 1) pa_nil)))))
theorem d_as_ratio (B : Bd K mg) : DefOk PySem.Challenge.pw_momentrows_k18_mean_of_a_poly w K mg base 5 "as_ratio" [] (lift K (fAsRat csL)) := by
  obtain ⟨fd, F, G⟩ := fo_as_ratio (w := w) (base := base) B
  exact ⟨_, fd, ["value", "word"], [], gl_as_ratio B, F.kp, G, F.bindsN fun _ _ _ _ _ _ us hl => match us, hl with | [_, _], _ => rfl, .nil⟩
theorem fo_coefficients_of (B : Bd K mg) : ∃ fd, FunD K "coefficients_of" "coefficients_of" (defArgs s_coefficients_of_) (defBody s_coefficients_of_) (defScope s_coefficients_of_) [] [] (He.ga K "coefficients_of") fd ∧ FnOk PySem.Challenge.pw_momentrows_k18_mean_of_a_poly w K mg base (CXX PySem.Challenge.pw_momentrows_k18_mean_of_a_poly w) 5 (He.ga K "coefficients_of") fd ["value"] (lift K (fCoefs csL)) := by
  obtain ⟨fd, F0⟩ := B.says.def_ 10 (d := dd_coefficients_of) rfl
  have F : FunD K "coefficients_of" "coefficients_of" (defArgs s_coefficients_of_) (defBody s_coefficients_of_) (defScope s_coefficients_of_) [] [] (He.ga K "coefficients_of") fd := F0
  refine ⟨fd, F, F.ok sc_coefficients_of (fun vs H Q E h => ?_) (fun cdv A outer s H vs Q E hr h => ⟨tt_coefficients_of K csL, ?_, pp_coefficients_of (KFB B) (by decide) (by decide) vs H Q E h⟩)⟩
  · exact len_coefficients_of (cs := csL) _ _ _ _ h
  · exact (pss_cons (ps_if (pt_val (pe_callB call_isi (by rfl) (fr_isinstance B) (by decide +kernel) (pa_cons (pv 0) (pa_cons (pe_glob (v := .ref (He.ga K "Poly")) (by rfl) (gl_Poly B) rfl) pa_nil)))) (pss_one (ps_ret (pe_callTy call_list_of (by rfl) (fr_list B) (by decide +kernel) (pa_cons (pe_fld (pv 0) rfl) pa_nil)))) pss_nil)
  (pss_cons (ps_if (pt_val (pe_callB call_isi (by rfl) (fr_isinstance B) (by decide +kernel) (pa_cons (pv 0) (pa_cons (pe_glob (v := .ref (He.ga K "Ratio")) (by rfl) (gl_Ratio B) rfl) pa_nil)))) (pss_one (ps_ret (pe_ifExp (pt_cmpR op_ne (pe_fld (pv 0) rfl) pe_int (nomark _)) (pe_lst (pa_cons (pv 0) pa_nil)) (pe_lst pa_nil)))) pss_nil)
  (pss_cons (ps_if (pt_val (pe_callD (dvs := []) (d_is_integer B) (hr.mono (by decide)) rfl passL (pa_cons (pv 0) pa_nil))) (pss_one (ps_ret (pe_ifExp (pt_cmpR op_ne (pv 0) pe_int (nomark _)) (pe_lst (pa_cons (pe_makeD (dvs := [.int 1]) (d_Ratio_init_1 B) (hr.mono (by decide)) rfl passL (pa_cons (pv 0) pa_nil)) pa_nil)) (pe_lst pa_nil)))) pss_nil)
  (pss_one (ps_ret pe_non)))))
theorem d_coefficients_of (B : Bd K mg) : DefOk PySem.Challenge.pw_momentrows_k18_mean_of_a_poly w K mg base 5 "coefficients_of" [] (lift K (fCoefs csL)) := by
  obtain ⟨fd, F, G⟩ := fo_coefficients_of (w := w) (base := base) B
  exact ⟨_, fd, ["value"], [], gl_coefficients_of B, F.kp, G, F.bindsN fun _ _ _ _ _ _ us hl => match us, hl with | [_], _ => rfl, .nil⟩
theorem fo__law_ratios (B : Bd K mg) : ∃ fd, FunD K "_law_ratios" "_law_ratios" (defArgs s__law_ratios_) (defBody s__law_ratios_) (defScope s__law_ratios_) [] [] (He.ga K "_law_ratios") fd ∧ FnOk PySem.Challenge.pw_momentrows_k18_mean_of_a_poly w K mg base (CXX PySem.Challenge.pw_momentrows_k18_mean_of_a_poly w) 5 (He.ga K "_law_ratios") fd ["_law_pairs"] (lift K fLRatios) := by
  obtain ⟨fd, F0⟩ := B.says.def_ 24 (d := dd__law_ratios) rfl
  have F : FunD K "_law_ratios" "_law_ratios" (defArgs s__law_ratios_) (defBody s__law_ratios_) (defScope s__law_ratios_) [] [] (He.ga K "_law_ratios") fd := F0
  refine ⟨fd, F, F.ok sc__law_ratios (fun vs H Q E h => ?_) (fun cdv A outer s H vs Q E hr h => ⟨tt__law_ratios K csL, ?_, pp__law_ratios (KFB B) (by decide) (by decide) vs H Q E h⟩)⟩
  · exact len__law_ratios (cs := csL) _ _ _ _ h
  · exact (pss_one (ps_ret (pe_lc (own := [("_law_pair", 1)]) (g := (gName 1)) (tt := tYes) rfl sc__law_ratios.nd (pi_list (pv 0)) (blkOk_by (N := ["_law_pairs", "_law_pair"]) (sc := defScope s__law_ratios_) (own := [("_law_pair", 1)]) (by decide +kernel)) (fun _ _ _ _ _ => pg_name (i := 1) sc__law_ratios.nd rfl (Or.inl rfl)) (fun _ _ _ _ _ => pts_nil) (fun _ _ _ _ _ => (pe_makeD (dvs := []) (d_Ratio_init_0 B) (hr.mono (by decide)) rfl passL (pa_cons (pe_ix ix_list (pv 1) pe_int (fun _ _ => rfl)) (pa_cons (pe_ix ix_list (pv 1) pe_int (fun _ _ => rfl)) pa_nil)))))))
theorem d__law_ratios (B : Bd K mg) : DefOk PySem.Challenge.pw_momentrows_k18_mean_of_a_poly w K mg base 5 "_law_ratios" [] (lift K fLRatios) := by
  obtain ⟨fd, F, G⟩ := fo__law_ratios (w := w) (base := base) B
  exact ⟨_, fd, ["_law_pairs"], [], gl__law_ratios B, F.kp, G, F.bindsN fun _ _ _ _ _ _ us hl => match us, hl with | [_], _ => rfl, .nil⟩
theorem fo__law_row (B : Bd K mg) : ∃ fd, FunD K "_law_row" "_law_row" (defArgs s__law_row_) (defBody s__law_row_) (defScope s__law_row_) [] [] (He.ga K "_law_row") fd ∧ FnOk PySem.Challenge.pw_momentrows_k18_mean_of_a_poly w K mg base (CXX PySem.Challenge.pw_momentrows_k18_mean_of_a_poly w) 5 (He.ga K "_law_row") fd ["_law_feed_here", "_law_most"] (lift K fLRow) := by
  obtain ⟨fd, F0⟩ := B.says.def_ 25 (d := dd__law_row) rfl
  have F : FunD K "_law_row" "_law_row" (defArgs s__law_row_) (defBody s__law_row_) (defScope s__law_row_) [] [] (He.ga K "_law_row") fd := F0
  refine ⟨fd, F, F.ok sc__law_row (fun vs H Q E h => ?_) (fun cdv A outer s H vs Q E hr h => ⟨tt__law_row K csL, ?_, pp__law_row (KFB B) (by decide) (by decide) vs H Q E h⟩)⟩
  · exact len__law_row (cs := csL) _ _ _ _ h
  · exact (pss_cons (ps_set (i := 2) sc__law_row.nd rfl (Or.inl rfl) (pe_ix ix_list (pe_lst (pa_cons pe_int (pa_cons pe_int (pa_cons (pe_op op_pow pe_int pe_int) pa_nil)))) (pe_callD (dvs := []) (d__law_take B) (hr.mono (by decide)) rfl passL (pa_cons (pv 0) (pa_cons pe_int pa_nil))) (fun _ _ => rfl)))
  (pss_cons (ps_set (i := 3) sc__law_row.nd rfl (Or.inl rfl) (pe_ix ix_list (pe_lst (pa_cons pe_int (pa_cons pe_int (pa_cons (pe_op op_pow pe_int pe_int) pa_nil)))) (pe_callD (dvs := []) (d__law_take B) (hr.mono (by decide)) rfl passL (pa_cons (pv 0) (pa_cons pe_int pa_nil))) (fun _ _ => rfl)))
  (pss_cons (ps_set (i := 4) sc__law_row.nd rfl (Or.inl rfl) (pe_lst pa_nil))
  (pss_cons (ps_for (passes_of rfl) rfl (pi_range1 (by rfl) (fr_range B) (pa_cons (pe_op op_add pe_int (pe_callD (dvs := []) (d__law_take B) (hr.mono (by decide)) rfl passL (pa_cons (pv 0) (pa_cons (pv 1) pa_nil)))) pa_nil)) (pg_name (i := 5) sc__law_row.nd rfl (Or.inl rfl)) (pss_one (ps_expr (pe_bm PySem.F.plainAttrs_list PySem.F.slot_list_append PySem.F.type_list_append mt_append (pv 4) (pa_cons (pe_lst (pa_cons (pe_callD (dvs := []) (d__law_number B) (hr.mono (by decide)) rfl passL (pa_cons (pv 0) (pa_cons (pv 2) pa_nil))) (pa_cons (pe_op op_add pe_int (pe_callD (dvs := []) (d__law_take B) (hr.mono (by decide)) rfl passL (pa_cons (pv 0) (pa_cons (pv 3) pa_nil)))) pa_nil))) pa_nil)))))
  (pss_one (ps_ret (pv 4)))))))
theorem d__law_row (B : Bd K mg) : DefOk PySem.Challenge.pw_momentrows_k18_mean_of_a_poly w K mg base 5 "_law_row" [] (lift K fLRow) := by
  obtain ⟨fd, F, G⟩ := fo__law_row (w := w) (base := base) B
  exact ⟨_, fd, ["_law_feed_here", "_law_most"], [], gl__law_row B, F.kp, G, F.bindsN fun _ _ _ _ _ _ us hl => match us, hl with | [_, _], _ => rfl, .nil⟩
theorem fo__law_coefficients (B : Bd K mg) : ∃ fd, FunD K "_law_coefficients" "_law_coefficients" (defArgs s__law_coefficients_) (defBody s__law_coefficients_) (defScope s__law_coefficients_) [] [] (He.ga K "_law_coefficients") fd ∧ FnOk PySem.Challenge.pw_momentrows_k18_mean_of_a_poly w K mg base (CXX PySem.Challenge.pw_momentrows_k18_mean_of_a_poly w) 5 (He.ga K "_law_coefficients") fd ["_law_feed_here", "_law_most"] (lift K fLCoefs) := by
  obtain ⟨fd, F0⟩ := B.says.def_ 26 (d := dd__law_coefficients) rfl
  have F : FunD K "_law_coefficients" "_law_coefficients" (defArgs s__law_coefficients_) (defBody s__law_coefficients_) (defScope s__law_coefficients_) [] [] (He.ga K "_law_coefficients") fd := F0
  refine ⟨fd, F, F.ok sc__law_coefficients (fun vs H Q E h => ?_) (fun cdv A outer s H vs Q E hr h => ⟨tt__law_coefficients K csL, ?_, pp__law_coefficients (KFB B) (by decide) (by decide) vs H Q E h⟩)⟩
  · exact len__law_coefficients (cs := csL) _ _ _ _ h
  · exact (pss_cons (ps_set (i := 2) sc__law_coefficients.nd rfl (Or.inl rfl) (pe_lst pa_nil))
  (pss_cons (ps_set (i := 3) sc__law_coefficients.nd rfl (Or.inl rfl) (pe_ix ix_list (pe_lst (pa_cons pe_int (pa_cons pe_int (pa_cons (pe_op op_pow pe_int pe_int) pa_nil)))) (pe_callD (dvs := []) (d__law_take B) (hr.mono (by decide)) rfl passL (pa_cons (pv 0) (pa_cons pe_int pa_nil))) (fun _ _ => rfl)))
  (pss_cons (ps_set (i := 4) sc__law_coefficients.nd rfl (Or.inl rfl) (pe_ix ix_list (pe_lst (pa_cons pe_int (pa_cons pe_int (pa_cons (pe_op op_pow pe_int pe_int) pa_nil)))) (pe_callD (dvs := []) (d__law_take B) (hr.mono (by decide)) rfl passL (pa_cons (pv 0) (pa_cons pe_int pa_nil))) (fun _ _ => rfl)))
  (pss_cons (ps_for (passes_of rfl) rfl (pi_range1 (by rfl) (fr_range B) (pa_cons (pe_callD (dvs := []) (d__law_take B) (hr.mono (by decide)) rfl passL (pa_cons (pv 0) (pa_cons (pe_op op_add (pv 1) pe_int) pa_nil))) pa_nil)) (pg_name (i := 5) sc__law_coefficients.nd rfl (Or.inl rfl)) (pss_one (ps_expr (pe_bm PySem.F.plainAttrs_list PySem.F.slot_list_append PySem.F.type_list_append mt_append (pv 2) (pa_cons (pe_lst (pa_cons (pe_op op_mulI (pe_callD (dvs := []) (d__law_number B) (hr.mono (by decide)) rfl passL (pa_cons (pv 0) (pa_cons (pv 3) pa_nil))) (pe_callB (call_min2 rfl) (by rfl) (fr_min B) (by decide +kernel) (pa_cons pe_int (pa_cons (pe_callD (dvs := []) (d__law_take B) (hr.mono (by decide)) rfl passL (pa_cons (pv 0) (pa_cons pe_int pa_nil))) pa_nil)))) (pa_cons (pe_op op_add pe_int (pe_callD (dvs := []) (d__law_take B) (hr.mono (by decide)) rfl passL (pa_cons (pv 0) (pa_cons (pv 4) pa_nil)))) pa_nil))) pa_nil)))))
  (pss_one (ps_ret (pv 2)))))))
theorem d__law_coefficients (B : Bd K mg) : DefOk PySem.Challenge.pw_momentrows_k18_mean_of_a_poly w K mg base 5 "_law_coefficients" [] (lift K fLCoefs) := by
  obtain ⟨fd, F, G⟩ := fo__law_coefficients (w := w) (base := base) B
  exact ⟨_, fd, ["_law_feed_here", "_law_most"], [], gl__law_coefficients B, F.kp, G, F.bindsN fun _ _ _ _ _ _ us hl => match us, hl with | [_, _], _ => rfl, .nil⟩
theorem fo_added (B : Bd K mg) : ∃ fd, FunD K "added" "added" (defArgs s_added_) (defBody s_added_) (defScope s_added_) [] [] (He.ga K "added") fd ∧ FnOk PySem.Challenge.pw_momentrows_k18_mean_of_a_poly w K mg base (CXX PySem.Challenge.pw_momentrows_k18_mean_of_a_poly w) 7 (He.ga K "added") fd ["one", "other"] (lift K fAdded) := by
  obtain ⟨fd, F0⟩ := B.says.def_ 11 (d := dd_added) rfl
  have F : FunD K "added" "added" (defArgs s_added_) (defBody s_added_) (defScope s_added_) [] [] (He.ga K "added") fd := F0
  refine ⟨fd, F, F.ok sc_added (fun vs H Q E h => ?_) (fun cdv A outer s H vs Q E hr h => ⟨tt_added K csL, ?_, pp_added (KFB B) (by decide) (by decide) vs H Q E h⟩)⟩
  · exact len_added (cs := csL) _ _ _ _ h
  · exact (pss_cons (ps_set (i := 2) sc_added.nd rfl (Or.inl rfl) (pe_lst pa_nil))
  (pss_cons (ps_for (passes_of rfl) rfl (pi_range1 (by rfl) (fr_range B) (pa_cons (pe_callB (call_max2 rfl) (by rfl) (fr_max B) (by decide +kernel) (pa_cons (pe_callB call_len (by rfl) (fr_len B) (by decide +kernel) (pa_cons (pv 0) pa_nil)) (pa_cons (pe_callB call_len (by rfl) (fr_len B) (by decide +kernel) (pa_cons (pv 1) pa_nil)) pa_nil))) pa_nil)) (pg_name (i := 3) sc_added.nd rfl (Or.inl rfl)) (pss_cons (ps_set (i := 4) sc_added.nd rfl (Or.inl rfl) (pe_ifExp (pt_cmpR op_lt (pv 3) (pe_callB call_len (by rfl) (fr_len B) (by decide +kernel) (pa_cons (pv 0) pa_nil)) (nomark _)) (pe_ix ix_any (pv 0) (pv 3) (fun _ _ => rfl)) (pe_makeD (dvs := [.int 1]) (d_Ratio_init_1 B) (hr.mono (by decide)) rfl passL (pa_cons pe_int pa_nil))))
  (pss_cons (ps_if (pt_cmpR op_lt (pv 3) (pe_callB call_len (by rfl) (fr_len B) (by decide +kernel) (pa_cons (pv 1) pa_nil)) (nomark _)) (pss_one (ps_set (i := 4) sc_added.nd rfl (Or.inl rfl) (pe_op (op_own "add" (d_Ratio_add B) (oc_Ratio_add B) (hr.mono (by decide)) passL) (pv 4) (pe_ix ix_any (pv 1) (pv 3) (fun _ _ => rfl))))) pss_nil)
  (pss_one (ps_expr (pe_bm PySem.F.plainAttrs_list PySem.F.slot_list_append PySem.F.type_list_append mt_append (pv 2) (pa_cons (pv 4) pa_nil)))))))
  (pss_one (ps_ret (pv 2)))))
theorem d_added (B : Bd K mg) : DefOk PySem.Challenge.pw_momentrows_k18_mean_of_a_poly w K mg base 7 "added" [] (lift K fAdded) := by
  obtain ⟨fd, F, G⟩ := fo_added (w := w) (base := base) B
  exact ⟨_, fd, ["one", "other"], [], gl_added B, F.kp, G, F.bindsN fun _ _ _ _ _ _ us hl => match us, hl with | [_, _], _ => rfl, .nil⟩
theorem fo_Poly_init (B : Bd K mg) : ∃ fd, FunD K "__init__" "Poly.__init__" (defArgs s_Poly_init_) (defBody s_Poly_init_) (defScope s_Poly_init_) [] [] (He.ma K (He.ga K "Poly") "__init__") fd ∧ FnOk PySem.Challenge.pw_momentrows_k18_mean_of_a_poly w K mg base (CXX PySem.Challenge.pw_momentrows_k18_mean_of_a_poly w) 7 (He.ma K (He.ga K "Poly") "__init__") fd ["self", "coefficients"] (liftI K "Poly" (fMkPoly csL)) := by
  obtain ⟨fd, F0⟩ := B.says.def_ 12 (d := dd_Poly_init) rfl
  have F : FunD K "__init__" "Poly.__init__" (defArgs s_Poly_init_) (defBody s_Poly_init_) (defScope s_Poly_init_) [] [] (He.ma K (He.ga K "Poly") "__init__") fd := F0
  refine ⟨fd, F, F.ok sc_Poly_init (fun vs H Q E h => ?_) (fun cdv A outer s H vs Q E hr h => ⟨tt_Poly_init K csL E, ?_, pp_Poly_init (KFB B) (by decide) (by decide) vs H Q E h⟩)⟩
  · obtain ⟨_, _, _, _, _, _, _, _, _, rfl, _, _, _, _, lv, r, hf, _⟩ := h; rw [List.length_cons, r.length]; exact congrArg (· + 1) (leni_Poly_init _ _ _ hf)
  · exact (pss_cons (ps_if (pt_not (pt_val (pe_callB call_isiT (by rfl) (fr_isinstance B) (by decide +kernel) (pa_cons (pv 1) (pa_cons (pe_tup (pa_cons (pe_bltn (v := .ty "list") (by rfl) (fr_list B) (by decide +kernel) rfl) (pa_cons (pe_bltn (v := .ty "tuple") (by rfl) (fr_tuple B) (by decide +kernel) rfl) pa_nil))) pa_nil))))) (pss_one (ps_raise00 rfl (takes_of rfl rfl rfl rfl) (x0_NoPoly B) (gl_NoPoly B))) pss_nil)
  (pss_cons (ps_for (passes_of rfl) rfl (pi_seq (pv 1)) (pg_name (i := 2) sc_Poly_init.nd rfl (Or.inl rfl)) (pss_one (ps_if (pt_not (pt_val (pe_callD (dvs := []) (d_is_number B) (hr.mono (by decide)) rfl passL (pa_cons (pv 2) pa_nil)))) (pss_one (ps_raise00 rfl (takes_of rfl rfl rfl rfl) (x0_NoPoly B) (gl_NoPoly B))) pss_nil)))
  (pss_cons (ps_set (i := 3) sc_Poly_init.nd rfl (Or.inl rfl) (pe_callD (dvs := []) (d_without_zeros B) (hr.mono (by decide)) rfl passL (pa_cons (pe_lc (own := [("item", 2)]) (g := (gName 2)) (tt := tYes) rfl sc_Poly_init.nd (pi_seq (pv 1)) (blkOk_by (N := ["self", "coefficients", "item", "kept"]) (sc := defScope s_Poly_init_) (own := [("item", 2)]) (by decide +kernel)) (fun _ _ _ _ _ => pg_name (i := 2) sc_Poly_init.nd rfl (Or.inl rfl)) (fun _ _ _ _ _ => pts_nil) (fun _ _ _ _ _ => (pe_callD (dvs := []) (d_as_ratio B) (hr.mono (by decide)) rfl passL (pa_cons (pv 2) (pa_cons pe_str pa_nil))))) pa_nil)))
  (pss_cons (ps_fld (pv 0) (pe_callTy call_tuple_of (by rfl) (fr_tuple B) (by decide +kernel) (pa_cons (pv 3) pa_nil)) rfl)
  (pss_cons (ps_fld (pv 0) (pe_op op_sub (pe_callB call_len (by rfl) (fr_len B) (by decide +kernel) (pa_cons (pv 3) pa_nil)) pe_int) rfl)
  (pss_one (ps_fld (pv 0) (pe_ifExp (pt_truth (pv 3) (by intro _; rfl)) (pe_ix ix_list (pv 3) (pe_un un_neg pe_int) (fun _ _ => rfl)) (pe_makeD (dvs := [.int 1]) (d_Ratio_init_1 B) (hr.mono (by decide)) rfl (pass_on (takes_of rfl rfl rfl rfl) fun _ _ _ _ z => z) (pa_cons pe_int pa_nil))) rfl)))))))
theorem d_Poly_init (B : Bd K mg) : MakeOk PySem.Challenge.pw_momentrows_k18_mean_of_a_poly w K mg base 7 "Poly" (He.ga K "Poly") [] (liftI K "Poly" (fMkPoly csL)) := by
  obtain ⟨fd, F, G⟩ := fo_Poly_init (w := w) (base := base) B
  exact ⟨_, fd, ["self", "coefficients"], [], gl_Poly B, He.mkr_ok (B.says.fact 59 rfl), G, F.bindsN fun _ _ _ _ _ _ us hl => match us, hl with | [_, _], _ => rfl, .nil⟩
theorem fo_check_row (B : Bd K mg) : ∃ fd, FunD K "check_row" "check_row" (defArgs s_check_row_) (defBody s_check_row_) (defScope s_check_row_) [.int 13] [] (He.ga K "check_row") fd ∧ FnOk PySem.Challenge.pw_momentrows_k18_mean_of_a_poly w K mg base (CXX PySem.Challenge.pw_momentrows_k18_mean_of_a_poly w) 7 (He.ga K "check_row") fd ["row", "limit"] (lift K (fCheckRow csL)) := by
  obtain ⟨fd, F0⟩ := B.says.def_ 14 (d := dd_check_row) rfl
  have F : FunD K "check_row" "check_row" (defArgs s_check_row_) (defBody s_check_row_) (defScope s_check_row_) [.int 13] [] (He.ga K "check_row") fd := F0
  refine ⟨fd, F, F.ok sc_check_row (fun vs H Q E h => ?_) (fun cdv A outer s H vs Q E hr h => ⟨tt_check_row K csL E, ?_, pp_check_row (KFB B) (by decide) (by decide) vs H Q E h⟩)⟩
  · exact len_check_row (cs := csL) _ _ _ _ h
  · exact (pss_cons (ps_if (PW.pt (pw_or (pt_not (pt_val (pe_callB call_isiT (by rfl) (fr_isinstance B) (by decide +kernel) (pa_cons (pv 0) (pa_cons (pe_tup (pa_cons (pe_bltn (v := .ty "list") (by rfl) (fr_list B) (by decide +kernel) rfl) (pa_cons (pe_bltn (v := .ty "tuple") (by rfl) (fr_tuple B) (by decide +kernel) rfl) pa_nil))) pa_nil))))) (pw_or (pt_not (pt_truth (pv 0) (by intro _; rfl))) (pw_or1 (pt_cmpR op_gt (pe_callB call_len (by rfl) (fr_len B) (by decide +kernel) (pa_cons (pv 0) pa_nil)) (pv 1) (nomark _)))))) (pss_one (ps_raiseS rfl (sup_NoRow B) pn_index (gl_NoRow B) hr (takes_of rfl rfl rfl rfl) (pa_cons (pe_un un_neg pe_int) pa_nil))) pss_nil)
  (pss_cons (ps_for (passes_of rfl) rfl (pi_enumA (by rfl) (fr_enumerate B) (pa_cons (pv 0) pa_nil)) (pg_tup rfl (pgs_cons (pg_name (i := 2) sc_check_row.nd rfl (Or.inl rfl)) (pgs_cons (pg_name (i := 3) sc_check_row.nd rfl (Or.inl rfl)) pgs_nil))) (pss_one (ps_if (pt_not (pt_val (pe_callD (dvs := []) (d_is_number B) (hr.mono (by decide)) rfl passL (pa_cons (pv 3) pa_nil)))) (pss_one (ps_raiseS rfl (sup_NoRow B) pn_index (gl_NoRow B) hr (takes_of rfl rfl rfl rfl) (pa_cons (pv 2) pa_nil))) pss_nil)))
  (pss_one (ps_ret (pe_lc (own := [("item", 3)]) (g := (gName 3)) (tt := tYes) rfl sc_check_row.nd (pi_seq (pv 0)) (blkOk_by (N := ["row", "limit", "index", "item"]) (sc := defScope s_check_row_) (own := [("item", 3)]) (by decide +kernel)) (fun _ _ _ _ _ => pg_name (i := 3) sc_check_row.nd rfl (Or.inl rfl)) (fun _ _ _ _ _ => pts_nil) (fun _ _ _ _ _ => (pe_callD (dvs := []) (d_as_ratio B) (hr.mono (by decide)) rfl passL (pa_cons (pv 3) (pa_cons pe_str pa_nil)))))))))
theorem d_check_row_0 (B : Bd K mg) : DefOk PySem.Challenge.pw_momentrows_k18_mean_of_a_poly w K mg base 7 "check_row" [] (lift K (fCheckRow csL)) := by
  obtain ⟨fd, F, G⟩ := fo_check_row (w := w) (base := base) B
  obtain ⟨ds, v, b⟩ := F.binds1 (ps := ["row", "limit"]) 2 1 (by simp) rfl fun T kV doc pm an cdv ct us its hu hi => match us, hu, its, hi with | [_, _], _, [_], _ => ⟨_, rfl, rfl⟩
  exact ⟨_, fd, ["row", "limit"], ds, gl_check_row B, F.kp, G, b, v⟩
theorem d_check_row_1 (B : Bd K mg) : DefOk PySem.Challenge.pw_momentrows_k18_mean_of_a_poly w K mg base 7 "check_row" [.int 13] (lift K (fCheckRow csL)) := by
  obtain ⟨fd, F, G⟩ := fo_check_row (w := w) (base := base) B
  obtain ⟨ds, v, b⟩ := F.binds1 (ps := ["row", "limit"]) 1 0 (by simp) rfl fun T kV doc pm an cdv ct us its hu hi => match us, hu, its, hi with | [_], _, [_], _ => ⟨_, rfl, rfl⟩
  exact ⟨_, fd, ["row", "limit"], ds, gl_check_row B, F.kp, G, b, v⟩
theorem fo_mean_of (B : Bd K mg) : ∃ fd, FunD K "mean_of" "mean_of" (defArgs s_mean_of_) (defBody s_mean_of_) (defScope s_mean_of_) [] [] (He.ga K "mean_of") fd ∧ FnOk PySem.Challenge.pw_momentrows_k18_mean_of_a_poly w K mg base (CXX PySem.Challenge.pw_momentrows_k18_mean_of_a_poly w) 7 (He.ga K "mean_of") fd ["numbers", "p"] (lift K fMeanOf) := by
  obtain ⟨fd, F0⟩ := B.says.def_ 15 (d := dd_mean_of) rfl
  have F : FunD K "mean_of" "mean_of" (defArgs s_mean_of_) (defBody s_mean_of_) (defScope s_mean_of_) [] [] (He.ga K "mean_of") fd := F0
  refine ⟨fd, F, F.ok sc_mean_of (fun vs H Q E h => ?_) (fun cdv A outer s H vs Q E hr h => ⟨tt_mean_of K csL, ?_, pp_mean_of (KFB B) (by decide) (by decide) vs H Q E h⟩)⟩
  · exact len_mean_of (cs := csL) _ _ _ _ h
  · exact (pss_cons (ps_set (i := 2) sc_mean_of.nd rfl (Or.inl rfl) (pe_makeD (dvs := [.int 1]) (d_Ratio_init_1 B) (hr.mono (by decide)) rfl passL (pa_cons pe_int pa_nil)))
  (pss_cons (ps_for (passes_of rfl) rfl (pi_enumA (by rfl) (fr_enumerate B) (pa_cons (pe_fld (pv 1) rfl) pa_nil)) (pg_tup rfl (pgs_cons (pg_name (i := 3) sc_mean_of.nd rfl (Or.inl rfl)) (pgs_cons (pg_name (i := 4) sc_mean_of.nd rfl (Or.inl rfl)) pgs_nil))) (pss_one (ps_set (i := 2) sc_mean_of.nd rfl (Or.inl rfl) (pe_op (op_own "add" (d_Ratio_add B) (oc_Ratio_add B) (hr.mono (by decide)) passL) (pv 2) (pe_op (op_own "mul" (d_Ratio_mul B) (oc_Ratio_mul B) (hr.mono (by decide)) passL) (pv 4) (pe_ix ix_any (pv 0) (pv 3) (fun _ _ => rfl)))))))
  (pss_one (ps_ret (pv 2)))))
theorem d_mean_of (B : Bd K mg) : DefOk PySem.Challenge.pw_momentrows_k18_mean_of_a_poly w K mg base 7 "mean_of" [] (lift K fMeanOf) := by
  obtain ⟨fd, F, G⟩ := fo_mean_of (w := w) (base := base) B
  exact ⟨_, fd, ["numbers", "p"], [], gl_mean_of B, F.kp, G, F.bindsN fun _ _ _ _ _ _ us hl => match us, hl with | [_, _], _ => rfl, .nil⟩
theorem fo_Poly_add (B : Bd K mg) : ∃ fd, FunD K "__add__" "Poly.__add__" (defArgs s_Poly_add_) (defBody s_Poly_add_) (defScope s_Poly_add_) [] [] (He.ma K (He.ga K "Poly") "__add__") fd ∧ FnOk PySem.Challenge.pw_momentrows_k18_mean_of_a_poly w K mg base (CXX PySem.Challenge.pw_momentrows_k18_mean_of_a_poly w) 9 (He.ma K (He.ga K "Poly") "__add__") fd ["self", "other"] (lift K (fPAdd csL)) := by
  obtain ⟨fd, F0⟩ := B.says.def_ 13 (d := dd_Poly_add) rfl
  have F : FunD K "__add__" "Poly.__add__" (defArgs s_Poly_add_) (defBody s_Poly_add_) (defScope s_Poly_add_) [] [] (He.ma K (He.ga K "Poly") "__add__") fd := F0
  refine ⟨fd, F, F.ok sc_Poly_add (fun vs H Q E h => ?_) (fun cdv A outer s H vs Q E hr h => ⟨tt_Poly_add K csL, ?_, pp_Poly_add (KFB B) (by decide) (by decide) vs H Q E h⟩)⟩
  · exact len_Poly_add (cs := csL) _ _ _ _ h
  · exact (pss_cons (ps_set (i := 2) sc_Poly_add.nd rfl (Or.inl rfl) (pe_callD (dvs := []) (d_coefficients_of B) (hr.mono (by decide)) rfl passL (pa_cons (pv 1) pa_nil)))
  (pss_cons (ps_if (pt_cmpR op_isN (pv 2) pe_non (nomark _)) (pss_one ps_never) pss_nil)
  (pss_one (ps_ret (pe_makeD (dvs := []) (d_Poly_init B) (hr.mono (by decide)) rfl passL (pa_cons (pe_callD (dvs := []) (d_added B) (hr.mono (by decide)) rfl passL (pa_cons (pe_fld (pv 0) rfl) (pa_cons (pv 2) pa_nil))) pa_nil))))))
theorem d_Poly_add (B : Bd K mg) : MethOk PySem.Challenge.pw_momentrows_k18_mean_of_a_poly w K mg base 9 (He.ga K "Poly") "__add__" [] (lift K (fPAdd csL)) := by
  obtain ⟨fd, F, G⟩ := fo_Poly_add (w := w) (base := base) B
  exact ⟨_, fd, ["self", "other"], [], ((KFB B).own _ (by decide)).cl, He.meth_ok (B.says.fact 60 rfl), G, F.bindsN fun _ _ _ _ _ _ us hl => match us, hl with | [_, _], _ => rfl, .nil⟩
theorem fo_mean (B : Bd K mg) : ∃ fd, FunD K "mean" "mean" (defArgs s_mean_) (defBody s_mean_) (defScope s_mean_) [] [] (He.ga K "mean") fd ∧ FnOk PySem.Challenge.pw_momentrows_k18_mean_of_a_poly w K mg base (CXX PySem.Challenge.pw_momentrows_k18_mean_of_a_poly w) 9 (He.ga K "mean") fd ["row", "p"] (lift K (fMean csL)) := by
  obtain ⟨fd, F0⟩ := B.says.def_ 16 (d := dd_mean) rfl
  have F : FunD K "mean" "mean" (defArgs s_mean_) (defBody s_mean_) (defScope s_mean_) [] [] (He.ga K "mean") fd := F0
  refine ⟨fd, F, F.ok sc_mean (fun vs H Q E h => ?_) (fun cdv A outer s H vs Q E hr h => ⟨tt_mean K csL E, ?_, pp_mean (KFB B) (by decide) (by decide) vs H Q E h⟩)⟩
  · exact len_mean (cs := csL) _ _ _ _ h
  · exact (pss_cons (ps_set (i := 2) sc_mean.nd rfl (Or.inl rfl) (pe_callD (dvs := [.int 13]) (d_check_row_1 B) (hr.mono (by decide)) rfl (pass_on (takes_of rfl rfl rfl rfl) fun _ _ _ _ z => z) (pa_cons (pv 0) pa_nil)))
  (pss_cons (ps_if (pt_cmpR op_ge (pe_fld (pv 1) rfl) (pe_callB call_len (by rfl) (fr_len B) (by decide +kernel) (pa_cons (pv 2) pa_nil)) (nomark _)) (pss_one (ps_raise00 rfl (takes_of rfl rfl rfl rfl) (x0_NoMean B) (gl_NoMean B))) pss_nil)
  (pss_one (ps_ret (pe_callD (dvs := []) (d_mean_of B) (hr.mono (by decide)) rfl passL (pa_cons (pv 2) (pa_cons (pv 1) pa_nil)))))))
theorem d_mean (B : Bd K mg) : DefOk PySem.Challenge.pw_momentrows_k18_mean_of_a_poly w K mg base 9 "mean" [] (lift K (fMean csL)) := by
  obtain ⟨fd, F, G⟩ := fo_mean (w := w) (base := base) B
  exact ⟨_, fd, ["row", "p"], [], gl_mean B, F.kp, G, F.bindsN fun _ _ _ _ _ _ us hl => match us, hl with | [_, _], _ => rfl, .nil⟩
theorem dk_mean_p (B : Bd K mg) : DefKOk PySem.Challenge.pw_momentrows_k18_mean_of_a_poly w K mg base 9 "mean" 1 ["p"] gApp (lift K (fMean csL)) := by
  obtain ⟨fd, F, G⟩ := fo_mean (w := w) (base := base) B
  exact ⟨_, fd, ["row", "p"], _, gl_mean B, F.kp, G, kbindsN F (ps := ["row", "p"]) 1 ["p"] (fun us ws => us ++ ws) (fun r1 r2 => r1.append r2) fun kV doc pm an cdv ct us ws hu hw => match us, hu, ws, hw with | [_], _, [_], _ => rfl⟩
theorem dk_mean_row_p (B : Bd K mg) : DefKOk PySem.Challenge.pw_momentrows_k18_mean_of_a_poly w K mg base 9 "mean" 0 ["row", "p"] gApp (lift K (fMean csL)) := by
  obtain ⟨fd, F, G⟩ := fo_mean (w := w) (base := base) B
  exact ⟨_, fd, ["row", "p"], _, gl_mean B, F.kp, G, kbindsN F (ps := ["row", "p"]) 0 ["row", "p"] (fun us ws => us ++ ws) (fun r1 r2 => r1.append r2) fun kV doc pm an cdv ct us ws hu hw => match us, hu, ws, hw with | [], _, [_, _], _ => rfl⟩
theorem fo__law_refused (B : Bd K mg) : ∃ fd, FunD K "_law_refused" "_law_refused" (defArgs s__law_refused_) (defBody s__law_refused_) (defScope s__law_refused_) [] [] (He.ga K "_law_refused") fd ∧ FnOk PySem.Challenge.pw_momentrows_k18_mean_of_a_poly w K mg base (CXX PySem.Challenge.pw_momentrows_k18_mean_of_a_poly w) 11 (He.ga K "_law_refused") fd ["_law_row_here", "_law_p"] (lift K (fLRefused csL)) := by
  obtain ⟨fd, F0⟩ := B.says.def_ 29 (d := dd__law_refused) rfl
  have F : FunD K "_law_refused" "_law_refused" (defArgs s__law_refused_) (defBody s__law_refused_) (defScope s__law_refused_) [] [] (He.ga K "_law_refused") fd := F0
  refine ⟨fd, F, F.ok sc__law_refused (fun vs H Q E h => ?_) (fun cdv A outer s H vs Q E hr h => ⟨tt__law_refused K csL, ?_, pp__law_refused (KFB B) (XOB B) (IOB B) (by decide) (by decide) vs H Q E h⟩)⟩
  · exact len__law_refused (cs := csL) _ _ _ _ h
  · exact (pss_cons (ps_set (i := 2) sc__law_refused.nd rfl (Or.inl rfl) pe_bl)
  (pss_cons (ps_try_as (i := 3) (tb := fun W => (tDrop (tCallSD (lift K (fMean csL)) [] (WE W) (tCons (tVar 0) (tCons (tVar 1) tNil))))) (ts := fun a cls d => (tAsg (tAndV (tCB (rIsX K a cls d) (tCons (tVar 3) (tCons (tC (.ref (He.ga K "MeansError"))) tNil))) (tNotV (tCB (rIsX K a cls d) (tCons (tVar 3) (tCons (tC (.ref (He.ga K "NoRow"))) tNil))))) (gName 2))) (Wout := (fun _ _ _ _ => False)) rfl rfl sc__law_refused.nd rfl rfl ⟨rfl, by decide, Or.inl (gl_NoMean B)⟩ takes0 (fun W pn xe tk _ => (pss_one (ps_expr (pe_callDS (dvs := []) (d_mean B) (hr.mono (by decide)) rfl (fun σ => passAt tk σ) (pa_cons (pv 0) (pa_cons (pv 1) pa_nil)))))) (fun a oe cls d pn hz hf => (pss_one (ps_set (i := 2) sc__law_refused.nd rfl (Or.inl rfl) (pe_and (pe_callB (call_isX hz hf) (by rfl) (fr_isinstance B) (by decide +kernel) (pa_cons (pv 3) (pa_cons (pe_glob (v := .ref (He.ga K "MeansError")) (by rfl) (gl_MeansError B) rfl) pa_nil))) (pe_one (pe_not (pe_callB (call_isX hz hf) (by rfl) (fr_isinstance B) (by decide +kernel) (pa_cons (pv 3) (pa_cons (pe_glob (v := .ref (He.ga K "NoRow")) (by rfl) (gl_NoRow B) rfl) pa_nil))))))))))
  (pss_one (ps_ret (pv 2)))))
theorem d__law_refused (B : Bd K mg) : DefOk PySem.Challenge.pw_momentrows_k18_mean_of_a_poly w K mg base 11 "_law_refused" [] (lift K (fLRefused csL)) := by
  obtain ⟨fd, F, G⟩ := fo__law_refused (w := w) (base := base) B
  exact ⟨_, fd, ["_law_row_here", "_law_p"], [], gl__law_refused B, F.kp, G, F.bindsN fun _ _ _ _ _ _ us hl => match us, hl with | [_, _], _ => rfl, .nil⟩
theorem fo_law (B : Bd K mg) : ∃ fd, FunD K "law" "law" (defArgs s_law_) (defBody s_law_) (defScope s_law_) [] [] (He.ga K "law") fd ∧ FnOk PySem.Challenge.pw_momentrows_k18_mean_of_a_poly w K mg base CX0 13 (He.ga K "law") fd ["_law_script"] (spLaw K) := by
  obtain ⟨fd, F0⟩ := B.says.def_ 30 (d := dd_law) rfl
  have F : FunD K "law" "law" (defArgs s_law_) (defBody s_law_) (defScope s_law_) [] [] (He.ga K "law") fd := F0
  refine ⟨fd, F, F.ok sc_law (fun vs H Q E h => ?_) (fun cdv A outer s H vs Q E hr h => ⟨tt_law K csL, ?_, pp_law (KFB B) (by decide) (by decide) vs H Q E h⟩)⟩
  · first | (obtain ⟨_, rfl, _⟩ := h; rfl) | (obtain ⟨_, _, rfl, _⟩ := h; rfl) | (obtain ⟨_, _, _, rfl, _⟩ := h; rfl) | (obtain ⟨_, _, _, _, rfl, _⟩ := h; rfl) | (obtain ⟨_, _, _, _, _, rfl, _⟩ := h; rfl) | (obtain ⟨_, _, _, _, _, _, rfl, _⟩ := h; rfl) | (obtain ⟨_, _, _, _, _, _, _, rfl, _⟩ := h; rfl) | (obtain ⟨_, _, _, _, _, _, _, _, rfl, _⟩ := h; rfl) | (obtain ⟨_, _, _, _, _, _, _, _, _, rfl, _⟩ := h; rfl) | (obtain ⟨_, _, _, _, _, _, _, _, _, _, rfl, _⟩ := h; rfl) | (obtain ⟨_, _, _, _, _, _, _, _, _, _, _, rfl, _⟩ := h; rfl) | (obtain ⟨_, _, _, _, _, _, _, _, _, _, _, _, rfl, _⟩ := h; rfl)
  · exact (pss_cons (ps_set (i := 1) sc_law.nd rfl (Or.inl rfl) (pe_callD (dvs := []) (d__law_feed B) (hr.mono (by decide)) rfl passL (pa_cons (pv 0) pa_nil)))
  (pss_cons (ps_for (passes_of rfl) rfl (pi_range1 (by rfl) (fr_range B) (pa_cons (pe_op op_add pe_int (pe_callD (dvs := []) (d__law_take B) (hr.mono (by decide)) rfl passL (pa_cons (pv 1) (pa_cons pe_int pa_nil)))) pa_nil)) (pg_name (i := 2) sc_law.nd rfl (Or.inl rfl)) (pss_cons (ps_set (i := 3) sc_law.nd rfl (Or.inl rfl) (pe_callD (dvs := []) (d__law_row B) (hr.mono (by decide)) rfl passL (pa_cons (pv 1) (pa_cons pe_int pa_nil))))
  (pss_cons (ps_set (i := 4) sc_law.nd rfl (Or.inl rfl) (pe_callD (dvs := []) (d__law_coefficients B) (hr.mono (by decide)) rfl passL (pa_cons (pv 1) (pa_cons pe_int pa_nil))))
  (pss_cons (ps_if (pt_cmpR op_eq (pe_callD (dvs := []) (d__law_take B) (hr.mono (by decide)) rfl passL (pa_cons (pv 1) (pa_cons pe_int pa_nil))) pe_int (nomark _)) (pss_one (ps_set (i := 4) sc_law.nd rfl (Or.inl rfl) (pe_slice sl_list (pv 4) po_none (po_some (pe_callB call_len (by rfl) (fr_len B) (by decide +kernel) (pa_cons (pv 3) pa_nil)))))) pss_nil)
  (pss_cons (ps_set (i := 5) sc_law.nd rfl (Or.inl rfl) (pe_makeD (dvs := []) (d_Poly_init B) (hr.mono (by decide)) rfl passL (pa_cons (pe_callD (dvs := []) (d__law_ratios B) (hr.mono (by decide)) rfl passL (pa_cons (pv 4) pa_nil)) pa_nil)))
  (pss_cons (ps_set (i := 6) sc_law.nd rfl (Or.inl rfl) (pe_callD (dvs := []) (d__law_ratios B) (hr.mono (by decide)) rfl passL (pa_cons (pv 3) pa_nil)))
  (pss_cons (ps_if (pt_cmpR op_ge (pe_callD (dvs := []) (d__law_degree B) (hr.mono (by decide)) rfl passL (pa_cons (pv 4) pa_nil)) (pe_callB call_len (by rfl) (fr_len B) (by decide +kernel) (pa_cons (pv 3) pa_nil)) (nomark _)) (pss_one (ps_if (PW.pt (pw_or (pt_not (pt_val (pe_callD (dvs := []) (d__law_refused B) (hr.mono (by decide)) rfl passL (pa_cons (pv 6) (pa_cons (pv 5) pa_nil))))) (pw_or1 (pt_not (pt_val (pe_callD (dvs := []) (d__law_refused B) (hr.mono (by decide)) rfl passL (pa_cons (pe_callTy call_tuple_of (by rfl) (fr_tuple B) (by decide +kernel) (pa_cons (pv 6) pa_nil)) (pa_cons (pv 5) pa_nil)))))))) (pss_one (ps_ret pe_bl)) pss_nil)) (pss_cons (ps_set (i := 9) sc_law.nd rfl (Or.inl rfl) (pe_callD (dvs := []) (d__law_due B) (hr.mono (by decide)) rfl passL (pa_cons (pv 3) (pa_cons (pv 4) pa_nil))))
  (pss_cons (ps_if (PW.pt (pw_or (pt_not (pt_val (pe_callD (dvs := []) (d__law_is B) (hr.mono (by decide)) rfl passL (pa_cons (pe_callD (dvs := []) (d_mean B) (hr.mono (by decide)) rfl passL (pa_cons (pv 6) (pa_cons (pv 5) pa_nil))) (pa_cons (pe_ix ix_list (pv 9) pe_int (fun _ _ => rfl)) (pa_cons (pe_ix ix_list (pv 9) pe_int (fun _ _ => rfl)) pa_nil)))))) (pw_or1 (pt_not (pt_val (pe_callD (dvs := []) (d__law_is B) (hr.mono (by decide)) rfl passL (pa_cons (pe_callND (ks := ["p"]) (dk_mean_p B) (hr.mono (by decide)) rfl passL (pa_cons (pe_callTy call_tuple_of (by rfl) (fr_tuple B) (by decide +kernel) (pa_cons (pv 6) pa_nil)) pa_nil) (pk_cons (pv 5) pk_nil)) (pa_cons (pe_ix ix_list (pv 9) pe_int (fun _ _ => rfl)) (pa_cons (pe_ix ix_list (pv 9) pe_int (fun _ _ => rfl)) pa_nil))))))))) (pss_one (ps_ret pe_bl)) pss_nil)
  (pss_one (ps_if (pt_not (pt_cmpR (cmp_own (d_Ratio_eq B) (oc_Ratio_add B) (hr.mono (by decide)) passL) (pe_callND0 (ks := ["row", "p"]) (dk_mean_row_p B) (hr.mono (by decide)) rfl passL (pk_cons (pv 6) (pk_cons (pe_op (op_own "add" (d_Poly_add B) (oc_Poly_add B) (hr.mono (by decide)) passL) (pv 5) pe_int) pk_nil))) (pe_op (op_own "add" (d_Ratio_add B) (oc_Ratio_add B) (hr.mono (by decide)) passL) (pe_callD (dvs := []) (d_mean B) (hr.mono (by decide)) rfl passL (pa_cons (pv 6) (pa_cons (pv 5) pa_nil))) (pe_op (op_refl "mul" (d_Ratio_rmul B) (d_Ratio_mul B) (oc_Ratio_mul B) decl_mul PySem.F.fills_int_mul (hr.mono (by decide)) passL) pe_int (pe_ix ix_list (pv 6) pe_int (fun _ _ => rfl)))) (nomark _))) (pss_one (ps_ret pe_bl)) pss_nil)))))
  (pss_cons (ps_for (passes_of rfl) rfl (pi_range1 (by rfl) (fr_range B) (pa_cons (pe_callB call_len (by rfl) (fr_len B) (by decide +kernel) (pa_cons (pv 3) pa_nil)) pa_nil)) (pg_name (i := 7) sc_law.nd rfl (Or.inl rfl)) (pss_one (ps_if (pt_not (pt_val (pe_callD (dvs := []) (d__law_is B) (hr.mono (by decide)) rfl passL (pa_cons (pe_ix ix_list (pv 6) (pv 7) (fun _ _ => rfl)) (pa_cons (pe_ix ix_list (pe_ix ix_list (pv 3) (pv 7) (fun _ _ => rfl)) pe_int (fun _ _ => rfl)) (pa_cons (pe_ix ix_list (pe_ix ix_list (pv 3) (pv 7) (fun _ _ => rfl)) pe_int (fun _ _ => rfl)) pa_nil)))))) (pss_one (ps_ret pe_bl)) pss_nil)))
  (pss_cons (ps_set (i := 8) sc_law.nd rfl (Or.inl rfl) (pe_op op_cat (pe_op op_rep (pe_lst (pa_cons pe_int pa_nil)) (pe_op op_sub (pe_callB call_len (by rfl) (fr_len B) (by decide +kernel) (pa_cons (pv 3) pa_nil)) pe_int)) (pe_lst (pa_cons pe_int pa_nil))))
  (pss_cons (ps_if (PW.pt (pw_or (pt_not (pt_val (pe_callD (dvs := []) (d__law_is B) (hr.mono (by decide)) rfl passL (pa_cons (pe_callD (dvs := []) (d_mean B) (hr.mono (by decide)) rfl passL (pa_cons (pv 6) (pa_cons (pe_makeD (dvs := []) (d_Poly_init B) (hr.mono (by decide)) rfl passL (pa_cons (pv 8) pa_nil)) pa_nil))) (pa_cons (pe_op op_mulI pe_int (pe_ix ix_list (pe_ix ix_list (pv 3) (pe_un un_neg pe_int) (fun _ _ => rfl)) pe_int (fun _ _ => rfl))) (pa_cons (pe_ix ix_list (pe_ix ix_list (pv 3) (pe_un un_neg pe_int) (fun _ _ => rfl)) pe_int (fun _ _ => rfl)) pa_nil)))))) (pw_or1 (pt_not (pt_val (pe_callD (dvs := []) (d__law_refused B) (hr.mono (by decide)) rfl passL (pa_cons (pv 6) (pa_cons (pe_makeD (dvs := []) (d_Poly_init B) (hr.mono (by decide)) rfl passL (pa_cons (pe_op op_cat (pe_lst (pa_cons pe_int pa_nil)) (pv 8)) pa_nil)) pa_nil)))))))) (pss_one (ps_ret pe_bl)) pss_nil)
  (pss_one (ps_if (PW.pt (pw_or (pt_not (pt_val (pe_callD (dvs := []) (d__law_is B) (hr.mono (by decide)) rfl passL (pa_cons (pe_callD (dvs := []) (d_mean B) (hr.mono (by decide)) rfl passL (pa_cons (pv 6) (pa_cons (pe_makeD (dvs := []) (d_Poly_init B) (hr.mono (by decide)) rfl passL (pa_cons (pe_lst pa_nil) pa_nil)) pa_nil))) (pa_cons pe_int (pa_cons pe_int pa_nil)))))) (pw_or1 (pt_not (pt_val (pe_callD (dvs := []) (d__law_is B) (hr.mono (by decide)) rfl passL (pa_cons (pe_callD (dvs := []) (d_mean B) (hr.mono (by decide)) rfl passL (pa_cons (pe_lst (pa_cons (pe_ix ix_list (pe_ix ix_list (pv 3) pe_int (fun _ _ => rfl)) pe_int (fun _ _ => rfl)) pa_nil)) (pa_cons (pe_makeD (dvs := []) (d_Poly_init B) (hr.mono (by decide)) rfl passL (pa_cons (pe_lst (pa_cons pe_int pa_nil)) pa_nil)) pa_nil))) (pa_cons (pe_op op_mulI pe_int (pe_ix ix_list (pe_ix ix_list (pv 3) pe_int (fun _ _ => rfl)) pe_int (fun _ _ => rfl))) (pa_cons pe_int pa_nil))))))))) (pss_one (ps_ret pe_bl)) pss_nil))))))))))))
  (pss_one (ps_ret pe_bl))))
end
def loose0 : List Str := ["_wall", "__name__", "MeansError", "NoRatio", "NoPoly", "NoDivisor", "NoNumber", "NoRow", "NoMean", "MOST_DIGITS", "is_integer", "common_part", "Ratio", "is_plain", "floor_of", "power_of", "power_of_ratios", "whole_power", "is_number", "as_ratio", "MOST_NUMBERS", "check_row", "mean_of", "mean", "Poly", "power_of_polys", "value_at", "coefficients_of", "without_zeros", "added"]
def loose1 : List Str := ["multiplied", "divided", "_law_is_integer", "_law_feed", "_law_take", "_law_number", "_law_is", "_law_add", "_law_times", "_law_ratios", "_law_row", "_law_coefficients", "_law_due", "_law_degree", "_law_refused"]
def looseL : List Str := loose0 ++ loose1
abbrev hk : PySem.W.Hook := hookM 5 bsL fnL
def ob (s : PySem.W.SharedT) : AlM := obsMG 5 bsL fnL (HandSHeadRun.getT s)
theorem ob_eq (s : PySem.W.SharedT) : ob s = hk.obs s.abs := obsMG_eq (HandSHeadRun.getT_eq s)
theorem run (w : World) : HandSHeadRun.RunEq (PySem.W.OpenLaw.row PySem.Challenge.rw_momentrows_k18_mean_of_a_poly) (PySem.W.view (PySem.W.OpenLaw.row PySem.Challenge.rw_momentrows_k18_mean_of_a_poly).prog [50]) hk ob 12000 looseL w := by
  intro os
  kernel_rfl
end MR
open PySem PySem.W PySem.Calls PyProof.Rows
set_option maxRecDepth 100000 in
set_option maxHeartbeats 0 in
theorem PySem.Challenge.cw_momentrows_k18_mean_of_a_poly_holds : PySem.Challenge.rw_momentrows_k18_mean_of_a_poly.Holds := by
  w_on; o_law
  refine HandSHeadRun.head_any (r := OpenLaw.row PySem.Challenge.rw_momentrows_k18_mean_of_a_poly) (q := view (OpenLaw.row PySem.Challenge.rw_momentrows_k18_mean_of_a_poly).prog [50]) (H := MR.hk) (ob := MR.ob) (M := 12000) (loose := MR.looseL) (d := HandSHeadRun.topDef (OpenLaw.row PySem.Challenge.rw_momentrows_k18_mean_of_a_poly).prog 50) (kwd := []) MR.ob_eq
    (by kernel_rfl) (fun s => by kernel_rfl) MR.run (by kernel_rfl) (by kernel_rfl) (by kernel_rfl) (by rfl) (by first | assumption | decide +kernel) (by decide +kernel) ⟨rfl, rfl, rfl, rfl, rfl, by decide +kernel⟩ ?hw ?hc
  case hw => w_witness2
  case hc =>
    refine L2.walk_ofE (l := PySem.Challenge.rw_momentrows_k18_mean_of_a_poly) (n := 63) (k := 13) (x := "_law_script") (CX := L2.CX0) rfl (by decide) (by kernel_rfl) ⟨rfl, by decide, by decide⟩ ?F (fun _ _ _ _ z => z)
    intro w mg fa h Y G hmg0
    obtain ⟨K, KX, c⟩ := Y
    have hmg : mg ("law" : PySem.Str) = some (.ref fa) := by
      have e : (HandSHeadRun.topDef (OpenLaw.row PySem.Challenge.rw_momentrows_k18_mean_of_a_poly).prog 50).name = ("law" : PySem.Str) := by kernel_rfl
      rw [← e]
      exact hmg0
    have B : MR.Bd K mg := ⟨⟨h, KX, G⟩, c⟩
    have e := hmg.symm.trans (MR.gl_law B)
    cases e
    obtain ⟨fd0, F, _⟩ := MR.fo_law (w := w) (base := h) B
    have b := L2.FunD.bindsA (ps := ["_law_script"]) F fun _ _ _ _ _ _ us hl => match us, hl with | [_], _ => rfl
    refine ⟨K, fd0, MR.spLaw K, KX, fun s u => b s [u] rfl, fun H a ns hl _ hS => ⟨a, ns, rfl, hS, hl, fun _ => rfl⟩, fun base _ _ => ?_⟩
    obtain ⟨fd1, F1, G1⟩ := MR.fo_law (w := w) (base := base) B
    have e2 : fd1 = fd0 := MR.funD_inj F1 F
    rw [← e2]
    exact G1

