import PyProof.Rows.All
import Wide.All
import OpenK.AllK
import Wide.FinOn
import KE.KExcSuper
import HandS.ForMost
import HandS.ForExc
import HandS.Defaults
import HandS.IsInst
import HandS.ExcField
import HandS.ExcInit
import KE.KExcIs
import HandS.ExcIs
import HandS.Wide
import HandS.MakeKw
import HandS.MakeKwOnly
import HandS.CallSlots
import HandS.HeadEnd
import HandS.HeadHook2
import HandS.Head2
import HandS.OwnEq
import KE.KOpsOwn
import HandS.Lambda
import HandS.EndTab
import HandS.Iter
import KE.GoesEnum
import HandS.RevRange
import HandS.Zip
import HandS.TupAny
import HandS.DeepEq
import HandS.TupLe
import HandS.Small
import HandS.Style
import KE.KCallOwn
import HandS.More
import PyProof.NoPylong
import HandS.Dict
import HandS.List
import PySem.Challenge.RW_momentrows_k10_common_factor
set_option Elab.async false
set_option linter.all false
set_option maxRecDepth 100000
set_option maxHeartbeats 4000000
/-! MR: an own error whose __init__(self, p) says super().__init__(p); self.p = p, below MeansError(ValueError) -/
namespace MR
open PySem PySem.W PySem.Calls PyProof.Rows PySem.HandSPX
/-- the facts of the error class at C, its __init__ at fI with the parameter p -/
structure SupC (prog : Program) (K : Frag) (C fI : Addr) (p : Str) : Prop where
  cls : ∃ nm q N bs bm sn sub ab col dd k0 k1 k2 k3 k5, K.lookup C = some (excClassObj nm q C N bs bm true sn sub ab col dd k0 k1 k2 k3 k5 "ValueError.__new__") ∧ refsVE bm = true ∧
    alongIn K "__init__" bm = some (some (.builtin "ValueError.__init__"))
  sa : findIn K (.ref C) "__setattr__" = some (some (.builtin "object.__setattr__"))
  no : findIn K (.ref C) p = some none
  ini : findIn K (.ref C) "__init__" = some (some (.ref fI))
  tfn : typeIn K (.ref fI) = some (.type "function")
  kC : keepIn K (.ref C) = true
  exC : subIn K (.ref C) (.type "BaseException") = some true
  veC : subIn K (.ref C) (.type "ValueError") = some true
  tyC : typeIn K (.ref C) = some (.type "type")
  selfC : mroIn K C (.ref C) = some true
  opq : nsIn K cStatics "thirdparty.any" = some none
  sup : nsIn K mainGlobals "super" = some none
  top : (prog.main.scope.names.lookup ("super" : Str)).isSome = false
  fn : ∃ (oc : Value) (od : Option Addr) (osl : Array (Option Value)) (fd : FuncData) (a1 a2 : Arg) (q1 q2 q3 q4 q5 q6 q7 q8 q9 q10 : Pos) (cda cc : Addr) (ccl : Value) (cdd : Option Addr) (vs : Array Value) (ccs : Array (Option Value)) (file : Str) (tf : Tok) (cl : Value) (cld : Option Addr) (csl : Array (Option Value)),
    K.lookup fI = some ⟨oc, od, .func fd, osl⟩ ∧ codeIn K fd.code fd.qualname = true ∧
    fd.params = { posonlyargs := [], args := [a1, a2], vararg := none, kwonlyargs := [], kw_defaults := [], kwarg := none, defaults := [] } ∧ a1.arg = "self" ∧ a2.arg = p ∧
    fd.body = .stmts [.Expr (.Call (.Attribute (.Call (.Name "super" q1) [] [] q2) "__init__" q3) [.Name p q4] [] q5) q6, .Assign [.Attribute (.Name "self" q7) p q8] (.Name p q9) q10] ∧
    fd.scope = { kind := .function, names := [("self", .local), (p, .local), ("__class__", .free), ("super", .globalImplicit)], isGenerator := false, isCoroutine := false, more := [] } ∧
    fd.globals = mainGlobals ∧ fd.builtins = builtinsNs ∧ fd.closure = [(("__class__" : Str), cc)] ∧ fd.defaults = .none ∧ fd.code = .ref cda ∧
    K.lookup cda = some ⟨ccl, cdd, .fields vs, ccs⟩ ∧ vs[2]? = some (.str file tf) ∧ ((prog.main.file : Str) == file) = true ∧
    K.lookup cc = some ⟨cl, cld, .cell (some (.ref C)), csl⟩ ∧ (q3.endLine == q5.line) = true
/-- a good parameter's name -/
structure PName (p : Str) : Prop where
  n1 : ¬ p = ("self" : Str)
  n2 : ¬ p = ("__class__" : Str)
  n3 : ¬ p = ("super" : Str)
  n4 : (p == ("__debug__" : Str)) = false
  n5 : (p == ("__classdict__" : Str)) = false
  bnd : ∀ (n1 n2 : Str) (an1 : Option Expr) (ap1 : Pos) (an2 : Option Expr) (ap2 : Pos) (b : FuncBody) (sc : Scope) (gl : Addr) (clo : List (Str × Addr)) (n9 n10 n11 : Value) (n12 : Option Addr) (n13 n14 : Value) (n15 : Addr) (u v : Value),
    bindArgs ⟨n1, n2, { posonlyargs := [], args := [⟨"self", an1, ap1⟩, ⟨p, an2, ap2⟩], vararg := none, kwonlyargs := [], kw_defaults := [], kwarg := none, defaults := [] }, b, sc, gl, clo, .none, n9, n10, n11, n12, n13, n14, n15⟩ ⟨[u, v], []⟩ = pure [(("self" : Str), u), (p, v)]
structure InitEnd (h h' : Heap) (x C dx : Addr) (p : Str) (v : Value) : Prop where
  keep : ∀ b o, b ≠ x → h.get? b = some o → h'.get? b = some o
  obj : ∃ t1, h'.get? x = some { cls := .ref C, dict := some dx, data := .fields #[.ref t1, .none, .none, .none, .bool false, .none] }
  dbig : h.objs.size ≤ dx
  dne : dx ≠ x
  ns : h'.Ns1 dx (fun y => if y = p then some v else none)
theorem qKw : PName "word" := ⟨by decide +kernel, by decide +kernel, by decide +kernel, by decide +kernel, by decide +kernel, fun _ _ _ _ _ _ _ _ _ _ _ _ _ _ _ _ _ _ _ => rfl⟩
theorem qWp {o : Expr} {name : Str} {apos pos : Pos} {env : Env} {a : Expr} (h : (apos.endLine == pos.line) = true) (hs : starEach [a] env = [(false, eval a env)]) :
    eval (.Call (.Attribute o name apos) [a] [] pos) env = (do
      let ov ← attributeBase o name env (eval o env)
      standAt apos.atName
      let (f, first) ← holding [ov] (getMethod ov name (do return (← importBound o env).getD true))
      callWith pos f first (backTo pos (starEach [a] env)) []) := by
  have e0 : eval (.Call (.Attribute o name apos) [a] [] pos) env = (do
      let ov ← attributeBase o name env (eval o env)
      standAt apos.atName
      methodCall o name apos pos env ov 1 (backTo pos (starEach [a] env)) []) := rfl
  have e1 : methodCallPos true o env apos pos = pure pos := by
    unfold methodCallPos
    rw [h]
    rfl
  have e2 : methodCallForm 1 (backTo pos (starEach [a] env)) [] = true := by rw [hs]; rfl
  rw [e0]
  unfold methodCall
  rw [e2]
  simp only [e1, pure_bind]
  rfl
/-- the bound ValueError.__init__ called -/
theorem qUl {prog : Program} {w : World} {A : Around} {E : Value → Shared → Prop} {s : Shared} {C u x t0 : Addr} {nm q : Str} {N : Addr} {bs bm : List Value} {hdct : Bool} {sn : List Str} {sub : List Value} {ab : Bool} {col : Option Bool} {dd : Option Addr} {k0 k1 k2 k3 k5 : Option Value} {Q : Value → Shared → Prop}
    (hC : s.heap.get? C = some (excClassObj nm q C N bs bm hdct sn sub ab col dd k0 k1 k2 k3 k5 "ValueError.__new__")) (hu : s.heap.get? u = some (kxs_mw "ValueError.__init__" x)) (hx : s.heap.get? x = some (excO C t0)) {rest : List Value} (hz : rest.length ≤ sizeLine)
    (h : ∀ h' t1, (∀ b o, b ≠ x → s.heap.get? b = some o → h'.get? b = some o) → h'.get? x = some (excO C t1) → Q .none { s with heap := h' }) : wpAny (model prog w) A (call (.ref u) rest) Q E s := by
  have f1 : (Value.type "method-wrapper" == Value.type "method" || Value.type "method-wrapper" == Value.type "builtin_function_or_method" || Value.type "method-wrapper" == Value.type "method-wrapper") = true := by decide
  obtain ⟨hh, g, d, tk, os⟩ := s
  refine wpAny_call (codeAny_of_tree ?_)
  show wpAny _ A.in1 (callAny (Value.ref u) ⟨rest, []⟩) _ _ _
  unfold callAny
  refine wpAny_bind (wpAny_load hu ?_)
  dsimp only [kxs_mw]
  rw [if_pos f1]
  refine KFB.if_so (by decide) ?_
  refine wpAny_bind (check_bound_init F.excBase_ValueError.toExcCallFacts hC hx rfl ?_)
  refine wpAny_bind (wpAny_pure (wpAny_pure ⟨plainId_quiet F.excBase_ValueError.init.plain _, codeAny_builtin F.excBase_ValueError.initEntry ?_⟩))
  refine exc_init_tree (cls := .ref C) (t0 := t0) (dv := none) (c2 := .none) (c3 := .none) (b4 := .bool false) hx hz ?_
  intro h' k e1 e2
  exact h h' _ k e1
section
variable {prog : Program} {w : World} {A : Around} {E : Value → Shared → Prop} {R : Result → Shared → Prop} {s : Shared} {K : Frag} {C fI : Addr} {p : Str}
theorem qZp (T : SupC prog K C fI p) (hp : PName p) {x t0 : Addr} {v : Value} {mg mb : Str → Option Value} (X : K.In s.heap) (G : s.heap.Ns mainGlobals mg) (B : s.heap.Ns builtinsNs mb) (hB : ∀ x : Str, x ≠ "__name__" → mb x = bootBuiltins x)
    (hlim : s.heap.NoLimit) (hx : s.heap.get? x = some (excO C t0)) (hnx : K.lookup x = none) (hroom : A.depth < recursionLimit)
    (hq : ∀ h' tk dx, InitEnd s.heap h' x C dx p v → R (.ok (.ret .none)) { s with heap := h', toks := tk }) :
    codeAny (model prog w) A (.call (.ref fI) ⟨[.ref x, v], []⟩) R s := by
  obtain ⟨oc, od, osl, fd, a1, a2, q1, q2, q3, q4, q5, q6, q7, q8, q9, q10, cda, cc, ccl, cdd, vs, ccs, file, tf, cl, cld, csl, hf, hcd, hpar, ha1, ha2, hbody, hsc, hgl, hbt, hclo, hdf, hcode, hcda, hvs, hfile, hcell, hq35⟩ := T.fn
  obtain ⟨nm, q, N, bs, bm, sn, sub, ab, col, dd, k0, k1, k2, k3, k5, hC, hbm, hal⟩ := T.cls
  have hcl : clsIn K C = some { name := nm, bases := bs, mro := .ref C :: bm, ns := N, qualname := q, hasDict := true, slotNames := sn, subclasses := sub, abstract := ab, collection := col, hasDel := false } := by unfold clsIn; rw [hC] <;> rfl
  obtain ⟨n1, n2, n3, n4, n5, n6, n7, n8, n9, n10, n11, n12, n13, n14, n15⟩ := fd
  obtain ⟨aa1, an1, ap1⟩ := a1
  obtain ⟨aa2, an2, ap2⟩ := a2
  dsimp only at hcd hpar ha1 ha2 hbody hsc hgl hbt hclo hdf hcode
  subst hpar ha1 ha2 hbody hsc hgl hbt hclo hdf hcode
  have e1 : ¬ aa2 = ("self" : Str) := hp.n1
  have b1 : (aa2 == ("self" : Str)) = false := by simpa using e1
  have b2 : (aa2 == ("__class__" : Str)) = false := by simpa using hp.n2
  have b3 : (aa2 == ("super" : Str)) = false := by simpa using hp.n3
  have b4 : (("self" : Str) == aa2) = false := by simpa using Ne.symm e1
  have b5 : (("__class__" : Str) == aa2) = false := by simpa using Ne.symm hp.n2
  have b6 : (("super" : Str) == aa2) = false := by simpa using Ne.symm hp.n3
  have ls : ([(("self" : Str), NameKind.local), (aa2, NameKind.local), (("__class__" : Str), NameKind.free), (("super" : Str), NameKind.globalImplicit)] : List (Str × NameKind)).lookup ("self" : Str) = some .local := by simp [List.lookup]
  have lp : ([(("self" : Str), NameKind.local), (aa2, NameKind.local), (("__class__" : Str), NameKind.free), (("super" : Str), NameKind.globalImplicit)] : List (Str × NameKind)).lookup aa2 = some .local := by simp [List.lookup, b1]
  have lc : ([(("self" : Str), NameKind.local), (aa2, NameKind.local), (("__class__" : Str), NameKind.free), (("super" : Str), NameKind.globalImplicit)] : List (Str × NameKind)).lookup ("__class__" : Str) = some .free := by
    simp [List.lookup, b5, show (("__class__" : Str) == ("self" : Str)) = false by decide +kernel]
  have lu : ([(("self" : Str), NameKind.local), (aa2, NameKind.local), (("__class__" : Str), NameKind.free), (("super" : Str), NameKind.globalImplicit)] : List (Str × NameKind)).lookup ("super" : Str) = some .globalImplicit := by
    simp [List.lookup, b6, show (("super" : Str) == ("self" : Str)) = false by decide +kernel, show (("super" : Str) == ("__class__" : Str)) = false by decide +kernel]
  refine ks_codeAny_call_defAt (binds := [(("self" : Str), .ref x), (aa2, v)]) hroom (X _ _ hf) rfl hlim (codeRec_of X hcd) rfl (BindsTo.of_eq (hp.bnd _ _ _ _ _ _ _ _ _ _ _ _ _ _ _ _ _ _ _)) ?cell ?loc ?body rfl rfl rfl
  case cell => simp
  case loc =>
    intro y hy
    rcases List.mem_cons.mp hy with rfl | hy
    · exact ls
    · rcases List.mem_cons.mp hy with rfl | hy
      · exact lp
      · cases hy
  case body =>
    intro h₁ hn k
    have X₁ : K.In h₁ := X.keeps k
    have hx₁ := k _ _ hx
    have G₁ : h₁.Ns mainGlobals mg := G.keepsP k
    have B₁ : h₁.Ns builtinsNs mb := B.keepsP k
    have hm1 : (fun y => ([(("self" : Str), Value.ref x), (aa2, v)] : List (Str × Value)).reverse.lookup y) ("self" : Str) = some (.ref x) := by simp [List.lookup, b4]
    have hm2 : (fun y => ([(("self" : Str), Value.ref x), (aa2, v)] : List (Str × Value)).reverse.lookup y) aa2 = some v := by simp [List.lookup]
    have hsup : mg "super" = none := mg_none_of X G T.sup
    have hC1 := X₁ _ _ hC
    refine ks_wpAt_execs_cons (ks_wpAt_Expr_any ?_ rfl rfl)
    refine ks_wpAt_MethodCall ?_ (qWp hq35 rfl)
    refine ks_wpAt_super_base (env := callEnv _ _ _) lu lc (by decide +kernel) rfl (X₁ _ _ hf) rfl rfl rfl (X₁ _ _ hcda) rfl hvs hfile T.top ?_
    refine ks_loadName_global rfl lu (loadGlobal_builtin (env := callEnv _ _ _) G₁ hsup B₁ ((hB _ (by decide +kernel)).trans (by decide +kernel)) ⟨rfl, ?_⟩)
    refine wpAny_loadName_free rfl lc rfl ⟨_, X₁ _ _ hcell, rfl⟩ ?_
    refine wpAny_loadName_local rfl ls hn hm1 ?_
    refine ks_wpAny_isType_cls hC1 rfl ⟨rfl, ?_⟩
    refine ks_wpAny_call_super hC1 rfl hx₁ rfl (fun c e => by cases e) (looks_mroIn X₁ T.selfC) (fun h₂ e₂ k₂ => ?_)
    have X₂ : K.In h₂ := X₁.keeps k₂
    have hx₂ := k₂ _ _ hx₁
    have hC2 := X₂ _ _ hC
    have I₂ : InstAt h₂ x (excO C t0) C none := ⟨hx₂, rfl, rfl, trivial⟩
    have hxC : x ≠ C := fun z => by rw [z, hC2] at hx₂; cases hx₂
    have hI2 : Looks (model prog w) h₂ (isInstance (.ref x) (.type "ValueError")) true := I₂.type.andThen (looks_subIn X₂ T.veC)
    refine kxs_getMethod kxs_ValueError (l₀ := .ref C :: bm) (l := bm) e₂ (looks_opaque X₂ T.opq) ((looks_clsIn X₂ hcl).andThen .now) (by simp [List.dropWhile_cons]) X₂ hal hI2 hxC (by decide +kernel) ?_
    dsimp only
    refine kxs_callWith (i := "ValueError.__init__") (x := x) rfl (evalArgs_plain (spliced_cons ?_))
    have kw : ∀ b o, h₂.get? b = some o → (h₂.push (kxs_mw "ValueError.__init__" x)).get? b = some o := fun b o e => Heap.get?_push_of_some _ e
    have hn₂ : (h₂.push (kxs_mw "ValueError.__init__" x)).Ns s.heap.objs.size (fun y => ([(("self" : Str), Value.ref x), (aa2, v)] : List (Str × Value)).reverse.lookup y) := (hn.keepsP k₂).keepsP kw
    refine wpAny_Name (wpAny_loadName_local rfl lp hn₂ hm2 ?_) hp.n4
    refine spliced_nil ⟨Heap.get?_push_at rfl rfl, ?_⟩
    refine qUl (x := x) (t0 := t0) (kw _ _ hC2) (Heap.get?_push_at rfl rfl) (kw _ _ hx₂) (by rw [sizeLine_eq]; exact (by decide : 1 ≤ 16777216)) fun h₃ t1 k₃ hx₃ => ?_
    have hsz : s.heap.objs.size ≠ x := Nat.ne_of_gt (Heap.lt_size hx)
    have old : ∀ b o, b ≠ x → h₁.get? b = some o → h₃.get? b = some o := fun b o hb e => k₃ b o hb (kw b o (k₂ b o e))
    have X₃ : K.In h₃ := fun a o e => old a o (fun z => by rw [z, hnx] at e; cases e) (X₁ _ _ e)
    have hn₃ : h₃.Ns s.heap.objs.size (fun y => ([(("self" : Str), Value.ref x), (aa2, v)] : List (Str × Value)).reverse.lookup y) := by
      obtain ⟨o, es, ep, ho, r⟩ := hn
      exact ⟨o, es, ep, old _ _ hsz ho, r⟩
    refine ks_wpAt_execs_cons (ks_wpAt_Assign_Attr (wpAt_of_wpAny ?_) rfl)
    refine wpAny_Name (wpAny_loadName_local rfl lp hn₃ hm2 ?_) hp.n4
    refine wpAny_Name (wpAny_loadName_local rfl ls hn₃ hm1 ?_) (by decide +kernel)
    refine set_plain X₃ (ox := excO C t1) (od := none) ⟨hx₃, rfl, rfl, trivial⟩ T.sa ?_
    refine exc_osa X₃ hx₃ hcl (show refsVE (.ref C :: bm) = true from hbm) rfl T.no (fun h₄ tk₄ dx k₄ dn dne hx₄ hn₄ => ?_)
    refine wpAt_of_wpAny (wpAny_execs_nil (hq h₄ tk₄ dx ⟨fun b o hb e => k₄ b o hb (old b o hb (k b o e)), ⟨t1, hx₄⟩, Nat.le_of_lt (Nat.lt_of_lt_of_le hn₃.lt dn), dne, hn₄⟩))

/-- a made error -/
structure OwnMade (h h' : Heap) (e C d : Addr) (p : Str) (v : Value) : Prop where
  keep : ∀ b o, h.get? b = some o → h'.get? b = some o
  new : h.objs.size ≤ e
  obj : ∃ oe vs, h'.get? e = some oe ∧ oe.cls = .ref C ∧ oe.dict = some d ∧ oe.data = .fields vs ∧ vs[1]? = some .none
  dbig : h.objs.size ≤ d
  dne : d ≠ e
  ns : h'.Ns1 d (fun y => if y = p then some v else none)
theorem qZr (T : SupC prog K C fI p) (hp : PName p) {v : Value} {mg mb : Str → Option Value} (X : K.In s.heap) (G : s.heap.Ns mainGlobals mg) (B : s.heap.Ns builtinsNs mb) (hB : ∀ x : Str, x ≠ "__name__" → mb x = bootBuiltins x)
    (hlim : s.heap.NoLimit) (hroom : A.depth + 1 < recursionLimit)
    (hq : ∀ h' tk e d, OwnMade s.heap h' e C d p v → R (.ok (.ret (.ref e))) { s with heap := h', toks := tk }) :
    codeAny (model prog w) A (.call (.ref C) ⟨[v], []⟩) R s := by
  obtain ⟨nm, q, N, bs, bm, sn, sub, ab, col, dd, k0, k1, k2, k3, k5, hC, hbm, _⟩ := T.cls
  obtain ⟨hp', g, dr, tk, os⟩ := s
  have k : ∀ b o, hp'.get? b = some o → ((hp'.push (kdv_tup [v])).push (excO C hp'.objs.size)).get? b = some o := fun b o e => Heap.get?_push_of_some _ (Heap.get?_push_of_some _ e)
  have hget : ((hp'.push (kdv_tup [v])).push (excO C hp'.objs.size)).get? (hp'.objs.size + 1) = some (excO C hp'.objs.size) := by heap_get
  have hnx : K.lookup (hp'.objs.size + 1) = none := by
    cases e : K.lookup (hp'.objs.size + 1) with
    | none => rfl
    | some o => exact absurd (Nat.lt_of_succ_lt (Heap.lt_size (show hp'.get? (hp'.objs.size + 1) = some o from X _ _ e))) (Nat.lt_irrefl _)
  refine call_own F.excBase_ValueError (fun X => refsVE_contains X bm hbm) (X _ _ hC) (looks_findIn X T.ini) (fun self => bind_fn X self T.tfn) (by rw [sizeLine_eq]; exact (by decide : 1 ≤ 16777216)) ?_
  refine qZp (s := ⟨(hp'.push (kdv_tup [v])).push (excO C hp'.objs.size), g, dr, tk, os⟩) T hp (X.keeps k) (G.keepsP k) (B.keepsP k) hB (hlim.keeps k) hget hnx ?_ fun h' tk' dx ⟨k', ⟨t1, hx⟩, dn, dne, hns⟩ => ?_
  · show A.depth + 1 < recursionLimit
    exact hroom
  · have old : ∀ b o, hp'.get? b = some o → h'.get? b = some o := fun b o e => k' b o (Nat.ne_of_lt (Nat.lt_succ_of_lt (Heap.lt_size e))) (k b o e)
    have z : hp'.objs.size + 1 + 1 ≤ dx := by
      have q := dn
      simp only [Heap.size_push] at q
      exact q
    exact ⟨rfl, hq h' tk' (hp'.objs.size + 1) dx ⟨old, Nat.le_succ _, ⟨_, _, hx, rfl, rfl, rfl, rfl⟩, (by show hp'.objs.size ≤ dx; omega), dne, hns⟩⟩
end
end MR
namespace MR
open PySem PySem.Spec PyProof.Rows L2
theorem qYz {p : Str} {v : V} {v' : Value} (r : RelV v v') (f : Str) : RelO (List.lookup f [(p, v)]) (if f = p then some v' else none) := by
  by_cases hw : f = p
  · subst hw
    rw [if_pos rfl]
    have q : List.lookup f [(f, v)] = some v := by simp [List.lookup]
    rw [q]
    exact r
  · rw [if_neg hw]
    have qw : (f == p) = false := by simpa using hw
    have q2 : List.lookup f [(p, v)] = none := by simp [List.lookup, qw]
    rw [q2]
    trivial
section
variable {X : Cx} {C fI : Addr} {p : Str}
/-- C(e): the error, its dict d new -/
def tMkS (C : Addr) (p : Str) (ta : TA) : L2.St → Hp → XK → Prop := fun σ H Q => ta σ H fun vs H1 => ∃ v, vs = [v] ∧ ∀ d, H1 d = none → Q (.ref C) (some d) (upd H1 d (.xd [(p, v)]))
theorem qAbm {a : Expr} {ta : TA} {x : Str} {p1 pos : Pos} {k : Nat} (T : SupC X.prog X.K C fI p) (hp : PName p) (gC : X.mg x = some (.ref C)) (hr : Room k X.A) (ha : PA X [a] ta) (hg : Gl X x := by rfl)
    (hdb : (x == ("__debug__" : Str)) = false := by decide)
    (he : starEach (a :: []) X.env = (false, eval a X.env) :: starEach [] X.env := by rfl) (hpl : (backTo pos (starEach [] X.env)).any (·.1) = false := by rfl) :
    PMk X (.Call (.Name x p1) [a] [] pos) (tMkS C p ta) := by
  intro pins s σ H Q I h
  refine wpAny_Call_Name_kw (ld_glob I hg gC ?_ hdb)
  refine PySem.W.callWith_K (h₀ := X.base) I.ok.mod.kin T.kC (thn (ha.run pos pins s σ H _ I h) fun us s1 hh => ?_) he hpl
  obtain ⟨vs, H1, I1, r1, v, ev, q1⟩ := hh
  subst ev
  refine ⟨I1.kIn, ?_⟩
  cases r1 with
  | cons rv rn =>
    rename_i v' us'
    cases rn
    show wpAny _ _ (call (.ref C) [v']) _ _ _
    have hlim := I1.nolimit
    have GG : s1.heap.Ns mainGlobals X.mg := I1.ok.mod.glob.keepsP I1.bk
    obtain ⟨mb, BB, hB⟩ := I1.ok.mod.blt
    have BB1 : s1.heap.Ns builtinsNs mb := BB.keepsP I1.bk
    obtain ⟨hp', g, dr, tk, os⟩ := s1
    refine wpAny_call (qZr T hp I1.kIn GG BB1 hB hlim (by have := hr.dp; omega) fun h' tk' e d M => ?_)
    show MkP X pins σ Q (.ref e) ⟨h', g, dr, tk', os⟩
    obtain ⟨oe, fv, hoe, hc, hd, hdat, h1⟩ := M.obj
    have hns := M.ns
    obtain ⟨G', g1, g2⟩ := restrict h' fun b => decide (b ≠ e)
    have gk : ∀ b, b ≠ e → G'.get? b = h'.get? b := fun b hb => g1 b (decide_eq_true hb)
    have ge : G'.get? e = none := g2 e (by simp)
    have old : ∀ b o, hp'.get? b = some o → G'.get? b = some o := fun b o q => (gk b (Nat.ne_of_lt (Nat.lt_of_lt_of_le (Heap.lt_size q) M.new))).trans (M.keep b o q)
    have ob : ObjOk X.prog X.w (upd H1 d (.xd [(p, v)])) G' d (.xd [(p, v)]) := ⟨_, hns.at (fun o q => (gk d M.dne).trans q), fun f => qYz rv f⟩
    have J : Inv X pins σ (upd H1 d (.xd [(p, v)])) ⟨G', g, dr, tk', os⟩ := I1.laid (t' := tk') old M.dbig ob
    refine ⟨e, oe, fv, ⟨G', g, dr, tk', os⟩, _, .ref C, some d, rfl, J, fun b o q => ?_, ge, hoe, ⟨hc, hd⟩, hdat, h1, ?_, rfl, I1.bare, raises_own T.exC T.tyC, q1 d (I1.hok.fresh M.dbig)⟩
    · by_cases hb : b = e
      · have q' : G'.get? b = some o := q
        rw [hb, ge] at q'; cases q'
      · exact (gk b hb).symm.trans q
    · rw [upd_ne (Ne.symm M.dne)]
      exact I1.hok.fresh M.new
/-- raise C(e) -/
def qHp (C : Addr) (p : Str) (W : WX) (ta : TA) : TS := fun _ σ H => tMkS C p ta σ H fun cls d H' => W cls d σ H'
theorem qGn {a : Expr} {ta : TA} {W : WX} {x : Str} {p1 pos pos2 : Pos} {k : Nat} (hc : X.calm = true) (T : SupC X.prog X.K C fI p) (hp : PName p) (gC : X.mg x = some (.ref C)) (hr : Room k X.A) (tk : Takes X W) (ha : PA X [a] ta) (hg : Gl X x := by rfl)
    (hdb : (x == ("__debug__" : Str)) = false := by decide)
    (he : starEach (a :: []) X.env = (false, eval a X.env) :: starEach [] X.env := by rfl) (hpl : (backTo pos (starEach [] X.env)).any (·.1) = false := by rfl) :
    PS X (.Raise (some (.Call (.Name x p1) [a] [] pos)) none pos2) (qHp C p W ta) := ps_raise hc tk (qAbm T hp gC hr ha hg hdb he hpl)
end
end MR

set_option Elab.async false
set_option linter.all false
set_option maxRecDepth 100000
set_option maxHeartbeats 4000000
/-! MR: isinstance of the error that a suite holds, whether it has a dict or not -/
namespace MR
open PySem PySem.Spec PyProof.Rows L2
end MR

set_option Elab.async false
set_option linter.all false
set_option maxRecDepth 100000
set_option maxHeartbeats 4000000
/-! MR: rules in the form that the program's walks take -/
namespace MR
open PySem PySem.Spec PyProof.Rows L2
/-! ### a def, a method, a class as the walk takes it -/
abbrev CXX (P : Program) (w : World) : CXT := L2.CX P w
/-- the module's name x is a def that keeps sp; dvs: the defaults of the last parameters -/
def qEh (P : Program) (w : World) (K : PySem.W.Frag) (mg : Str → Option Value) (base : Heap) (k : Nat) (x : Str) (dvs : List V) (sp : Sp) : Prop :=
  ∃ (f : Addr) (fd : FuncData) (ps : List Str) (ds : List Value), mg x = some (.ref f) ∧ PySem.W.keepIn K (.ref f) = true ∧ FnOk P w K mg base (CXX P w) k f fd ps sp ∧ Binds K fd ps ds ∧ Vals dvs ds
def qPb (P : Program) (w : World) (K : PySem.W.Frag) (mg : Str → Option Value) (base : Heap) (k : Nat) (C : Addr) (m : Str) (dvs : List V) (sp : Sp) : Prop :=
  ∃ (f : Addr) (fd : FuncData) (ps : List Str) (ds : List Value), Cls K C ∧ Meth K C m f ∧ FnOk P w K mg base (CXX P w) k f fd ps sp ∧ Binds K fd ps ds ∧ Vals dvs ds
def qS0 (P : Program) (w : World) (K : PySem.W.Frag) (mg : Str → Option Value) (base : Heap) (k : Nat) (x : Str) (C : Addr) (dvs : List V) (sp : Sp) : Prop :=
  ∃ (f : Addr) (fd : FuncData) (ps : List Str) (ds : List Value), mg x = some (.ref C) ∧ Mk K C f ∧ FnOk P w K mg base (CXX P w) k f fd ps sp ∧ Binds K fd ps ds ∧ Vals dvs ds
section
variable {X : Cx} {k : Nat} {C : Addr} {sp : Sp} {dvs : List V} {E : XK} {x m : Str} {p pos apos : Pos} {e o : Expr} {es : List Expr} {ta : TE} {t : TA}
theorem qAf (D : qEh X.prog X.w X.K X.mg X.base k x dvs sp) (hr : Room k X.A) (hg : Gl X x) (hx : Passes (CXX X.prog X.w) X E)
    (ha : PA X (e :: es) t) (hdb : (x == ("__debug__" : Str)) = false := by decide) (he : starEach (e :: es) X.env = (false, eval e X.env) :: starEach es X.env := by rfl) (hpl : (backTo pos (starEach es X.env)).any (·.1) = false := by rfl) :
    PE X (.Call (.Name x p) (e :: es) [] pos) (tCall sp dvs E t) := by
  obtain ⟨f, fd, ps, ds, h1, h2, h3, h4, h5⟩ := D
  exact pe_call h3 hr hg h1 h2 h4 h5 hx ha hdb he hpl
theorem qCf (D : qS0 X.prog X.w X.K X.mg X.base k x C dvs sp) (hr : Room (k + 1) X.A) (hg : Gl X x) (hx : Passes (CXX X.prog X.w) X E)
    (ha : PA X (e :: es) t) (hdb : (x == ("__debug__" : Str)) = false := by decide) (he : starEach (e :: es) X.env = (false, eval e X.env) :: starEach es X.env := by rfl) (hpl : (backTo pos (starEach es X.env)).any (·.1) = false := by rfl) :
    PE X (.Call (.Name x p) (e :: es) [] pos) (tMake C sp dvs E t) := by
  obtain ⟨f, fd, ps, ds, h1, h2, h3, h4, h5⟩ := D
  exact pe_make h2 h3 hr hg h1 h4 h5 hx ha hdb he hpl
theorem qT7 {pl : Sem Bool} (he : PE X o ta) (D : qPb X.prog X.w X.K X.mg X.base k C m dvs sp) (hr : Room k X.A) (hx : Passes (CXX X.prog X.w) X E) (ha : PA X (e :: es) t)
    (hst : starEach (e :: es) X.env = (false, eval e X.env) :: starEach es X.env := by rfl) (hpl : (backTo pos (starEach es X.env)).any (·.1) = false := by rfl)
    (ht : eval (.Call (.Attribute o m apos) (e :: es) [] pos) X.env = (do
      let ov ← eval o X.env
      standAt apos.atName
      let (f, first) ← holding [ov] (getMethod ov m pl)
      callWith pos f first (backTo pos (starEach (e :: es) X.env)) (backToKw pos (keywordEach [] X.env))) := by rfl) :
    PE X (.Call (.Attribute o m apos) (e :: es) [] pos) (tMeth C m sp dvs E ta t) := by
  obtain ⟨f, fd, ps, ds, h1, h2, h3, h4, h5⟩ := D
  exact pe_meth he h1 h2 h3 hr h4 h5 hx ha hst hpl ht
/-- what leaves a def's body by a call -/
theorem qKp {W : WX} (tk : Takes X W) (hW : ∀ cls d σ H, E cls d H → W cls d σ H) : Passes (CXX X.prog X.w) X E := passes_call tk hW
end
/-! ### ints -/
/-- no bound is asked -/
def Sml (_ : Int) : Prop := True
instance {b : Int} : Decidable (Sml b) := .isTrue trivial
def qAbc (_ j : Int) : Prop := j ≠ 0
theorem cdiv {i j : Int} (h : j ≠ 0) : qAbc i j := h
section
variable {X : Cx}
/-- xs[i] read on the way of xs[i] += e -/
theorem qTu : PGet X (fun x y H Q => ∃ p xs i v, x = .ref p ∧ y = .int i ∧ 0 ≤ i ∧ SqL X.K H p xs ∧ xs[i.toNat]? = some v ∧ Q v H) := by
  intro pins s σ H x y v u Q I rx ry h
  obtain ⟨p, xs, i, z, rfl, rfl, h0, hq, he, q⟩ := h
  cases rx
  obtain ⟨t, rfl⟩ := ry
  obtain ⟨its, r, pl, hz⟩ := I.list hq
  obtain ⟨w, ew, rw'⟩ := r.get he
  have hn := line63
  have hlt : i.toNat < xs.length := (List.getElem?_eq_some_iff.mp he).1
  exact wpAny_getItem_list pl.isList h0 (by omega) (by simpa using ew) ⟨z, H, I, rw', q⟩
end
end MR
namespace MR
open PySem PySem.Spec PyProof.Rows L2
/-! ### short names of readings -/
abbrev qEg : R2 := rI0 fun i j => .int (i + j)
abbrev qF4 : R2 := rI0 fun i j => .int (i - j)
abbrev qDv : R2 := rI IntMulOk fun i j => .int (i * j)
abbrev qRz : R2 := rI qAbc fun i j => .int (i.fdiv j)
abbrev qU9 : R2 := rI (fun _ j => j ≠ 0) fun i j => .int (i.fmod j)
abbrev qAbt : R2 := rI CPow fun i j => .int (i ^ j.toNat)
abbrev rLt0 : R2 := rI0 fun i j => .bl (decide (i < j))
abbrev rGt0 : R2 := rI0 fun i j => .bl (decide (j < i))
abbrev rGe0 : R2 := rI0 fun i j => .bl (decide (j ≤ i))
abbrev qSh : V → Hp → VK → Prop := rU fun i => .int (-i)
abbrev qAa8 : List V → Hp → VK → Prop := fun xs H Q => ∃ i, xs = [.int i] ∧ Q (.int (if i < 0 then -i else i)) H
abbrev qAby : List V → Hp → VK → Prop := fun xs H Q => ∃ i j, xs = [.int i, .int j] ∧ Q (.int (if j > i then j else i)) H
abbrev qXk : List V → Hp → VK → Prop := fun xs H Q => (∃ i, xs = [.int i] ∧ Q (.int i) H) ∨ ∃ k, xs = [.bl k] ∧ Q (.int (if k then 1 else 0)) H
abbrev qAee (K : PySem.W.Frag) : V → V → Hp → VK → Prop := fun x y H Q => ∃ p xs i v, x = .ref p ∧ y = .int i ∧ 0 ≤ i ∧ SqL K H p xs ∧ xs[i.toNat]? = some v ∧ Q v H
abbrev qIe (K : PySem.W.Frag) : List V → Hp → VK → Prop := fun xs H Q => ∃ p ys, xs = [.ref p] ∧ (SqL K H p ys ∨ SqT K H p ys) ∧ ∀ l, H l = none → Q (.ref l) (upd H l (.lst ys))
abbrev qDu (K : PySem.W.Frag) : List V → Hp → VK → Prop := fun xs H Q => ∃ x n, xs = [x] ∧ LenV K x H n ∧ Q (.int n) H
abbrev qU6 (K : PySem.W.Frag) (ta : TE) : TT := fun σ H Q => ta σ H fun x H1 => ∃ k, TruV K x H1 k ∧ Q k H1
theorem qBw {X : Cx} : OpR X (binaryOp .Mult) qDv := opI fun _ _ _ _ _ _ _ hc q => mul_int q hc
/-! ### sizes -/
theorem qUh {i j : Int} {a b : Nat} (ha : i.natAbs < 2 ^ a) (hb : j.natAbs < 2 ^ b) (h0 : 0 < a) (h1 : 0 < b) (h : a + b ≤ 1000000) : IntMulOk i j := (wide_mul ha hb h0 h1 h).ok
theorem qOi {i j : Int} (h : i.natAbs < 2 ^ 64) : IntMulOk i j := CMul.ok (.inl (by omega))
theorem qAbq {i j : Int} (h : j.natAbs < 2 ^ 64) : IntMulOk i j := CMul.ok (.inr (by omega))
/-! ### heaps -/
theorem qN3 {H : Hp} {p : Addr} {o : HO} (h : H p = none) : Same H (upd H p o) := fun b u e => by
  rw [upd_ne (ne_of_none e h)]
  exact e
/-- all but f is as it was -/
def Keep (f : Addr) (H H' : Hp) : Prop := ∀ b o, H b = some o → b ≠ f → H' b = some o
theorem Keep.refl (f : Addr) (H : Hp) : Keep f H H := fun _ _ h _ => h
theorem Keep.trans {f : Addr} {H H1 H2 : Hp} (a : Keep f H H1) (b : Keep f H1 H2) : Keep f H H2 := fun c o h n => b c o (a c o h n) n
theorem Same.keep {f : Addr} {H H1 : Hp} (a : Same H H1) : Keep f H H1 := fun c o h _ => a c o h
theorem qDy {f : Addr} {H : Hp} {o : HO} : Keep f H (upd H f o) := fun b u e n => by rw [upd_ne n]; exact e
end MR

/-! MR: the mathematics of fractions -/
namespace MR
theorem qTz {a b : Int} (hb : 0 < b) : a.fdiv (a.gcd b : Int) = (Rat.divInt a b).num := by
  have hg : (a.gcd b : Int) ∣ a := Int.gcd_dvd_left ..
  rw [Rat.num_divInt, Int.fdiv_eq_ediv_of_dvd hg, Int.sign_eq_one_of_pos hb, Int.one_mul, Int.gcd_comm]
theorem qTj {a b : Int} (hb : 0 < b) : b.fdiv (a.gcd b : Int) = ((Rat.divInt a b).den : Int) := by
  have hg : (a.gcd b : Int) ∣ b := Int.gcd_dvd_right ..
  have hn : b ≠ 0 := by omega
  rw [Rat.den_divInt, if_neg hn, Int.fdiv_eq_ediv_of_dvd hg, Int.gcd_comm, Int.natCast_ediv]
  congr 1
  omega
theorem qVy {a b : Int} (hb : b < 0) : a.fdiv (-(a.gcd b : Int)) = (Rat.divInt a b).num := by
  have h := qTz (a := -a) (b := -b) (by omega)
  rw [Rat.neg_divInt_neg, Int.gcd_neg, Int.neg_gcd] at h
  have e := Int.neg_fdiv_neg (-a) (a.gcd b : Int)
  rw [Int.neg_neg] at e
  rw [e, h]
theorem qXh {a b : Int} (hb : b < 0) : b.fdiv (-(a.gcd b : Int)) = ((Rat.divInt a b).den : Int) := by
  have h := qTj (a := -a) (b := -b) (by omega)
  rw [Rat.neg_divInt_neg, Int.gcd_neg, Int.neg_gcd] at h
  have e := Int.neg_fdiv_neg (-b) (a.gcd b : Int)
  rw [Int.neg_neg] at e
  rw [e, h]
theorem qJh {a b : Int} (hb : b ≠ 0) : ∃ m : Int, m ≠ 0 ∧ a = (Rat.divInt a b).num * m ∧ b = ((Rat.divInt a b).den : Int) * m := by
  obtain ⟨m, h1, h2, h3⟩ := Rat.divInt_num_den (n := a) (d := b) (n' := (Rat.divInt a b).num) (d' := (Rat.divInt a b).den) (z' := (Rat.divInt a b).den_nz) (c := (Rat.divInt a b).reduced) hb rfl
  exact ⟨m, h1, h2, h3⟩
theorem qAd9 {a b : Int} (hb : b ≠ 0) : (Rat.divInt a b).num.natAbs ≤ a.natAbs := by
  obtain ⟨m, h1, h2, _⟩ := qJh (a := a) hb
  have e : a.natAbs = (Rat.divInt a b).num.natAbs * m.natAbs := by
    rw [← Int.natAbs_mul, ← h2]
  rw [e]
  exact Nat.le_mul_of_pos_right _ (by omega)
theorem qAdy {a b : Int} (hb : b ≠ 0) : (Rat.divInt a b).den ≤ b.natAbs := by
  obtain ⟨m, h1, _, h3⟩ := qJh (a := a) hb
  have e : b.natAbs = ((Rat.divInt a b).den : Int).natAbs * m.natAbs := by
    rw [← Int.natAbs_mul, ← h3]
  rw [e, Int.natAbs_natCast]
  exact Nat.le_mul_of_pos_right _ (by omega)
end MR

set_option Elab.async false
set_option linter.all false
set_option maxRecDepth 100000
set_option maxHeartbeats 4000000
/-! MR: is_integer, common_part, Ratio() -/
namespace MR
open PySem PySem.Spec PyProof.Rows L2
/-- b is the answer to: is x an integer? -/
def IntQ (K : PySem.W.Frag) (H : Hp) (x : V) (b : Bool) : Prop := ∃ (t : Value) (b1 : Bool), TyX K H x t ∧ PySem.W.kitOne K t (.type "int") = some b1 ∧ (b1 = false → b = false) ∧ (b1 = true → ∃ b2, PySem.W.kitOne K t (.type "bool") = some b2 ∧ b = !b2)
theorem qT1 {K : PySem.W.Frag} {H : Hp} {i : Int} : IntQ K H (.int i) true := ⟨_, true, .base (.int i), kit_ty (by decide +kernel), fun z => (by cases z), fun _ => ⟨false, kit_ty (by decide +kernel), rfl⟩⟩
/-- what the written part says of an own class without surprises -/
structure OwnC (K : PySem.W.Frag) (C : Addr) : Prop where
  cl : Cls K C
  ha : PySem.W.findIn K (.ref C) "__class__" = some (some (.builtin "object.__class__"))
  hn : PySem.W.specialIn K (.builtin "object.__class__") "__get__" = some (some (.builtin "getset_descriptor.__get__"))
  ht : PySem.W.takesIn K (.builtin "object.__class__") = some true
  hm : PySem.W.mroIn K C (.type "object") = some true
  ki : PySem.W.kitOne K (.ref C) (.type "int") = some false
theorem OwnC.ty {K : PySem.W.Frag} {H : Hp} {C a dx : Addr} {fs : List (Str × V)} (T : OwnC K C) (h : H a = some (.ins C dx fs)) : TyX K H (.ref a) (.ref C) := .base (.ins h T.cl T.ha T.hn T.ht T.hm)
def qEy (K : PySem.W.Frag) : Sp := fun vs H Q _ => ∃ (x : V) (b : Bool), vs = [x] ∧ IntQ K H x b ∧ Q (.bl b) H
def qJg (K : PySem.W.Frag) : TS :=
  (tRet (tAndV (tCB (rIsi K) (tCons (tVar 0) (tCons (tC (.ty "int")) tNil))) (tNotV (tCB (rIsi K) (tCons (tVar 0) (tCons (tC (.ty "bool")) tNil))))))
theorem qKr {K : PySem.W.Frag} (vs : List V) (H : Hp) (Q : VK) (E : XK) (h : qEy K vs H Q E) : qJg K { nx := fun _ H' => Q .non H', rt := Q } (start ["value"] vs) H := by
  obtain ⟨x, b, rfl, ⟨t, b1, ty, k1, c1, c2⟩, q⟩ := h
  refine ⟨_, rfl, x, _, t, _, b1, rfl, .ty "int", ty, k1, b1, rfl, ?_⟩
  cases b1 with
  | false =>
    rw [c1 rfl] at q
    exact iteF q
  | true =>
    obtain ⟨b2, k2, rfl⟩ := c2 rfl
    exact iteT ⟨_, rfl, x, _, t, _, b2, rfl, .ty "bool", ty, k2, b2, rfl, q⟩
def qYb : Sp := fun vs H Q _ => ∃ a b : Int, vs = [.int a, .int b] ∧ Q (.int (a.gcd b : Nat)) H
def qH0 (K : PySem.W.Frag) : TS :=
  (tSeq (tPar 0 1 (tCons (tCB qAa8 (tCons (tVar 0) tNil)) (tCons (tCB qAa8 (tCons (tVar 1) tNil)) tNil)))
  (tSeq (tWhile (tTest (tOp rGt0 (tVar 1) (tC (.int 0)))) (tPar 0 1 (tCons (tVar 1) (tCons (tOp qU9 (tVar 0) (tVar 1)) tNil))))
  (tRet (tVar 0))))
theorem qXq (i : Int) : (if i < 0 then -i else i) = (i.natAbs : Int) := by omega
theorem qJq {K : PySem.W.Frag} (vs : List V) (H : Hp) (Q : VK) (E : XK) (h : qYb vs H Q E) : qH0 K { nx := fun _ H' => Q .non H', rt := Q } (start ["one", "other"] vs) H := by
  obtain ⟨a, b, rfl, q⟩ := h
  refine ⟨_, rfl, _, rfl, _, rfl, _, rfl, _, _, rfl, ?_⟩
  rw [qXq, qXq]
  refine while_by (fun σ H' => H' = H ∧ ∃ x y : Nat, σ = [some (.int x), some (.int y)] ∧ x.gcd y = a.gcd b) (fun σ _ => match σ with | [_, some (.int y)] => y.toNat | _ => 0) ⟨rfl, _, _, rfl, rfl⟩ ?_ ?_
  · rintro σ H' ⟨rfl, x, y, rfl, hg⟩
    refine ⟨_, rfl, _, _, rfl, rfl, _, rfl, ?_⟩
    refine ite2 (fun c => ?_) (fun c => ?_)
    · have hy : 0 < y := by
        have := of_decide_eq_true c
        omega
      refine ⟨_, rfl, _, rfl, _, rfl, _, _, rfl, rfl, (by omega), _, _, rfl, ⟨rfl, y, x % y, ?_, ?_⟩, ?_⟩
      · show [some (V.int y), some (V.int ((x : Int).fmod y))] = _
        rw [Int.fmod_eq_emod_of_nonneg _ (by omega)]
        rfl
      · rw [← hg, Nat.gcd_comm x y, Nat.gcd_rec y x, Nat.gcd_comm]
      · show ((x : Int).fmod y).toNat < (y : Int).toNat
        rw [Int.fmod_eq_emod_of_nonneg _ (by omega)]
        have := Nat.mod_lt x hy
        omega
    · have hy : y = 0 := by
        rw [decide_eq_true_eq] at c
        omega
      subst hy
      refine ⟨_, rfl, ?_⟩
      rw [Nat.gcd_zero_right] at hg
      rw [hg]
      exact q
  · rintro σ H' Q1 Q2 hq ⟨v, e1, i, j, e2, e3, k, e4, h4⟩
    exact ⟨v, e1, i, j, e2, e3, k, e4, hq _ _ h4⟩
/-! ### Ratio(top, bottom) -/
abbrev CR (K : PySem.W.Frag) : Addr := He.ga K "Ratio"
/-- the fields of a fraction -/
def qY8 (q : Rat) : List (Str × V) := [("top", .int q.num), ("bottom", .int (q.den : Nat))]
def IsRat (K : PySem.W.Frag) (H : Hp) (p : Addr) (q : Rat) : Prop := ∃ dx, H p = some (.ins (CR K) dx (qY8 q))
theorem IsRat.same {K : PySem.W.Frag} {H H' : Hp} {p : Addr} {q : Rat} (h : IsRat K H p q) (s : Same H H') : IsRat K H' p q := let ⟨dx, e⟩ := h; ⟨dx, s _ _ e⟩
theorem qAew : ¬ (("bottom" : Str) = "top") := by decide +kernel
theorem qYn (q : Rat) : (qY8 q).lookup ("top" : Str) = some (.int q.num) := by simp [qY8, List.lookup]
theorem qYr (q : Rat) : (qY8 q).lookup ("bottom" : Str) = some (.int (q.den : Nat)) := by
  have h : (("bottom" : Str) == ("top" : Str)) = false := by decide +kernel
  simp [qY8, List.lookup, h]
/-- what the walk asks of the class Ratio -/
structure RTxt (K : PySem.W.Frag) : Prop where
  own : OwnC K (CR K)
  nT : NoAttr K (CR K) "top"
  nB : NoAttr K (CR K) "bottom"
/-- an error of the class at C with the field p = v -/
def Err (K : PySem.W.Frag) (C p w : Str) (H : Hp) (E : XK) : Prop := ∀ d : Addr, H d = none → E (.ref (He.ga K C)) (some d) (upd H d (.xd [(p, .str w)]))
def qCe (K : PySem.W.Frag) : Sp := fun vs H Q E => ∃ (p dx : Addr) (x y : V) (bx : Bool), vs = [.ref p, x, y] ∧ H p = some (.ins (CR K) dx []) ∧ IntQ K H x bx ∧ (bx = false → Err K "NoRatio" "word" "top" H E) ∧
  (bx = true → ∃ bY, IntQ K H y bY ∧ (bY = false → Err K "NoRatio" "word" "bottom" H E) ∧ (bY = true → ∃ a b : Int, x = .int a ∧ y = .int b ∧ (b = 0 → Err K "NoRatio" "word" "zero" H E) ∧
    (b ≠ 0 → Sml b ∧ Q .non (upd H p (.ins (CR K) dx (qY8 (Rat.divInt a b)))))))
def qJa (K : PySem.W.Frag) (E : XK) : TS :=
  (tSeq (tIfS (tNot (tB (tCall (qEy K) [] E0 (tCons (tVar 1) tNil)))) (qHp (He.ga K "NoRatio") "word" (fun cls d _ H => E cls d H) (tCons (tC (.str "top")) tNil)) tNext)
  (tSeq (tIfS (tNot (tB (tCall (qEy K) [] E0 (tCons (tVar 2) tNil)))) (qHp (He.ga K "NoRatio") "word" (fun cls d _ H => E cls d H) (tCons (tC (.str "bottom")) tNil)) tNext)
  (tSeq (tIfS (tTest (tOp rEq (tVar 2) (tC (.int 0)))) (qHp (He.ga K "NoRatio") "word" (fun cls d _ H => E cls d H) (tCons (tC (.str "zero")) tNil)) tNext)
  (tSeq (tAsg (tCall qYb [] E0 (tCons (tVar 1) (tCons (tVar 2) tNil))) (gName 3))
  (tSeq (tIfS (tTest (tOp rLt0 (tVar 2) (tC (.int 0)))) (tAsg (tUn qSh (tVar 3)) (gName 3)) tNext)
  (tSeq (sFld K (tVar 0) (tOp qRz (tVar 1) (tVar 3)) "top")
  (sFld K (tVar 0) (tOp qRz (tVar 2) (tVar 3)) "bottom")))))))
theorem qVu {a b : Int} (hb : b ≠ 0) (h : Sml b) : a.gcd b ≠ 0 ∧ True := by
  have h1 : a.gcd b ≤ b.natAbs := Nat.le_of_dvd (by omega) (Int.gcd_dvd_natAbs_right a b)
  have h2 : a.gcd b ≠ 0 := fun e => hb (Int.gcd_eq_zero_iff.mp e).2
  exact ⟨h2, trivial⟩
theorem qLr {K : PySem.W.Frag} (T : RTxt K) (vs : List V) (H : Hp) (Q : VK) (E : XK) (h : qCe K vs H Q E) : qJa K E { nx := fun _ H' => Q .non H', rt := Q } (start ["self", "top", "bottom", "divisor"] vs) H := by
  obtain ⟨p, dx, x, y, bx, rfl, hp, ix, e1, k1⟩ := h
  refine ⟨_, rfl, x, bx, rfl, ix, _, rfl, ?_⟩
  cases bx with
  | false => exact iteT ⟨_, rfl, e1 rfl⟩
  | true =>
    refine iteF ?_
    obtain ⟨bY, iy, e2, k2⟩ := k1 rfl
    refine ⟨_, rfl, y, bY, rfl, iy, _, rfl, ?_⟩
    cases bY with
    | false => exact iteT ⟨_, rfl, e2 rfl⟩
    | true =>
      refine iteF ?_
      obtain ⟨a, b, rfl, rfl, e3, k3⟩ := k2 rfl
      refine ⟨_, rfl, rfl, _, rfl, ?_⟩
      refine ite2 (fun c => ?_) (fun c => ?_)
      · have hb : b = 0 := by
          have := of_decide_eq_true c
          injection this
        exact ⟨_, rfl, e3 hb⟩
      · have hb : b ≠ 0 := fun z => c (by rw [z]; exact decide_eq_true rfl)
        obtain ⟨hs, q⟩ := k3 hb
        obtain ⟨g0, g9⟩ := qVu (a := a) hb hs
        refine ⟨_, rfl, _, rfl, a, b, rfl, ?_⟩
        refine ⟨_, rfl, _, _, rfl, rfl, _, rfl, ?_⟩
        have fin : ∀ d : Int, d ≠ 0 → Sml d → a.fdiv d = (Rat.divInt a b).num → b.fdiv d = ((Rat.divInt a b).den : Nat) →
            tSeq (sFld K (tVar 0) (tOp qRz (tVar 1) (tVar 3)) "top") (sFld K (tVar 0) (tOp qRz (tVar 2) (tVar 3)) "bottom") { nx := fun _ H' => Q .non H', rt := Q } [some (.ref p), some (.int a), some (.int b), some (.int d)] H := by
          intro d d0 d9 en ed
          refine ⟨_, rfl, _, rfl, _, _, rfl, rfl, cdiv d0, _, rfl, p, CR K, dx, [], rfl, hp, T.own.cl, T.nT, (by show 0 < 1000; decide), ?_⟩
          refine ⟨_, rfl, _, rfl, _, _, rfl, rfl, cdiv d0, _, rfl, p, CR K, dx, _, rfl, upd_same, T.own.cl, T.nB, (by show 1 < 1000; decide), ?_⟩
          rw [upd_upd]
          dsimp only
          rw [en, ed]
          have ef : putF "bottom" (V.int ((Rat.divInt a b).den : Nat)) (putF "top" (V.int (Rat.divInt a b).num) []) = qY8 (Rat.divInt a b) := by
            show (if ("top" : Str) = "bottom" then _ else _ :: putF "bottom" _ []) = _
            rw [if_neg (fun z => qAew z.symm)]
            rfl
          rw [ef]
          exact q
        refine ite2 (fun c => ?_) (fun c => ?_)
        · have hn : b < 0 := of_decide_eq_true c
          refine ⟨_, rfl, _, rfl, ?_⟩
          exact fin (-(a.gcd b : Int)) (by omega) trivial (qVy hn) (qXh hn)
        · have hn : 0 < b := by
            rw [decide_eq_true_eq] at c
            omega
          exact fin (a.gcd b : Int) (by omega) trivial (qTz hn) (qTj hn)
/-- Ratio(a, b), a fraction comes out: all that was stands, the new object holds it -/
theorem qAdc {K : PySem.W.Frag} {H : Hp} {R : Hp → Prop} {E : XK} {a b : Int} {x dx : Addr} (nx : H x = none) (nd : H dx = none) (hb : b ≠ 0) (hs : Sml b) (k : ∀ H', Same H H' → IsRat K H' x (Rat.divInt a b) → R H') :
    qCe K [.ref x, .int a, .int b] (upd (upd H dx (.own x)) x (.ins (CR K) dx [])) (fun v H2 => v = .non ∧ R H2) E := by
  refine ⟨x, dx, _, _, true, rfl, upd_same, qT1, fun z => (by cases z), fun _ => ⟨true, qT1, fun z => (by cases z), fun _ => ⟨a, b, rfl, rfl, fun z => absurd z hb, fun _ => ⟨hs, rfl, ?_⟩⟩⟩⟩
  rw [upd_upd]
  refine k _ (fun c o e => ?_) ⟨dx, upd_same⟩
  rw [upd_ne (ne_of_none e nx), upd_ne (ne_of_none e nd)]
  exact e
theorem qX0 {K : PySem.W.Frag} {H H' : Hp} {x : V} {t : Value} (s : Same H H') (h : TyX K H x t) : TyX K H' x t := by
  cases h with
  | base h =>
    refine .base ?_
    cases h with
    | non => exact .non
    | bl x => exact .bl x
    | int i => exact .int i
    | str x => exact .str x
    | flt x => exact .flt x
    | lst e => exact .lst (s _ _ e)
    | frz e => exact .frz (s _ _ e)
    | tup e => exact .tup (s _ _ e)
    | dK e => exact .dK (s _ _ e)
    | dT e => exact .dT (s _ _ e)
    | ins e cl ha hn htk hm => exact .ins (s _ _ e) cl ha hn htk hm
  | byt b => exact .byt b
  | set e => exact .set (s _ _ e)
  | kList e c => exact .kList e c
  | kTuple e c => exact .kTuple e c
  | kDict e c => exact .kDict e c
  | fTuple e => exact .fTuple (s _ _ e)
  | fDict e => exact .fDict (s _ _ e)
theorem IntQ.same {K : PySem.W.Frag} {H H' : Hp} {x : V} {b : Bool} (h : IntQ K H x b) (s : Same H H') : IntQ K H' x b := let ⟨t, b1, h1, h2⟩ := h; ⟨t, b1, qX0 s h1, h2⟩
theorem qY1 {K : PySem.W.Frag} {H H' : Hp} {f : Addr} {x : V} {t : Value} (s : Keep f H H') (n : x ≠ .ref f) (h : TyX K H x t) : TyX K H' x t := by
  have nn : ∀ {a : Addr}, V.ref a ≠ .ref f → a ≠ f := fun h e => h (by rw [e])
  cases h with
  | base h =>
    refine .base ?_
    cases h with
    | non => exact .non
    | bl x => exact .bl x
    | int i => exact .int i
    | str x => exact .str x
    | flt x => exact .flt x
    | lst e => exact .lst (s _ _ e (nn n))
    | frz e => exact .frz (s _ _ e (nn n))
    | tup e => exact .tup (s _ _ e (nn n))
    | dK e => exact .dK (s _ _ e (nn n))
    | dT e => exact .dT (s _ _ e (nn n))
    | ins e cl ha hn htk hm => exact .ins (s _ _ e (nn n)) cl ha hn htk hm
  | byt b => exact .byt b
  | set e => exact .set (s _ _ e (nn n))
  | kList e c => exact .kList e c
  | kTuple e c => exact .kTuple e c
  | kDict e c => exact .kDict e c
  | fTuple e => exact .fTuple (s _ _ e (nn n))
  | fDict e => exact .fDict (s _ _ e (nn n))
theorem IntQ.keep {K : PySem.W.Frag} {H H' : Hp} {f : Addr} {x : V} {b : Bool} (h : IntQ K H x b) (s : Keep f H H') (n : x ≠ .ref f) : IntQ K H' x b := let ⟨t, b1, h1, h2⟩ := h; ⟨t, b1, qY1 s n h1, h2⟩
end MR

set_option Elab.async false
set_option linter.all false
set_option maxRecDepth 100000
set_option maxHeartbeats 4000000
/-! MR: facts of the head, each a Bool of the written part -/
namespace MR
open PySem PySem.Spec PyProof.Rows L2 He
abbrev Fct : Type := PySem.W.Frag → Bool
abbrev AlM : Type := Bool × List FnW
def obsM (bs : List Fct) (fn : List DefD) (K : PySem.W.Frag) : AlM := ((bs.all fun f => f K) && fn.all fun d => d.ok K, fn.map fun d => fnW K d.at_)
def valM (fn : List DefD) : AlM := (true, fn.map DefD.val)
def SaysM (bs : List Fct) (fn : List DefD) (K : PySem.W.Frag) : Prop := obsM bs fn K = valM fn
section
variable {bs : List Fct} {fn : List DefD} {K : PySem.W.Frag}
theorem SaysM.one (c : SaysM bs fn K) : (bs.all fun f => f K) = true ∧ (fn.all fun d => d.ok K) = true := ba (congrArg (fun z : AlM => z.1) c)
theorem SaysM.fact (c : SaysM bs fn K) (i : Nat) {f : Fct} (h : bs[i]? = some f := by rfl) : f K = true := List.all_eq_true.mp c.one.1 f (List.mem_of_getElem? h)
theorem SaysM.def_ (c : SaysM bs fn K) (i : Nat) {d : DefD} (h : fn[i]? = some d := by rfl) : ∃ fd, FunD K d.name d.qual d.params d.body d.scope (d.dvs K) (d.kws K) (fAd K d.at_) fd := by
  have e2 : (fn.map fun d => fnW K d.at_)[i]? = (fn.map DefD.val)[i]? := congrArg (fun z : AlM => z.2[i]?) c
  rw [List.getElem?_map, List.getElem?_map, h] at e2
  exact DefD.funD (Option.some.inj e2) (List.all_eq_true.mp c.one.2 d (List.mem_of_getElem? h))
end
/-! ### checks -/
def qQ3 {α : Type} [DecidableEq α] (a : Option α) (b : α) : Bool := decide (a = some b)
theorem qCq {α : Type} [DecidableEq α] {a : Option α} {b : α} (h : qQ3 a b = true) : a = some b := of_decide_eq_true h
def own (x : Str) : PySem.W.Frag → Value := fun K => .ref (ga K x)
/-- an own class without surprises -/
def ownF (x : Str) : Fct := fun K => (Fa.cls x).ok K && (eqO (PySem.W.findIn K (.ref (ga K x)) "__class__") (some (some (.builtin "object.__class__"))) && (eqO (PySem.W.specialIn K (.builtin "object.__class__") "__get__") (some (some (.builtin "getset_descriptor.__get__"))) &&
  (qQ3 (PySem.W.takesIn K (.builtin "object.__class__")) true && (qQ3 (PySem.W.mroIn K (ga K x) (.type "object")) true && qQ3 (PySem.W.kitOne K (.ref (ga K x)) (.type "int")) false))))
theorem qXn {K : PySem.W.Frag} {x : Str} (h : ownF x K = true) : OwnC K (ga K x) := by
  obtain ⟨h1, h⟩ := ba h
  obtain ⟨h2, h⟩ := ba h
  obtain ⟨h3, h⟩ := ba h
  obtain ⟨h4, h⟩ := ba h
  obtain ⟨h5, h6⟩ := ba h
  exact ⟨cls_ok h1, eqO_ok h2, eqO_ok h3, qCq h4, qCq h5, qCq h6⟩
/-! ### an error whose __init__ says super().__init__(p); self.p = p -/
def qAbk (p : Str) : FuncBody → Bool
  | .stmts [.Expr (.Call (.Attribute (.Call (.Name s _) [] [] _) i q3) [.Name a _] [] q5) _, .Assign [.Attribute (.Name sf _) b _] (.Name c _) _] =>
    decide (s = "super") && (decide (i = "__init__") && (decide (a = p) && (decide (sf = "self") && (decide (b = p) && (decide (c = p) && (q3.endLine == q5.line))))))
  | _ => false
theorem qY3 {p : Str} {b : FuncBody} (h : qAbk p b = true) : ∃ q1 q2 q3 q4 q5 q6 q7 q8 q9 q10 : Pos, b = .stmts [.Expr (.Call (.Attribute (.Call (.Name "super" q1) [] [] q2) "__init__" q3) [.Name p q4] [] q5) q6, .Assign [.Attribute (.Name "self" q7) p q8] (.Name p q9) q10] ∧ (q3.endLine == q5.line) = true := by
  unfold qAbk at h
  split at h
  · obtain ⟨h1, h⟩ := ba h
    obtain ⟨h2, h⟩ := ba h
    obtain ⟨h3, h⟩ := ba h
    obtain ⟨h4, h⟩ := ba h
    obtain ⟨h5, h⟩ := ba h
    obtain ⟨h6, h7⟩ := ba h
    have e1 := of_decide_eq_true h1
    have e2 := of_decide_eq_true h2
    have e3 := of_decide_eq_true h3
    have e4 := of_decide_eq_true h4
    have e5 := of_decide_eq_true h5
    have e6 := of_decide_eq_true h6
    subst e1 e2 e4
    rw [e3, e5, e6]
    exact ⟨_, _, _, _, _, _, _, _, _, _, rfl, h7⟩
  · cases h
def parB (p : Str) : Arguments → Bool
  | ⟨[], [a1, a2], none, [], [], none, []⟩ => decide (a1.arg = "self") && decide (a2.arg = p)
  | _ => false
theorem qAcc {p : Str} {a : Arguments} (h : parB p a = true) : ∃ a1 a2 : Arg, a = { posonlyargs := [], args := [a1, a2], vararg := none, kwonlyargs := [], kw_defaults := [], kwarg := none, defaults := [] } ∧ a1.arg = "self" ∧ a2.arg = p := by
  unfold parB at h
  split at h
  · obtain ⟨h1, h2⟩ := ba h
    exact ⟨_, _, rfl, of_decide_eq_true h1, of_decide_eq_true h2⟩
  · cases h
def scB (p : Str) : Scope → Bool
  | ⟨.function, [(x1, .local), (x2, .local), (x3, .free), (x4, .globalImplicit)], false, false, []⟩ => decide (x1 = "self") && (decide (x2 = p) && (decide (x3 = "__class__") && decide (x4 = "super")))
  | _ => false
theorem qAeo {p : Str} {s : Scope} (h : scB p s = true) : s = { kind := .function, names := [("self", .local), (p, .local), ("__class__", .free), ("super", .globalImplicit)], isGenerator := false, isCoroutine := false, more := [] } := by
  unfold scB at h
  split at h
  · obtain ⟨h1, h⟩ := ba h
    obtain ⟨h2, h⟩ := ba h
    obtain ⟨h3, h4⟩ := ba h
    rw [of_decide_eq_true h1, of_decide_eq_true h2, of_decide_eq_true h3, of_decide_eq_true h4]
  · cases h
/-- the function object of such an __init__ -/
def qAbr (prog : Program) (p : Str) (K : PySem.W.Frag) (C f : Addr) : Bool := match K.lookup f with
  | some ⟨_, _, .func fd, _⟩ => PySem.W.codeIn K fd.code fd.qualname && (parB p fd.params && (qAbk p fd.body && (scB p fd.scope && (decide (fd.globals = mainGlobals) && (decide (fd.builtins = builtinsNs) && (decide (fd.defaults = .none) && (match fd.closure, fd.code with
    | [(n, cc)], .ref cda => decide (n = "__class__") && ((match K.lookup cda with
      | some ⟨_, _, .fields vs, _⟩ => (match (vs[2]? : Option Value) with
        | some (.str file _) => (prog.main.file : Str) == file
        | _ => false)
      | _ => false) && (match K.lookup cc with
      | some ⟨_, _, .cell (some (.ref D)), _⟩ => decide (D = C)
      | _ => false))
    | _, _ => false)))))))
  | _ => false
theorem qYy {prog : Program} {p : Str} {K : PySem.W.Frag} {C f : Addr} (h : qAbr prog p K C f = true) :
    ∃ (oc : Value) (od : Option Addr) (osl : Array (Option Value)) (fd : FuncData) (a1 a2 : Arg) (q1 q2 q3 q4 q5 q6 q7 q8 q9 q10 : Pos) (cda cc : Addr) (ccl : Value) (cdd : Option Addr) (vs : Array Value) (ccs : Array (Option Value)) (file : Str) (tf : Tok) (cl : Value) (cld : Option Addr) (csl : Array (Option Value)),
    K.lookup f = some ⟨oc, od, .func fd, osl⟩ ∧ PySem.W.codeIn K fd.code fd.qualname = true ∧
    fd.params = { posonlyargs := [], args := [a1, a2], vararg := none, kwonlyargs := [], kw_defaults := [], kwarg := none, defaults := [] } ∧ a1.arg = "self" ∧ a2.arg = p ∧
    fd.body = .stmts [.Expr (.Call (.Attribute (.Call (.Name "super" q1) [] [] q2) "__init__" q3) [.Name p q4] [] q5) q6, .Assign [.Attribute (.Name "self" q7) p q8] (.Name p q9) q10] ∧
    fd.scope = { kind := .function, names := [("self", .local), (p, .local), ("__class__", .free), ("super", .globalImplicit)], isGenerator := false, isCoroutine := false, more := [] } ∧
    fd.globals = mainGlobals ∧ fd.builtins = builtinsNs ∧ fd.closure = [(("__class__" : Str), cc)] ∧ fd.defaults = .none ∧ fd.code = .ref cda ∧
    K.lookup cda = some ⟨ccl, cdd, .fields vs, ccs⟩ ∧ vs[2]? = some (.str file tf) ∧ ((prog.main.file : Str) == file) = true ∧
    K.lookup cc = some ⟨cl, cld, .cell (some (.ref C)), csl⟩ ∧ (q3.endLine == q5.line) = true := by
  unfold qAbr at h
  split at h
  · rename_i oc od fd osl hf
    obtain ⟨h1, h⟩ := ba h
    obtain ⟨h2, h⟩ := ba h
    obtain ⟨h3, h⟩ := ba h
    obtain ⟨h4, h⟩ := ba h
    obtain ⟨h5, h⟩ := ba h
    obtain ⟨h6, h⟩ := ba h
    obtain ⟨h7, h⟩ := ba h
    obtain ⟨a1, a2, e2, e2a, e2b⟩ := qAcc h2
    obtain ⟨q1, q2, q3, q4, q5, q6, q7, q8, q9, q10, e3, e3b⟩ := qY3 h3
    split at h
    · rename_i n cc cda hclo hcode
      obtain ⟨h8, h⟩ := ba h
      obtain ⟨h9, h10⟩ := ba h
      have e8 := of_decide_eq_true h8
      subst e8
      split at h9
      · rename_i ccl cdd vs ccs hcda
        split at h9
        · rename_i file tf hvs
          split at h10
          · rename_i cl cld D csl hcell
            have e10 := of_decide_eq_true h10
            subst e10
            exact ⟨oc, od, osl, fd, a1, a2, q1, q2, q3, q4, q5, q6, q7, q8, q9, q10, cda, cc, ccl, cdd, vs, ccs, file, tf, cl, cld, csl, hf, h1, e2, e2a, e2b, e3, qAeo h4, of_decide_eq_true h5, of_decide_eq_true h6, hclo, of_decide_eq_true h7, hcode, hcda, hvs, h9, hcell, e3b⟩
          · cases h10
        · cases h9
      · cases h9
    · cases h
  · cases h
def qXp (K : PySem.W.Frag) (C : Addr) : Bool := match K.lookup C with
  | some ⟨.type t, _, .cls cd, sl⟩ => decide (t = "type") && (match cd.mro, sl.toList with
    | .ref D :: bm, [_, _, _, _, some (.builtin n), _] => decide (D = C) && (decide (n = "ValueError.__new__") && (!cd.hasDel && (cd.hasDict && (HandSPX.refsVE bm && eqO (PySem.W.alongIn K "__init__" bm) (some (some (.builtin "ValueError.__init__")))))))
    | _, _ => false)
  | _ => false
theorem qWe {K : PySem.W.Frag} {C : Addr} (h : qXp K C = true) : ∃ nm q N bs bm sn sub ab col dd k0 k1 k2 k3 k5, K.lookup C = some (excClassObj nm q C N bs bm true sn sub ab col dd k0 k1 k2 k3 k5 "ValueError.__new__") ∧ HandSPX.refsVE bm = true ∧
    PySem.W.alongIn K "__init__" bm = some (some (.builtin "ValueError.__init__")) := by
  unfold qXp at h
  split at h
  · rename_i t dd cd sl ho
    obtain ⟨h0, hh⟩ := ba h
    clear h
    have e0 := of_decide_eq_true h0
    subst e0
    split at hh
    · rename_i D bm k0 k1 k2 k3 n k5 hm hs
      obtain ⟨h1, h⟩ := ba hh
      obtain ⟨h2, h⟩ := ba h
      obtain ⟨h3, h⟩ := ba h
      obtain ⟨h4, h⟩ := ba h
      obtain ⟨h5, h6⟩ := ba h
      have e1 := of_decide_eq_true h1
      have e2 := of_decide_eq_true h2
      subst e1 e2
      obtain ⟨nm, bs, mro, ns, qn, hd, sn, sb, ab, col, del⟩ := cd
      dsimp only at hm h3 h4
      subst hm h4
      have e3 : del = false := by simpa using h3
      subst e3
      refine ⟨nm, qn, ns, bs, bm, sn, sb, ab, col, dd, k0, k1, k2, k3, k5, ?_, h5, eqO_ok h6⟩
      rw [ho]
      have e : sl = #[k0, k1, k2, k3, some (.builtin "ValueError.__new__"), k5] := by
        rw [← Array.toArray_toList (xs := sl), hs]
      rw [e]
    · cases hh
  · cases h
/-- all that SupC asks -/
def supF (prog : Program) (x p : Str) : Fct := fun K => qXp K (ga K x) && (qAbr prog p K (ga K x) (ma K (ga K x) "__init__") && (eqO (PySem.W.findIn K (.ref (ga K x)) "__setattr__") (some (some (.builtin "object.__setattr__"))) && (eqO (PySem.W.findIn K (.ref (ga K x)) p) (some none) &&
  (eqO (PySem.W.findIn K (.ref (ga K x)) "__init__") (some (some (.ref (ma K (ga K x) "__init__")))) && (qQ3 (PySem.W.typeIn K (.ref (ma K (ga K x) "__init__"))) (.type "function") && (PySem.W.keepIn K (.ref (ga K x)) && (qQ3 (PySem.W.subIn K (.ref (ga K x)) (.type "BaseException")) true &&
  (qQ3 (PySem.W.subIn K (.ref (ga K x)) (.type "ValueError")) true && (qQ3 (PySem.W.typeIn K (.ref (ga K x))) (.type "type") && (qQ3 (PySem.W.mroIn K (ga K x) (.ref (ga K x))) true && (eqO (PySem.W.nsIn K cStatics "thirdparty.any") (some none) && (eqO (PySem.W.nsIn K mainGlobals "super") (some none) &&
  !(prog.main.scope.names.lookup ("super" : Str)).isSome))))))))))))
theorem qVm {prog : Program} {K : PySem.W.Frag} {x p : Str} (h : supF prog x p K = true) : SupC prog K (ga K x) (ma K (ga K x) "__init__") p := by
  obtain ⟨h1, h⟩ := ba h
  obtain ⟨h2, h⟩ := ba h
  obtain ⟨h3, h⟩ := ba h
  obtain ⟨h4, h⟩ := ba h
  obtain ⟨h5, h⟩ := ba h
  obtain ⟨h6, h⟩ := ba h
  obtain ⟨h7, h⟩ := ba h
  obtain ⟨h8, h⟩ := ba h
  obtain ⟨h9, h⟩ := ba h
  obtain ⟨h10, h⟩ := ba h
  obtain ⟨h11, h⟩ := ba h
  obtain ⟨h12, h⟩ := ba h
  obtain ⟨h13, h14⟩ := ba h
  exact ⟨qWe h1, eqO_ok h3, eqO_ok h4, eqO_ok h5, qCq h6, h7, qCq h8, qCq h9, qCq h10, qCq h11, eqO_ok h12, eqO_ok h13, by simpa using h14, qYy h2⟩
theorem qZk {K : PySem.W.Frag} {x q : Str} {p : Arguments} {b : List Stmt} {sc : Scope} {dvs : List V} {kws : List (Str × V)} {f : Addr} {fd fd' : FuncData} (F : FunD K x q p b sc dvs kws f fd) (F' : FunD K x q p b sc dvs kws f fd') : fd = fd' := by
  obtain ⟨_, _, _, _, _, _, _, _, _, _, _, h, _⟩ := F.ex
  obtain ⟨_, _, _, _, _, _, _, _, _, _, _, h', _⟩ := F'.ex
  have e := h.symm.trans h'
  simp only [Option.some.injEq, Obj.mk.injEq, Data.func.injEq] at e
  exact e.2.2.1
end MR

set_option Elab.async false
set_option linter.all false
set_option maxRecDepth 100000
set_option maxHeartbeats 4000000
/-! MR: operators that an own class defines -/
namespace MR
open PySem PySem.Spec PyProof.Rows PySem.W
/-- the int's own operator hands back NotImplemented for an instance -/
structure IntDecl (name : Str) (id : String) (B : Builtin) : Prop where
  slot : Slot "int" name id
  entry : entryFor table id = some B
  args : ∀ a b, argsOk id ⟨[a, b], []⟩
  dec : ∀ (prog : Program) (w : World) (A : Around) (E : Value → Shared → Prop) (s : Shared) (a : Int) (t : Tok) (x C dx : Addr) (P : Fin → Shared → Prop), s.heap.get? x = some (instObj C dx) → P (.done (.ret .notImplemented)) s → wpAny (model prog w) A (B ⟨[.int a t, .ref x], []⟩) P E s
/-- a call of it -/
theorem IntDecl.call {name : Str} {id : String} {B : Builtin} (D : IntDecl name id B) {prog : Program} {w : World} {A : Around} {E : Value → Shared → Prop} {s : Shared} {a : Int} {t : Tok} {x C dx : Addr} {Q : Value → Shared → Prop} (hx : s.heap.get? x = some (instObj C dx)) (h : Q .notImplemented s) :
    wpAny (model prog w) A (PySem.call (.builtin id) [.int a t, .ref x]) Q E s :=
  wpAny_call_entry D.slot (typeIs_int s a t) D.entry (D.dec prog w _ _ s a t x C dx _ hx ⟨_, rfl, h⟩) (D.args _ _)
section
variable {prog : Program} {w : World} {A : Around} {E : Value → Shared → Prop} {s : Shared} {K : Frag} {x C dx f : Addr} {od : Option Obj} {n : Int} {t : Tok}
end
end MR

set_option Elab.async false
set_option linter.all false
set_option maxRecDepth 100000
set_option maxHeartbeats 4000000
/-! MR: .. as rules of the layer -/
namespace MR
open PySem PySem.Spec PyProof.Rows L2
/-- what the written part says of an own class's operator nm -/
structure OpC (K : PySem.W.Frag) (C : Addr) (nm : String) : Prop where
  sf : PySem.W.selfFirst K C = true
  sub : PySem.W.subIn K (.type "int") (.ref C) = some false
  subR : PySem.W.subIn K (.ref C) (.type "int") = some false
  fo : ∃ fo ro rc, PySem.W.findIn K (.type "int") (PySem.dunder nm) = some fo ∧ PySem.W.findIn K (.type "int") (dunderR nm) = some ro ∧ PySem.W.findIn K (.ref C) (dunderR nm) = some rc ∧ (rc = none ∨ ∃ g : Addr, rc = some (.ref g))
theorem qW4 {X : Cx} {pins : List (Addr × Obj)} {σ : L2.St} {H : Hp} {s : Shared} {p C dx : Addr} {fs : List (Str × V)} (I : Inv X pins σ H s) (e : H p = some (.ins C dx fs)) : ∃ od, PySem.W.InstAt s.heap p (PySem.W.instObj C dx) C (some od) := by
  obtain ⟨mA, O, _⟩ := ins_get I.hok e
  obtain ⟨od, h, _⟩ := O.look
  exact ⟨od, h⟩
theorem qAa0 {X : Cx} {pins : List (Addr × Obj)} {σ : L2.St} {Q : VK} {v : Value} {s : Shared} (h : EP X pins σ Q v s) : PySem.W.CmpBack (EP X pins σ Q) v s := by
  obtain ⟨x, H, I, r, q⟩ := h
  cases v with
  | notImplemented =>
    cases x <;> first | exact nomatch (show Value.notImplemented = _ from r) | (obtain ⟨_, e⟩ := r; cases e) | cases r
  | _ => exact ⟨x, H, I, r, q⟩
section
variable {X : Cx} {k : Nat} {C : Addr} {sp : Sp} {E : XK}
/-- x op y: x an instance of C, y another or an int -/
def rOwn (C : Addr) (sp : Sp) (E : XK) : R2 := fun x y H Q => ∃ p dx fs, x = .ref p ∧ H p = some (.ins C dx fs) ∧ ((∃ n, y = .int n) ∨ ∃ q dy gs, y = .ref q ∧ H q = some (.ins C dy gs)) ∧ sp [x, y] H Q E
theorem qAaw {op : Operator} (nm : String) (D : qPb X.prog X.w X.K X.mg X.base k C (PySem.dunder nm) [] sp) (O : OpC X.K C nm) (hr : Room k X.A) (hx : Passes (CXX X.prog X.w) X E) (hi : op.info.2 = nm := by rfl) : OpR X (binaryOp op) (rOwn C sp E) := by
  subst hi
  obtain ⟨f, fd, ps, ds, h1, h2, h3, h4, h5⟩ := D
  intro pins s σ H x y v u Q I rx ry h
  obtain ⟨p, dx, fs, rfl, e, hy, q⟩ := h
  cases rx
  cases h5
  obtain ⟨od, J⟩ := qW4 I e
  obtain ⟨m, Fm⟩ := I.fr
  have run : wpAny (model X.prog X.w) X.A (call (.ref f) [.ref p, u]) (PySem.W.CmpBack (EP X pins σ Q)) X.xe s :=
    thn (run_fn (us := [.ref p, u]) (vs := [.ref p, y]) h3 hr h4 .nil hx I (.cons rfl (.cons ry .nil)) q) fun _ _ z => qAa0 z
  rcases hy with ⟨n, rfl⟩ | ⟨r, dy, gs, rfl, ey⟩
  · obtain ⟨t, rfl⟩ := ry
    obtain ⟨fo, ro, rc, g1, g2, g3, g4⟩ := O.fo
    exact PySem.W.ksp_binT Fm I.mod.kin J (T := "int") rfl O.sf h2.at_ h2.fn g3 g4 g1 g2 O.sub run
  · cases ry
    obtain ⟨od2, J2⟩ := qW4 I ey
    exact PySem.W.binop_K Fm I.mod.kin J J2.type O.sf h2.at_ h2.fn run
end
end MR

set_option Elab.async false
set_option linter.all false
set_option maxRecDepth 100000
set_option maxHeartbeats 4000000
/-! MR: facts of own operators -/
namespace MR
open PySem PySem.Spec PyProof.Rows L2 He
def opF (x : Str) (nm : String) : Fct := fun K => PySem.W.selfFirst K (ga K x) && (qQ3 (PySem.W.subIn K (.type "int") (.ref (ga K x))) false && (qQ3 (PySem.W.subIn K (.ref (ga K x)) (.type "int")) false && ((PySem.W.findIn K (.type "int") (PySem.dunder nm)).isSome && ((PySem.W.findIn K (.type "int") (dunderR nm)).isSome &&
  (match PySem.W.findIn K (.ref (ga K x)) (dunderR nm) with
    | some none => true
    | some (some (.ref _)) => true
    | _ => false)))))
theorem qAan {K : PySem.W.Frag} {x : Str} {nm : String} (h : opF x nm K = true) : OpC K (ga K x) nm := by
  obtain ⟨h1, h⟩ := ba h
  obtain ⟨h2, h⟩ := ba h
  obtain ⟨h3, h⟩ := ba h
  obtain ⟨h4, h⟩ := ba h
  obtain ⟨h5, h6⟩ := ba h
  obtain ⟨fo, e4⟩ := Option.isSome_iff_exists.mp h4
  obtain ⟨ro, e5⟩ := Option.isSome_iff_exists.mp h5
  refine ⟨h1, qCq h2, qCq h3, fo, ro, ?_⟩
  split at h6
  · rename_i e
    exact ⟨none, e4, e5, e, .inl rfl⟩
  · rename_i g e
    exact ⟨some (.ref g), e4, e5, e, .inr ⟨g, rfl⟩⟩
  · cases h6
end MR

set_option Elab.async false
set_option linter.all false
set_option maxRecDepth 100000
set_option maxHeartbeats 4000000
/-! MR: a lambda handed to a def of the law, which catches what it raises -/
namespace MR
open PySem PySem.Spec PyProof.Rows L2 LamX
section
variable {X : Cx} {pins : List (Addr × Obj)} {σ σ0 : L2.St} {H HZ : Hp} {s s1 : Shared}
end
section
variable {X : Cx}
end
/-! ### what the def makes of it: the word of the error, or an empty one -/
/-! ### the code objects and their tables -/
/-! ### the end of a law with lambdas -/
def qAeq : Option Obj → Bool
  | some ⟨.none, none, .fields vs, sl⟩ => vs.isEmpty && sl.isEmpty
  | _ => false
theorem qZ4 {a : Addr} {o : Obj} : ∀ {l : PySem.W.Frag}, l.lookup a = some o → (a, o) ∈ l
  | [], e => by cases e
  | (b, u) :: r, e => by
    rw [List.lookup_cons] at e
    cases hb : a == b with
    | true =>
      rw [hb] at e
      cases e
      rw [beq_iff_eq.mp hb]
      exact .head _
    | false =>
      rw [hb] at e
      exact .tail _ (qZ4 e)
end MR

set_option Elab.async false
set_option linter.all false
set_option maxRecDepth 100000
set_option maxHeartbeats 4000000
/-! MR: the head's run, looked at in parts -/
namespace MR
open PySem PySem.Spec PyProof.Rows L2 He
section
variable {α β γ : Type} {o : Option α} {fr : α → PySem.W.Frag}
def qX7 (o : Option α) (fr : α → PySem.W.Frag) (bs : List Fct) : Prop := o.map (fun s => bs.all fun f => f (fr s)) = some true
def qY4 (o : Option α) (fr : α → PySem.W.Frag) (fn : List DefD) : Prop := o.map (fun s => (fn.all fun d => d.ok (fr s), fn.map fun d => fnW (fr s) d.at_)) = some (true, fn.map DefD.val)
theorem qAfv {l : α → Bool} {q : α → β} {x : β} {bs : List Fct} {fn : List DefD} (h : o.map (fun s => (l s, q s)) = some (true, x)) (hb : qX7 o fr bs) (hd : qY4 o fr fn) : o.map (fun s => (l s, q s, obsM bs fn (fr s))) = some (true, x, valM fn) := by
  unfold qX7 qY4 at *
  cases o with
  | none => cases h
  | some s =>
    have e1 := Prod.mk.inj (Option.some.inj h)
    have e2 : (bs.all fun f => f (fr s)) = true := Option.some.inj hb
    have e3 := Prod.mk.inj (Option.some.inj hd)
    show some (_, _, (_ && _), _) = some (true, x, true, _)
    rw [e1.1, e1.2, e2, e3.1, e3.2]
    rfl
end
end MR

set_option Elab.async false
set_option linter.all false
set_option maxRecDepth 100000
set_option maxHeartbeats 4000000
/-! MR: the written part, gathered quickly (a number as the set of the places seen) -/
namespace MR
open PySem PySem.Spec PyProof.Rows L2 He
/-- the places of l that the set m lacks, each once; k goes on with the set -/
def ddU (k : Nat → List Addr → List Addr) : List Addr → Nat → List Addr → List Addr
  | [], m, acc => k m acc
  | a :: l, m, acc => match Nat.beq (Nat.land (Nat.shiftRight m a) 1) 0 with
    | true => ddU k l (Nat.lor m (Nat.shiftLeft 1 a)) (a :: acc)
    | false => ddU k l m acc
def outU (g : Addr → Option Obj) (as : List Addr) : List Addr := as.flatMap fun a => match g a with
  | some o => refsD o
  | none => []
def asU (g : Addr → Option Obj) : Nat → Nat → List Addr → List Addr
  | 0, _, _ => []
  | n + 1, m, fr => ddU (fun m' nf => nf ++ asU g n m' nf) (outU g fr) m []
/-- the written part: what the module's names reach in n steps, without empty tables -/
def frU (g : Addr → Option Obj) (n : Nat) : PySem.W.Frag := (He.frG g (sysModules :: mainGlobals :: cStatics :: asU g n (Nat.lor (Nat.shiftLeft 1 mainGlobals) (Nat.lor (Nat.shiftLeft 1 cStatics) (Nat.shiftLeft 1 sysModules))) [mainGlobals, cStatics])).filter fun p => !qAeq (some p.2)
theorem qAe4 {n : Nat} {h : Heap} : (frU h.get? n).In h := fun a o e => by
  have hm0 := qZ4 e
  unfold frU at hm0
  have hm := (List.mem_filter.mp hm0).1
  unfold He.frG at hm
  obtain ⟨b, _, hb⟩ := List.mem_filterMap.mp hm
  cases hg : h.get? b with
  | none =>
    rw [hg] at hb
    cases hb
  | some u =>
    rw [hg] at hb
    cases hb
    exact hg
def obsN (n : Nat) (bs : List Fct) (fn : List He.DefD) (g : Addr → Option Obj) : AlM := obsM bs fn (frU g n)
def qAds (n : Nat) (bs : List Fct) (fn : List He.DefD) : PySem.W.Hook where
  α := AlM
  obs := fun s => obsN n bs fn s.heap.get?
  val := fun _ => valM fn
  says := fun _ h => ∃ K : PySem.W.Frag, K.In h ∧ SaysM bs fn K
  of := fun _ _ e => ⟨_, qAe4, e⟩
  keeps := fun _ _ _ ⟨K, hK, c⟩ k => ⟨K, PySem.W.Frag.In.keeps hK k, c⟩
theorem qAch {n : Nat} {bs : List Fct} {fn : List He.DefD} {g : Addr → Option Obj} {s : Shared} (h : ∀ a, g a = s.heap.get? a) : obsN n bs fn g = (qAds n bs fn).obs s := by
  rw [show g = s.heap.get? from funext h]
  rfl
end MR

set_option Elab.async false
set_option linter.all false
set_option maxRecDepth 100000
set_option maxHeartbeats 4000000
/-! MR: the draws that the laws make of their script -/
namespace MR
open PySem PySem.Spec PyProof.Rows L2
/-- the list at f is the law's feed: cells at c, place, rest, left, count, sum -/
structure FeedAt (K : PySem.W.Frag) (H : Hp) (f c : Addr) (ns : List Int) (p b l n s : Int) : Prop where
  ob : H f = some (.lst [.ref c, .int p, .int b, .int l, .int n, .int s])
  cs : SqL K H c (ns.map V.int)
  ne : c ≠ f
  nn : ∀ x ∈ ns, 0 ≤ x
  p0 : 0 ≤ p
  b0 : 0 ≤ b
  l0 : 0 ≤ l
  n0 : 0 ≤ n
  s0 : 0 ≤ s
def Feed (K : PySem.W.Frag) (H : Hp) (f : Addr) : Prop := ∃ c ns p b l n s, FeedAt K H f c ns p b l n s
theorem qXj {K : PySem.W.Frag} {H H' : Hp} {f a : Addr} {xs : List V} (k : Keep f H H') (ne : a ≠ f) (h : SqL K H a xs) : SqL K H' a xs := by
  rcases h with (h | ⟨o, h⟩) | h
  · exact .inl (.inl (k _ _ h ne))
  · exact .inl (.inr ⟨o, k _ _ h ne⟩)
  · exact .inr h
theorem FeedAt.upd {K : PySem.W.Frag} {H : Hp} {f c : Addr} {ns : List Int} {p b l n s p' b' l' n' s' : Int} (F : FeedAt K H f c ns p b l n s) (h1 : 0 ≤ p') (h2 : 0 ≤ b') (h3 : 0 ≤ l') (h4 : 0 ≤ n') (h5 : 0 ≤ s') :
    FeedAt K (upd H f (.lst [.ref c, .int p', .int b', .int l', .int n', .int s'])) f c ns p' b' l' n' s' := ⟨upd_same, qXj qDy F.ne F.cs, F.ne, F.nn, h1, h2, h3, h4, h5⟩
theorem FeedAt.same {K : PySem.W.Frag} {H H' : Hp} {f c : Addr} {ns : List Int} {p b l n s : Int} (F : FeedAt K H f c ns p b l n s) (h : Same H H') : FeedAt K H' f c ns p b l n s := ⟨h _ _ F.ob, h.seq F.cs, F.ne, F.nn, F.p0, F.b0, F.l0, F.n0, F.s0⟩
theorem Feed.same {K : PySem.W.Frag} {H H' : Hp} {f : Addr} (F : Feed K H f) (h : Same H H') : Feed K H' f := let ⟨c, ns, p, b, l, n, s, G⟩ := F; ⟨c, ns, p, b, l, n, s, G.same h⟩
def qVv (K : PySem.W.Frag) : TS :=
  (tSeq (tIfS (tTest (tOp rGt0 (tOp (rIxL K) (tVar 0) (tC (.int 2))) (tC (.int 0)))) (tSeq (tAsg (tOp qU9 (tCB qXk (tCons (tOp (rIxL K) (tVar 0) (tC (.int 2))) tNil)) (tVar 1)) (gName 4))
  (tSeq (tAsg (tOp qRz (tOp (rIxL K) (tVar 0) (tC (.int 2))) (tVar 1)) (gSub (tVar 0) (tC (.int 2)) rSetL))
  (tRet (tVar 4)))) tNext)
  (tSeq (tAsg (tCB qAby (tCons (tC (.int 0)) (tCons (tOp qF4 (tOp (rIxL K) (tVar 0) (tC (.int 3))) (tC (.int 1))) tNil))) (gSub (tVar 0) (tC (.int 3)) rSetL))
  (tSeq (tAsg (tOp qU9 (tCB qXk (tCons (tOp qDv (tOp qEg (tOp qEg (tOp (rIxL K) (tVar 0) (tC (.int 5))) (tOp qDv (tC (.int 7919)) (tOp (rIxL K) (tVar 0) (tC (.int 4))))) (tC (.int 1))) (tC (.int 48271))) tNil)) (tC (.int 2147483647))) (gName 2))
  (tSeq (tAsg (tOp qU9 (tCB qXk (tCons (tOp qDv (tVar 2) (tOp qEg (tOp qRz (tVar 2) (tC (.int 1009))) (tC (.int 69621)))) tNil)) (tC (.int 2147483647))) (gName 2))
  (tSeq (tAsg (tOp qU9 (tCB qXk (tCons (tOp qDv (tVar 2) (tOp qEg (tOp qRz (tVar 2) (tC (.int 2003))) (tC (.int 40692)))) tNil)) (tC (.int 2147483399))) (gName 2))
  (tRet (tOp qU9 (tVar 2) (tVar 1))))))))
def qHi (K : PySem.W.Frag) : TS :=
  (tSeq (tAugS (tVar 0) (tC (.int 4)) (tC (.int 1)) (qAee K) (ipI fun i j => i + j) rSetL)
  (tSeq (tIfS (tAnd (tTest (tOp rEq (tOp (rIxL K) (tVar 0) (tC (.int 2))) (tC (.int 0)))) (tAnd (tTest (tOp rEq (tOp (rIxL K) (tVar 0) (tC (.int 3))) (tC (.int 0)))) (tTest (tOp rLt0 (tOp (rIxL K) (tVar 0) (tC (.int 1))) (tCB (qDu K) (tCons (tOp (rIxL K) (tVar 0) (tC (.int 0))) tNil)))))) (tSeq (tAsg (tOp (rIxL K) (tOp (rIxL K) (tVar 0) (tC (.int 0))) (tOp (rIxL K) (tVar 0) (tC (.int 1)))) (gName 3))
  (tSeq (tAugS (tVar 0) (tC (.int 1)) (tC (.int 1)) (qAee K) (ipI fun i j => i + j) rSetL)
  (tIfS (tTest (tOp rGe0 (tVar 3) (tOp qAbt (tC (.int 10)) (tC (.int 18))))) (tAsg (tVar 3) (gSub (tVar 0) (tC (.int 2)) rSetL)) (tSeq (tAsg (tC (.int 7)) (gSub (tVar 0) (tC (.int 3)) rSetL))
  (tAsg (tOp qEg (tOp (rIxL K) (tVar 0) (tC (.int 5))) (tVar 3)) (gSub (tVar 0) (tC (.int 5)) rSetL)))))) tNext)
  (qVv K)))
theorem qIp {a z : Int} (h : 0 < z) : 0 ≤ a.fmod z ∧ a.fmod z < z := by
  rw [Int.fmod_eq_emod_of_nonneg _ (by omega)]
  exact ⟨Int.emod_nonneg _ (by omega), Int.emod_lt_of_pos _ h⟩
/-! ### _law_feed(script) -/
def qK2 (K : PySem.W.Frag) : TS :=
  (tRet (tLst (tCons (tLc (iList K (tSl (rSlL K) (tVar 0) tNoPart (tPart (tC (.int 63))))) (gName 1) tYes (tCB qAa8 (tCons (tCB qXk (tCons (tVar 1) tNil)) tNil)) [1]) (tCons (tC (.int 0)) (tCons (tC (.int 0)) (tCons (tC (.int 0)) (tCons (tC (.int 0)) (tCons (tC (.int 0)) tNil))))))))
theorem qYp (ns : List Int) (lo hi : Option Int) : ∃ ms : List Int, cutV (ns.map V.int) lo hi = ms.map V.int ∧ ms.length ≤ ns.length := by
  unfold cutV
  refine ⟨(ns.drop (HT.sIx (ns.map V.int).length 0 lo)).take (HT.sIx (ns.map V.int).length (ns.map V.int).length hi - HT.sIx (ns.map V.int).length 0 lo), ?_, ?_⟩
  · rw [List.map_take, List.map_drop]
  · rw [List.length_take, List.length_drop]
    omega
theorem qAcg {ms : List Int} {i : Nat} {x : V} (h : (ms.map V.int)[i]? = some x) : ∃ z, ms[i]? = some z ∧ x = .int z := by
  rw [List.getElem?_map] at h
  cases e : ms[i]? with
  | none =>
    rw [e] at h
    cases h
  | some z =>
    rw [e] at h
    exact ⟨z, rfl, (Option.some.inj h).symm⟩
theorem qOs {α : Type} {l : List α} {i : Nat} {x : α} (h : l[i]? = some x) : l.take (i + 1) = l.take i ++ [x] := by
  rw [List.take_add_one, h]
  rfl
/-! ### _law_divisor(a, b): four hundred turns are enough -/
theorem qRe {x y : Nat} (hy : 0 < y) (h : y ≤ x) : y * (x % y) * 2 ≤ x * y := by
  have h1 := Nat.mod_add_div x y
  have h2 := Nat.mod_lt x hy
  have h3 : 0 < x / y := Nat.div_pos h hy
  have h4 : y * 1 ≤ y * (x / y) := Nat.mul_le_mul_left y h3
  have h5 : (x % y) * 2 ≤ x := by omega
  calc y * (x % y) * 2 = y * (x % y * 2) := Nat.mul_assoc ..
    _ ≤ y * x := Nat.mul_le_mul_left y h5
    _ = x * y := Nat.mul_comm ..
/-- behind i turns -/
structure Eu (g P i x y : Nat) : Prop where
  gc : x.gcd y = g
  lt : 1 ≤ i → y < x ∨ y = 0
  pr : x * y * 2 ^ (i - 1) ≤ P
theorem Eu.turn {g P i x y : Nat} (h : Eu g P i x y) (hy : 0 < y) : Eu g P (i + 1) y (x % y) := by
  refine ⟨by rw [← h.gc, Nat.gcd_comm x y, Nat.gcd_rec y x, Nat.gcd_comm], fun _ => .inl (Nat.mod_lt x hy), ?_⟩
  by_cases hi : 1 ≤ i
  · have hlt : y ≤ x := by
      rcases h.lt hi with z | z <;> omega
    have e : 2 ^ (i + 1 - 1) = 2 * 2 ^ (i - 1) := by
      rw [show i + 1 - 1 = (i - 1) + 1 by omega, Nat.pow_succ, Nat.mul_comm]
    rw [e, ← Nat.mul_assoc]
    exact Nat.le_trans (Nat.mul_le_mul_right _ (qRe hy hlt)) h.pr
  · have e : i = 0 := by omega
    subst e
    have h3 := h.pr
    simp only [Nat.zero_sub, Nat.pow_zero, Nat.mul_one, Nat.zero_add, Nat.sub_self] at h3 ⊢
    have h5 : y * (x % y) ≤ y * x := Nat.mul_le_mul_left y (Nat.mod_le x y)
    rw [Nat.mul_comm y x] at h5
    omega
theorem Eu.fin {g P x y : Nat} (h : Eu g P 400 x y) (hP : P < 2 ^ 399) : y = 0 := by
  rcases Nat.eq_zero_or_pos y with e | hy
  · exact e
  · exfalso
    have hx : 0 < x := by
      rcases h.lt (by decide) with z | z <;> omega
    have h1 : 1 ≤ x * y := Nat.mul_pos hx hy
    have h2 := h.pr
    have h3 : 1 * 2 ^ (400 - 1) ≤ x * y * 2 ^ (400 - 1) := Nat.mul_le_mul_right _ h1
    rw [Nat.one_mul, show 400 - 1 = 399 by decide] at h3
    rw [show 400 - 1 = 399 by decide] at h2
    exact absurd (Nat.lt_of_le_of_lt (Nat.le_trans h3 h2) hP) (Nat.lt_irrefl _)
end MR

set_option Elab.async false
set_option linter.all false
set_option maxRecDepth 100000
set_option maxHeartbeats 4000000
/-! MR: enumerate over a tuple; a walk over a list or a tuple -/
namespace PySem
section
variable {prog : Program} {w : World} {A : Around} {E : Value → Shared → Prop} {s : Shared}
end
end PySem
namespace MR
open PySem PySem.Spec PyProof.Rows L2
theorem PI.or {X : Cx} {tg it : Expr} {w w' : TI} (h : PI X tg it w) (h' : PI X tg it w') : PI X tg it (fun σ H R => w σ H R ∨ w' σ H R) :=
  ⟨fun pins s σ H R I q => q.elim (h.run pins s σ H R I) (h'.run pins s σ H R I)⟩
end MR

set_option exponentiation.threshold 20000
/-! MR: the mathematics of fractions: operators, sizes -/
namespace MR
theorem qG0 (q : Rat) : ((q.den : Int) : Rat) ≠ 0 := by
  rw [Rat.intCast_natCast]
  exact fun h => q.den_nz (Rat.natCast_eq_zero_iff.mp h)
theorem qD4 (q : Rat) : ((q.num : Int) : Rat) / ((q.den : Int) : Rat) = q := by
  rw [← Rat.divInt_eq_div, Rat.num_divInt_den]
theorem qAdn (a b : Rat) : Rat.divInt (a.num * b.den + b.num * a.den) (a.den * b.den) = a + b := by
  have h1 := qG0 a
  have h2 := qG0 b
  have e1 := qD4 a
  have e2 := qD4 b
  rw [Rat.divInt_eq_div, Rat.intCast_add, Rat.intCast_mul, Rat.intCast_mul, Rat.intCast_mul]
  grind
theorem qAe3 (a b : Rat) : Rat.divInt (a.num * b.den - b.num * a.den) (a.den * b.den) = a - b := by
  have h1 := qG0 a
  have h2 := qG0 b
  have e1 := qD4 a
  have e2 := qD4 b
  rw [Rat.divInt_eq_div, Rat.intCast_sub, Rat.intCast_mul, Rat.intCast_mul, Rat.intCast_mul]
  grind
theorem qAaa (a b : Rat) : Rat.divInt (a.num * b.num) (a.den * b.den) = a * b := by
  have h1 := qG0 a
  have h2 := qG0 b
  have e1 := qD4 a
  have e2 := qD4 b
  rw [Rat.divInt_eq_div, Rat.intCast_mul, Rat.intCast_mul]
  grind
theorem qAb4 (a : Rat) (n : Int) : Rat.divInt (a.num - n * a.den) a.den = a - (n : Rat) := by
  have h1 := qG0 a
  have e1 := qD4 a
  rw [Rat.divInt_eq_div, Rat.intCast_sub, Rat.intCast_mul]
  grind
theorem qAcq (a : Rat) (n : Int) : Rat.divInt (a.num * n) a.den = a * (n : Rat) := by
  have h1 := qG0 a
  have e1 := qD4 a
  rw [Rat.divInt_eq_div, Rat.intCast_mul]
  grind
theorem qHd (a : Rat) : (0 : Int) < a.den := by
  have := a.den_nz
  omega
/-! ### sizes: below 2 ^ n above and below the bar -/
structure Sz (n : Nat) (q : Rat) : Prop where
  num : q.num.natAbs < 2 ^ n
  den : q.den < 2 ^ n
theorem Sz.mono {n m : Nat} {q : Rat} (h : Sz n q) (hn : n ≤ m) : Sz m q := ⟨Nat.lt_of_lt_of_le h.num (Nat.pow_le_pow_right (by decide) hn), Nat.lt_of_lt_of_le h.den (Nat.pow_le_pow_right (by decide) hn)⟩
theorem Sz.pos {n : Nat} {q : Rat} (h : Sz n q) : 0 < n := by
  rcases Nat.eq_zero_or_pos n with e | e
  · have := h.den
    rw [e] at this
    have := q.den_nz
    omega
  · exact e
theorem qQg {a b : Int} {n : Nat} (hb : b ≠ 0) (h1 : a.natAbs < 2 ^ n) (h2 : b.natAbs < 2 ^ n) : Sz n (Rat.divInt a b) := ⟨Nat.lt_of_le_of_lt (qAd9 hb) h1, Nat.lt_of_le_of_lt (qAdy hb) h2⟩
theorem qIn {x y a b : Nat} (h1 : x < 2 ^ a) (h2 : y < 2 ^ b) : x * y < 2 ^ (a + b) := by
  rw [Nat.pow_add]
  exact Nat.mul_lt_mul'' h1 h2
theorem absmul {x : Int} {y a b : Nat} (h1 : x.natAbs < 2 ^ a) (h2 : y < 2 ^ b) : (x * (y : Int)).natAbs < 2 ^ (a + b) := by
  rw [Int.natAbs_mul, Int.natAbs_natCast]
  exact qIn h1 h2
theorem absadd {x y : Int} {n : Nat} (h1 : x.natAbs < 2 ^ n) (h2 : y.natAbs < 2 ^ n) : (x + y).natAbs < 2 ^ (n + 1) := by
  rw [Nat.pow_succ]
  omega
theorem Sz.add {n m : Nat} {a b : Rat} (h1 : Sz n a) (h2 : Sz m b) : Sz (n + m + 1) (a + b) := by
  rw [← qAdn]
  refine qQg (Int.ne_of_gt (Int.mul_pos (qHd a) (qHd b))) (absadd (absmul h1.num h2.den) ?_) ?_
  · have := absmul h2.num h1.den
    rw [Nat.add_comm m n] at this
    exact this
  · have := absmul (x := (a.den : Int)) (by rw [Int.natAbs_natCast]; exact h1.den) h2.den
    exact Nat.lt_of_lt_of_le this (Nat.pow_le_pow_right (by decide) (by omega))
theorem Sz.neg {n : Nat} {a : Rat} (h : Sz n a) : Sz n (-a) := ⟨by rw [Rat.neg_num, Int.natAbs_neg]; exact h.num, by rw [Rat.neg_den]; exact h.den⟩
theorem Sz.sub {n m : Nat} {a b : Rat} (h1 : Sz n a) (h2 : Sz m b) : Sz (n + m + 1) (a - b) := by
  rw [Rat.sub_eq_add_neg]
  exact h1.add h2.neg
theorem Sz.mul {n m : Nat} {a b : Rat} (h1 : Sz n a) (h2 : Sz m b) : Sz (n + m) (a * b) := by
  rw [← qAaa]
  refine qQg (Int.ne_of_gt (Int.mul_pos (qHd a) (qHd b))) ?_ ?_
  · rw [Int.natAbs_mul]
    exact qIn h1.num h2.num
  · exact absmul (x := (a.den : Int)) (by rw [Int.natAbs_natCast]; exact h1.den) h2.den
end MR

set_option Elab.async false
set_option linter.all false
set_option maxRecDepth 100000
set_option maxHeartbeats 4000000
/-! MR: rows of rationals, plain -/
namespace MR
def coef (cs : List Rat) (k : Nat) : Rat := cs[k]?.getD 0
theorem qLl {cs : List Rat} {k : Nat} (h : k < cs.length) : cs[k]? = some (coef cs k) := by
  unfold coef
  rw [List.getElem?_eq_getElem h]
  rfl
theorem qAr {cs : List Rat} {k : Nat} (h : cs.length ≤ k) : coef cs k = 0 := by
  unfold coef
  rw [List.getElem?_eq_none h]
  rfl
theorem qP0 {cs : List Rat} {k : Nat} {c : Rat} (h : cs[k]? = some c) : coef cs k = c := by
  unfold coef
  rw [h]
  rfl
/-- the size without the zeros at the end of the first n -/
def szN (f : Nat → Rat) : Nat → Nat
  | 0 => 0
  | n + 1 => if f n = 0 then szN f n else n + 1
theorem qHs (f : Nat → Rat) : ∀ n, szN f n ≤ n
  | 0 => Nat.le_refl _
  | n + 1 => by
    unfold szN
    split
    · exact Nat.le_succ_of_le (qHs f n)
    · exact Nat.le_refl _
theorem qHw (f : Nat → Rat) : ∀ n k, szN f n ≤ k → k < n → f k = 0
  | 0, k, _, h => absurd h (Nat.not_lt_zero _)
  | n + 1, k, h, hk => by
    unfold szN at h
    split at h
    · rename_i e
      by_cases hn : k = n
      · rw [hn]; exact e
      · exact qHw f n k h (by omega)
    · omega
theorem qH6 (f : Nat → Rat) : ∀ n, 0 < szN f n → f (szN f n - 1) ≠ 0
  | 0, h => absurd h (Nat.lt_irrefl _)
  | n + 1, h => by
    unfold szN at h ⊢
    split
    · rename_i e
      rw [if_pos e] at h
      exact qH6 f n h
    · rename_i e
      exact e
/-- beyond n all is zero, so the size is one -/
theorem qAdx {f g : Nat → Rat} {n m : Nat} (hf : ∀ k, n ≤ k → f k = 0) (hg : ∀ k, m ≤ k → g k = 0) (h : ∀ k, f k = g k) : szN f n = szN g m := by
  have zf : ∀ k, szN f n ≤ k → f k = 0 := fun k hk => by
    by_cases e : k < n
    · exact qHw f n k hk e
    · exact hf k (by omega)
  have zg : ∀ k, szN g m ≤ k → g k = 0 := fun k hk => by
    by_cases e : k < m
    · exact qHw g m k hk e
    · exact hg k (by omega)
  rcases Nat.lt_trichotomy (szN f n) (szN g m) with e | e | e
  · have := qH6 g m (by omega)
    rw [← h] at this
    exact absurd (zf _ (by omega)) this
  · exact e
  · have := qH6 f n (by omega)
    rw [h] at this
    exact absurd (zg _ (by omega)) this
def strip (cs : List Rat) : List Rat := cs.take (szN (coef cs) cs.length)
theorem qC7 (cs : List Rat) : (strip cs).length = szN (coef cs) cs.length := by
  unfold strip
  rw [List.length_take]
  exact Nat.min_eq_left (qHs _ _)
theorem qPe {cs : List Rat} {n k : Nat} (h : k < n) : coef (cs.take n) k = coef cs k := by
  unfold coef
  rw [List.getElem?_take_of_lt h]
theorem qA7 (cs : List Rat) (k : Nat) : coef (strip cs) k = coef cs k := by
  by_cases h : k < szN (coef cs) cs.length
  · exact qPe h
  · rw [qAr (by rw [qC7]; omega)]
    by_cases e : k < cs.length
    · exact (qHw _ _ k (by omega) e).symm
    · exact (qAr (by omega)).symm
theorem qLw {cs ds : List Rat} (hl : cs.length = ds.length) (h : ∀ k, coef cs k = coef ds k) : cs = ds := by
  refine List.ext_getElem? fun k => ?_
  by_cases e : k < cs.length
  · rw [qLl e, qLl (by omega), h]
  · rw [List.getElem?_eq_none (by omega), List.getElem?_eq_none (by omega)]
theorem qGt {cs ds : List Rat} (h : ∀ k, coef cs k = coef ds k) : strip cs = strip ds := by
  refine qLw ?_ fun k => ?_
  · rw [qC7, qC7]
    exact qAdx (fun k hk => qAr hk) (fun k hk => qAr hk) h
  · rw [qA7, qA7, h]
/-- no zero at the end -/
def Nrm (cs : List Rat) : Prop := strip cs = cs
theorem qLo (cs : List Rat) : Nrm (strip cs) := qGt (qA7 cs)
/-- the last one, or 0 -/
def qAk (cs : List Rat) : Rat := coef cs (cs.length - 1)
theorem qOp {cs : List Rat} (h : Nrm cs) (hl : 0 < cs.length) : qAk cs ≠ 0 := by
  have e := qC7 cs
  rw [h] at e
  have := qH6 (coef cs) cs.length (by omega)
  rw [← e] at this
  exact this
theorem qZh : qAk [] = 0 := rfl
/-! ### sums -/
def qVf (cs ds : List Rat) : List Rat := (List.range (max cs.length ds.length)).map fun k => coef cs k + coef ds k
theorem qM5 (cs ds : List Rat) : (qVf cs ds).length = max cs.length ds.length := by simp [qVf]
theorem qFg {n : Nat} {f : Nat → Rat} {k : Nat} : coef ((List.range n).map f) k = if k < n then f k else 0 := by
  unfold coef
  split
  · rename_i h
    rw [List.getElem?_map, List.getElem?_range h]
    rfl
  · rename_i h
    rw [List.getElem?_eq_none (by simp; omega)]
    rfl
theorem qGx (cs ds : List Rat) (k : Nat) : coef (qVf cs ds) k = coef cs k + coef ds k := by
  unfold qVf
  rw [qFg]
  split
  · rfl
  · rename_i h
    rw [qAr (by omega), qAr (by omega), Rat.add_zero]
def qOc (cs : List Rat) : List Rat := cs.map fun c => -c
theorem qN4 (cs : List Rat) : (qOc cs).length = cs.length := by simp [qOc]
theorem qGs (cs : List Rat) (k : Nat) : coef (qOc cs) k = -coef cs k := by
  unfold coef qOc
  rw [List.getElem?_map]
  cases cs[k]? with
  | none => rfl
  | some c => rfl
/-! ### products -/
/-- the first i rows of the product at k -/
def conv (f g : Nat → Rat) : Nat → Nat → Rat
  | 0, _ => 0
  | i + 1, k => conv f g i k + if i ≤ k then f i * g (k - i) else 0
def qIk (cs ds : List Rat) : List Rat := if cs.length = 0 ∨ ds.length = 0 then [] else (List.range (cs.length + ds.length - 1)).map fun k => conv (coef cs) (coef ds) cs.length k
theorem qNp {f g : Nat → Rat} {m : Nat} (hg : ∀ k, m ≤ k → g k = 0) : ∀ i k, i + m ≤ k + 1 → conv f g i k = 0
  | 0, _, _ => rfl
  | i + 1, k, h => by
    unfold conv
    rw [qNp hg i k (by omega), if_pos (by omega), hg _ (by omega), Rat.mul_zero, Rat.add_zero]
theorem qS3 {f g : Nat → Rat} (hg : ∀ k, g k = 0) : ∀ i k, conv f g i k = 0
  | 0, _ => rfl
  | i + 1, k => by
    unfold conv
    rw [qS3 hg i k, hg, Rat.mul_zero]
    split <;> exact Rat.add_zero _
theorem qE9 (cs ds : List Rat) (k : Nat) : coef (qIk cs ds) k = conv (coef cs) (coef ds) cs.length k := by
  unfold qIk
  split
  · rename_i h
    rcases h with h | h
    · rw [h]
      rfl
    · rw [qS3 (fun k => qAr (by omega))]
      rfl
  · rename_i h
    rw [qFg]
    split
    · rfl
    · rw [qNp (m := ds.length) (fun k hk => qAr hk) _ _ (by omega)]
/-- rows that are zero add nothing -/
theorem qPp {f g : Nat → Rat} {n : Nat} (hf : ∀ k, n ≤ k → f k = 0) : ∀ m, n ≤ m → ∀ k, conv f g m k = conv f g n k := by
  intro m hm k
  induction m with
  | zero => rw [show n = 0 by omega]
  | succ m ih =>
    by_cases e : n ≤ m
    · rw [show conv f g (m + 1) k = conv f g m k + if m ≤ k then f m * g (k - m) else 0 from rfl, ih e, hf m e, Rat.zero_mul]
      split <;> exact Rat.add_zero _
    · rw [show n = m + 1 by omega]
end MR

set_option Elab.async false
set_option linter.all false
set_option maxRecDepth 100000
set_option maxHeartbeats 4000000
set_option exponentiation.threshold 20000
/-! FL: a layer without a heap: data, what represents them -/
namespace MR
open PySem PySem.Spec PyProof.Rows L2 LamX
/-- a datum -/
inductive D where
  | non | bl (b : Bool) | int (i : Int) | str (x : Str) | rat (q : Rat) | poly (cs : List Rat)
  | lst (ds : List D) | tup (ds : List D) | ins (C : Str) (ns : List Str) (ds : List D) | feed | exc | adr (a : Addr) | scr (ns : List Int)
  | dct (ks : List Key) (ds : List D) | exn (C : Str) (ns : List Str) (ds : List D)
/-- an exception: its class, its fields -/
structure Exn where
  cls : Str
  fs : List (Str × D)
abbrev Env := List (Option D)
def FeedC (K : PySem.W.Frag) (H : Hp) (f c : Addr) : Prop := ∃ ns p b l n s o, FeedAt K H f c ns p b l n s ∧ H c = some (.lst o)
/-- places that change: the feed's, and those of the tables of code objects -/
structure Fd where
  f : Option Addr
  T : List (Addr × Str)
def Fd.no (F : Fd) (p : Addr) : Prop := F.f ≠ some p ∧ ∀ q, q ∈ F.T → q.1 ≠ p
/-- an object that is none of the tables' -/
def Pl : HO → Prop
  | .lst _ => True
  | .ins _ _ _ => True
  | .dK _ => True
  | _ => False
theorem qKq {T : List (Addr × Str)} {H H' : Hp} (t : Tabs T H) (h : ∀ b o, H b = some o → ¬ Pl o → H' b = some o) : Tabs T H' := fun p hp => by
  obtain ⟨ps, h1, h2, h3⟩ := t p hp
  refine ⟨ps, h _ _ h1 (fun z => z), h2, fun pos cv hc => ?_⟩
  obtain ⟨c, e1, e2⟩ := h3 pos cv hc
  exact ⟨c, e1, h _ _ e2 (fun z => z)⟩
theorem qId {T : List (Addr × Str)} {H : Hp} {p : Addr} {o u : HO} (t : Tabs T H) (h : H p = some o) (hp : Pl o) : Tabs T (upd H p u) := qKq t fun b v e n => by
  rw [upd_ne (fun z => n (by rw [z, h] at e; cases e; exact hp))]
  exact e
theorem qAbp {T : List (Addr × Str)} {H : Hp} {p : Addr} {f : Option Addr} (t : Tabs T H) (h : H p = none) (hf : f ≠ some p) : Fd.no ⟨f, T⟩ p := ⟨hf, fun q hq z => by
  obtain ⟨ps, h1, _⟩ := t q hq
  rw [z, h] at h1; cases h1⟩
/-- the place p may be used: it is not the feed's, nobody owns it -/
def Ok (F : Fd) (M : Addr → Prop) (p : Addr) : Prop := F.no p ∧ ¬ M p
/-- the script: a list that is only read -/
def Scr (K : PySem.W.Frag) (F : Fd) (M : Addr → Prop) (H : Hp) (ns : List Int) (a : Addr) : Prop :=
  (∃ o, Ok F M a ∧ H a = some o ∧ (o = .lst (ns.map V.int) ∨ ∃ f, o = .frz f (.lst (ns.map V.int)))) ∨
    ∃ (o : Obj) (its : Array Value) (n : Nat), K.lookup a = some o ∧ o.cls = .type "list" ∧ o.dict = none ∧ o.data = .seq its n ∧ its.size ≤ sizeLine ∧ Vals (ns.map V.int) its.toList
theorem Scr.of {K : PySem.W.Frag} {F : Fd} {M : Addr → Prop} {H : Hp} {ns : List Int} {a : Addr} (h : SqL K H a (ns.map V.int)) (ok : Ok F M a) : Scr K F M H ns a := by
  rcases h with (h | ⟨f, h⟩) | h
  · exact .inl ⟨_, ok, h, .inl rfl⟩
  · exact .inl ⟨_, ok, h, .inr ⟨f, rfl⟩⟩
  · exact .inr h
section
variable (K : PySem.W.Frag) (F : Fd) (M : Addr → Prop) (H : Hp)
def RRat (q : Rat) (v : V) : Prop := ∃ p, v = .ref p ∧ Ok F M p ∧ IsRat K H p q
def RRats : List Rat → List V → Prop
  | [], vs => vs = []
  | q :: qs, vs => ∃ v us, vs = v :: us ∧ RRat K F M H q v ∧ RRats qs us
abbrev CP (K : PySem.W.Frag) : Addr := He.ga K "Poly"
def qSf (t l : Addr) (n : Nat) : List (Str × V) := [("coefficients", .ref t), ("degree", .int ((n : Int) - 1)), ("lead", .ref l)]
mutual
/-- v is the datum -/
def Rep : D → V → Prop
  | .non, v => v = .non
  | .bl b, v => v = .bl b
  | .int i, v => v = .int i
  | .str x, v => v = .str x
  | .rat q, v => RRat K F M H q v
  | .poly cs, v => ∃ p dx t l vs, v = .ref p ∧ Ok F M p ∧ H p = some (.ins (CP K) dx (qSf t l cs.length)) ∧ Ok F M t ∧ H t = some (.tup vs) ∧ RRats K F M H cs vs ∧ RRat K F M H (qAk cs) (.ref l) ∧ Nrm cs
  | .lst ds, v => ∃ p vs, v = .ref p ∧ Ok F M p ∧ H p = some (.lst vs) ∧ Reps ds vs
  | .tup ds, v => ∃ p vs, v = .ref p ∧ Ok F M p ∧ H p = some (.tup vs) ∧ Reps ds vs
  | .ins C ns ds, v => ∃ p dx gs, v = .ref p ∧ Ok F M p ∧ H p = some (.ins (He.ga K C) dx gs) ∧ gs.map Prod.fst = ns ∧ Reps ds (gs.map Prod.snd)
  | .feed, v => ∃ f, F.f = some f ∧ v = .ref f
  | .exc, v => ∃ a, v = .ref a
  | .adr a, v => v = .ref a
  | .scr ns, v => ∃ a, v = .ref a ∧ Scr K F M H ns a
  | .dct ks ds, v => ∃ p kvs, v = .ref p ∧ Ok F M p ∧ H p = some (.dK kvs) ∧ kvs.map Prod.fst = ks ∧ Reps ds (kvs.map Prod.snd)
  | .exn C ns ds, v => ∃ e dx gs, v = .ref e ∧ Ok F M e ∧ H e = some (exo e (He.ga K C) dx) ∧ (∀ d, dx = some d → Ok F M d ∧ H d = some (.xd gs)) ∧ (dx = none → gs = []) ∧ gs.map Prod.fst = ns ∧ Reps ds (gs.map Prod.snd)
def Reps : List D → List V → Prop
  | [], vs => vs = []
  | d :: ds, vs => ∃ v us, vs = v :: us ∧ Rep d v ∧ Reps ds us
end
/-- an object that one name alone holds -/
def RepO : D → HO → Prop
  | .lst ds, o => ∃ vs, o = .lst vs ∧ Reps K F M H ds vs
  | .ins C ns ds, o => ∃ dx gs, o = .ins (He.ga K C) dx gs ∧ gs.map Prod.fst = ns ∧ Reps K F M H ds (gs.map Prod.snd)
  | .dct ks ds, o => ∃ kvs, o = .dK kvs ∧ kvs.map Prod.fst = ks ∧ Reps K F M H ds (kvs.map Prod.snd)
  | _, _ => False
end
section
variable {K : PySem.W.Frag} {F : Fd} {M M' : Addr → Prop} {H H' : Hp}
/-- what was usable stands, and is usable -/
def Goes (F : Fd) (M : Addr → Prop) (H : Hp) (M' : Addr → Prop) (H' : Hp) : Prop := ∀ p o, H p = some o → F.no p → ¬ M p → H' p = some o ∧ ¬ M' p
theorem RRat.goes (g : Goes F M H M' H') {q : Rat} {v : V} (h : RRat K F M H q v) : RRat K F M' H' q v := by
  obtain ⟨p, rfl, ok, dx, e⟩ := h
  obtain ⟨e', n⟩ := g p _ e ok.1 ok.2
  exact ⟨p, rfl, ⟨ok.1, n⟩, dx, e'⟩
theorem RRats.goes (g : Goes F M H M' H') : ∀ {qs : List Rat} {vs : List V}, RRats K F M H qs vs → RRats K F M' H' qs vs
  | [], _, h => h
  | _ :: _, _, h => by
    obtain ⟨v, us, rfl, h1, h2⟩ := h
    exact ⟨v, us, rfl, h1.goes g, RRats.goes g h2⟩
mutual
theorem Rep.goes (g : Goes F M H M' H') : ∀ (d : D) (v : V), Rep K F M H d v → Rep K F M' H' d v
  | .non, v, h => h
  | .bl b, v, h => h
  | .int i, v, h => h
  | .str x, v, h => h
  | .feed, v, h => h
  | .exc, v, h => h
  | .adr a, v, h => h
  | .scr ns, v, h => by
    obtain ⟨a, rfl, ⟨o, ok, e, z⟩ | z⟩ := h
    · obtain ⟨e', n1⟩ := g a _ e ok.1 ok.2
      exact ⟨a, rfl, .inl ⟨o, ⟨ok.1, n1⟩, e', z⟩⟩
    · exact ⟨a, rfl, .inr z⟩
  | .rat q, v, h => RRat.goes g h
  | .poly cs, v, h => by
    obtain ⟨p, dx, t, l, vs, rfl, ok, e, okt, et, r, rl, n⟩ := h
    obtain ⟨e', n1⟩ := g p _ e ok.1 ok.2
    obtain ⟨et', n2⟩ := g t _ et okt.1 okt.2
    exact ⟨p, dx, t, l, vs, rfl, ⟨ok.1, n1⟩, e', ⟨okt.1, n2⟩, et', r.goes g, rl.goes g, n⟩
  | .lst ds, v, h => by
    obtain ⟨p, vs, rfl, ok, e, r⟩ := h
    obtain ⟨e', n1⟩ := g p _ e ok.1 ok.2
    exact ⟨p, vs, rfl, ⟨ok.1, n1⟩, e', Reps.goes g ds vs r⟩
  | .tup ds, v, h => by
    obtain ⟨p, vs, rfl, ok, e, r⟩ := h
    obtain ⟨e', n1⟩ := g p _ e ok.1 ok.2
    exact ⟨p, vs, rfl, ⟨ok.1, n1⟩, e', Reps.goes g ds vs r⟩
  | .ins C ns ds, v, h => by
    obtain ⟨p, dx, gs, rfl, ok, e, en, r⟩ := h
    obtain ⟨e', n1⟩ := g p _ e ok.1 ok.2
    exact ⟨p, dx, gs, rfl, ⟨ok.1, n1⟩, e', en, Reps.goes g ds _ r⟩
  | .dct ks ds, v, h => by
    obtain ⟨p, gs, rfl, ok, e, en, r⟩ := h
    obtain ⟨e', n1⟩ := g p _ e ok.1 ok.2
    exact ⟨p, gs, rfl, ⟨ok.1, n1⟩, e', en, Reps.goes g ds _ r⟩
  | .exn C ns ds, v, h => by
    obtain ⟨p, dx, gs, rfl, ok, e, hd, hn, en, r⟩ := h
    obtain ⟨e', n1⟩ := g p _ e ok.1 ok.2
    exact ⟨p, dx, gs, rfl, ⟨ok.1, n1⟩, e', fun d z => let ⟨okd, ed⟩ := hd d z; let ⟨e2, n2⟩ := g d _ ed okd.1 okd.2; ⟨⟨okd.1, n2⟩, e2⟩, hn, en, Reps.goes g ds _ r⟩
theorem Reps.goes (g : Goes F M H M' H') : ∀ (ds : List D) (vs : List V), Reps K F M H ds vs → Reps K F M' H' ds vs
  | [], _, h => h
  | d :: ds, _, h => by
    obtain ⟨v, us, rfl, h1, h2⟩ := h
    exact ⟨v, us, rfl, Rep.goes g d v h1, Reps.goes g ds us h2⟩
end
theorem RepO.pl {d : D} {o : HO} (h : RepO K F M H d o) : Pl o := by
  cases d with
  | lst ds => obtain ⟨vs, rfl, r⟩ := h; trivial
  | ins C ns ds => obtain ⟨dx, gs, rfl, en, r⟩ := h; trivial
  | dct ks ds => obtain ⟨gs, rfl, en, r⟩ := h; trivial
  | _ => exact h.elim
theorem RepO.goes (g : Goes F M H M' H') {d : D} {o : HO} (h : RepO K F M H d o) : RepO K F M' H' d o := by
  cases d with
  | lst ds => obtain ⟨vs, rfl, r⟩ := h; exact ⟨vs, rfl, Reps.goes g _ _ r⟩
  | ins C ns ds => obtain ⟨dx, gs, rfl, en, r⟩ := h; exact ⟨dx, gs, rfl, en, Reps.goes g _ _ r⟩
  | dct ks ds => obtain ⟨gs, rfl, en, r⟩ := h; exact ⟨gs, rfl, en, Reps.goes g _ _ r⟩
  | _ => exact h.elim
mutual
/-- no list within -/
def D.noL : D → Bool
  | .lst _ => false
  | .tup ds => D.noLs ds
  | .ins _ _ ds => D.noLs ds
  | .feed => false
  | .exc => false
  | .adr _ => false
  | .scr _ => false
  | .dct _ _ => false
  | .exn _ _ ds => D.noLs ds
  | _ => true
def D.noLs : List D → Bool
  | [] => true
  | d :: ds => d.noL && D.noLs ds
end
/-- M' has lists only -/
def Lists (M' : Addr → Prop) (H : Hp) : Prop := ∀ p, M' p → ∃ xs, H p = some (.lst xs)
theorem RRat.noL (g : Lists M' H) {q : Rat} {v : V} (h : RRat K F M H q v) : RRat K F (fun p => M p ∨ M' p) H q v := by
  obtain ⟨p, rfl, ok, dx, e⟩ := h
  refine ⟨p, rfl, ⟨ok.1, fun z => z.elim ok.2 fun m => ?_⟩, dx, e⟩
  obtain ⟨xs, y⟩ := g p m
  rw [e] at y; cases y
theorem RRats.noL (g : Lists M' H) : ∀ {qs : List Rat} {vs : List V}, RRats K F M H qs vs → RRats K F (fun p => M p ∨ M' p) H qs vs
  | [], _, h => h
  | _ :: _, _, h => by
    obtain ⟨v, us, rfl, h1, h2⟩ := h
    exact ⟨v, us, rfl, h1.noL g, RRats.noL g h2⟩
theorem qM0 (g : Lists M' H) {p : Addr} {o : HO} (ok : Ok F M p) (e : H p = some o) (n : ∀ xs, o ≠ .lst xs) : Ok F (fun p => M p ∨ M' p) p := ⟨ok.1, fun z => z.elim ok.2 fun m => by
  obtain ⟨xs, y⟩ := g p m
  rw [e] at y
  exact n xs (Option.some.inj y)⟩
mutual
theorem Rep.noL (g : Lists M' H) : ∀ (d : D) (v : V), d.noL = true → Rep K F M H d v → Rep K F (fun p => M p ∨ M' p) H d v
  | .non, v, _, h => h
  | .bl b, v, _, h => h
  | .int i, v, _, h => h
  | .str x, v, _, h => h
  | .feed, v, n, h => h
  | .exc, v, n, h => h
  | .adr a, v, n, h => h
  | .scr ns, v, n, h => by simp [D.noL] at n
  | .rat q, v, _, h => RRat.noL g h
  | .poly cs, v, _, h => by
    obtain ⟨p, dx, t, l, vs, rfl, ok, e, okt, et, r, rl, n⟩ := h
    exact ⟨p, dx, t, l, vs, rfl, qM0 g ok e (fun _ z => by cases z), e, qM0 g okt et (fun _ z => by cases z), et, r.noL g, rl.noL g, n⟩
  | .lst ds, v, n, h => by simp [D.noL] at n
  | .tup ds, v, n, h => by
    obtain ⟨p, vs, rfl, ok, e, r⟩ := h
    exact ⟨p, vs, rfl, qM0 g ok e (fun _ z => by cases z), e, Reps.noL g ds vs (by simpa [D.noL] using n) r⟩
  | .ins C ns ds, v, n, h => by
    obtain ⟨p, dx, gs, rfl, ok, e, en, r⟩ := h
    exact ⟨p, dx, gs, rfl, qM0 g ok e (fun _ z => by cases z), e, en, Reps.noL g ds _ (by simpa [D.noL] using n) r⟩
  | .dct ks ds, v, n, h => by simp [D.noL] at n
  | .exn C ns ds, v, n, h => by
    obtain ⟨p, dx, gs, rfl, ok, e, hd, hn, en, r⟩ := h
    exact ⟨p, dx, gs, rfl, qM0 g ok e (fun _ z => by have z' : HO.ext _ = HO.lst _ := z; cases z'), e, fun d z => let ⟨okd, ed⟩ := hd d z; ⟨qM0 g okd ed (fun _ z => by cases z), ed⟩, hn, en, Reps.noL g ds _ (by simpa [D.noL] using n) r⟩
theorem Reps.noL (g : Lists M' H) : ∀ (ds : List D) (vs : List V), D.noLs ds = true → Reps K F M H ds vs → Reps K F (fun p => M p ∨ M' p) H ds vs
  | [], _, _, h => h
  | d :: ds, _, n, h => by
    obtain ⟨v, us, rfl, h1, h2⟩ := h
    simp only [D.noLs, Bool.and_eq_true] at n
    exact ⟨v, us, rfl, Rep.noL g d v n.1 h1, Reps.noL g ds us n.2 h2⟩
end
/-! ### lists of data -/
theorem Reps.length : ∀ {ds : List D} {vs : List V}, Reps K F M H ds vs → vs.length = ds.length
  | [], _, h => by rw [show _ = [] from h]; rfl
  | d :: ds, _, h => by
    obtain ⟨v, us, rfl, _, h2⟩ := h
    rw [List.length_cons, List.length_cons, Reps.length h2]
theorem Reps.get : ∀ {ds : List D} {vs : List V} {i : Nat} {d : D}, Reps K F M H ds vs → ds[i]? = some d → ∃ v, vs[i]? = some v ∧ Rep K F M H d v
  | [], _, i, d, _, h => by simp at h
  | e :: ds, _, i, d, h, hi => by
    obtain ⟨v, us, rfl, h1, h2⟩ := h
    cases i with
    | zero => simp at hi; subst hi; exact ⟨v, rfl, h1⟩
    | succ i =>
      simp at hi
      obtain ⟨w, e1, e2⟩ := Reps.get h2 hi
      exact ⟨w, by simpa using e1, e2⟩
theorem Reps.append : ∀ {ds es : List D} {vs ws : List V}, Reps K F M H ds vs → Reps K F M H es ws → Reps K F M H (ds ++ es) (vs ++ ws)
  | [], _, _, _, h, h' => by rw [show _ = [] from h]; exact h'
  | d :: ds, _, _, _, h, h' => by
    obtain ⟨v, us, rfl, h1, h2⟩ := h
    exact ⟨v, us ++ _, rfl, h1, Reps.append h2 h'⟩
theorem Reps.one {d : D} {v : V} (h : Rep K F M H d v) : Reps K F M H [d] [v] := ⟨v, [], rfl, h, rfl⟩
theorem Reps.cons {d : D} {v : V} {ds : List D} {vs : List V} (h : Rep K F M H d v) (h' : Reps K F M H ds vs) : Reps K F M H (d :: ds) (v :: vs) := ⟨v, vs, rfl, h, h'⟩
theorem Reps.set : ∀ {ds : List D} {vs : List V} {i : Nat} {d : D} {v : V}, Reps K F M H ds vs → Rep K F M H d v → Reps K F M H (ds.set i d) (vs.set i v)
  | [], _, i, d, v, h, _ => by rw [show _ = [] from h]; exact rfl
  | e :: ds, _, i, d, v, h, hd => by
    obtain ⟨w, us, rfl, h1, h2⟩ := h
    cases i with
    | zero => exact ⟨v, us, rfl, hd, h2⟩
    | succ i => exact ⟨w, us.set i v, rfl, h1, Reps.set h2 hd⟩
theorem Reps.drop : ∀ {ds : List D} {vs : List V} (n : Nat), Reps K F M H ds vs → Reps K F M H (ds.drop n) (vs.drop n)
  | _, _, 0, h => h
  | [], _, n + 1, h => by rw [show _ = [] from h]; exact rfl
  | e :: ds, _, n + 1, h => by
    obtain ⟨w, us, rfl, h1, h2⟩ := h
    exact Reps.drop n h2
theorem Reps.take : ∀ {ds : List D} {vs : List V} (n : Nat), Reps K F M H ds vs → Reps K F M H (ds.take n) (vs.take n)
  | _, _, 0, h => rfl
  | [], _, n + 1, h => by rw [show _ = [] from h]; exact rfl
  | e :: ds, _, n + 1, h => by
    obtain ⟨w, us, rfl, h1, h2⟩ := h
    exact ⟨w, us.take n, rfl, h1, Reps.take n h2⟩
theorem Reps.ints : ∀ {ns : List Int} {vs : List V}, Reps K F M H (ns.map D.int) vs → vs = ns.map V.int
  | [], _, h => h
  | n :: ns, _, h => by
    obtain ⟨w, us, rfl, h1, h2⟩ := h
    rw [show w = V.int n from h1, Reps.ints h2]
    rfl
theorem RRats.reps : ∀ {qs : List Rat} {vs : List V}, RRats K F M H qs vs → Reps K F M H (qs.map D.rat) vs
  | [], _, h => h
  | q :: qs, _, h => by
    obtain ⟨w, us, rfl, h1, h2⟩ := h
    exact ⟨w, us, rfl, h1, RRats.reps h2⟩
theorem RRats.of : ∀ {qs : List Rat} {vs : List V}, Reps K F M H (qs.map D.rat) vs → RRats K F M H qs vs
  | [], _, h => h
  | q :: qs, _, h => by
    obtain ⟨w, us, rfl, h1, h2⟩ := h
    exact ⟨w, us, rfl, h1, RRats.of h2⟩
end
/-! ### heaps -/
/-- all but the feed stands, the feed is one -/
structure Gr (K : PySem.W.Frag) (F : Fd) (H H' : Hp) : Prop where
  old : ∀ b o, H b = some o → F.no b → H' b = some o
  feed : ∀ f c, F.f = some f → FeedC K H f c → FeedC K H' f c
  tab : Tabs F.T H → Tabs F.T H'
theorem FeedC.same {K : PySem.W.Frag} {H H' : Hp} {f c : Addr} (s : Same H H') (h : FeedC K H f c) : FeedC K H' f c := let ⟨ns, p, b, l, n, z, o, G, e⟩ := h; ⟨ns, p, b, l, n, z, o, G.same s, s _ _ e⟩
theorem Gr.refl {K : PySem.W.Frag} {F : Fd} {H : Hp} : Gr K F H H := ⟨fun _ _ h _ => h, fun _ _ _ h => h, fun h => h⟩
theorem Gr.trans {K : PySem.W.Frag} {F : Fd} {H H1 H2 : Hp} (a : Gr K F H H1) (b : Gr K F H1 H2) : Gr K F H H2 := ⟨fun c o h n => b.old c o (a.old c o h n) n, fun f c e h => b.feed f c e (a.feed f c e h), fun h => b.tab (a.tab h)⟩
theorem Gr.same {K : PySem.W.Frag} {F : Fd} {H H' : Hp} (s : Same H H') : Gr K F H H' := ⟨fun b o h _ => s b o h, fun _ _ _ h => h.same s, fun h => h.ext s⟩
theorem Gr.new {K : PySem.W.Frag} {F : Fd} {H : Hp} {p : Addr} {o : HO} (n : H p = none) : Gr K F H (upd H p o) := .same (qN3 n)
theorem Gr.goes {K : PySem.W.Frag} {F : Fd} {H H' : Hp} {M : Addr → Prop} (g : Gr K F H H') : Goes F M H M H' := fun p o h n m => ⟨g.old p o h n, m⟩
theorem FeedC.keep {K : PySem.W.Frag} {H : Hp} {f c p : Addr} {o : HO} (h : FeedC K H f c) (n : p ≠ f) (m : p ≠ c) : FeedC K (upd H p o) f c := by
  obtain ⟨ns, x, b, l, k, s, o', G, e⟩ := h
  refine ⟨ns, x, b, l, k, s, o', ⟨by rw [upd_ne (Ne.symm n)]; exact G.ob, ?_, G.ne, G.nn, G.p0, G.b0, G.l0, G.n0, G.s0⟩, by rw [upd_ne (Ne.symm m)]; exact e⟩
  exact qXj (f := p) qDy (Ne.symm m) G.cs
/-! ### the names of a def -/
/-- the places that the names of ow hold -/
def Mo (ow : List Nat) (σ : L2.St) (p : Addr) : Prop := ∃ i, i ∈ ow ∧ σ[i]? = some (some (.ref p))
def Sl (R : D → V → Prop) : Option (Option D) → Option (Option V) → Prop
  | some (some d), some (some v) => R d v
  | some none, some none => True
  | none, none => True
  | _, _ => False
/-- a world: the feed's place, what the callers own, the heap at the start -/
structure Wd where
  F : Fd
  M : Addr → Prop
  H0 : Hp
abbrev Wd.Mx (w : Wd) (ow : List Nat) (σ : L2.St) (p : Addr) : Prop := w.M p ∨ Mo ow σ p
structure REnv (K : PySem.W.Frag) (Ta : List (Addr × Str)) (w : Wd) (ow : List Nat) (H : Hp) (σ : L2.St) (ρ : Env) : Prop where
  gr : Gr K w.F w.H0 H
  live : ∀ p, w.M p → ∃ o, w.H0 p = some o
  nf : ∀ p, w.M p → w.F.no p
  imm : ∀ i, i ∉ ow → Sl (Rep K w.F (w.Mx ow σ) H) ρ[i]? σ[i]?
  own : ∀ i, i ∈ ow → ∃ p o d, σ[i]? = some (some (.ref p)) ∧ ρ[i]? = some (some d) ∧ H p = some o ∧ RepO K w.F (w.Mx ow σ) H d o ∧ w.F.no p ∧ w.H0 p = none
  inj : ∀ i, i ∈ ow → ∀ j, j ∈ ow → i ≠ j → ∀ p, σ[i]? = some (some (.ref p)) → σ[j]? ≠ some (some (.ref p))
  feed : ∀ f, w.F.f = some f → ∃ c, FeedC K H f c ∧ ¬ w.Mx ow σ c
  tab : Tabs w.F.T H
  ts : w.F.T = Ta
theorem Sl.mono {R R' : D → V → Prop} (h : ∀ d v, R d v → R' d v) : ∀ {a : Option (Option D)} {b : Option (Option V)}, Sl R a b → Sl R' a b
  | some (some d), some (some v), z => h d v z
  | some none, some none, z => z
  | none, none, z => z
section
variable {K : PySem.W.Frag} {w : Wd} {ow ow' : List Nat} {H H' : Hp} {σ : L2.St} {ρ : Env}
theorem REnv.grow (e : REnv K Ta w ow H σ ρ) (g : Gr K w.F H H') : REnv K Ta w ow H' σ ρ where
  gr := e.gr.trans g
  live := e.live
  nf := e.nf
  imm i hi := (e.imm i hi).mono fun d v => Rep.goes g.goes d v
  own i hi := by
    obtain ⟨p, o, d, h1, h2, h3, h4, h5, h6⟩ := e.own i hi
    exact ⟨p, o, d, h1, h2, g.old _ _ h3 h5, h4.goes g.goes, h5, h6⟩
  inj := e.inj
  feed f hf := by
    obtain ⟨c, h1, h2⟩ := e.feed f hf
    exact ⟨c, g.feed f c hf h1, h2⟩
  tab := g.tab e.tab
  ts := e.ts
/-- names of ow are let go -/
theorem REnv.free (e : REnv K Ta w ow H σ ρ) (hs : ∀ i, i ∈ ow' → i ∈ ow) : REnv K Ta w ow' H σ ρ := by
  have sub : ∀ p, w.Mx ow' σ p → w.Mx ow σ p := fun p h => h.elim .inl fun ⟨i, h1, h2⟩ => .inr ⟨i, hs i h1, h2⟩
  have go : Goes w.F (w.Mx ow σ) H (w.Mx ow' σ) H := fun p o h _ m => ⟨h, fun z => m (sub p z)⟩
  refine ⟨e.gr, e.live, e.nf, fun i hi => ?_, fun i hi => ?_, fun i hi j hj => e.inj i (hs i hi) j (hs j hj), fun f hf => ?_, e.tab, e.ts⟩
  · by_cases hm : i ∈ ow
    · obtain ⟨p, o, d, h1, h2, h3, h4, h5, h6⟩ := e.own i hm
      rw [h1, h2]
      have nm : ¬ w.Mx ow' σ p := fun z => by
        rcases z with z | ⟨j, hj, z⟩
        · obtain ⟨o', y⟩ := e.live p z
          rw [h6] at y; cases y
        · by_cases hij : i = j
          · rw [hij] at hi; exact hi hj
          · exact e.inj i hm j (hs j hj) hij p h1 z
      have h4 := h4.goes go
      cases d with
      | lst ds => obtain ⟨vs, rfl, r⟩ := h4; exact ⟨p, vs, rfl, ⟨h5, nm⟩, h3, r⟩
      | ins C ns ds => obtain ⟨dx, gs, rfl, en, r⟩ := h4; exact ⟨p, dx, gs, rfl, ⟨h5, nm⟩, h3, en, r⟩
      | dct ks ds => obtain ⟨gs, rfl, en, r⟩ := h4; exact ⟨p, gs, rfl, ⟨h5, nm⟩, h3, en, r⟩
      | _ => exact h4.elim
    · exact (e.imm i hm).mono fun d v => Rep.goes go d v
  · obtain ⟨p, o, d, h1, h2, h3, h4, h5⟩ := e.own i (hs i hi)
    exact ⟨p, o, d, h1, h2, h3, h4.goes go, h5⟩
  · obtain ⟨c, h1, h2⟩ := e.feed f hf
    exact ⟨c, h1, fun z => h2 (sub c z)⟩
end
end MR

set_option Elab.async false
set_option linter.all false
set_option maxRecDepth 100000
set_option maxHeartbeats 4000000
set_option exponentiation.threshold 20000
/-! FL: readings without a heap, expressions -/
namespace MR
open PySem PySem.Spec PyProof.Rows L2
abbrev XP := Exn → Prop
abbrev FE := Env → (D → Prop) → XP → Prop
abbrev FT := Env → (Bool → Prop) → XP → Prop
abbrev FA := Env → (List D → Prop) → XP → Prop
def RepXs (K : PySem.W.Frag) (F : Fd) (H : Hp) : List (Str × D) → List (Str × V) → Prop
  | [], gs => gs = []
  | (n, d) :: r, gs => ∃ v gr, gs = (n, v) :: gr ∧ Rep K F (fun _ => False) H d v ∧ RepXs K F H r gr
/-- an exception as it lies there -/
def RepX (K : PySem.W.Frag) (F : Fd) (H : Hp) (cls : Value) (dd : Option Addr) (x : Exn) : Prop :=
  cls = .ref (He.ga K x.cls) ∧ ((x.fs = [] ∧ dd = none) ∨ ∃ a gs, dd = some a ∧ F.no a ∧ H a = some (.xd gs) ∧ RepXs K F H x.fs gs)
abbrev Post (K : PySem.W.Frag) (F : Fd) (M : Addr → Prop) (H : Hp) (P : D → Prop) (Q : VK) : Prop := ∀ d v H', P d → Gr K F H H' → Rep K F M H' d v → Q v H'
abbrev PostX (K : PySem.W.Frag) (F : Fd) (H : Hp) (X : XP) (E : XK) : Prop := ∀ x cls dd H', X x → Gr K F H H' → RepX K F H' cls dd x → E cls dd H'
def SE (K : PySem.W.Frag) (Ta : List (Addr × Str)) (ow : List Nat) (E : L2.St → XK) (ta : TE) (fa : FE) : Prop :=
  ∀ (w : Wd) (H : Hp) (σ : L2.St) (ρ : Env) (P : D → Prop) (X : XP) (Q : VK), REnv K Ta w ow H σ ρ → fa ρ P X → Post K w.F (w.Mx ow σ) H P Q → PostX K w.F H X (E σ) → ta σ H Q
def STt (K : PySem.W.Frag) (Ta : List (Addr × Str)) (ow : List Nat) (E : L2.St → XK) (ta : TT) (fa : FT) : Prop :=
  ∀ (w : Wd) (H : Hp) (σ : L2.St) (ρ : Env) (P : Bool → Prop) (X : XP) (Q : Bool → Hp → Prop), REnv K Ta w ow H σ ρ → fa ρ P X → (∀ b H', P b → Gr K w.F H H' → Q b H') → PostX K w.F H X (E σ) → ta σ H Q
def SA (K : PySem.W.Frag) (Ta : List (Addr × Str)) (ow : List Nat) (E : L2.St → XK) (ta : TA) (fa : FA) : Prop :=
  ∀ (w : Wd) (H : Hp) (σ : L2.St) (ρ : Env) (P : List D → Prop) (X : XP) (Q : List V → Hp → Prop), REnv K Ta w ow H σ ρ → fa ρ P X → (∀ ds vs H', P ds → Gr K w.F H H' → Reps K w.F (w.Mx ow σ) H' ds vs → Q vs H') → PostX K w.F H X (E σ) → ta σ H Q
/-- all of M and the feed is there -/
structure Lv (K : PySem.W.Frag) (F : Fd) (M : Addr → Prop) (H : Hp) : Prop where
  m : ∀ p, M p → ∃ o, H p = some o
  f : ∀ f, F.f = some f → ∃ c, FeedC K H f c ∧ ¬ M c
  nf : ∀ p, M p → F.no p
  t : LamX.Tabs F.T H
section
variable {K : PySem.W.Frag} {F : Fd} {M : Addr → Prop} {H H' : Hp}
theorem FeedC.some {f c : Addr} (h : FeedC K H f c) : ∃ o, H f = some o := let ⟨_, _, _, _, _, _, _, G, _⟩ := h; ⟨_, G.ob⟩
theorem Lv.ok (l : Lv K F M H) {p : Addr} (n : H p = none) : Ok F M p := by
  refine ⟨qAbp l.t n fun z => ?_, fun z => ?_⟩
  · obtain ⟨c, h, _⟩ := l.f p z
    obtain ⟨o, e⟩ := h.some
    rw [n] at e; cases e
  · obtain ⟨o, e⟩ := l.m p z
    rw [n] at e; cases e
theorem Lv.gr (l : Lv K F M H) (g : Gr K F H H') : Lv K F M H' := ⟨fun p m => let ⟨o, e⟩ := l.m p m; ⟨o, g.old _ _ e (l.nf p m)⟩, fun f e => let ⟨c, h, n⟩ := l.f f e; ⟨c, g.feed f c e h, n⟩, l.nf, g.tab l.t⟩
end
section
variable {K : PySem.W.Frag} {w : Wd} {ow : List Nat} {H H' : Hp} {σ : L2.St} {ρ : Env} {E : L2.St → XK}
theorem REnv.lv (e : REnv K Ta w ow H σ ρ) : Lv K w.F (w.Mx ow σ) H := by
  refine ⟨fun p m => ?_, e.feed, fun p m => ?_, e.tab⟩
  · rcases m with m | ⟨i, hi, z⟩
    · obtain ⟨o, h⟩ := e.live p m
      exact ⟨o, e.gr.old _ _ h (e.nf p m)⟩
    · obtain ⟨p', o, d, h1, _, h3, _⟩ := e.own i hi
      rw [h1] at z; cases z
      exact ⟨o, h3⟩
  · rcases m with m | ⟨i, hi, z⟩
    · exact e.nf p m
    · obtain ⟨p', o, d, h1, _, h3, _, h5, _⟩ := e.own i hi
      rw [h1] at z; cases z
      exact h5
theorem PostX.gr {F : Fd} {X : XP} {E : XK} (h : PostX K F H X E) (g : Gr K F H H') : PostX K F H' X E := fun x cls dd H2 hx g2 r => h x cls dd H2 hx (g.trans g2) r
/-! ### names, constants -/
def qAe (i : Nat) : FE := fun ρ P _ => ∃ d, ρ[i]? = some (some d) ∧ P d
theorem qAb {i : Nat} (hi : i ∉ ow) : SE K Ta ow E (tVar i) (qAe i) := by
  intro w H σ ρ P X Q e h q x
  obtain ⟨d, hd, p⟩ := h
  have := e.imm i hi
  rw [hd] at this
  cases hv : σ[i]? with
  | none => rw [hv] at this; exact this.elim
  | some o =>
    rw [hv] at this
    cases o with
    | none => exact this.elim
    | some v => exact ⟨v, hv, q d v H p .refl this⟩
def fC (d : D) : FE := fun _ P _ => P d
theorem qAi {i : Int} : SE K Ta ow E (tC (.int i)) (fC (.int i)) := fun w H σ ρ P X Q e h q x => q _ _ _ h .refl rfl
theorem qM2 {i : Bool} : SE K Ta ow E (tC (.bl i)) (fC (.bl i)) := fun w H σ ρ P X Q e h q x => q _ _ _ h .refl rfl
theorem qZw {i : Str} : SE K Ta ow E (tC (.str i)) (fC (.str i)) := fun w H σ ρ P X Q e h q x => q _ _ _ h .refl rfl
/-! ### operators by values -/
abbrev O2 := D → D → (D → Prop) → XP → Prop
abbrev O1 := D → (D → Prop) → XP → Prop
abbrev OL := List D → (D → Prop) → XP → Prop
def OpS (K : PySem.W.Frag) (E : XK) (r : R2) (o : O2) : Prop := ∀ (F : Fd) (M : Addr → Prop) (H : Hp) (x y : V) (a b : D) (P : D → Prop) (X : XP) (Q : VK), Lv K F M H → Rep K F M H a x → Rep K F M H b y → o a b P X → Post K F M H P Q → PostX K F H X E → r x y H Q
def UnS (K : PySem.W.Frag) (E : XK) (r : V → Hp → VK → Prop) (o : O1) : Prop := ∀ (F : Fd) (M : Addr → Prop) (H : Hp) (x : V) (a : D) (P : D → Prop) (X : XP) (Q : VK), Lv K F M H → Rep K F M H a x → o a P X → Post K F M H P Q → PostX K F H X E → r x H Q
def LsS (K : PySem.W.Frag) (E : XK) (r : List V → Hp → VK → Prop) (o : OL) : Prop := ∀ (F : Fd) (M : Addr → Prop) (H : Hp) (xs : List V) (as : List D) (P : D → Prop) (X : XP) (Q : VK), Lv K F M H → Reps K F M H as xs → o as P X → Post K F M H P Q → PostX K F H X E → r xs H Q
def fOp (o : O2) (fa fb : FE) : FE := fun ρ P X => fa ρ (fun a => fb ρ (fun b => o a b P X) X) X
def fUn (o : O1) (fa : FE) : FE := fun ρ P X => fa ρ (fun a => o a P X) X
def fLs (o : OL) (fa : FA) : FE := fun ρ P X => fa ρ (fun as => o as P X) X
theorem qAl {r : R2} {o : O2} {ta tb : TE} {fa fb : FE} (ho : ∀ σ, OpS K (E σ) r o) (ha : SE K Ta ow E ta fa) (hb : SE K Ta ow E tb fb) : SE K Ta ow E (tOp r ta tb) (fOp o fa fb) := by
  intro w H σ ρ P X Q e h q x
  refine ha w H σ ρ _ X _ e h (fun a va H1 h1 g1 r1 => ?_) x
  refine hb w H1 σ ρ _ X _ (e.grow g1) h1 (fun b vb H2 h2 g2 r2 => ?_) (x.gr g1)
  exact ho σ _ _ H2 _ _ _ _ P X Q ((e.grow g1).grow g2).lv (Rep.goes g2.goes _ _ r1) r2 h2 (fun d v H3 hd g3 r3 => q d v H3 hd ((g1.trans g2).trans g3) r3) (x.gr (g1.trans g2))
theorem qYj {r : V → Hp → VK → Prop} {o : O1} {ta : TE} {fa : FE} (ho : ∀ σ, UnS K (E σ) r o) (ha : SE K Ta ow E ta fa) : SE K Ta ow E (tUn r ta) (fUn o fa) := by
  intro w H σ ρ P X Q e h q x
  refine ha w H σ ρ _ X _ e h (fun a va H1 h1 g1 r1 => ?_) x
  exact ho σ _ _ H1 _ _ P X Q (e.grow g1).lv r1 h1 (fun d v H3 hd g3 r3 => q d v H3 hd (g1.trans g3) r3) (x.gr g1)
theorem qE4 {r : List V → Hp → VK → Prop} {o : OL} {ta : TA} {fa : FA} (ho : ∀ σ, LsS K (E σ) r o) (ha : SA K Ta ow E ta fa) : SE K Ta ow E (tCB r ta) (fLs o fa) := by
  intro w H σ ρ P X Q e h q x
  refine ha w H σ ρ _ X _ e h (fun a va H1 h1 g1 r1 => ?_) x
  exact ho σ _ _ H1 _ _ P X Q (e.grow g1).lv r1 h1 (fun d v H3 hd g3 r3 => q d v H3 hd (g1.trans g3) r3) (x.gr g1)
/-! ### arguments -/
def qAn : FA := fun _ P _ => P []
def qAc (fa : FE) (fr : FA) : FA := fun ρ P X => fa ρ (fun a => fr ρ (fun as => P (a :: as)) X) X
theorem qAd : SA K Ta ow E tNil qAn := fun w H σ ρ P X Q e h q x => q _ _ _ h .refl rfl
theorem qAa {ta : TE} {tr : TA} {fa : FE} {fr : FA} (ha : SE K Ta ow E ta fa) (hr : SA K Ta ow E tr fr) : SA K Ta ow E (tCons ta tr) (qAc fa fr) := by
  intro w H σ ρ P X Q e h q x
  refine ha w H σ ρ _ X _ e h (fun a va H1 h1 g1 r1 => ?_) x
  refine hr w H1 σ ρ _ X _ (e.grow g1) h1 (fun b vb H2 h2 g2 r2 => ?_) (x.gr g1)
  exact q _ _ H2 h2 (g1.trans g2) (.cons (Rep.goes g2.goes _ _ r1) r2)
/-! ### truth -/
def toB (k : Bool → Prop) : D → Prop
  | .bl b => k b
  | _ => False
theorem qO4 {k : Bool → Prop} {d : D} (h : toB k d) : ∃ b, d = .bl b ∧ k b := by
  cases d with
  | bl b => exact ⟨b, rfl, h⟩
  | _ => exact h.elim
def fB (fa : FE) : FT := fun ρ P X => fa ρ (toB P) X
theorem qJ2 {ta : TE} {fa : FE} (ha : SE K Ta ow E ta fa) : STt K Ta ow E (tB ta) (fB fa) := by
  intro w H σ ρ P X Q e h q x
  refine ha w H σ ρ _ X _ e h (fun a va H1 h1 g1 r1 => ?_) x
  obtain ⟨b, rfl, p⟩ := qO4 h1
  exact ⟨b, r1, q b H1 p g1⟩
theorem qCr {ta : TE} {fa : FE} (ha : SE K Ta ow E ta fa) : STt K Ta ow E (tTest ta) (fB fa) := by
  intro w H σ ρ P X Q e h q x
  refine ha w H σ ρ _ X _ e h (fun a va H1 h1 g1 r1 => ?_) x
  obtain ⟨b, rfl, p⟩ := qO4 h1
  exact ⟨b, r1, q b H1 p g1⟩
def qJi (fa : FT) : FT := fun ρ P X => fa ρ (fun b => P (!b)) X
theorem qC3 {ta : TT} {fa : FT} (ha : STt K Ta ow E ta fa) : STt K Ta ow E (tNot ta) (qJi fa) := by
  intro w H σ ρ P X Q e h q x
  exact ha w H σ ρ _ X _ e h (fun b H1 h1 g1 => q _ H1 h1 g1) x
def fAnd (fa fb : FT) : FT := fun ρ P X => fa ρ (fun c => if c = true then fb ρ P X else P false) X
theorem qAah {ta tb : TT} {fa fb : FT} (ha : STt K Ta ow E ta fa) (hb : STt K Ta ow E tb fb) : STt K Ta ow E (tAnd ta tb) (fAnd fa fb) := by
  intro w H σ ρ P X Q e h q x
  refine ha w H σ ρ _ X _ e h (fun b H1 h1 g1 => ?_) x
  cases b with
  | true => exact hb w H1 σ ρ _ X _ (e.grow g1) h1 (fun b2 H2 h2 g2 => q _ H2 h2 (g1.trans g2)) (x.gr g1)
  | false => exact q _ H1 h1 g1
def fOr (fa fb : FT) : FT := fun ρ P X => fa ρ (fun c => if c = true then P true else fb ρ P X) X
theorem qL9 {ta tb : TT} {fa fb : FT} (ha : STt K Ta ow E ta fa) (hb : STt K Ta ow E tb fb) : STt K Ta ow E (tOr ta tb) (fOr fa fb) := by
  intro w H σ ρ P X Q e h q x
  refine ha w H σ ρ _ X _ e h (fun b H1 h1 g1 => ?_) x
  cases b with
  | false => exact hb w H1 σ ρ _ X _ (e.grow g1) h1 (fun b2 H2 h2 g2 => q _ H2 h2 (g1.trans g2)) (x.gr g1)
  | true => exact q _ H1 h1 g1
def qSi (fa fb : FE) : FE := fun ρ P X => fa ρ (toB fun c => if c = true then fb ρ P X else P (.bl false)) X
theorem qWj {ta tb : TE} {fa fb : FE} (ha : SE K Ta ow E ta fa) (hb : SE K Ta ow E tb fb) : SE K Ta ow E (tAndV ta tb) (qSi fa fb) := by
  intro w H σ ρ P X Q e h q x
  refine ha w H σ ρ _ X _ e h (fun a va H1 h1 g1 r1 => ?_) x
  obtain ⟨b, rfl, p⟩ := qO4 h1
  refine ⟨b, r1, ?_⟩
  cases b with
  | true => exact hb w H1 σ ρ _ X _ (e.grow g1) p (fun d v H2 h2 g2 r2 => q _ _ H2 h2 (g1.trans g2) r2) (x.gr g1)
  | false => exact q _ _ H1 p g1 rfl
def fOrV (fa fb : FE) : FE := fun ρ P X => fa ρ (toB fun c => if c = true then P (.bl true) else fb ρ P X) X
theorem qAd1 {ta tb : TE} {fa fb : FE} (ha : SE K Ta ow E ta fa) (hb : SE K Ta ow E tb fb) : SE K Ta ow E (tOrV ta tb) (fOrV fa fb) := by
  intro w H σ ρ P X Q e h q x
  refine ha w H σ ρ _ X _ e h (fun a va H1 h1 g1 r1 => ?_) x
  obtain ⟨b, rfl, p⟩ := qO4 h1
  refine ⟨b, r1, ?_⟩
  cases b with
  | false => exact hb w H1 σ ρ _ X _ (e.grow g1) p (fun d v H2 h2 g2 r2 => q _ _ H2 h2 (g1.trans g2) r2) (x.gr g1)
  | true => exact q _ _ H1 p g1 rfl
def qUn (fa : FE) : FE := fun ρ P X => fa ρ (toB fun c => P (.bl (!c))) X
theorem qAcy {ta : TE} {fa : FE} (ha : SE K Ta ow E ta fa) : SE K Ta ow E (tNotV ta) (qUn fa) := by
  intro w H σ ρ P X Q e h q x
  refine ha w H σ ρ _ X _ e h (fun a va H1 h1 g1 r1 => ?_) x
  obtain ⟨b, rfl, p⟩ := qO4 h1
  exact ⟨b, r1, q _ _ H1 p g1 rfl⟩
def fIf (fc : FT) (fa fb : FE) : FE := fun ρ P X => fc ρ (fun c => if c = true then fa ρ P X else fb ρ P X) X
theorem qAe5 {tc : TT} {ta tb : TE} {fc : FT} {fa fb : FE} (hc : STt K Ta ow E tc fc) (ha : SE K Ta ow E ta fa) (hb : SE K Ta ow E tb fb) : SE K Ta ow E (tIf tc ta tb) (fIf fc fa fb) := by
  intro w H σ ρ P X Q e h q x
  refine hc w H σ ρ _ X _ e h (fun b H1 h1 g1 => ?_) x
  cases b with
  | false => exact hb w H1 σ ρ _ X _ (e.grow g1) h1 (fun d v H2 h2 g2 r2 => q _ _ H2 h2 (g1.trans g2) r2) (x.gr g1)
  | true => exact ha w H1 σ ρ _ X _ (e.grow g1) h1 (fun d v H2 h2 g2 r2 => q _ _ H2 h2 (g1.trans g2) r2) (x.gr g1)
def truD : D → Option Bool
  | .non => some false
  | .bl b => some b
  | .int i => some (i != 0)
  | .lst ds => some !ds.isEmpty
  | .tup ds => some !ds.isEmpty
  | _ => none
theorem qMt {F : Fd} {M : Addr → Prop} : ∀ {ds : List D} {vs : List V}, Reps K F M H ds vs → vs.isEmpty = ds.isEmpty
  | [], _, h => by rw [show _ = [] from h]; rfl
  | _ :: _, _, h => by obtain ⟨v, us, rfl, _, _⟩ := h; rfl
def qXs (fa : FE) : FT := fun ρ P X => fa ρ (fun d => ∃ k, truD d = some k ∧ P k) X
theorem qS1 {ta : TE} {fa : FE} (ha : SE K Ta ow E ta fa) : STt K Ta ow E (qU6 K ta) (qXs fa) := by
  intro w H σ ρ P X Q e h q x
  refine ha w H σ ρ _ X _ e h (fun a va H1 h1 g1 r1 => ?_) x
  obtain ⟨k, hk, p⟩ := h1
  refine ⟨k, ?_, q k H1 p g1⟩
  cases a with
  | non => rw [show va = .non from r1]; exact (Option.some.inj hk).symm
  | bl b => rw [show va = .bl b from r1]; exact (Option.some.inj hk).symm
  | int b => rw [show va = .int b from r1]; exact (Option.some.inj hk).symm
  | lst ds =>
    obtain ⟨p', vs, rfl, ok, e1, r⟩ := r1
    cases hk
    exact .inl ⟨vs, SqL.of e1, by rw [qMt r]⟩
  | tup ds =>
    obtain ⟨p', vs, rfl, ok, e1, r⟩ := r1
    cases hk
    exact .inr (.inl ⟨vs, SqT.of e1, by rw [qMt r]⟩)
  | _ => cases hk
/-! ### displays -/
def qFx (fa : FA) : FE := fun ρ P X => fa ρ (fun ds => ds.length ≤ sizeLine ∧ P (.lst ds)) X
def fTup (fa : FA) : FE := fun ρ P X => fa ρ (fun ds => ds.length ≤ sizeLine ∧ P (.tup ds)) X
theorem qYo {F : Fd} {M : Addr → Prop} {p : Addr} {ds : List D} {vs : List V} (l : Lv K F M H) (np : H p = none) (r : Reps K F M H ds vs) : Rep K F M (upd H p (.lst vs)) (.lst ds) (.ref p) :=
  ⟨p, vs, rfl, l.ok np, upd_same, Reps.goes (Gr.new (K := K) np).goes _ _ r⟩
theorem qTi {F : Fd} {M : Addr → Prop} {p : Addr} {ds : List D} {vs : List V} (l : Lv K F M H) (np : H p = none) (r : Reps K F M H ds vs) : Rep K F M (upd H p (.tup vs)) (.tup ds) (.ref p) :=
  ⟨p, vs, rfl, l.ok np, upd_same, Reps.goes (Gr.new (K := K) np).goes _ _ r⟩
theorem qB8 {ta : TA} {fa : FA} (ha : SA K Ta ow E ta fa) : SE K Ta ow E (tLst ta) (qFx fa) := by
  intro w H σ ρ P X Q e h q x
  refine ha w H σ ρ _ X _ e h (fun ds vs H1 h1 g1 r1 => ⟨by rw [r1.length]; exact h1.1, fun p np => ?_⟩) x
  exact q _ _ _ h1.2 (g1.trans (.new np)) (qYo (e.grow g1).lv np r1)
theorem qAdb {ta : TA} {fa : FA} (ha : SA K Ta ow E ta fa) : SE K Ta ow E (tTup ta) (fTup fa) := by
  intro w H σ ρ P X Q e h q x
  refine ha w H σ ρ _ X _ e h (fun ds vs H1 h1 g1 r1 => ⟨by rw [r1.length]; exact h1.1, fun p np => ?_⟩) x
  exact q _ _ _ h1.2 (g1.trans (.new np)) (qTi (e.grow g1).lv np r1)
/-! ### calls -/
abbrev FSp := List D → (D → Prop) → XP → Prop
/-- the promise that a heapless promise means -/
def lift (K : PySem.W.Frag) (fsp : FSp) : Sp := fun vs H Q E => ∃ (F : Fd) (M : Addr → Prop) (ds : List D) (P : D → Prop) (X : XP), Lv K F M H ∧ Reps K F M H ds vs ∧ fsp ds P X ∧ Post K F M H P Q ∧ PostX K F H X E
def Lift (K : PySem.W.Frag) (sp : Sp) (fsp : FSp) : Prop := ∀ vs H Q E, lift K fsp vs H Q E → sp vs H Q E
theorem Lift.refl {fsp : FSp} : Lift K (lift K fsp) fsp := fun _ _ _ _ h => h
def qNa (fsp : FSp) (es : List D) (fa : FA) : FE := fun ρ P X => fa ρ (fun ds => fsp (ds ++ es) P X) X
def qAj (fsp : FSp) (es : List D) (fa : FA) : FE := fun ρ P X => fa ρ (fun ds => fsp (ds ++ es) P (fun _ => False)) X
/-- constants -/
def Cst : List D → List V → Prop
  | [], vs => vs = []
  | d :: ds, vs => ∃ v us, vs = v :: us ∧ (∀ (F : Fd) (M : Addr → Prop) (H : Hp), Rep K F M H d v) ∧ Cst ds us
theorem Cst.reps {F : Fd} {M : Addr → Prop} {H : Hp} : ∀ {ds : List D} {vs : List V}, Cst (K := K) ds vs → Reps K F M H ds vs
  | [], _, h => h
  | _ :: _, _, h => by obtain ⟨v, us, rfl, h1, h2⟩ := h; exact ⟨v, us, rfl, h1 F M H, Cst.reps h2⟩
theorem qAh : Cst (K := K) [] [] := rfl
theorem qNx {i : Int} {ds : List D} {vs : List V} (h : Cst (K := K) ds vs) : Cst (K := K) (.int i :: ds) (.int i :: vs) := ⟨_, _, rfl, fun _ _ _ => rfl, h⟩
theorem qAg {sp : Sp} {fsp : FSp} {dvs : List V} {es : List D} {ta : TA} {fa : FA} (L : Lift K sp fsp) (c : Cst (K := K) es dvs) (ha : SA K Ta ow E ta fa) : SE K Ta ow E (tCall sp dvs E0 ta) (qAj fsp es fa) := by
  intro w H σ ρ P X Q e h q x
  refine ha w H σ ρ _ X _ e h (fun ds vs H1 h1 g1 r1 => L _ _ _ _ ?_) x
  exact ⟨_, _, _, P, _, (e.grow g1).lv, r1.append c.reps, h1, fun d v H2 hd g2 r2 => q d v H2 hd (g1.trans g2) r2, fun x' _ _ _ z _ _ => z⟩
/-- C(..): what the class's maker promises -/
def MkL (K : PySem.W.Frag) (C : Addr) (sp : Sp) (fsp : FSp) : Prop := ∀ (F : Fd) (M : Addr → Prop) (H : Hp) (ds : List D) (vs : List V) (P : D → Prop) (X : XP) (Q : VK) (E : XK) (x dx : Addr), Lv K F M H → Reps K F M H ds vs → fsp ds P X → Post K F M H P Q → PostX K F H X E → H x = none → H dx = none → dx ≠ x →
  sp (.ref x :: vs) (upd (upd H dx (.own x)) x (.ins C dx [])) (fun v H2 => v = .non ∧ Q (.ref x) H2) E
theorem qNd {C : Addr} {sp : Sp} {fsp : FSp} {dvs : List V} {es : List D} {ta : TA} {fa : FA} {E1 : XK} (L : MkL K C sp fsp) (c : Cst (K := K) es dvs) (ha : SA K Ta ow (fun _ => E1) ta fa) : SE K Ta ow (fun _ => E1) (tMake C sp dvs E1 ta) (qNa fsp es fa) := by
  intro w H σ ρ P X Q e h q x
  refine ha w H σ ρ _ X _ e h (fun ds vs H1 h1 g1 r1 xx dx n1 n2 ne => ?_) x
  exact L _ _ H1 _ _ P X Q _ xx dx (e.grow g1).lv (r1.append c.reps) h1 (fun d v H2 hd g2 r2 => q d v H2 hd (g1.trans g2) r2) (x.gr g1) n1 n2 ne
theorem qDj {C : Addr} {sp : Sp} {fsp : FSp} {dvs : List V} {es : List D} {ta : TA} {fa : FA} (L : MkL K C sp fsp) (c : Cst (K := K) es dvs) (ha : SA K Ta ow E ta fa) : SE K Ta ow E (tMake C sp dvs E0 ta) (qAj fsp es fa) := by
  intro w H σ ρ P X Q e h q x
  refine ha w H σ ρ _ X _ e h (fun ds vs H1 h1 g1 r1 xx dx n1 n2 ne => ?_) x
  exact L _ _ H1 _ _ P _ Q _ xx dx (e.grow g1).lv (r1.append c.reps) h1 (fun d v H2 hd g2 r2 => q d v H2 hd (g1.trans g2) r2) (fun x' _ _ _ z _ _ => z) n1 n2 ne
/-- the datum is an instance of the class C, without an attribute m -/
def InsD (C m : Str) : D → Prop
  | .rat _ => C = "Ratio" ∧ m ≠ "top" ∧ m ≠ "bottom"
  | .poly _ => C = "Poly" ∧ m ≠ "coefficients" ∧ m ≠ "degree" ∧ m ≠ "lead"
  | .ins C' ns _ => C' = C ∧ m ∉ ns
  | _ => False
theorem qEk {m : Str} : ∀ {gs : List (Str × V)}, m ∉ gs.map Prod.fst → gs.lookup m = none
  | [], _ => rfl
  | (n, v) :: gs, h => by
    simp only [List.map_cons, List.mem_cons, not_or] at h
    have hb : (m == n) = false := beq_eq_false_iff_ne.mpr h.1
    simp only [List.lookup, hb]
    exact qEk h.2
theorem InsD.at {C m : Str} {F : Fd} {M : Addr → Prop} {d : D} {v : V} (h : InsD C m d) (r : Rep K F M H d v) : ∃ a dx fs, v = .ref a ∧ H a = some (.ins (He.ga K C) dx fs) ∧ fs.lookup m = none := by
  cases d with
  | rat q =>
    obtain ⟨rfl, n1, n2⟩ := h
    obtain ⟨p, rfl, _, dx, e⟩ := r
    exact ⟨p, dx, _, rfl, e, qEk (by simp [qY8, n1, n2])⟩
  | poly cs =>
    obtain ⟨rfl, n1, n2, n3⟩ := h
    obtain ⟨p, dx, t, l, vs, rfl, _, e, _⟩ := r
    exact ⟨p, dx, _, rfl, e, qEk (by simp [qSf, n1, n2, n3])⟩
  | ins C' ns ds =>
    obtain ⟨rfl, n1⟩ := h
    obtain ⟨p, dx, gs, rfl, _, e, en, _⟩ := r
    exact ⟨p, dx, _, rfl, e, qEk (by rw [en]; exact n1)⟩
  | _ => exact h.elim
def qR5 (C m : Str) (fsp : FSp) (fo : FE) (fa : FA) : FE := fun ρ P X => fo ρ (fun o => InsD C m o ∧ fa ρ (fun ds => fsp (o :: ds) P X) X) X
def qMq (C m : Str) (fsp : FSp) (fo : FE) (fa : FA) : FE := fun ρ P X => fo ρ (fun o => InsD C m o ∧ fa ρ (fun ds => fsp (o :: ds) P (fun _ => False)) X) X
theorem qAcv {C m : Str} {sp : Sp} {fsp : FSp} {to : TE} {ta : TA} {fo : FE} {fa : FA} {E1 : XK} (L : Lift K sp fsp) (ho : SE K Ta ow (fun _ => E1) to fo) (ha : SA K Ta ow (fun _ => E1) ta fa) : SE K Ta ow (fun _ => E1) (tMeth (He.ga K C) m sp [] E1 to ta) (qR5 C m fsp fo fa) := by
  intro w H σ ρ P X Q e h q x
  refine ho w H σ ρ _ X _ e h (fun o vo H1 h1 g1 r1 => ?_) x
  obtain ⟨a, dx, fs, e1, e2, e3⟩ := h1.1.at r1
  refine ⟨a, dx, fs, e1, e2, e3, ha w H1 σ ρ _ X _ (e.grow g1) h1.2 (fun ds vs H2 h2 g2 r2 => L _ _ _ _ ?_) (x.gr g1)⟩
  refine ⟨_, _, _, P, X, ((e.grow g1).grow g2).lv, .cons (Rep.goes g2.goes _ _ r1) (by rw [List.append_nil]; exact r2), h2, fun d v H2 hd g3 r2 => q d v H2 hd ((g1.trans g2).trans g3) r2, x.gr (g1.trans g2)⟩
theorem qYm {C m : Str} {sp : Sp} {fsp : FSp} {to : TE} {ta : TA} {fo : FE} {fa : FA} (L : Lift K sp fsp) (ho : SE K Ta ow E to fo) (ha : SA K Ta ow E ta fa) : SE K Ta ow E (tMeth (He.ga K C) m sp [] E0 to ta) (qMq C m fsp fo fa) := by
  intro w H σ ρ P X Q e h q x
  refine ho w H σ ρ _ X _ e h (fun o vo H1 h1 g1 r1 => ?_) x
  obtain ⟨a, dx, fs, e1, e2, e3⟩ := h1.1.at r1
  refine ⟨a, dx, fs, e1, e2, e3, ha w H1 σ ρ _ X _ (e.grow g1) h1.2 (fun ds vs H2 h2 g2 r2 => L _ _ _ _ ?_) (x.gr g1)⟩
  refine ⟨_, _, _, P, _, ((e.grow g1).grow g2).lv, .cons (Rep.goes g2.goes _ _ r1) (by rw [List.append_nil]; exact r2), h2, fun d v H2 hd g3 r2 => q d v H2 hd ((g1.trans g2).trans g3) r2, fun x' _ _ _ z _ _ => z⟩
/-! ### fields -/
def qTr (f : Str) : D → Option D
  | .rat q => if f = "top" then some (.int q.num) else if f = "bottom" then some (.int (q.den : Nat)) else none
  | .poly cs => if f = "coefficients" then some (.tup (cs.map D.rat)) else if f = "degree" then some (.int ((cs.length : Int) - 1)) else if f = "lead" then some (.rat (qAk cs)) else none
  | .ins _ ns ds => (ns.zip ds).lookup f
  | _ => none
def qM3 : D → Option Str
  | .rat _ => some "Ratio"
  | .poly _ => some "Poly"
  | .ins C _ _ => some C
  | _ => none
theorem qMy {F : Fd} {M : Addr → Prop} {f : Str} {d : D} : ∀ {gs : List (Str × V)} {ds : List D}, Reps K F M H ds (gs.map Prod.snd) → ((gs.map Prod.fst).zip ds).lookup f = some d → ∃ v, gs.lookup f = some v ∧ Rep K F M H d v
  | [], _, _, h => by simp at h
  | (n, v) :: gs, [], r, h => by simp at h
  | (n, v) :: gs, e :: ds, r, h => by
    obtain ⟨u, us, e1, r1, r2⟩ := r
    simp only [List.map_cons, List.cons.injEq] at e1
    obtain ⟨rfl, rfl⟩ := e1
    simp only [List.map_cons, List.zip_cons_cons, List.lookup] at h ⊢
    split at h
    · cases h
      exact ⟨v, rfl, r1⟩
    · exact qMy r2 h
/-- what is asked to read fields f of instances of C -/
structure FldOk (K : PySem.W.Frag) (C f : Str) : Prop where
  cl : Cls K (He.ga K C)
  na : NoAttr K (He.ga K C) f
theorem qAde {C f : Str} {F : Fd} {M : Addr → Prop} {a d : D} {x : V} (T : FldOk K C f) (hc : qM3 a = some C) (hf : qTr f a = some d) (r : Rep K F M H a x) :
    ∃ (ad : Addr) (Ca dx : Addr) (fs : List (Str × V)) (v : V), x = .ref ad ∧ H ad = some (.ins Ca dx fs) ∧ Cls K Ca ∧ NoAttr K Ca f ∧ fs.lookup f = some v ∧ Rep K F M H d v := by
  cases a with
  | rat q =>
    cases hc
    obtain ⟨p, rfl, ok, dx, e⟩ := r
    refine ⟨p, CR K, dx, qY8 q, ?_⟩
    simp only [qTr] at hf
    split at hf
    · rename_i h1
      cases hf
      exact ⟨_, rfl, e, T.cl, T.na, by rw [h1]; exact qYn q, rfl⟩
    · split at hf
      · rename_i h1 h2
        cases hf
        exact ⟨_, rfl, e, T.cl, T.na, by rw [h2]; exact qYr q, rfl⟩
      · cases hf
  | poly cs =>
    cases hc
    obtain ⟨p, dx, t, l, vs, rfl, ok, e, okt, et, rs, rl, n⟩ := r
    refine ⟨p, CP K, dx, qSf t l cs.length, ?_⟩
    have n1 : (("degree" : Str) == ("coefficients" : Str)) = false := by decide +kernel
    have n2 : (("lead" : Str) == ("coefficients" : Str)) = false := by decide +kernel
    have n3 : (("lead" : Str) == ("degree" : Str)) = false := by decide +kernel
    simp only [qTr] at hf
    split at hf
    · rename_i h1
      cases hf
      exact ⟨_, rfl, e, T.cl, T.na, by rw [h1]; simp [qSf, List.lookup], t, vs, rfl, okt, et, rs.reps⟩
    · split at hf
      · rename_i h1 h2
        cases hf
        exact ⟨_, rfl, e, T.cl, T.na, by rw [h2]; simp [qSf, List.lookup, n1], rfl⟩
      · split at hf
        · rename_i h1 h2 h3
          cases hf
          exact ⟨_, rfl, e, T.cl, T.na, by rw [h3]; simp [qSf, List.lookup, n2, n3], rl⟩
        · cases hf
  | ins C' ns ds =>
    cases hc
    obtain ⟨p, dx, gs, rfl, ok, e, en, rs⟩ := r
    subst en
    obtain ⟨v, h1, h2⟩ := qMy rs hf
    exact ⟨p, _, dx, gs, v, rfl, e, T.cl, T.na, h1, h2⟩
  | _ => cases hc
def qE1 (C f : Str) (fa : FE) : FE := fun ρ P X => fa ρ (fun a => qM3 a = some C ∧ ∃ d, qTr f a = some d ∧ P d) X
theorem qBh {C f : Str} {ta : TE} {fa : FE} (T : FldOk K C f) (ha : SE K Ta ow E ta fa) : SE K Ta ow E (tFld K ta f) (qE1 C f fa) := by
  intro w H σ ρ P X Q e h q x
  refine ha w H σ ρ _ X _ e h (fun a va H1 h1 g1 r1 => ?_) x
  obtain ⟨hc, d, hd, p⟩ := h1
  obtain ⟨ad, Ca, dx, fs, v, z1, z2, z3, z4, z5, z6⟩ := qAde T hc hd r1
  exact ⟨ad, Ca, dx, fs, v, z1, z2, z3, z4, z5, q d v H1 p g1 z6⟩
/-- all is let go for an expression whose value has no list -/
def fBor (fa : FE) : FE := fun ρ P X => fa ρ (fun d => d.noL = true ∧ P d) X
/-- the names of ow hold lists -/
theorem REnv.lists {w : Wd} {σ : L2.St} {ρ : Env} (e : REnv K Ta w ow H σ ρ) (hl : ∀ i, i ∈ ow → ∃ ds, ρ[i]? = some (some (.lst ds))) : Lists (Mo ow σ) H := fun p ⟨i, hi, z⟩ => by
  obtain ⟨p', o, d, h1, h2, h3, h4, _⟩ := e.own i hi
  obtain ⟨ds, h5⟩ := hl i hi
  rw [h1] at z; cases z
  rw [h2] at h5; cases h5
  obtain ⟨vs, rfl, _⟩ := h4
  exact ⟨vs, h3⟩
def qYk (ow : List Nat) (ρ : Env) : Prop := ∀ i, i ∈ ow → ∃ ds, ρ[i]? = some (some (.lst ds))
theorem qAat {ta : TE} {fa : FE} (ha : SE K Ta [] E ta fa) : SE K Ta ow E ta (fun ρ P X => qYk ow ρ ∧ fBor fa ρ P X) := by
  intro w H σ ρ P X Q e h q x
  refine ha w H σ ρ _ X _ (e.free (fun _ h => nomatch h)) h.2 (fun d v H1 h1 g1 r1 => ?_) x
  have l := (e.grow g1).lists h.1
  refine q d v H1 h1.2 g1 ?_
  have r2 := Rep.noL l d v h1.1 r1
  refine Rep.goes (fun p o h1 _ m => ⟨h1, fun z => m ?_⟩) d v r2
  exact z.elim (fun y => .inl (.inl y)) .inr
end
end MR

set_option Elab.async false
set_option linter.all false
set_option maxRecDepth 100000
set_option maxHeartbeats 4000000
set_option exponentiation.threshold 20000
/-! FL: statements without a heap -/
namespace MR
open PySem PySem.Spec PyProof.Rows L2
structure FEnds where
  nx : Env → Prop
  rt : D → Prop
  bk : Env → Prop
  ct : Env → Prop
  ex : Exn → Env → Prop
  rf : D → Prop
abbrev FS := FEnds → Env → Prop
/-- v is a new object that nobody else knows -/
def New (K : PySem.W.Frag) (F : Fd) (M : Addr → Prop) (H0 H : Hp) (d : D) (v : V) : Prop := ∃ p o, v = .ref p ∧ H0 p = none ∧ F.no p ∧ H p = some o ∧ RepO K F (fun q => M q ∨ q = p) H d o
structure EOk (K : PySem.W.Frag) (Ta : List (Addr × Str)) (w : Wd) (ow' owb owx : List Nat) (E : L2.St → XK) (N : L2.Ends) (FD : FEnds) : Prop where
  nx : ∀ ρ σ H, FD.nx ρ → REnv K Ta w ow' H σ ρ → N.nx σ H
  rt : ∀ d v H, FD.rt d → Gr K w.F w.H0 H → Rep K w.F w.M H d v → N.rt v H
  bk : ∀ ρ σ H, FD.bk ρ → REnv K Ta w owb H σ ρ → N.bk σ H
  ct : ∀ ρ σ H, FD.ct ρ → REnv K Ta w owb H σ ρ → N.ct σ H
  ex : ∀ x ρ σ H cls dd, FD.ex x ρ → REnv K Ta w owx H σ ρ → RepX K w.F H cls dd x → E σ cls dd H
  rf : ∀ d v H, FD.rf d → Gr K w.F w.H0 H → New K w.F w.M w.H0 H d v → N.rt v H
def SS (K : PySem.W.Frag) (Ta : List (Addr × Str)) (ow ow' owb owx : List Nat) (E : L2.St → XK) (ts : TS) (fs : FS) : Prop :=
  ∀ (w : Wd) (H : Hp) (σ : L2.St) (ρ : Env) (N : L2.Ends) (FD : FEnds), REnv K Ta w ow H σ ρ → fs FD ρ → EOk K Ta w ow' owb owx E N FD → ts N σ H
section
variable {K : PySem.W.Frag} {w : Wd} {ow ow' ow1 owb owx : List Nat} {H H' : Hp} {σ : L2.St} {ρ : Env} {E : L2.St → XK} {N : L2.Ends} {FD : FEnds}
abbrev Sub (a b : List Nat) : Prop := ∀ i, i ∈ a → i ∈ b
theorem EOk.px (k : EOk K Ta w ow' owb owx E N FD) (e : REnv K Ta w ow H σ ρ) (hs : Sub owx ow) : PostX K w.F H (fun x => FD.ex x ρ) (E σ) := fun x cls dd H' hx g r => k.ex x ρ σ H' cls dd hx ((e.grow g).free hs) r
def qCg : FS := fun FD ρ => FD.nx ρ
theorem qA6 (hs : Sub ow' ow) : SS K Ta ow ow' owb owx E tNext qCg := fun w H σ ρ N FD e h k => k.nx ρ σ H h (e.free hs)
def qB7 (f g : FS) : FS := fun FD ρ => f { FD with nx := g FD } ρ
theorem qAm {t u : TS} {f g : FS} (h1 : SS K Ta ow ow1 owb owx E t f) (h2 : SS K Ta ow1 ow' owb owx E u g) : SS K Ta ow ow' owb owx E (tSeq t u) (qB7 f g) :=
  fun w H σ ρ N FD e h k => h1 w H σ ρ _ _ e h ⟨fun ρ' σ' H' h' e' => h2 w H' σ' ρ' N FD e' h' k, k.rt, k.bk, k.ct, k.ex, k.rf⟩
theorem qRv {t : TS} {f : FS} (hs : Sub ow1 ow) (h : SS K Ta ow1 ow' owb owx E t f) : SS K Ta ow ow' owb owx E t f := fun w H σ ρ N FD e q k => h w H σ ρ N FD (e.free hs) q k
/-! ### a store into a name -/
theorem qBl {α : Type} {l : List α} {i j : Nat} {x : α} : (l.set i x)[j]? = if i = j then (if j < l.length then some x else none) else l[j]? := by
  rw [List.getElem?_set]
  split
  · rename_i h; subst h; rfl
  · rfl
theorem qZ6 {i : Nat} {x : Option V} (hi : i ∉ ow) (p : Addr) : Mo ow (σ.set i x) p ↔ Mo ow σ p := by
  have : ∀ j, j ∈ ow → (σ.set i x)[j]? = σ[j]? := fun j hj => by
    rw [qBl, if_neg (fun z => hi (by rw [z]; exact hj))]
  exact ⟨fun ⟨j, hj, z⟩ => ⟨j, hj, by rw [← this j hj]; exact z⟩, fun ⟨j, hj, z⟩ => ⟨j, hj, by rw [this j hj]; exact z⟩⟩
theorem Sl.len {R : D → V → Prop} {i : Nat} (h : Sl R ρ[i]? σ[i]?) : i < ρ.length ↔ i < σ.length := by
  cases h1 : ρ[i]? with
  | none =>
    cases h2 : σ[i]? with
    | none =>
      have := List.getElem?_eq_none_iff.mp h1
      have := List.getElem?_eq_none_iff.mp h2
      omega
    | some b => rw [h1, h2] at h; exact h.elim
  | some a =>
    cases h2 : σ[i]? with
    | none => rw [h1, h2] at h; cases a <;> exact h.elim
    | some b =>
      have := (List.getElem?_eq_some_iff.mp h1).1
      have := (List.getElem?_eq_some_iff.mp h2).1
      omega
theorem REnv.put {i : Nat} {d : D} {v : V} (e : REnv K Ta w ow H σ ρ) (hi : i ∉ ow) (r : Rep K w.F (w.Mx ow σ) H d v) : REnv K Ta w ow H (σ.set i (some v)) (ρ.set i (some d)) := by
  have mm : ∀ p, w.Mx ow (σ.set i (some v)) p ↔ w.Mx ow σ p := fun p => or_congr .rfl (qZ6 hi p)
  have go : Goes w.F (w.Mx ow σ) H (w.Mx ow (σ.set i (some v))) H := fun p o h _ m => ⟨h, fun z => m ((mm p).mp z)⟩
  have same : ∀ j, j ∈ ow → (σ.set i (some v))[j]? = σ[j]? ∧ (ρ.set i (some d))[j]? = ρ[j]? := fun j hj => by
    have : i ≠ j := fun z => hi (by rw [z]; exact hj)
    rw [qBl, qBl, if_neg this, if_neg this]
    exact ⟨rfl, rfl⟩
  refine ⟨e.gr, e.live, e.nf, fun j hj => ?_, fun j hj => ?_, fun j hj k hk n p => ?_, fun f hf => ?_, e.tab, e.ts⟩
  · rw [qBl, qBl]
    have z := e.imm j hj
    split
    · rename_i h
      have hl := z.len
      by_cases hlt : j < ρ.length
      · rw [if_pos hlt, if_pos (hl.mp hlt)]
        exact Rep.goes go d v r
      · rw [if_neg hlt, if_neg (fun y => hlt (hl.mpr y))]
        trivial
    · exact z.mono fun d' v' => Rep.goes go d' v'
  · obtain ⟨p, o, d', h1, h2, h3, h4, h5⟩ := e.own j hj
    exact ⟨p, o, d', by rw [(same j hj).1]; exact h1, by rw [(same j hj).2]; exact h2, h3, h4.goes go, h5⟩
  · rw [(same j hj).1, (same k hk).1]
    exact e.inj j hj k hk n p
  · obtain ⟨c, h1, h2⟩ := e.feed f hf
    exact ⟨c, h1, fun z => h2 ((mm c).mp z)⟩
/-- a new object is taken by the name i -/
theorem REnv.take {i : Nat} {d : D} {p : Addr} {o : HO} (e : REnv K Ta w ow H σ ρ) (hi : i ∉ ow) (hl : i < σ.length) (np : H p = none) (g : Gr K w.F H H') (ho : H' p = some o) (r : RepO K w.F (fun q => w.Mx ow σ q ∨ q = p) H' d o) : REnv K Ta w (i :: ow) H' (σ.set i (some (.ref p))) (ρ.set i (some d)) := by
  have ok := e.lv.ok np
  have n0 : w.H0 p = none := by
    cases z : w.H0 p with
    | none => rfl
    | some o' => rw [e.gr.old _ _ z ok.1] at np; cases np
  have mm : ∀ q, w.Mx (i :: ow) (σ.set i (some (.ref p))) q → w.Mx ow σ q ∨ q = p := fun q h => by
    rcases h with h | ⟨j, hj, z⟩
    · exact .inl (.inl h)
    · rw [qBl] at z
      by_cases hij : i = j
      · rw [if_pos hij, if_pos (by rw [← hij]; exact hl)] at z
        cases z; exact .inr rfl
      · rw [if_neg hij] at z
        exact .inl (.inr ⟨j, (List.mem_cons.mp hj).elim (fun y => absurd y.symm hij) id, z⟩)
  have e' := e.grow g
  have dif : ∀ q u, H q = some u → q ≠ p := fun q u h z => by rw [z, np] at h; cases h
  have go : Goes w.F (w.Mx ow σ) H (w.Mx (i :: ow) (σ.set i (some (.ref p)))) H' := fun q u h nf m => ⟨g.old _ _ h nf, fun z => (mm q z).elim m (dif q u h)⟩
  refine ⟨e'.gr, e.live, e.nf, fun j hj => ?_, fun j hj => ?_, fun j hj k hk n q => ?_, fun f hf => ?_, e'.tab, e.ts⟩
  · have hij : i ≠ j := fun z => hj (by rw [z]; exact List.mem_cons_self)
    rw [qBl, qBl, if_neg hij, if_neg hij]
    exact (e.imm j fun z => hj (List.mem_cons_of_mem _ z)).mono fun d' v' => Rep.goes go d' v'
  · by_cases hij : i = j
    · subst hij
      have hlr : i < ρ.length := (e.imm i hi).len.mpr hl
      refine ⟨p, o, d, by rw [qBl, if_pos rfl, if_pos hl], by rw [qBl, if_pos rfl, if_pos hlr], ho, ?_, ok.1, n0⟩
      exact r.goes fun q u hq nf m => ⟨hq, fun z => m (mm q z)⟩
    · have hj' : j ∈ ow := (List.mem_cons.mp hj).elim (fun y => absurd y.symm hij) id
      obtain ⟨p', o', d', h1, h2, h3, h4, h5⟩ := e.own j hj'
      exact ⟨p', o', d', by rw [qBl, if_neg hij]; exact h1, by rw [qBl, if_neg hij]; exact h2, g.old _ _ h3 h5.1, h4.goes go, h5⟩
  · have at_ : ∀ k, k ∈ i :: ow → i ≠ k → k ∈ ow ∧ (σ.set i (some (.ref p)))[k]? = σ[k]? := fun k hk n => ⟨(List.mem_cons.mp hk).elim (fun y => absurd y.symm n) id, by rw [qBl, if_neg n]⟩
    have me : (σ.set i (some (V.ref p)))[i]? = some (some (.ref p)) := by rw [qBl, if_pos rfl, if_pos hl]
    have ne : ∀ k, k ∈ ow → σ[k]? ≠ some (some (.ref p)) := fun k hk z => by
      obtain ⟨p', o', d', h1, h2, h3, _⟩ := e.own k hk
      rw [h1] at z; cases z
      rw [np] at h3; cases h3
    by_cases hj' : i = j
    · subst hj'
      obtain ⟨k1, k2⟩ := at_ k hk n
      rw [me, k2]
      intro z; cases z
      exact ne k k1
    · obtain ⟨j1, j2⟩ := at_ j hj hj'
      by_cases hk' : i = k
      · subst hk'
        rw [me, j2]
        intro z y; cases y
        exact ne j j1 z
      · obtain ⟨k1, k2⟩ := at_ k hk hk'
        rw [j2, k2]
        exact e.inj j j1 k k1 n q
  · obtain ⟨c, h1, h2⟩ := e.feed f hf
    refine ⟨c, g.feed f c hf h1, fun z => (mm c z).elim h2 fun y => ?_⟩
    subst y
    obtain ⟨ns, a1, a2, a3, a4, a5, o', G, z'⟩ := h1
    rw [np] at z'; cases z'
/-- an owned object is changed -/
theorem REnv.chg {i : Nat} {d : D} {p : Addr} {o : HO} (e : REnv K Ta w ow H σ ρ) (hi : i ∈ ow) (hp : σ[i]? = some (some (.ref p))) (r : RepO K w.F (w.Mx ow σ) H d o) : REnv K Ta w ow (upd H p o) σ (ρ.set i (some d)) := by
  obtain ⟨p', o', d', h1, h2, h3, h4, h5, h6⟩ := e.own i hi
  have pe : p' = p := by
    rw [h1] at hp
    cases hp; rfl
  subst pe
  have mp : w.Mx ow σ p' := .inr ⟨i, hi, h1⟩
  have go : Goes w.F (w.Mx ow σ) H (w.Mx ow σ) (upd H p' o) := fun q u h nf m => ⟨by rw [upd_ne (fun z => m (by rw [z]; exact mp))]; exact h, m⟩
  have hlr : i < ρ.length := (List.getElem?_eq_some_iff.mp h2).1
  have fd : ∀ f, w.F.f = some f → p' ≠ f := fun f hf z => h5.1 (by rw [hf, z])
  refine ⟨⟨fun b u h n => ?_, fun f c hf h => ?_, fun z => qId (e.gr.tab z) h3 h4.pl⟩, e.live, e.nf, fun j hj => ?_, fun j hj => ?_, e.inj, fun f hf => ?_, qId e.tab h3 h4.pl, e.ts⟩
  · rw [upd_ne (fun z => by rw [z, h6] at h; cases h)]
    exact e.gr.old b u h n
  · obtain ⟨c', k1, k2⟩ := e.feed f hf
    have k3 := e.gr.feed f c hf h
    have : c' = c := by
      obtain ⟨_, _, _, _, _, _, _, G, _⟩ := k1
      obtain ⟨_, _, _, _, _, _, _, G', _⟩ := k3
      have z := G.ob.symm.trans G'.ob
      simp only [Option.some.injEq, HO.lst.injEq, List.cons.injEq, V.ref.injEq] at z
      exact z.1
    subst this
    exact k3.keep (fd f hf) fun z => k2 (by rw [← z]; exact mp)
  · have hij : i ≠ j := fun z => hj (by rw [← z]; exact hi)
    rw [qBl, if_neg hij]
    exact (e.imm j hj).mono fun d' v' => Rep.goes go d' v'
  · by_cases hij : i = j
    · subst hij
      exact ⟨p', o, d, h1, by rw [qBl, if_pos rfl, if_pos hlr], upd_same, r.goes go, h5, h6⟩
    · obtain ⟨q, u, d2, k1, k2, k3, k4, k5⟩ := e.own j hj
      refine ⟨q, u, d2, k1, by rw [qBl, if_neg hij]; exact k2, ?_, k4.goes go, k5⟩
      rw [upd_ne (fun z => e.inj i hi j hj hij p' h1 (by rw [k1, z]))]
      exact k3
  · obtain ⟨c, k1, k2⟩ := e.feed f hf
    exact ⟨c, k1.keep (fd f hf) fun z => k2 (by rw [← z]; exact mp), k2⟩
/-! ### a new base -/
open Classical in
noncomputable def Wd.re (w : Wd) (M : Addr → Prop) (H : Hp) : Wd := { w with H0 := fun p => if M p then none else H p }
theorem qOe {f c c' : Addr} (k1 : FeedC K H f c') (k3 : FeedC K H f c) : c' = c := by
  obtain ⟨_, _, _, _, _, _, _, G, _⟩ := k1
  obtain ⟨_, _, _, _, _, _, _, G', _⟩ := k3
  have z := G.ob.symm.trans G'.ob
  simp only [Option.some.injEq, HO.lst.injEq, List.cons.injEq, V.ref.injEq] at z
  exact z.1
theorem qWn {M : Addr → Prop} {p : Addr} (h : M p) : (w.re M H).H0 p = none := if_pos h
theorem qEa {M : Addr → Prop} {p : Addr} (h : ¬ M p) : (w.re M H).H0 p = H p := if_neg h
theorem REnv.nM (e : REnv K Ta w ow H σ ρ) {p : Addr} {o : HO} (h : w.H0 p = some o) : ¬ Mo ow σ p := fun ⟨i, hi, z⟩ => by
  obtain ⟨p', o', d', h1, _, _, _, _, h6⟩ := e.own i hi
  rw [h1] at z; cases z
  rw [h6] at h; cases h
theorem FeedC.re {M : Addr → Prop} {f c : Addr} (h : FeedC K H f c) (h1 : ¬ M f) (h2 : ¬ M c) : FeedC K (w.re M H).H0 f c := by
  obtain ⟨ns, a1, a2, a3, a4, a5, o', G, e⟩ := h
  refine ⟨ns, a1, a2, a3, a4, a5, o', ⟨by rw [qEa h1]; exact G.ob, ?_, G.ne, G.nn, G.p0, G.b0, G.l0, G.n0, G.s0⟩, by rw [qEa h2]; exact e⟩
  rcases G.cs with (h | ⟨o, h⟩) | h
  · exact .inl (.inl (by rw [qEa h2]; exact h))
  · exact .inl (.inr ⟨o, by rw [qEa h2]; exact h⟩)
  · exact .inr h
theorem REnv.re (e : REnv K Ta w ow H σ ρ) : REnv K Ta (w.re (Mo ow σ) H) ow H σ ρ := by
  refine ⟨⟨fun b o h n => ?_, fun f c hf h => ?_, fun _ => e.tab⟩, fun p m => ?_, e.nf, e.imm, fun i hi => ?_, e.inj, e.feed, e.tab, e.ts⟩
  · by_cases hm : Mo ow σ b
    · rw [qWn hm] at h; cases h
    · rw [qEa hm] at h; exact h
  · obtain ⟨ns, a1, a2, a3, a4, a5, o', G, e'⟩ := h
    have out : ∀ {b : Addr} {u : HO}, (w.re (Mo ow σ) H).H0 b = some u → H b = some u := fun {b u} h => by
      by_cases hm : Mo ow σ b
      · rw [qWn hm] at h; cases h
      · rw [qEa hm] at h; exact h
    refine ⟨ns, a1, a2, a3, a4, a5, o', ⟨out G.ob, ?_, G.ne, G.nn, G.p0, G.b0, G.l0, G.n0, G.s0⟩, out e'⟩
    rcases G.cs with (h | ⟨o, h⟩) | h
    · exact .inl (.inl (out h))
    · exact .inl (.inr ⟨o, out h⟩)
    · exact .inr h
  · obtain ⟨o, h⟩ := e.live p m
    rw [qEa (e.nM h)]
    exact ⟨o, e.gr.old _ _ h (e.nf p m)⟩
  · obtain ⟨p, o, d, h1, h2, h3, h4, h5, h6⟩ := e.own i hi
    exact ⟨p, o, d, h1, h2, h3, h4, h5, qWn ⟨i, hi, h1⟩⟩
theorem REnv.tabRe (e : REnv K Ta w ow H σ ρ) : LamX.Tabs w.F.T (w.re (Mo ow σ) H).H0 := qKq e.tab fun b o h n => by
  rw [qEa]
  · exact h
  · rintro ⟨i, hi, z⟩
    obtain ⟨p', o', d', h1, _, h3, h4, _⟩ := e.own i hi
    rw [h1] at z; cases z
    rw [h] at h3; cases h3
    exact n h4.pl
theorem qWy (e : REnv K Ta w ow H σ ρ) : Gr K w.F w.H0 (w.re (Mo ow σ) H).H0 := by
  refine ⟨fun b o h n => ?_, fun f c hf h => ?_, fun _ => e.tabRe⟩
  · rw [qEa (e.nM h)]
    exact e.gr.old b o h n
  · have k := e.gr.feed f c hf h
    obtain ⟨c', k1, k2⟩ := e.feed f hf
    have := qOe k1 k
    subst this
    refine k.re (fun ⟨i, hi, z⟩ => ?_) fun z => k2 (.inr z)
    obtain ⟨p', o', d', h1, _, _, _, h5, _⟩ := e.own i hi
    rw [h1] at z; cases z
    exact h5.1 hf
theorem REnv.un {H2 : Hp} {σ2 : L2.St} {ρ2 : Env} {ow2 : List Nat} (e : REnv K Ta w ow H σ ρ) (e2 : REnv K Ta (w.re (Mo ow σ) H) ow2 H2 σ2 ρ2) : REnv K Ta w ow2 H2 σ2 ρ2 := by
  refine ⟨(qWy e).trans e2.gr, e.live, e.nf, e2.imm, fun i hi => ?_, e2.inj, e2.feed, e2.tab, e.ts⟩
  obtain ⟨p, o, d, h1, h2, h3, h4, h5, h6⟩ := e2.own i hi
  refine ⟨p, o, d, h1, h2, h3, h4, h5, ?_⟩
  cases z : w.H0 p with
  | none => rfl
  | some o' =>
    rw [(qWy e).old p o' z h5] at h6
    cases h6
theorem New.un {H2 : Hp} {d : D} {v : V} (e : REnv K Ta w ow H σ ρ) (h : New K w.F w.M (w.re (Mo ow σ) H).H0 H2 d v) : New K w.F w.M w.H0 H2 d v := by
  obtain ⟨p, o, rfl, h0, hn, h1, h2⟩ := h
  refine ⟨p, o, rfl, ?_, hn, h1, h2⟩
  cases z : w.H0 p with
  | none => rfl
  | some o' =>
    rw [(qWy e).old p o' z hn] at h0
    cases h0
/-- what stood apart from the owned still stands -/
theorem REnv.goes {H2 : Hp} {σ2 : L2.St} {ρ2 : Env} {ow2 : List Nat} (e2 : REnv K Ta (w.re (Mo ow σ) H) ow2 H2 σ2 ρ2) : Goes w.F (w.Mx ow σ) H (w.Mx ow2 σ2) H2 := by
  intro p o h nf m
  have n : ¬ Mo ow σ p := fun z => m (.inr z)
  have h0 : (w.re (Mo ow σ) H).H0 p = some o := by rw [qEa n]; exact h
  refine ⟨e2.gr.old p o h0 nf, fun z => ?_⟩
  rcases z with z | z
  · exact m (.inl z)
  · exact e2.nM h0 z
end
end MR

set_option Elab.async false
set_option linter.all false
set_option maxRecDepth 100000
set_option maxHeartbeats 4000000
set_option exponentiation.threshold 20000
/-! FL: statements and loops without a heap -/
namespace MR
open PySem PySem.Spec PyProof.Rows L2
/-- an expression that makes a new object -/
def SF (K : PySem.W.Frag) (Ta : List (Addr × Str)) (ow : List Nat) (E : L2.St → XK) (ta : TE) (fa : FE) : Prop :=
  ∀ (w : Wd) (H : Hp) (σ : L2.St) (ρ : Env) (P : D → Prop) (X : XP) (Q : VK), REnv K Ta w ow H σ ρ → fa ρ P X →
    (∀ d p o H', P d → Gr K w.F H H' → H p = none → H' p = some o → RepO K w.F (fun q => w.Mx ow σ q ∨ q = p) H' d o → Q (.ref p) H') → PostX K w.F H X (E σ) → ta σ H Q
section
variable {K : PySem.W.Frag} {w : Wd} {ow ow' ow1 owb owx : List Nat} {H H' : Hp} {σ : L2.St} {ρ : Env} {E : L2.St → XK} {N : L2.Ends} {FD : FEnds}
theorem RepO.rep {F : Fd} {M : Addr → Prop} {d : D} {o : HO} {p : Addr} (r : RepO K F M H d o) (ok : Ok F M p) (h : H p = some o) : Rep K F M H d (.ref p) := by
  cases d with
  | lst ds => obtain ⟨vs, rfl, r⟩ := r; exact ⟨p, vs, rfl, ok, h, r⟩
  | ins C ns ds => obtain ⟨dx, gs, rfl, en, r⟩ := r; exact ⟨p, dx, gs, rfl, ok, h, en, r⟩
  | dct ks ds => obtain ⟨gs, rfl, en, r⟩ := r; exact ⟨p, gs, rfl, ok, h, en, r⟩
  | _ => exact r.elim
theorem SF.se {ta : TE} {fa : FE} (h : SF K Ta ow E ta fa) : SE K Ta ow E ta fa := by
  intro w H σ ρ P X Q e hf q x
  refine h w H σ ρ P X Q e hf (fun d p o H' hd g np ho r => q d _ H' hd g ?_) x
  have r2 : RepO K w.F (w.Mx ow σ) H' d o := r.goes fun a u h _ m => ⟨h, fun z => m (.inl z)⟩
  exact r2.rep (e.lv.ok np) ho
theorem qAet {ta : TA} {fa : FA} (ha : SA K Ta ow E ta fa) : SF K Ta ow E (tLst ta) (qFx fa) := by
  intro w H σ ρ P X Q e h q x
  refine ha w H σ ρ _ X _ e h (fun ds vs H1 h1 g1 r1 => ⟨by rw [r1.length]; exact h1.1, fun p np => ?_⟩) x
  have n0 : H p = none := by
    cases z : H p with
    | none => rfl
    | some o => rw [g1.old p o z ((e.grow g1).lv.ok np).1] at np; cases np
  refine q _ p _ _ h1.2 (g1.trans (.new np)) n0 upd_same ⟨vs, rfl, Reps.goes (fun a u h nf m => ?_) _ _ r1⟩
  have ne : a ≠ p := fun z => by rw [z, np] at h; cases h
  exact ⟨by rw [upd_ne ne]; exact h, fun z => z.elim m ne⟩
/-! ### stores -/
def qDr (i : Nat) (fe : FE) : FS := fun FD ρ => fe ρ (fun d => FD.nx (ρ.set i (some d))) (fun x => FD.ex x ρ)
theorem qBi {i : Nat} {te : TE} {fe : FE} (hi : i ∉ ow) (hs : Sub owx ow) (he : SE K Ta ow E te fe) : SS K Ta ow ow owb owx E (tAsg te (gName i)) (qDr i fe) := by
  intro w H σ ρ N FD e h k
  exact he w H σ ρ _ _ _ e h (fun d v H' hd g r => k.nx _ _ _ hd ((e.grow g).put hi r)) (k.px e hs)
/-- the name i takes a new object -/
theorem qTo {i : Nat} {te : TE} {fe : FE} (hi : i ∉ ow) (hs : Sub owx ow) (he : SF K Ta ow E te fe) : SS K Ta ow (i :: ow) owb owx E (tAsg te (gName i)) (fun FD ρ => i < ρ.length ∧ qDr i fe FD ρ) := by
  intro w H σ ρ N FD e h k
  have hl : i < σ.length := (e.imm i hi).len.mp h.1
  exact he w H σ ρ _ _ _ e h.2 (fun d p o H' hd g np ho r => k.nx _ _ _ hd (e.take hi hl np g ho r)) (k.px e hs)
def fPar (i j : Nat) (fa : FA) : FS := fun FD ρ => fa ρ (fun ds => ∃ a b, ds = [a, b] ∧ FD.nx ((ρ.set i (some a)).set j (some b))) (fun x => FD.ex x ρ)
def qEi (fe : FE) : FS := fun FD ρ => fe ρ FD.rt (fun x => FD.ex x ρ)
theorem qA5 {te : TE} {fe : FE} (hs : Sub owx ow) (he : SE K Ta [] E te fe) : SS K Ta ow ow' owb owx E (tRet te) (qEi fe) := by
  intro w H σ ρ N FD e h k
  refine he w H σ ρ _ _ _ (e.free (fun _ z => nomatch z)) h (fun d v H' hd g r => k.rt d v H' hd (e.gr.trans g) ?_) (k.px e hs)
  exact Rep.goes (fun p o h _ m => ⟨h, fun z => m (.inl z)⟩) _ _ r
def qXz : FS := fun FD _ => FD.rt .non
def qX2 (fe : FE) : FS := fun FD ρ => fe ρ (fun _ => FD.nx ρ) (fun x => FD.ex x ρ)
def qF1 (fc : FT) (f g : FS) : FS := fun FD ρ => fc ρ (fun b => if b = true then f FD ρ else g FD ρ) (fun x => FD.ex x ρ)
theorem qDd {tc : TT} {t u : TS} {fc : FT} {f g : FS} (hs : Sub owx ow) (hc : STt K Ta ow E tc fc) (h1 : SS K Ta ow ow' owb owx E t f) (h2 : SS K Ta ow ow' owb owx E u g) : SS K Ta ow ow' owb owx E (tIfS tc t u) (qF1 fc f g) := by
  intro w H σ ρ N FD e h k
  refine hc w H σ ρ _ _ _ e h (fun b H' hb g => ?_) (k.px e hs)
  cases b with
  | true => exact h1 w H' σ ρ N FD (e.grow g) hb k
  | false => exact h2 w H' σ ρ N FD (e.grow g) hb k
def fBrk : FS := fun FD ρ => FD.bk ρ
def fCnt : FS := fun FD ρ => FD.ct ρ
def fNev : FS := fun _ _ => False
theorem qAar : SS K Ta ow ow' owb owx E tNever fNev := fun w H σ ρ N FD e h k => h.elim
/-! ### owned lists -/
theorem REnv.lstAt {i : Nat} {ds : List D} (e : REnv K Ta w ow H σ ρ) (hi : i ∈ ow) (hd : ρ[i]? = some (some (.lst ds))) : ∃ p vs, σ[i]? = some (some (.ref p)) ∧ H p = some (.lst vs) ∧ Reps K w.F (w.Mx ow σ) H ds vs := by
  obtain ⟨p, o, d, h1, h2, h3, h4, h5, h6⟩ := e.own i hi
  rw [h2] at hd; cases hd
  obtain ⟨vs, rfl, r⟩ := h4
  exact ⟨p, vs, h1, h3, r⟩
def fApp (i : Nat) (fe : FE) : FS := fun FD ρ => ∃ ds, ρ[i]? = some (some (.lst ds)) ∧ fe ρ (fun d => ds.length < sizeLine ∧ FD.nx (ρ.set i (some (.lst (ds ++ [d]))))) (fun x => FD.ex x ρ)
theorem qAeb {i : Nat} {te : TE} {fe : FE} (hi : i ∈ ow) (hs : Sub owx ow) (he : SE K Ta ow E te fe) : SS K Ta ow ow owb owx E (tDrop (tBM K "list" rAppend (tVar i) (tCons te tNil))) (fApp i fe) := by
  intro w H σ ρ N FD e h k
  obtain ⟨ds, hd, h⟩ := h
  obtain ⟨p, vs, h1, h2, h3⟩ := e.lstAt hi hd
  refine ⟨_, h1, .inl ⟨rfl, _, SqL.of h2⟩, ?_⟩
  refine he w H σ ρ _ _ _ e h (fun d v H' hd' g r => ?_) (k.px e hs)
  have e' := e.grow g
  obtain ⟨p', vs', k1, k2, k3⟩ := e'.lstAt hi hd
  rw [h1] at k1; cases k1
  refine ⟨p, vs', v, rfl, rfl, k2, by rw [k3.length]; exact hd'.1, k.nx _ _ _ hd'.2 (e'.chg hi h1 ⟨_, rfl, k3.append (.one r)⟩)⟩
/-- x[j] = e -/
def qLf (i : Nat) (fe fj : FE) : FS := fun FD ρ => fe ρ (fun d => fj ρ (fun j => ∃ ds n m, ρ[i]? = some (some (.lst ds)) ∧ j = .int n ∧ ixN ds.length n = some m ∧ FD.nx (ρ.set i (some (.lst (ds.set m d))))) (fun x => FD.ex x ρ)) (fun x => FD.ex x ρ)
theorem qRx {i : Nat} {te tj : TE} {fe fj : FE} (hi : i ∈ ow) (hs : Sub owx ow) (he : SE K Ta ow E te fe) (hj : SE K Ta ow E tj fj) : SS K Ta ow ow owb owx E (tAsg te (gSub (tVar i) tj rSetL)) (qLf i fe fj) := by
  intro w H σ ρ N FD e h k
  refine he w H σ ρ _ _ _ e h (fun d v H' hd g r => ?_) (k.px e hs)
  have e' := e.grow g
  obtain ⟨p, o, d0, z1, _⟩ := e'.own i hi
  refine ⟨_, z1, ?_⟩
  refine hj w H' σ ρ _ _ _ e' hd (fun dj vj H2 hd2 g2 r2 => ?_) (k.px e' hs)
  have e2 := e'.grow g2
  obtain ⟨ds, n, m, hds, rfl, hm, nx⟩ := hd2
  obtain ⟨p', vs', k1, k2, k3⟩ := e2.lstAt hi hds
  rw [z1] at k1; cases k1
  refine ⟨p, vs', n, m, rfl, r2, k2, by rw [k3.length]; exact hm, k.nx _ _ _ nx (e2.chg hi z1 ⟨_, rfl, k3.set (Rep.goes g2.goes _ _ r)⟩)⟩
/-- x[j], x owned -/
def oIx : O2 := fun a b P _ => ∃ ds n d, (a = .lst ds ∨ a = .tup ds) ∧ b = .int n ∧ atI ds n = some d ∧ P d
theorem qSg {F : Fd} {M : Addr → Prop} {ds : List D} {vs : List V} {n : Int} {d : D} (r : Reps K F M H ds vs) (h : atI ds n = some d) : ∃ v, atI vs n = some v ∧ Rep K F M H d v := by
  unfold atI at h ⊢
  rw [r.length]
  cases z : ixN ds.length n with
  | none => rw [z] at h; cases h
  | some j =>
    rw [z] at h
    exact r.get h
theorem qVk {i : Nat} {tj : TE} {fj : FE} (hi : i ∈ ow) (hj : SE K Ta ow E tj fj) : SE K Ta ow E (tOp (rIxL K) (tVar i) tj) (fOp oIx (qAe i) fj) := by
  intro w H σ ρ P X Q e h q x
  obtain ⟨d, hd, h⟩ := h
  obtain ⟨p, o, d0, z1, z2, z3, z4, _⟩ := e.own i hi
  refine ⟨_, z1, hj w H σ ρ _ _ _ e h (fun dj vj H' hd' g r => ?_) x⟩
  have e' := e.grow g
  obtain ⟨ds, n, dr, hl, rfl, ha, hp⟩ := hd'
  rw [z2] at hd; cases hd
  rcases hl with rfl | rfl
  · obtain ⟨p', vs', k1, k2, k3⟩ := e'.lstAt hi z2
    rw [z1] at k1; cases k1
    obtain ⟨v, a1, a2⟩ := qSg k3 ha
    exact ⟨p, vs', n, v, rfl, r, SqL.of k2, a1, q dr v H' hp g a2⟩
  · exact z4.elim
/-! ### for -/
abbrev FI := Env → (List D → Prop) → XP → Prop
abbrev FG := D → Env → (Env → Prop) → Prop
/-- the iterator yields the data ds, as long as what was usable at the start stands -/
def ItOk (K : PySem.W.Frag) (F : Fd) (M : Addr → Prop) (H1 : Hp) (J : It) (ds : List D) : Prop :=
  ∀ (M2 : Addr → Prop) (H2 : Hp) (i : Nat), Goes F M H1 M2 H2 → Lv K F M2 H2 → (ds.length ≤ i → J.stop i H2) ∧ (∀ d, ds[i]? = some d → J.go i H2 ∧ ∀ x H3, J.yld i H2 x H3 → Gr K F H2 H3 ∧ Rep K F M2 H3 d x)
def SI (K : PySem.W.Frag) (Ta : List (Addr × Str)) (ow : List Nat) (E : L2.St → XK) (wi : TI) (fi : FI) : Prop :=
  ∀ (w : Wd) (H : Hp) (σ : L2.St) (ρ : Env) (P : List D → Prop) (X : XP) (R : It → Hp → Prop), REnv K Ta w ow H σ ρ → fi ρ P X → (∀ ds J H1, P ds → Gr K w.F H H1 → ItOk K w.F (w.Mx ow σ) H1 J ds → R J H1) → PostX K w.F H X (E σ) → wi σ H R
/-- a target; sl: its slots -/
def SG (K : PySem.W.Frag) (Ta : List (Addr × Str)) (ow sl : List Nat) (g : TG) (g' : FG) : Prop :=
  ∀ (w : Wd) (H : Hp) (σ : L2.St) (ρ : Env) (d : D) (v : V) (R : Env → Prop) (Q : L2.St → Hp → Prop), REnv K Ta w ow H σ ρ → Rep K w.F (w.Mx ow σ) H d v → g' d ρ R → (∀ ρ' σ', R ρ' → REnv K Ta w ow H σ' ρ' → σ'.length = σ.length → (∀ i, i ∉ sl → σ'[i]? = σ[i]?) → Q σ' H) → g v σ H Q
def qA1 (i : Nat) : FG := fun d ρ R => R (ρ.set i (some d))
theorem qBf {i : Nat} (hi : i ∉ ow) : SG K Ta ow [i] (gName i) (qA1 i) := by
  intro w H σ ρ d v R Q e r h k
  refine k _ _ h (e.put hi r) (by rw [List.length_set]) fun j hj => ?_
  rw [qBl, if_neg (fun z => hj (by rw [z]; exact List.mem_singleton_self _))]
abbrev FGs := List D → Env → (Env → Prop) → Prop
def qAay : List Nat → FGs
  | [] => fun ds ρ R => ds = [] ∧ R ρ
  | i :: is => fun ds ρ R => ∃ d r, ds = d :: r ∧ qAay is r (ρ.set i (some d)) R
def qAez (is : List Nat) : FG := fun d ρ R => ∃ ds, d = .tup ds ∧ ds.length = is.length ∧ qAay is ds ρ R
/-- the turns -/
def qB9 (g : FG) (fb : FS) (FD : FEnds) : List D → Env → Prop
  | [], ρ => FD.nx ρ
  | d :: ds, ρ => g d ρ fun ρ' => fb { FD with nx := qB9 g fb FD ds, ct := qB9 g fb FD ds, bk := FD.nx } ρ'
def qE7 (fi : FI) (g : FG) (fb : FS) : FS := fun FD ρ => fi ρ (fun ds => qB9 g fb FD ds ρ) (fun x => FD.ex x ρ)
theorem qD7 {wi : TI} {g : TG} {tb : TS} {fi : FI} {g' : FG} {fb : FS} {sl : List Nat} (hs : Sub owx ow) (hi : SI K Ta ow E wi fi) (hg : SG K Ta ow sl g g') (hb : SS K Ta ow ow ow owx E tb fb) : SS K Ta ow ow owb owx E (tFor wi g tb) (qE7 fi g' fb) := by
  intro w H σ ρ N FD e h k
  refine hi w H σ ρ _ _ _ e h (fun ds J H1 hd g1 it => ?_) (k.px e hs)
  have e1 := e.grow g1
  refine ⟨fun i m σ2 H2 => ∃ ρ2, REnv K Ta (w.re (Mo ow σ) H1) ow H2 σ2 ρ2 ∧ m = ds.length - i ∧ i ≤ ds.length ∧ qB9 g' fb FD (ds.drop i) ρ2, ⟨ds.length, ρ, e1.re, rfl, Nat.zero_le _, hd⟩, ?_⟩
  rintro i m σ2 H2 ⟨ρ2, e2, rfl, hle, go⟩
  obtain ⟨st, yl⟩ := it _ H2 i e2.goes e2.lv
  by_cases hlt : i < ds.length
  · right
    obtain ⟨dd, hdd⟩ : ∃ dd, ds[i]? = some dd := ⟨_, List.getElem?_eq_getElem hlt⟩
    obtain ⟨j1, j2⟩ := yl dd hdd
    have hdrop : ds.drop i = dd :: ds.drop (i + 1) := by
      rw [List.drop_eq_getElem_cons hlt]
      rw [List.getElem?_eq_getElem hlt] at hdd
      cases hdd; rfl
    rw [hdrop] at go
    refine ⟨j1, fun σ' H' => ∃ ρ', REnv K Ta (w.re (Mo ow σ) H1) ow H' σ' ρ' ∧ qB9 g' fb FD (ds.drop (i + 1)) ρ', fun σ' H' ⟨ρ', a, b⟩ => ⟨ds.length - (i + 1), by omega, ρ', a, rfl, hlt, b⟩, fun x H3 y => ?_⟩
    obtain ⟨g3, r3⟩ := j2 x H3 y
    refine hg _ H3 σ2 ρ2 dd x _ _ (e2.grow g3) r3 go fun ρ' σ' hr e3 _ _ => ?_
    refine hb _ H3 σ' ρ' _ _ e3 hr ⟨fun ρ4 σ4 H4 h4 e4 => ⟨ρ4, e4, h4⟩, fun d v H4 h4 g4 r4 => k.rt d v H4 h4 ((qWy e1).trans g4) r4, fun ρ4 σ4 H4 h4 e4 => k.nx _ _ _ h4 (e1.un e4), fun ρ4 σ4 H4 h4 e4 => ⟨ρ4, e4, h4⟩, fun x ρ4 σ4 H4 cls dd h4 e4 r4 => k.ex x ρ4 σ4 H4 cls dd h4 (e1.un e4) r4, fun d v H4 h4 g4 r4 => k.rf d v H4 h4 ((qWy e1).trans g4) (r4.un e1)⟩
  · left
    have : i = ds.length := by omega
    rw [this, List.drop_length] at go
    exact ⟨st (by omega), k.nx _ _ _ go (e1.un e2)⟩
/-! ### while -/
def qMx (fc : FT) (fb : FS) : FS := fun FD ρ => ∃ W : Nat → Env → Prop, (∃ m, W m ρ) ∧ ∀ m ρ, W m ρ → fc ρ (fun b => if b = true then fb { FD with nx := fun ρ' => ∃ m', m' < m ∧ W m' ρ', ct := fun ρ' => ∃ m', m' < m ∧ W m' ρ', bk := FD.nx } ρ else FD.nx ρ) (fun x => FD.ex x ρ)
theorem qTs {tc : TT} {tb : TS} {fc : FT} {fb : FS} (hs : Sub owx ow) (hc : STt K Ta ow E tc fc) (hb : SS K Ta ow ow ow owx E tb fb) : SS K Ta ow ow owb owx E (tWhile tc tb) (qMx fc fb) := by
  intro w H σ ρ N FD e h k
  obtain ⟨W, ⟨m0, w0⟩, turn⟩ := h
  refine ⟨fun m σ2 H2 => ∃ ρ2, REnv K Ta w ow H2 σ2 ρ2 ∧ W m ρ2, ⟨m0, ρ, e, w0⟩, ?_⟩
  rintro m σ2 H2 ⟨ρ2, e2, w2⟩
  refine hc w H2 σ2 ρ2 _ _ _ e2 (turn m ρ2 w2) (fun b H3 h3 g3 => ?_) (k.px e2 hs)
  cases b with
  | false => exact k.nx _ _ _ h3 (e2.grow g3)
  | true =>
    refine ⟨fun σ' H' => ∃ m' ρ', m' < m ∧ REnv K Ta w ow H' σ' ρ' ∧ W m' ρ', fun σ' H' ⟨m', ρ', a, b, c⟩ => ⟨m', a, ρ', b, c⟩, ?_⟩
    exact hb w H3 σ2 ρ2 _ _ (e2.grow g3) h3 ⟨fun ρ4 σ4 H4 ⟨m', a, b⟩ e4 => ⟨m', ρ4, a, e4, b⟩, k.rt, k.nx, fun ρ4 σ4 H4 ⟨m', a, b⟩ e4 => ⟨m', ρ4, a, e4, b⟩, k.ex, k.rf⟩
/-! ### what a loop walks -/
def itD : D → Option (List D)
  | .lst ds => some ds
  | .tup ds => some ds
  | _ => none
def fIt (fe : FE) : FI := fun ρ P X => fe ρ (fun d => ∃ ds, itD d = some ds ∧ P ds) X
def qVh (fe : FE) : FI := fun ρ P X => fe ρ (fun d => ∃ ds, d = .lst ds ∧ P ds) X
def fItT (fe : FE) : FI := fun ρ P X => fe ρ (fun d => ∃ ds, d = .tup ds ∧ P ds) X
theorem qIx {te : TE} {fe : FE} (he : SE K Ta ow E te fe) : SI K Ta ow E (iList K te) (qVh fe) := by
  intro w H σ ρ P X R e h k x
  refine he w H σ ρ _ X _ e h (fun d v H1 hd g r => ?_) x
  obtain ⟨ds, rfl, p⟩ := hd
  obtain ⟨a, vs, rfl, ok, ha, rs⟩ := r
  refine ⟨a, rfl, ⟨vs, SqL.of ha⟩, k ds _ H1 p g fun M2 H2 i go lv => ?_⟩
  obtain ⟨ha2, _⟩ := go a _ ha ok.1 ok.2
  have rs2 := Reps.goes go _ _ rs
  refine ⟨fun hl => ⟨vs, SqL.of ha2, by rw [rs.length]; exact hl⟩, fun d hd => ?_⟩
  obtain ⟨v, hv, rv⟩ := rs2.get hd
  refine ⟨⟨vs, v, SqL.of ha2, hv⟩, fun y H3 hy => ?_⟩
  obtain ⟨rfl, hy⟩ := hy
  have := hy vs (SqL.of ha2)
  rw [hv] at this; cases this
  exact ⟨.refl, rv⟩
def qIl (lo : Int) (n : Nat) : List D := (List.range n).map fun (k : Nat) => D.int (lo + (k : Int))
theorem qAb6 {lo : Int} {n i : Nat} {d : D} (h : (qIl lo n)[i]? = some d) : i < n ∧ d = .int (lo + (i : Int)) := by
  unfold qIl at h
  rw [List.getElem?_map] at h
  by_cases hi : i < n
  · rw [List.getElem?_range hi] at h
    cases h; exact ⟨hi, rfl⟩
  · rw [List.getElem?_eq_none (by simp; omega)] at h
    cases h
def qB3 (fa : FA) : FI := fun ρ P X => fa ρ (fun as => ∃ j : Int, as = [.int j] ∧ -(2 ^ 62) ≤ j ∧ j < 2 ^ 62 ∧ P (qIl 0 j.toNat)) X
theorem qCm {ta : TA} {fa : FA} (ha : SA K Ta ow E ta fa) : SI K Ta ow E (iRng1 ta) (qB3 fa) := by
  intro w H σ ρ P X R e h k x
  refine ha w H σ ρ _ X _ e h (fun ds vs H1 hd g r => ?_) x
  obtain ⟨j, rfl, j0, j1, p⟩ := hd
  have := Reps.ints (ns := [j]) r
  refine ⟨j, this, j0, j1, k _ _ H1 p g fun M2 H2 i go lv => ⟨fun hl => ?_, fun d hd => ?_⟩⟩
  · simp only [qIl, List.length_map, List.length_range] at hl; exact hl
  · obtain ⟨h1, rfl⟩ := qAb6 hd
    exact ⟨h1, fun y H3 ⟨h3, hy⟩ => by subst h3; exact ⟨.refl, hy⟩⟩
end
end MR

set_option Elab.async false
set_option linter.all false
set_option maxRecDepth 100000
set_option maxHeartbeats 4000000
/-! MR: lists or tuples -/
namespace MR
open PySem PySem.Spec PyProof.Rows L2
def iSeq (K : PySem.W.Frag) (tl : TE) : TI := fun σ H R => tl σ H fun x H1 => ∃ a, x = .ref a ∧ (((∃ xs, SqL K H1 a xs) ∧ R (Itl K a) H1) ∨ ((∃ xs, SqT K H1 a xs) ∧ R (Itt K a) H1))
theorem qW0 {X : Cx} {tg l : Expr} {tl : TE} (hl : PE X l tl) : PI X tg l (iSeq X.K tl) := by
  refine ⟨fun pins s σ H R I h => ?_⟩
  refine thn (hl.run pins s σ H _ I h) fun v s1 ⟨x, H1, I1, r1, q1⟩ => ?_
  obtain ⟨a, e, q1⟩ := q1
  subst e
  cases r1
  rcases q1 with ⟨⟨xs, hq⟩, q⟩ | ⟨⟨xs, hq⟩, q⟩
  · obtain ⟨its, rv, p, hz⟩ := I1.list hq
    refine wpAny_pyIter_list p.isList ?_
    refine ⟨s1.heap.objs.size, [s1.heap.objs.size], _, _, H1, rfl, I1.kept (t' := s1.toks) fun b o e => Heap.get?_push_of_some _ e, turn_list a _, ⟨_, Heap.get?_push_size _ rfl, rfl, rfl⟩, fun b hb => ?_, q⟩
    have e : b = s1.heap.objs.size := by simpa using hb
    subst e
    exact I1.fpOk (Nat.le_refl _) (I1.hok.fresh (Nat.le_refl _))
  · obtain ⟨its, rv, p, hz⟩ := I1.tuple hq
    refine wpAny_pyIter_tuple (show s1.heap.IsTuple a its.toArray from p) ?_
    refine ⟨s1.heap.objs.size, [s1.heap.objs.size], _, _, H1, rfl, I1.kept (t' := s1.toks) fun b o e => Heap.get?_push_of_some _ e, turn_tuple a _, ⟨_, Heap.get?_push_size _ rfl, rfl, rfl⟩, fun b hb => ?_, q⟩
    have e : b = s1.heap.objs.size := by simpa using hb
    subst e
    exact I1.fpOk (Nat.le_refl _) (I1.hok.fresh (Nat.le_refl _))
end MR

set_option Elab.async false
set_option linter.all false
set_option maxRecDepth 100000
set_option maxHeartbeats 4000000
set_option exponentiation.threshold 20000
/-! FL: iterations, comprehensions, slices -/
namespace MR
open PySem PySem.Spec PyProof.Rows L2
section
variable {K : PySem.W.Frag} {w : Wd} {ow ow' ow1 owb owx : List Nat} {H H' : Hp} {σ : L2.St} {ρ : Env} {E : L2.St → XK} {N : L2.Ends} {FD : FEnds}
theorem qAer {F : Fd} {M : Addr → Prop} {a : Addr} {vs : List V} {ds : List D} (ok : Ok F M a) (ha : H a = some (.lst vs)) (rs : Reps K F M H ds vs) : ItOk K F M H (Itl K a) ds := by
  intro M2 H2 i go lv
  obtain ⟨ha2, _⟩ := go a _ ha ok.1 ok.2
  have rs2 := Reps.goes go _ _ rs
  refine ⟨fun hl => ⟨vs, SqL.of ha2, by rw [rs.length]; exact hl⟩, fun d hd => ?_⟩
  obtain ⟨v, hv, rv⟩ := rs2.get hd
  refine ⟨⟨vs, v, SqL.of ha2, hv⟩, fun y H3 hy => ?_⟩
  obtain ⟨rfl, hy⟩ := hy
  have := hy vs (SqL.of ha2)
  rw [hv] at this; cases this
  exact ⟨.refl, rv⟩
theorem qAc9 {F : Fd} {M : Addr → Prop} {a : Addr} {vs : List V} {ds : List D} (ok : Ok F M a) (ha : H a = some (.tup vs)) (rs : Reps K F M H ds vs) : ItOk K F M H (Itt K a) ds := by
  intro M2 H2 i go lv
  obtain ⟨ha2, _⟩ := go a _ ha ok.1 ok.2
  have rs2 := Reps.goes go _ _ rs
  refine ⟨fun hl => ⟨vs, SqT.of ha2, by rw [rs.length]; exact hl⟩, fun d hd => ?_⟩
  obtain ⟨v, hv, rv⟩ := rs2.get hd
  refine ⟨⟨vs, v, SqT.of ha2, hv⟩, fun y H3 hy => ?_⟩
  obtain ⟨rfl, hy⟩ := hy
  have := hy vs (SqT.of ha2)
  rw [hv] at this; cases this
  exact ⟨.refl, rv⟩
theorem qVx {te : TE} {fe : FE} (he : SE K Ta ow E te fe) : SI K Ta ow E (iSeq K te) (fIt fe) := by
  intro w H σ ρ P X R e h k x
  refine he w H σ ρ _ X _ e h (fun d v H1 hd g r => ?_) x
  obtain ⟨ds, hds, p⟩ := hd
  cases d with
  | lst es =>
    cases hds
    obtain ⟨a, vs, rfl, ok, ha, rs⟩ := r
    exact ⟨a, rfl, .inl ⟨⟨vs, SqL.of ha⟩, k _ _ H1 p g (qAer ok ha rs)⟩⟩
  | tup es =>
    cases hds
    obtain ⟨a, vs, rfl, ok, ha, rs⟩ := r
    exact ⟨a, rfl, .inr ⟨⟨vs, SqT.of ha⟩, k _ _ H1 p g (qAc9 ok ha rs)⟩⟩
  | _ => cases hds
/-- reversed(range(e)) -/
def rrD (n : Nat) : List D := (List.range n).map fun (k : Nat) => D.int ((n : Int) - 1 - (k : Int))
def qXb (fe : FE) : FI := fun ρ P X => fe ρ (fun d => ∃ j : Int, d = .int j ∧ 0 ≤ j ∧ j < 2 ^ 62 ∧ P (rrD j.toNat)) X
theorem qZb {te : TE} {fe : FE} (he : SE K Ta ow E te fe) : SI K Ta ow E (iRevR (tRg1 te)) (qXb fe) := by
  intro w H σ ρ P X R e h k x
  refine he w H σ ρ _ X _ e h (fun d v H1 hd g r => ?_) x
  obtain ⟨j, rfl, j0, j1, p⟩ := hd
  refine ⟨j, r, by omega, by omega, by omega, by omega, k _ _ H1 p g fun M2 H2 i go lv => ⟨fun hl => ?_, fun d hd => ?_⟩⟩
  · simp only [rrD, List.length_map, List.length_range] at hl
    show (j - 0).toNat ≤ i
    omega
  · unfold rrD at hd
    rw [List.getElem?_map] at hd
    by_cases hi : i < j.toNat
    · rw [List.getElem?_range hi] at hd
      cases hd
      refine ⟨by show i < (j - 0).toNat; omega, fun y H3 ⟨h3, hy⟩ => ?_⟩
      subst h3
      refine ⟨.refl, ?_⟩
      rw [hy]
      show V.int _ = V.int _
      congr 1
      omega
    · rw [List.getElem?_eq_none (by simp; omega)] at hd
      cases hd
/-! ### slices -/
abbrev FO := Env → (Option Int → Prop) → XP → Prop
def SO (K : PySem.W.Frag) (Ta : List (Addr × Str)) (ow : List Nat) (E : L2.St → XK) (to : TO) (fo : FO) : Prop :=
  ∀ (w : Wd) (H : Hp) (σ : L2.St) (ρ : Env) (P : Option Int → Prop) (X : XP) (Q : Option Int → Hp → Prop), REnv K Ta w ow H σ ρ → fo ρ P X → (∀ i H', P i → Gr K w.F H H' → Q i H') → PostX K w.F H X (E σ) → to σ H Q
def qI2 : FO := fun _ P _ => P none
def qUr (fe : FE) : FO := fun ρ P X => fe ρ (fun d => ∃ i, d = .int i ∧ P (some i)) X
theorem qAb0 : SO K Ta ow E tNoPart qI2 := fun w H σ ρ P X Q e h q x => q _ _ h .refl
theorem qAaz {te : TE} {fe : FE} (he : SE K Ta ow E te fe) : SO K Ta ow E (tPart te) (qUr fe) := by
  intro w H σ ρ P X Q e h q x
  refine he w H σ ρ _ X _ e h (fun d v H1 hd g r => ?_) x
  obtain ⟨i, rfl, p⟩ := hd
  exact ⟨i, r, q _ H1 p g⟩
def cutD {α : Type} (xs : List α) (lo hi : Option Int) : List α := (xs.drop (HT.sIx xs.length 0 lo)).take (HT.sIx xs.length xs.length hi - HT.sIx xs.length 0 lo)
end
end MR

set_option Elab.async false
set_option linter.all false
set_option maxRecDepth 100000
set_option maxHeartbeats 4000000
set_option exponentiation.threshold 20000
/-! FL: comprehensions, slices, operators -/
namespace MR
open PySem PySem.Spec PyProof.Rows L2
section
variable {K : PySem.W.Frag} {w : Wd} {ow ow' ow1 owb owx : List Nat} {H H' : Hp} {σ : L2.St} {ρ : Env} {E : L2.St → XK} {N : L2.Ends} {FD : FEnds}
/-! ### comprehensions -/
def qFz (ρ : Env) : List Nat → Env
  | [] => ρ
  | v :: vs => (qFz ρ vs).set v none
theorem REnv.clr {i : Nat} (e : REnv K Ta w ow H σ ρ) (hi : i ∉ ow) : REnv K Ta w ow H (σ.set i none) (ρ.set i none) := by
  have mm : ∀ p, w.Mx ow (σ.set i none) p ↔ w.Mx ow σ p := fun p => or_congr .rfl (qZ6 hi p)
  have go : Goes w.F (w.Mx ow σ) H (w.Mx ow (σ.set i none)) H := fun p o h _ m => ⟨h, fun z => m ((mm p).mp z)⟩
  have same : ∀ j, j ∈ ow → (σ.set i none)[j]? = σ[j]? ∧ (ρ.set i none)[j]? = ρ[j]? := fun j hj => by
    have : i ≠ j := fun z => hi (by rw [z]; exact hj)
    rw [qBl, qBl, if_neg this, if_neg this]
    exact ⟨rfl, rfl⟩
  refine ⟨e.gr, e.live, e.nf, fun j hj => ?_, fun j hj => ?_, fun j hj k hk n p => ?_, fun f hf => ?_, e.tab, e.ts⟩
  · rw [qBl, qBl]
    have z := e.imm j hj
    split
    · rename_i h
      have hl := z.len
      by_cases hlt : j < ρ.length
      · rw [if_pos hlt, if_pos (hl.mp hlt)]
        trivial
      · rw [if_neg hlt, if_neg (fun y => hlt (hl.mpr y))]
        trivial
    · exact z.mono fun d' v' => Rep.goes go d' v'
  · obtain ⟨p, o, d', h1, h2, h3, h4, h5⟩ := e.own j hj
    exact ⟨p, o, d', by rw [(same j hj).1]; exact h1, by rw [(same j hj).2]; exact h2, h3, h4.goes go, h5⟩
  · rw [(same j hj).1, (same k hk).1]
    exact e.inj j hj k hk n p
  · obtain ⟨c, h1, h2⟩ := e.feed f hf
    exact ⟨c, h1, fun z => h2 ((mm c).mp z)⟩
theorem REnv.wipe (e : REnv K Ta w ow H σ ρ) : ∀ {vs : List Nat}, (∀ i, i ∈ vs → i ∉ ow) → REnv K Ta w ow H (L2.wipe σ vs) (qFz ρ vs)
  | [], _ => e
  | v :: vs, h => (REnv.wipe e fun i hi => h i (List.mem_cons_of_mem _ hi)).clr (h v List.mem_cons_self)
theorem qGq (σ : L2.St) (j : Nat) : ∀ vs : List Nat, (L2.wipe σ vs)[j]? = if j ∈ vs then (if j < σ.length then some none else none) else σ[j]?
  | [] => by simp [L2.wipe]
  | v :: vs => by
    unfold L2.wipe
    rw [qBl, wipe_length, qGq σ j vs]
    by_cases h : v = j
    · subst h; simp
    · rw [if_neg h]
      have : j ∈ v :: vs ↔ j ∈ vs := by simp [List.mem_cons, Ne.symm h]
      simp only [this]
theorem qAbj {vs : List Nat} (h : ∀ i, i ∈ vs → i ∉ ow) (p : Addr) : Mo ow (L2.wipe σ vs) p ↔ Mo ow σ p := by
  have : ∀ j, j ∈ ow → (L2.wipe σ vs)[j]? = σ[j]? := fun j hj => by rw [qGq, if_neg (fun z => h j z hj)]
  exact ⟨fun ⟨j, hj, z⟩ => ⟨j, hj, by rw [← this j hj]; exact z⟩, fun ⟨j, hj, z⟩ => ⟨j, hj, by rw [this j hj]; exact z⟩⟩
abbrev X0 : XP := fun _ => False
def qMw (g : FG) (ft : FT) (fe : FE) (ρ0 : Env) (P : D → Prop) : List D → List D → Prop
  | [], acc => P (.lst acc)
  | d :: ds, acc => g d ρ0 fun ρ2 => ft ρ2 (fun b => if b = true then fe ρ2 (fun y => acc.length < sizeLine ∧ qMw g ft fe ρ0 P ds (acc ++ [y])) X0 else qMw g ft fe ρ0 P ds acc) X0
def fLc (fi : FI) (g : FG) (ft : FT) (fe : FE) (vs : List Nat) : FE := fun ρ P X => fi ρ (fun ds => qMw g ft fe (qFz ρ vs) P ds []) X
def qI4 : FT := fun _ P _ => P true
theorem qF5 : STt K Ta ow E tYes qI4 := fun w H σ ρ P X Q e h q x => q _ _ h .refl
/-- the world with one more owned place -/
def Wd.own1 (w : Wd) (p : Addr) (H : Hp) : Wd := { w with M := fun q => w.M q ∨ q = p, H0 := H }
/-- an environment beside an object that is being made at p -/
theorem REnv.beside {p : Addr} {o : HO} (e : REnv K Ta w ow H σ ρ) (np : H p = none) : REnv K Ta ((w.re (Mo ow σ) H).own1 p (upd (w.re (Mo ow σ) H).H0 p o)) ow (upd H p o) σ ρ := by
  have ok := e.lv.ok np
  have nm : ¬ Mo ow σ p := fun z => ok.2 (.inr z)
  have g : Gr K w.F H (upd H p o) := .new np
  have e1 := e.re
  have go : Goes w.F (w.Mx ow σ) H (((w.re (Mo ow σ) H).own1 p (upd (w.re (Mo ow σ) H).H0 p o)).Mx ow σ) (upd H p o) := fun q u h nf m => by
    have ne : q ≠ p := fun z => by rw [z, np] at h; cases h
    refine ⟨by rw [upd_ne ne]; exact h, fun z => ?_⟩
    rcases z with (z | z) | z
    · exact m (.inl z)
    · exact ne z
    · exact m (.inr z)
  have n0 : (w.re (Mo ow σ) H).H0 p = none := by rw [qEa nm]; exact np
  refine ⟨⟨fun b u h n => ?_, fun f c hf h => ?_, fun _ => g.tab e.tab⟩, fun q m => ?_, fun q m => ?_, fun i hi => (e.imm i hi).mono fun d v => Rep.goes go d v, fun i hi => ?_, e.inj, fun f hf => ?_, g.tab e.tab, e.ts⟩
  · by_cases hb : b = p
    · subst hb
      have h' : upd (w.re (Mo ow σ) H).H0 b o b = some u := h
      rw [upd_same] at h'
      rw [upd_same]; exact h'
    · have h' : upd (w.re (Mo ow σ) H).H0 p o b = some u := h
      rw [upd_ne hb] at h'
      rw [upd_ne hb]
      exact e1.gr.old b u h' n
  · obtain ⟨ns, a1, a2, a3, a4, a5, o', G, e'⟩ := h
    have fp : f ≠ p := fun z => ok.1.1 (by rw [← z]; exact hf)
    have hf0 : (w.re (Mo ow σ) H).H0 f = _ := (upd_ne fp).symm.trans G.ob
    obtain ⟨c', k1, k2⟩ := e.feed f hf
    have hc' : c' = c := by
      obtain ⟨_, _, _, _, _, _, _, G', _⟩ := k1
      have nf : ¬ Mo ow σ f := fun ⟨i, hi, z⟩ => by
        obtain ⟨p', o', d', h1, _, _, _, h5, _⟩ := e.own i hi
        rw [h1] at z; cases z
        exact h5.1 hf
      rw [qEa nf, G'.ob] at hf0
      simp only [Option.some.injEq, HO.lst.injEq, List.cons.injEq, V.ref.injEq] at hf0
      exact hf0.1
    subst hc'
    have cp : c' ≠ p := fun z => by
      obtain ⟨_, _, _, _, _, _, _, _, e''⟩ := k1
      rw [z, np] at e''; cases e''
    have nf : ¬ Mo ow σ f := fun ⟨i, hi, z⟩ => by
      obtain ⟨p', o', d', h1, _, _, _, h5, _⟩ := e.own i hi
      rw [h1] at z; cases z
      exact h5.1 hf
    exact k1.keep (Ne.symm fp) (Ne.symm cp)
  · rcases m with m | m
    · obtain ⟨u, h⟩ := e1.live q m
      exact ⟨u, (upd_ne (fun z => by rw [z, n0] at h; cases h)).trans h⟩
    · exact ⟨o, by rw [m]; exact upd_same⟩
  · rcases m with m | m
    · exact e.nf q m
    · rw [m]; exact ok.1
  · obtain ⟨q, u, d, h1, h2, h3, h4, h5, h6⟩ := e1.own i hi
    have ne : q ≠ p := fun z => by rw [z, np] at h3; cases h3
    exact ⟨q, u, d, h1, h2, by rw [upd_ne ne]; exact h3, h4.goes go, h5, (upd_ne ne).trans h6⟩
  · obtain ⟨c, k1, k2⟩ := e.feed f hf
    refine ⟨c, g.feed f c hf k1, fun z => ?_⟩
    rcases z with (z | z) | z
    · exact k2 (.inl z)
    · obtain ⟨_, _, _, _, _, _, _, _, e''⟩ := k1
      rw [z, np] at e''; cases e''
    · exact k2 (.inr z)
theorem qAec {w : Wd} {M : Addr → Prop} {F : Fd} : Gr K F (w.re M H).H0 H := by
  have out : ∀ {b : Addr} {u : HO}, (w.re M H).H0 b = some u → H b = some u := fun {b u} h => by
    by_cases hm : M b
    · rw [qWn hm] at h; cases h
    · rw [qEa hm] at h; exact h
  refine ⟨fun b o h n => out h, fun f c hf h => ?_, fun h => h.ext fun b o => out⟩
  obtain ⟨ns, a1, a2, a3, a4, a5, o', G, e'⟩ := h
  refine ⟨ns, a1, a2, a3, a4, a5, o', ⟨out G.ob, ?_, G.ne, G.nn, G.p0, G.b0, G.l0, G.n0, G.s0⟩, out e'⟩
  rcases G.cs with (h | ⟨o, h⟩) | h
  · exact .inl (.inl (out h))
  · exact .inl (.inr ⟨o, out h⟩)
  · exact .inr h
/-- the object being made changes -/
theorem REnv.amb {p : Addr} {o o' : HO} (e : REnv K Ta w ow H σ ρ) (mp : w.M p) (hp : H p = some o) (hpl : Pl o) : REnv K Ta (w.re (Mo ow σ) (upd H p o')) ow (upd H p o') σ ρ := by
  have mx : w.Mx ow σ p := .inl mp
  have np : w.F.no p := e.nf p mp
  have go : Goes w.F (w.Mx ow σ) H (w.Mx ow σ) (upd H p o') := fun q u h nf m => ⟨by rw [upd_ne (fun z => m (by rw [z]; exact mx))]; exact h, m⟩
  obtain ⟨op, hop⟩ := e.live p mp
  have nmp : ¬ Mo ow σ p := e.nM hop
  have keepf : ∀ f c, w.F.f = some f → FeedC K H f c → FeedC K (upd H p o') f c := fun f c hf k => by
    obtain ⟨c', k1, k2⟩ := e.feed f hf
    have := qOe k1 k
    subst this
    exact k.keep (fun z => np.1 (by rw [z]; exact hf)) (fun z => k2 (by rw [← z]; exact mx))
  refine ⟨qAec, fun q m => ?_, e.nf, fun i hi => (e.imm i hi).mono fun d v => Rep.goes go d v, fun i hi => ?_, e.inj, fun f hf => ?_, qId e.tab hp hpl, e.ts⟩
  · by_cases hq : q = p
    · rw [hq]; exact ⟨o', by rw [qEa nmp]; exact upd_same⟩
    · obtain ⟨u, h⟩ := e.live q m
      refine ⟨u, ?_⟩
      rw [qEa (e.nM h), upd_ne hq]
      exact e.gr.old _ _ h (e.nf q m)
  · obtain ⟨q, u, d, h1, h2, h3, h4, h5, h6⟩ := e.own i hi
    have ne : q ≠ p := fun z => by rw [z, hop] at h6; cases h6
    exact ⟨q, u, d, h1, h2, by rw [upd_ne ne]; exact h3, h4.goes go, h5, qWn ⟨i, hi, h1⟩⟩
  · obtain ⟨c, k1, k2⟩ := e.feed f hf
    exact ⟨c, keepf f c hf k1, k2⟩
theorem qKu {wi : TI} {g : TG} {tt : TT} {te : TE} {vs sl : List Nat} {fi : FI} {g' : FG} {ft : FT} {fe : FE} (hv : ∀ i, i ∈ vs → i ∉ ow) (hsl : ∀ i, i ∈ sl → i ∈ vs) (hi : SI K Ta ow E wi fi) (hg : SG K Ta ow sl g g') (ht : STt K Ta ow (fun _ => E0) tt ft) (he : SE K Ta ow (fun _ => E0) te fe) :
    SF K Ta ow E (tLc wi g tt te vs) (fLc fi g' ft fe vs) := by
  intro w H σ ρ P X Q e h q x
  refine hi w H σ ρ _ _ _ e h (fun ds J H1 hd g1 it p np => ?_) x
  have e1 := e.grow g1
  have okp := e1.lv.ok np
  have n0 : H p = none := by
    cases z : H p with
    | none => rfl
    | some o => rw [g1.old p o z okp.1] at np; cases np
  have mw : ∀ q, Mo ow (L2.wipe σ vs) q ↔ Mo ow σ q := qAbj hv
  let M3 : Addr → Prop := fun q => w.M q ∨ q = p
  refine ⟨fun i m H2 => ∃ (H0 : Hp) (ad : List D) (av : List V), REnv K Ta ⟨w.F, M3, H0⟩ ow H2 (L2.wipe σ vs) (qFz ρ vs) ∧ H2 p = some (.lst av) ∧ Reps K w.F (fun q => M3 q ∨ Mo ow σ q) H2 ad av ∧ Gr K w.F H1 H2 ∧ m = ds.length - i ∧ i ≤ ds.length ∧ qMw g' ft fe (qFz ρ vs) P (ds.drop i) ad, ⟨ds.length, _, [], [], (e1.wipe hv).beside (o := .lst []) np, upd_same, rfl, .new np, rfl, Nat.zero_le _, hd⟩, ?_⟩
  rintro i m H2 ⟨H0, ad, av, e2, hp, ra, g2, rfl, hle, go⟩
  have mx : ∀ q, (⟨w.F, M3, H0⟩ : Wd).Mx ow (L2.wipe σ vs) q ↔ (M3 q ∨ Mo ow σ q) := fun q => or_congr .rfl (mw q)
  have goes : Goes w.F (w.Mx ow σ) H1 ((⟨w.F, M3, H0⟩ : Wd).Mx ow (L2.wipe σ vs)) H2 := fun a u h nf n => ⟨g2.old a u h nf, fun z => by
    rcases (mx a).mp z with (z | z) | z
    · exact n (.inl z)
    · rw [z, np] at h; cases h
    · exact n (.inr z)⟩
  obtain ⟨st, yl⟩ := it _ H2 i goes e2.lv
  by_cases hlt : i < ds.length
  · right
    obtain ⟨dd, hdd⟩ : ∃ dd, ds[i]? = some dd := ⟨_, List.getElem?_eq_getElem hlt⟩
    obtain ⟨j1, j2⟩ := yl dd hdd
    have hdrop : ds.drop i = dd :: ds.drop (i + 1) := by
      rw [List.drop_eq_getElem_cons hlt]
      rw [List.getElem?_eq_getElem hlt] at hdd
      cases hdd; rfl
    rw [hdrop] at go
    refine ⟨j1, fun H' => ∃ (H0 : Hp) (ad : List D) (av : List V), REnv K Ta ⟨w.F, M3, H0⟩ ow H' (L2.wipe σ vs) (qFz ρ vs) ∧ H' p = some (.lst av) ∧ Reps K w.F (fun q => M3 q ∨ Mo ow σ q) H' ad av ∧ Gr K w.F H1 H' ∧ qMw g' ft fe (qFz ρ vs) P (ds.drop (i + 1)) ad, ?_, fun y H3 hy => ?_⟩
    · rintro H' ⟨H0', ad', av', a1, a2, a3, a4, a5⟩
      exact ⟨ds.length - (i + 1), by omega, H0', ad', av', a1, a2, a3, a4, rfl, hlt, a5⟩
    · obtain ⟨g3, r3⟩ := j2 y H3 hy
      have e3 := e2.grow g3
      refine hg _ H3 _ _ dd y _ _ e3 r3 go fun ρ2 σ2 hr e4 hl4 hs4 => ⟨?_, ?_⟩
      · refine List.ext_getElem? fun j => ?_
        rw [qGq, qGq, hl4, wipe_length]
        by_cases hj : j ∈ vs
        · rw [if_pos hj, if_pos hj]
        · rw [if_neg hj, if_neg hj, hs4 j (fun z => hj (hsl j z)), qGq, if_neg hj]
      · have mo4 : ∀ q, Mo ow σ2 q ↔ Mo ow σ q := fun q => by
          have : ∀ j, j ∈ ow → σ2[j]? = σ[j]? := fun j hj => by
            have hjv : j ∉ vs := fun z => hv j z hj
            rw [hs4 j (fun z => hjv (hsl j z)), qGq, if_neg hjv]
          exact ⟨fun ⟨j, hj, z⟩ => ⟨j, hj, by rw [← this j hj]; exact z⟩, fun ⟨j, hj, z⟩ => ⟨j, hj, by rw [this j hj]; exact z⟩⟩
        have hp3 : H3 p = some (.lst av) := g3.old _ _ hp okp.1
        refine ht _ H3 σ2 ρ2 _ _ _ e4 hr (fun b H4 hb g4 => ?_) (fun _ _ _ _ z _ _ => z)
        have e5 := e3.grow g4
        have hp4 : H4 p = some (.lst av) := g4.old _ _ hp3 okp.1
        have ra4 := Reps.goes (g3.trans g4).goes _ _ ra
        cases b with
        | false => exact ⟨_, ad, av, e5, hp4, ra4, (g2.trans g3).trans g4, hb⟩
        | true =>
          refine he _ H4 σ2 ρ2 _ _ _ (e4.grow g4) hb (fun d v H5 hd5 g5 r5 => ?_) (fun _ _ _ _ z _ _ => z)
          have hp5 : H5 p = some (.lst av) := g5.old _ _ hp4 okp.1
          have ra5 := Reps.goes g5.goes _ _ ra4
          refine ⟨av, hp5, by rw [ra5.length]; exact hd5.1, ?_⟩
          have e6 := (e5.grow g5).amb (o' := .lst (av ++ [v])) (.inr rfl) hp5 trivial
          refine ⟨_, ad ++ [d], av ++ [v], e6, upd_same, ?_, ?_, hd5.2⟩
          · refine Reps.goes (M := fun q => M3 q ∨ Mo ow σ q) (H := H5) (fun a u h nf n => ⟨by rw [upd_ne (fun z => n (.inl (.inr z)))]; exact h, n⟩) _ _ (ra5.append (.one ?_))
            exact Rep.goes (fun a u h nf n => ⟨h, fun z => n (z.elim .inl fun y => .inr ((mo4 a).mpr y))⟩) _ _ r5
          · have gg := ((g2.trans g3).trans g4).trans g5
            refine ⟨fun b u h n => ?_, fun f c hf hc => ?_, fun z => qId (gg.tab z) hp5 trivial⟩
            · rw [upd_ne (fun z => by rw [z, np] at h; cases h)]
              exact gg.old b u h n
            · refine (gg.feed f c hf hc).keep (fun z => okp.1.1 (by rw [z]; exact hf)) (fun z => ?_)
              obtain ⟨_, _, _, _, _, _, _, _, e''⟩ := hc
              rw [← z, np] at e''; cases e''
  · left
    have : i = ds.length := by omega
    rw [this, List.drop_length] at go
    refine ⟨st (by omega), q _ p _ H2 go (g1.trans g2) n0 hp ⟨av, rfl, ?_⟩⟩
    refine Reps.goes (fun a u h nf n => ⟨h, fun z => n ?_⟩) _ _ ra
    rcases z with (z | z) | z
    · exact .inl (.inl z)
    · exact .inr z
    · exact .inl (.inr z)
end
end MR

set_option Elab.async false
set_option linter.all false
set_option maxRecDepth 100000
set_option maxHeartbeats 4000000
/-! MR: X(), X an own exception class without an __init__ of its own -/
namespace MR
open PySem PySem.Spec PyProof.Rows L2
theorem qYe {X : Cx} {C : Addr} {bmB : List Value} {B newId initId : String} {x : Str} {p pos : Pos} (F : ExcBaseFacts B newId initId bmB) (q : PySem.W.excIn X.K C bmB newId = true) (gC : X.mg x = some (.ref C))
    (kC : PySem.W.keepIn X.K (.ref C) = true) (r : Raises X (.ref C)) (hg : Gl X x) (hdb : (x == ("__debug__" : Str)) = false := by decide) :
    PMk X (.Call (.Name x p) [] [] pos) (fun σ H Q => Q (.ref C) none H) := by
  intro pins s σ H Q I h
  refine wpAny_Call_Name_kw (ld_glob I hg gC ?_ hdb)
  refine PySem.W.callWith_K0 I.kIn kC ?_
  show wpAny _ _ (call (.ref C) []) _ _ _
  obtain ⟨bm, N, nm, qn, bs, hdct, sn, sub, ab, col, dd, k0, k1, k2, k3, k5, mN, hC, hN, hni, T⟩ := exc_obj I.kIn q
  refine wpAny_call_exc_subT F T hC hN hni (fun h' e hm => ?_) (Nat.zero_le _)
  exact mk_of I hm r h (I.hok.gone hm.new)
end MR

set_option Elab.async false
set_option linter.all false
set_option maxRecDepth 100000
set_option maxHeartbeats 4000000
set_option exponentiation.threshold 20000
/-! FL: slices, operators by values -/
namespace MR
open PySem PySem.Spec PyProof.Rows L2
section
variable {K : PySem.W.Frag} {w : Wd} {ow ow' ow1 owb owx : List Nat} {H H' : Hp} {σ : L2.St} {ρ : Env} {E : L2.St → XK} {E1 : XK} {N : L2.Ends} {FD : FEnds} {F : Fd} {M : Addr → Prop}
/-! ### slices of lists -/
theorem Reps.cut {ds : List D} {vs : List V} {lo hi : Option Int} (r : Reps K F M H ds vs) : Reps K F M H (cutD ds lo hi) (cutV vs lo hi) := by
  unfold cutD cutV
  rw [r.length]
  exact (r.drop _).take _
def fSl (fe : FE) (fl fh : FO) : FE := fun ρ P X => fe ρ (fun d => fl ρ (fun l => fh ρ (fun h => ∃ ds, d = .lst ds ∧ P (.lst (cutD ds l h))) X) X) X
theorem qNz {p : Addr} {ds : List D} {vs : List V} (np : H p = none) (r : Reps K F M H ds vs) : RepO K F (fun q => M q ∨ q = p) (upd H p (.lst vs)) (.lst ds) (.lst vs) := by
  refine ⟨vs, rfl, Reps.goes (fun a u h nf m => ?_) _ _ r⟩
  have ne : a ≠ p := fun z => by rw [z, np] at h; cases h
  exact ⟨by rw [upd_ne ne]; exact h, fun z => z.elim m ne⟩
theorem newer {p : Addr} (lv : Lv K F M H') (g : Gr K F H H') (np : H' p = none) : H p = none := by
  cases z : H p with
  | none => rfl
  | some o => rw [g.old p o z (lv.ok np).1] at np; cases np
theorem qAfq {te : TE} {tl th : TO} {fe : FE} {fl fh : FO} (he : SE K Ta ow E te fe) (hl : SO K Ta ow E tl fl) (hh : SO K Ta ow E th fh) : SF K Ta ow E (tSl (rSlL K) te tl th) (fSl fe fl fh) := by
  intro w H σ ρ P X Q e h q x
  refine he w H σ ρ _ X _ e h (fun d v H1 hd g1 r => ?_) x
  have e1 := e.grow g1
  refine hl w H1 σ ρ _ X _ e1 hd (fun l H2 hd2 g2 => ?_) (x.gr g1)
  have e2 := e1.grow g2
  refine hh w H2 σ ρ _ X _ e2 hd2 (fun hh H3 hd3 g3 => ?_) (x.gr (g1.trans g2))
  have e3 := e2.grow g3
  obtain ⟨ds, rfl, p⟩ := hd3
  obtain ⟨a, vs, rfl, ok, ha, rs⟩ := Rep.goes (g2.trans g3).goes _ _ r
  refine ⟨a, vs, rfl, SqL.of ha, fun pp np => ?_⟩
  exact q _ pp _ _ p (((g1.trans g2).trans g3).trans (.new np)) (newer e3.lv ((g1.trans g2).trans g3) np) upd_same (qNz np rs.cut)
/-! ### ints -/
def oI (C : Int → Int → Prop) (g : Int → Int → D) : O2 := fun a b P _ => match a, b with
  | .int i, .int j => C i j ∧ P (g i j)
  | _, _ => False
def oI0 (g : Int → Int → D) : O2 := fun a b P _ => match a, b with
  | .int i, .int j => P (g i j)
  | _, _ => False
theorem os_I {C : Int → Int → Prop} {g : Int → Int → V} {g' : Int → Int → D} (hg : ∀ i j (F : Fd) (M : Addr → Prop) (H : Hp), Rep K F M H (g' i j) (g i j)) : OpS K E1 (rI C g) (oI C g') := by
  intro F M H x y a b P X Q lv ra rb h q x'
  cases a <;> cases b <;> first | exact h.elim | skip
  exact ⟨_, _, ra, rb, h.1, q _ _ _ h.2 .refl (hg _ _ _ _ _)⟩
theorem qW2 {g : Int → Int → V} {g' : Int → Int → D} (hg : ∀ i j (F : Fd) (M : Addr → Prop) (H : Hp), Rep K F M H (g' i j) (g i j)) : OpS K E1 (rI0 g) (oI0 g') := by
  intro F M H x y a b P X Q lv ra rb h q x'
  cases a <;> cases b <;> first | exact h.elim | skip
  exact ⟨_, _, ra, rb, q _ _ _ h .refl (hg _ _ _ _ _)⟩
abbrev qLq : O2 := oI0 fun i j => .int (i + j)
abbrev qOx : O2 := oI0 fun i j => .int (i - j)
abbrev qNe : O2 := oI IntMulOk fun i j => .int (i * j)
abbrev oPow : O2 := oI CPow fun i j => .int (i ^ j.toNat)
abbrev oLt : O2 := oI0 fun i j => .bl (decide (i < j))
abbrev oGt : O2 := oI0 fun i j => .bl (decide (j < i))
abbrev oGe : O2 := oI0 fun i j => .bl (decide (j ≤ i))
theorem qEe : OpS K E1 qEg qLq := qW2 fun _ _ _ _ _ => rfl
theorem qEm : OpS K E1 qF4 qOx := qW2 fun _ _ _ _ _ => rfl
theorem qDb : OpS K E1 qDv qNe := os_I fun _ _ _ _ _ => rfl
theorem qAep : OpS K E1 qAbt oPow := os_I fun _ _ _ _ _ => rfl
theorem qAf8 : OpS K E1 rLt0 oLt := qW2 fun _ _ _ _ _ => rfl
theorem qAea : OpS K E1 rGt0 oGt := qW2 fun _ _ _ _ _ => rfl
theorem qAf9 : OpS K E1 rGe0 oGe := qW2 fun _ _ _ _ _ => rfl
def eqD : D → D → Option Bool
  | .int i, .int j => some (decide (i = j))
  | .str i, .str j => some (decide (i = j))
  | .bl i, .bl j => some (decide (i = j))
  | .non, .non => some true
  | .non, .int _ => some false
  | .int _, .non => some false
  | .non, .str _ => some false
  | .str _, .non => some false
  | .non, .bl _ => some false
  | .bl _, .non => some false
  | .int _, .str _ => some false
  | .str _, .int _ => some false
  | _, _ => none
theorem qWa {a b : D} {x y : V} {k : Bool} (ra : Rep K F M H a x) (rb : Rep K F M H b y) (h : eqD a b = some k) : scal x y = true ∧ decide (x = y) = k := by
  cases a <;> cases b <;> first | (cases h; done) | skip
  all_goals
    simp only [Rep] at ra rb
    subst ra rb
    simp only [eqD, Option.some.injEq] at h
    subst h
    refine ⟨rfl, ?_⟩
    simp
def oEq : O2 := fun a b P _ => ∃ k, eqD a b = some k ∧ P (.bl k)
def oNe : O2 := fun a b P _ => ∃ k, eqD a b = some k ∧ P (.bl !k)
theorem qLd : OpS K E1 rEq oEq := by
  intro F M H x y a b P X Q lv ra rb h q x'
  obtain ⟨k, hk, p⟩ := h
  obtain ⟨h1, h2⟩ := qWa ra rb hk
  exact ⟨h1, by rw [h2]; exact q _ _ _ p .refl rfl⟩
theorem qAes : OpS K E1 rNe oNe := by
  intro F M H x y a b P X Q lv ra rb h q x'
  obtain ⟨k, hk, p⟩ := h
  obtain ⟨h1, h2⟩ := qWa ra rb hk
  exact ⟨h1, by rw [h2]; exact q _ _ _ p .refl rfl⟩
def isN : D → Bool
  | .non => true
  | _ => false
def oIsN : O2 := fun a b P _ => b = .non ∧ P (.bl (isN a))
def qYv : O2 := fun a b P _ => b = .non ∧ P (.bl (!isN a))
def qXu : O1 := fun a P _ => match a with
  | .int i => P (.int (-i))
  | _ => False
theorem qS9 : UnS K E1 qSh qXu := by
  intro F M H x a P X Q lv ra h q x'
  cases a <;> first | exact h.elim | skip
  exact ⟨_, ra, q _ _ _ h .refl rfl⟩
/-! ### subscripts -/
theorem qAq : OpS K E1 (rIxL K) (fun a b P X => (∃ ds, a = .lst ds) ∧ oIx a b P X) := by
  intro F M H x y a b P X Q lv ra rb h q x'
  obtain ⟨⟨_, rfl⟩, ds, n, d, hl, rfl, ha, p⟩ := h
  rcases hl with z | z <;> cases z
  obtain ⟨p', vs, rfl, ok, hp, rs⟩ := ra
  obtain ⟨v, h1, h2⟩ := qSg rs ha
  exact ⟨p', vs, n, v, rfl, rb, SqL.of hp, h1, q _ _ _ p .refl h2⟩
theorem qZu : OpS K E1 (rIxT K) (fun a b P X => (∃ ds, a = .tup ds) ∧ oIx a b P X) := by
  intro F M H x y a b P X Q lv ra rb h q x'
  obtain ⟨⟨_, rfl⟩, ds, n, d, hl, rfl, ha, p⟩ := h
  rcases hl with z | z <;> cases z
  obtain ⟨p', vs, rfl, ok, hp, rs⟩ := ra
  obtain ⟨v, h1, h2⟩ := qSg rs ha
  exact ⟨p', vs, n, v, rfl, rb, SqT.of hp, h1, q _ _ _ p .refl h2⟩
/-! ### built-ins -/
def oAbs : OL := fun as P _ => match as with
  | [.int i] => P (.int (i.natAbs : Nat))
  | _ => False
theorem qNu {ds : D} {vs : List V} (r : Reps K F M H [ds] vs) : ∃ v, vs = [v] ∧ Rep K F M H ds v := by
  obtain ⟨v, us, rfl, h, z⟩ := r
  rw [show us = [] from z]
  exact ⟨v, rfl, h⟩
theorem qAey {a b : D} {vs : List V} (r : Reps K F M H [a, b] vs) : ∃ v u, vs = [v, u] ∧ Rep K F M H a v ∧ Rep K F M H b u := by
  obtain ⟨v, us, rfl, h, z⟩ := r
  obtain ⟨u, rfl, h2⟩ := qNu z
  exact ⟨v, u, rfl, h, h2⟩
def oMax : OL := fun as P _ => match as with
  | [.int i, .int j] => P (.int (max i j))
  | _ => False
theorem qAdu : LsS K E1 qAby oMax := by
  intro F M H xs as P X Q lv ra h q x'
  match as, h with
  | [.int i, .int j], h =>
    obtain ⟨v, u, rfl, r, r2⟩ := qAey ra
    refine ⟨i, j, by rw [show v = .int i from r, show u = .int j from r2], q (.int (max i j)) _ _ h .refl ?_⟩
    show V.int _ = V.int _
    congr 1
    split <;> omega
def oMin : OL := fun as P _ => match as with
  | [.int i, .int j] => P (.int (min i j))
  | _ => False
def oInt : OL := fun as P _ => match as with
  | [.int i] => P (.int i)
  | [.bl b] => P (.int (if b then 1 else 0))
  | _ => False
def qJ5 : OL := fun as P _ => match as with
  | [.lst ds] => P (.int (ds.length : Nat))
  | [.tup ds] => P (.int (ds.length : Nat))
  | [.str x] => x.length ≤ sizeLine ∧ P (.int (x.length : Nat))
  | _ => False
theorem qDc : LsS K E1 (qDu K) qJ5 := by
  intro F M H xs as P X Q lv ra h q x'
  match as, h with
  | [.lst ds], h =>
    obtain ⟨v, rfl, r⟩ := qNu ra
    obtain ⟨p, vs, rfl, ok, hp, rs⟩ := r
    exact ⟨.ref p, ds.length, rfl, .inl ⟨vs, SqL.of hp, rs.length.symm⟩, q _ _ _ h .refl rfl⟩
  | [.tup ds], h =>
    obtain ⟨v, rfl, r⟩ := qNu ra
    obtain ⟨p, vs, rfl, ok, hp, rs⟩ := r
    exact ⟨.ref p, ds.length, rfl, .inr ⟨vs, SqT.of hp, rs.length.symm⟩, q _ _ _ h .refl rfl⟩
  | [.str z], h =>
    obtain ⟨v, rfl, r⟩ := qNu ra
    exact ⟨v, z.length, rfl, by rw [show v = .str z from r]; exact ⟨h.1, rfl⟩, q _ _ _ h.2 .refl rfl⟩
def qNk : OL := fun as P _ => match as with
  | [.lst ds] => P (.lst ds)
  | [.tup ds] => P (.lst ds)
  | _ => False
theorem qHv {ta : TA} {fa : FA} (ha : SA K Ta ow E ta fa) : SF K Ta ow E (tCB (qIe K) ta) (fLs qNk fa) := by
  intro w H σ ρ P X Q e h q x
  refine ha w H σ ρ _ X _ e h (fun as vs H1 hd g r => ?_) x
  have e1 := e.grow g
  match as, hd with
  | [.lst ds], hd =>
    obtain ⟨v, rfl, r1⟩ := qNu r
    obtain ⟨p, vs, rfl, ok, hp, rs⟩ := r1
    exact ⟨p, vs, rfl, .inl (SqL.of hp), fun pp np => q _ pp _ _ hd (g.trans (.new np)) (newer e1.lv g np) upd_same (qNz np rs)⟩
  | [.tup ds], hd =>
    obtain ⟨v, rfl, r1⟩ := qNu r
    obtain ⟨p, vs, rfl, ok, hp, rs⟩ := r1
    exact ⟨p, vs, rfl, .inr (SqT.of hp), fun pp np => q _ pp _ _ hd (g.trans (.new np)) (newer e1.lv g np) upd_same (qNz np rs)⟩
abbrev qSp (K : PySem.W.Frag) : List V → Hp → VK → Prop := fun xs H Q => ∃ p ys, xs = [.ref p] ∧ ((SqL K H p ys ∧ ∀ l, H l = none → Q (.ref l) (upd H l (.tup ys))) ∨ (SqT K H p ys ∧ Q (.ref p) H))
def qMu : OL := fun as P _ => match as with
  | [.lst ds] => P (.tup ds)
  | [.tup ds] => P (.tup ds)
  | _ => False
theorem qYt : LsS K E1 (qSp K) qMu := by
  intro F M H xs as P X Q lv ra h q x'
  match as, h with
  | [.lst ds], h =>
    obtain ⟨v, rfl, r⟩ := qNu ra
    obtain ⟨p, vs, rfl, ok, hp, rs⟩ := r
    exact ⟨p, vs, rfl, .inl ⟨SqL.of hp, fun pp np => q _ _ _ h (.new np) (qTi lv np rs)⟩⟩
  | [.tup ds], h =>
    obtain ⟨v, rfl, r⟩ := qNu ra
    obtain ⟨p, vs, rfl, ok, hp, rs⟩ := r
    exact ⟨p, vs, rfl, .inr ⟨SqT.of hp, q _ _ _ h .refl ⟨p, vs, rfl, ok, hp, rs⟩⟩⟩
def oCat : O2 := fun a b P _ => match a, b with
  | .lst x, .lst y => x.length + y.length ≤ sizeLine ∧ P (.lst (x ++ y))
  | _, _ => False
theorem Reps.rep {ds : List D} {vs : List V} (r : Reps K F M H ds vs) : ∀ n : Nat, Reps K F M H (List.replicate n ds).flatten (List.replicate n vs).flatten
  | 0 => rfl
  | n + 1 => by
    rw [List.replicate_succ, List.replicate_succ, List.flatten_cons, List.flatten_cons]
    exact r.append (Reps.rep r n)
/-! ### isinstance -/
inductive Cl where
  | ty (n : String) | own (C : Str)
def Cl.v (K : PySem.W.Frag) : Cl → V
  | .ty n => .ty n
  | .own C => .ref (He.ga K C)
def Cl.u (K : PySem.W.Frag) : Cl → Value
  | .ty n => .type n
  | .own C => .ref (He.ga K C)
def tyN : D → Option String
  | .non => some "NoneType"
  | .bl _ => some "bool"
  | .int _ => some "int"
  | .str _ => some "str"
  | .lst _ => some "list"
  | .tup _ => some "tuple"
  | .dct _ _ => some "dict"
  | _ => none
def subN (a b : String) : Bool := a == b || (a == "bool" && b == "int")
def isD (cs : List Str) (c : Cl) (d : D) : Option Bool :=
  match tyN d with
  | some t => (match c with
    | .ty n => if n ∈ ["int", "bool", "str", "list", "tuple"] then some (subN t n) else none
    | .own C => if C ∈ cs then some false else none)
  | none => (match qM3 d with
    | some C => if C ∈ cs then (match c with
      | .ty n => if n ∈ ["int", "bool", "str", "list", "tuple"] then some false else none
      | .own C' => if C' ∈ cs then some (decide (C = C')) else none) else none
    | none => none)
/-- what the written part says of the own classes cs -/
structure KT (K : PySem.W.Frag) (cs : List Str) : Prop where
  own : ∀ C, C ∈ cs → OwnC K (He.ga K C)
  ob : ∀ C, C ∈ cs → ∀ n, n ∈ ["int", "bool", "str", "list", "tuple"] → PySem.W.kitOne K (.ref (He.ga K C)) (.type n) = some false
  bo : ∀ C, C ∈ cs → ∀ n, n ∈ ["NoneType", "int", "bool", "str", "list", "tuple", "dict"] → PySem.W.kitOne K (.type n) (.ref (He.ga K C)) = some false
  oo : ∀ C, C ∈ cs → ∀ C', C' ∈ cs → PySem.W.kitOne K (.ref (He.ga K C)) (.ref (He.ga K C')) = some (decide (C = C'))
theorem qAab {d : D} {v : V} {t : String} (r : Rep K F M H d v) (h : tyN d = some t) : TyX K H v (.type t) ∧ t ∈ ["NoneType", "int", "bool", "str", "list", "tuple", "dict"] := by
  cases d <;> first | (cases h; done) | skip
  · cases h; rw [show v = .non from r]; exact ⟨.base .non, by simp⟩
  · cases h; rw [show v = _ from r]; exact ⟨.base (.bl _), by simp⟩
  · cases h; rw [show v = _ from r]; exact ⟨.base (.int _), by simp⟩
  · cases h; rw [show v = _ from r]; exact ⟨.base (.str _), by simp⟩
  · cases h; obtain ⟨p, vs, rfl, _, e, _⟩ := r; exact ⟨.base (.lst e), by simp⟩
  · cases h; obtain ⟨p, vs, rfl, _, e, _⟩ := r; exact ⟨.base (.tup e), by simp⟩
  · cases h; obtain ⟨p, gs, rfl, _, e, _⟩ := r; exact ⟨.base (.dK e), by simp⟩
theorem qXr {cs : List Str} {d : D} {v : V} {C : Str} (T : KT K cs) (r : Rep K F M H d v) (h : qM3 d = some C) (hC : C ∈ cs) : TyX K H v (.ref (He.ga K C)) := by
  cases d <;> first | (cases h; done) | skip
  · cases h; obtain ⟨p, rfl, _, dx, e⟩ := r; exact (T.own _ hC).ty e
  · cases h; obtain ⟨p, dx, t, l, vs, rfl, _, e, _⟩ := r; exact (T.own _ hC).ty e
  · cases h; obtain ⟨p, dx, gs, rfl, _, e, _⟩ := r; exact (T.own _ hC).ty e
theorem qAaf {a b : String} (ha : a ∈ ["NoneType", "int", "bool", "str", "list", "tuple", "dict"]) (hb : b ∈ ["int", "bool", "str", "list", "tuple"]) : PySem.W.kitOne K (.type a) (.type b) = some (subN a b) := by
  simp only [List.mem_cons, List.not_mem_nil, or_false] at ha hb
  rcases ha with rfl | rfl | rfl | rfl | rfl | rfl | rfl <;> rcases hb with rfl | rfl | rfl | rfl | rfl <;> exact kit_ty (by decide +kernel)
theorem qAaj {cs : List Str} {c : Cl} {d : D} {v : V} {b : Bool} (T : KT K cs) (r : Rep K F M H d v) (h : isD cs c d = some b) : ∃ t, TyX K H v t ∧ PySem.W.kitOne K t (c.u K) = some b := by
  unfold isD at h
  cases ht : tyN d with
  | some t =>
    rw [ht] at h
    obtain ⟨h1, h2⟩ := qAab r ht
    cases c with
    | ty n =>
      dsimp only at h
      split at h
      · rename_i hn
        cases h
        exact ⟨_, h1, qAaf h2 hn⟩
      · cases h
    | own C =>
      dsimp only at h
      split at h
      · rename_i hn
        cases h
        exact ⟨_, h1, T.bo C hn t h2⟩
      · cases h
  | none =>
    rw [ht] at h
    dsimp only at h
    cases hc : qM3 d with
    | none => rw [hc] at h; cases h
    | some C =>
      rw [hc] at h
      dsimp only at h
      split at h
      · rename_i hC
        have h1 := qXr T r hc hC
        cases c with
        | ty n =>
          dsimp only at h
          split at h
          · rename_i hn
            cases h
            exact ⟨_, h1, T.ob C hC n hn⟩
          · cases h
        | own C' =>
          dsimp only at h
          split at h
          · rename_i hn
            cases h
            exact ⟨_, h1, T.oo C hC C' hn⟩
          · cases h
      · cases h
def qRf (cs : List Str) (c : Cl) (fe : FE) : FE := fun ρ P X => fe ρ (fun d => ∃ b, isD cs c d = some b ∧ P (.bl b)) X
theorem qAbs (c : Cl) : ClsV (c.v K) (c.u K) := by
  cases c with
  | ty n => exact .ty n
  | own C => exact .own _
theorem qG5 {cs : List Str} {c : Cl} {te : TE} {fe : FE} (T : KT K cs) (he : SE K Ta ow E te fe) : SE K Ta ow E (tCB (rIsi K) (tCons te (tCons (tC (c.v K)) tNil))) (qRf cs c fe) := by
  intro w H σ ρ P X Q e h q x
  refine he w H σ ρ _ X _ e h (fun d v H1 hd g r => ?_) x
  obtain ⟨b, hb, p⟩ := hd
  obtain ⟨t, h1, h2⟩ := qAaj T r hb
  exact ⟨v, _, t, c.u K, b, rfl, qAbs c, h1, h2, q _ _ _ p g rfl⟩
/-- isinstance(e, (list, tuple)) -/
def qUv (cs : List Str) (fe : FE) : FE := fun ρ P X => fe ρ (fun d => ∃ b b', isD cs (.ty "list") d = some b ∧ isD cs (.ty "tuple") d = some b' ∧ P (.bl (b || b'))) X
theorem qWf {cs : List Str} {c c' : Cl} {d : D} {v : V} {b b' : Bool} (T : KT K cs) (r : Rep K F M H d v) (h : isD cs c d = some b) (h' : isD cs c' d = some b') : ∃ t, TyX K H v t ∧ PySem.W.kitOne K t (c.u K) = some b ∧ PySem.W.kitOne K t (c'.u K) = some b' := by
  have key : ∀ {c : Cl} {b : Bool}, isD cs c d = some b → (∃ t, tyN d = some t) ∨ ∃ C, C ∈ cs ∧ qM3 d = some C := fun {c b} h => by
    unfold isD at h
    cases ht : tyN d with
    | some t => exact .inl ⟨t, rfl⟩
    | none =>
      rw [ht] at h
      dsimp only at h
      cases hc : qM3 d with
      | none => rw [hc] at h; cases h
      | some C =>
        rw [hc] at h
        dsimp only at h
        split at h
        · rename_i hC; exact .inr ⟨C, hC, rfl⟩
        · cases h
  have uniq : ∃ t, TyX K H v t ∧ ∀ {c : Cl} {b : Bool}, isD cs c d = some b → PySem.W.kitOne K t (c.u K) = some b := by
    rcases key h with ⟨t, ht⟩ | ⟨C, hC, hc⟩
    · obtain ⟨h1, h2⟩ := qAab r ht
      refine ⟨_, h1, fun {c b} h => ?_⟩
      unfold isD at h
      rw [ht] at h
      cases c with
      | ty n =>
        dsimp only at h
        split at h
        · rename_i hn; cases h; exact qAaf h2 hn
        · cases h
      | own C =>
        dsimp only at h
        split at h
        · rename_i hn; cases h; exact T.bo C hn t h2
        · cases h
    · refine ⟨_, qXr T r hc hC, fun {c b} h => ?_⟩
      have ht : tyN d = none := by cases d <;> first | rfl | cases hc
      unfold isD at h
      rw [ht, hc] at h
      dsimp only at h
      rw [if_pos hC] at h
      cases c with
      | ty n =>
        dsimp only at h
        split at h
        · rename_i hn; cases h; exact T.ob C hC n hn
        · cases h
      | own C' =>
        dsimp only at h
        split at h
        · rename_i hn; cases h; exact T.oo C hC C' hn
        · cases h
  obtain ⟨t, h1, h2⟩ := uniq
  exact ⟨t, h1, h2 h, h2 h'⟩
theorem qAbz {cs : List Str} {te : TE} {fe : FE} (T : KT K cs) (he : SE K Ta ow E te fe) : SE K Ta ow E (tCB (rIsiT K) (tCons te (tCons (tTup (tCons (tC (.ty "list")) (tCons (tC (.ty "tuple")) tNil))) tNil))) (qUv cs fe) := by
  intro w H σ ρ P X Q e h q x
  refine he w H σ ρ _ X _ e h (fun d v H1 hd g r => ?_) x
  obtain ⟨b, b', hb, hb', p⟩ := hd
  refine ⟨by decide, fun tp np => ?_⟩
  have g2 := g.trans (Gr.new (K := K) (F := w.F) (o := .tup [.ty "list", .ty "tuple"]) np)
  obtain ⟨t, h1, h2, h3⟩ := qWf T (Rep.goes (Gr.new (K := K) np).goes _ _ r) hb hb'
  refine ⟨v, tp, [.ty "list", .ty "tuple"], t, [.type "list", .type "tuple"], b || b', rfl, upd_same, .cons (.ty _) (.cons (.ty _) .nil), h1, ?_, q _ _ _ p g2 rfl⟩
  have h2' : PySem.W.kitOne K t (.type "list") = some b := h2
  have h3' : PySem.W.kitOne K t (.type "tuple") = some b' := h3
  simp only [PySem.W.kitAny, h2', h3']
  cases b <;> cases b' <;> rfl
end
end MR

set_option Elab.async false
set_option linter.all false
set_option maxRecDepth 100000
set_option maxHeartbeats 4000000
set_option exponentiation.threshold 20000
/-! FL: own operators, raise, try, whole defs -/
namespace MR
open PySem PySem.Spec PyProof.Rows L2
section
variable {K : PySem.W.Frag} {w : Wd} {ow ow' ow1 owb owx : List Nat} {H H' : Hp} {σ : L2.St} {ρ : Env} {E : L2.St → XK} {E1 : XK} {N : L2.Ends} {FD : FEnds} {F : Fd} {M : Addr → Prop}
theorem qWi {d : D} {v : V} {C : Str} (r : Rep K F M H d v) (h : qM3 d = some C) : ∃ p dx fs, v = .ref p ∧ H p = some (.ins (He.ga K C) dx fs) := by
  cases d <;> first | (cases h; done) | skip
  · cases h; obtain ⟨p, rfl, _, dx, e⟩ := r; exact ⟨p, dx, _, rfl, e⟩
  · cases h; obtain ⟨p, dx, t, l, vs, rfl, _, e, _⟩ := r; exact ⟨p, dx, _, rfl, e⟩
  · cases h; obtain ⟨p, dx, gs, rfl, _, e, _⟩ := r; exact ⟨p, dx, _, rfl, e⟩
def qX6 : D → Prop
  | .int _ => True
  | _ => False
def oOwn (C : Str) (fsp : FSp) : O2 := fun a b P X => qM3 a = some C ∧ (qX6 b ∨ qM3 b = some C) ∧ fsp [a, b] P X
def qOj (C : Str) (fsp : FSp) : O2 := fun a b P X => qM3 a = some C ∧ (qX6 b ∨ qM3 b = some C) ∧ fsp [a, b] P X0
def qAda (C : Str) (fsp : FSp) : O2 := fun a b P X => qX6 a ∧ qM3 b = some C ∧ fsp [b, a] P X0
theorem qXx {b : D} {y : V} (h : qX6 b) (r : Rep K F M H b y) : ∃ n, y = .int n := by
  cases b <;> first | exact h.elim | skip
  exact ⟨_, r⟩
theorem qAeg {C : Str} {sp : Sp} {fsp : FSp} (L : Lift K sp fsp) : OpS K E1 (rOwn (He.ga K C) sp E1) (oOwn C fsp) := by
  intro F M H x y a b P X Q lv ra rb h q x'
  obtain ⟨h1, h2, h3⟩ := h
  obtain ⟨p, dx, fs, rfl, e⟩ := qWi ra h1
  refine ⟨p, dx, fs, rfl, e, ?_, L _ _ _ _ ⟨F, M, [a, b], P, X, lv, .cons ra (.one rb), h3, q, x'⟩⟩
  rcases h2 with h2 | h2
  · exact .inl (qXx h2 rb)
  · obtain ⟨p', dx', fs', rfl, e'⟩ := qWi rb h2
    exact .inr ⟨p', dx', fs', rfl, e'⟩
theorem px0 : PostX K F H X0 E0 := fun x cls dd H' hx _ _ => hx
theorem qVl {C : Str} {sp : Sp} {fsp : FSp} (L : Lift K sp fsp) : OpS K E1 (rOwn (He.ga K C) sp E0) (qOj C fsp) := fun F M H x y a b P X Q lv ra rb h q _ => qAeg (E1 := E0) L F M H x y a b P X0 Q lv ra rb h q px0
def qAen (C : Str) (fsp : FSp) : O1 := fun a P X => qM3 a = some C ∧ fsp [a] P X0
def qAgc (C : Str) (fsp : FSp) : OL := fun as P X => ∃ a, as = [a] ∧ qM3 a = some C ∧ fsp [a] P X0
/-! ### a chain of two comparisons -/
def qUf (o o' : O2) (fa fb fc : FE) : FE := fun ρ P X => fa ρ (fun a => fb ρ (fun b => o a b (toB fun k => if k = true then fc ρ (fun c => o' b c P X) X else P (.bl false)) X) X) X
/-! ### raise -/
def qLp (C p : Str) (fe : FE) : FS := fun FD ρ => fe ρ (fun d => FD.ex ⟨C, [(p, d)]⟩ ρ) (fun x => FD.ex x ρ)
theorem qTg {C p : Str} {te : TE} {fe : FE} (hs : Sub owx ow) (he : SE K Ta ow E te fe) : SS K Ta ow ow' owb owx E (qHp (He.ga K C) p (fun cls d σ H => E σ cls d H) (tCons te tNil)) (qLp C p fe) := by
  intro w H σ ρ N FD e h k
  refine he w H σ ρ _ _ _ e h (fun d v H1 hd g r => ?_) (k.px e hs)
  refine ⟨v, rfl, fun a na => ?_⟩
  have e1 := e.grow g
  have g2 : Gr K w.F H1 (upd H1 a (.xd [(p, v)])) := .new na
  refine k.ex _ ρ σ _ _ _ hd ((e1.grow g2).free hs) ⟨rfl, .inr ⟨a, _, rfl, (e1.lv.ok na).1, upd_same, v, [], rfl, ?_, rfl⟩⟩
  exact Rep.goes (fun q o h nf m => ⟨h, fun z => z⟩) _ _ (Rep.goes g2.goes _ _ r)
def qHk (C : Addr) (W : WX) : TS := fun _ σ H => W (.ref C) none σ H
def qFc (C : Str) : FS := fun FD ρ => FD.ex ⟨C, []⟩ ρ
theorem qLs {C : Str} (hs : Sub owx ow) : SS K Ta ow ow' owb owx E (qHk (He.ga K C) (fun cls d σ H => E σ cls d H)) (qFc C) := fun w H σ ρ N FD e h k => k.ex _ ρ σ H _ _ h (e.free hs) ⟨rfl, .inl ⟨rfl, rfl⟩⟩
/-! ### try -/
/-- an expression of an except suite; the error at a, named by slot i -/
def SEH (K : PySem.W.Frag) (Ta : List (Addr × Str)) (ow : List Nat) (i : Nat) (a : Addr) (cls : Value) (dd : Option Addr) (x : Exn) (ta : TE) (fa : FE) : Prop :=
  ∀ (w : Wd) (H : Hp) (σ : L2.St) (ρ : Env) (P : D → Prop) (Q : VK), REnv K Ta w ow H σ ρ → RepX K w.F H cls dd x → σ[i]? = some (some (.ref a)) → fa ρ P X0 → Post K w.F (w.Mx ow σ) H P Q → ta σ H Q
theorem SE.sh {i : Nat} {a : Addr} {cls : Value} {dd : Option Addr} {x : Exn} {ta : TE} {fa : FE} (h : SE K Ta ow (fun _ => E0) ta fa) : SEH K Ta ow i a cls dd x ta fa := fun w H σ ρ P Q e _ _ hf q => h w H σ ρ P X0 Q e hf q px0
/-! ### whole defs -/
def qBu (n : Nat) (ds : List D) : Env := ds.map some ++ List.replicate (n - ds.length) none
def qHq (P : D → Prop) (X : XP) : FEnds := ⟨fun _ => P .non, P, fun _ => False, fun _ => False, fun x _ => X x, P⟩
theorem qNq {R : D → V → Prop} : ∀ {ds : List D} {vs : List V} (k i : Nat), Reps K F M H ds vs → (∀ d v, Rep K F M H d v → R d v) → Sl R (ds.map some ++ List.replicate k none)[i]? (vs.map some ++ List.replicate k none)[i]?
  | [], vs, k, i, r, h => by
    rw [show vs = [] from r]
    simp only [List.map_nil, List.nil_append]
    rw [List.getElem?_replicate, List.getElem?_replicate]
    split
    · trivial
    · trivial
  | d :: ds, vs, k, i, r, h => by
    obtain ⟨v, us, rfl, r1, r2⟩ := r
    cases i with
    | zero => exact h d v r1
    | succ i =>
      simp only [List.map_cons, List.cons_append, List.getElem?_cons_succ]
      exact qNq k i r2 h
theorem New.rep {H0 : Hp} {d : D} {v : V} (lv : Lv K F M H0) (h : New K F M H0 H d v) : Rep K F M H d v := by
  obtain ⟨p, o, rfl, h0, hn, h1, h2⟩ := h
  have ok : Ok F M p := ⟨hn, fun m => by obtain ⟨u, z⟩ := lv.m p m; rw [h0] at z; cases z⟩
  exact RepO.rep (h2.goes fun q u hq _ m => ⟨hq, fun z => m (.inl z)⟩) ok h1
theorem qQr {names : List Str} {n : Nat} {ds : List D} {vs : List V} (lv : Lv K F M H) (r : Reps K F M H ds vs) (hn : names.length = n) : REnv K F.T ⟨F, M, H⟩ [] H (start names vs) (qBu n ds) := by
  refine ⟨.refl, lv.m, lv.nf, fun i _ => ?_, fun i hi => (nomatch hi), fun i hi => (nomatch hi), fun f hf => ?_, lv.t, rfl⟩
  · unfold L2.start qBu
    rw [hn, r.length]
    exact qNq _ _ r fun d v h => Rep.goes (fun p o h _ m => ⟨h, fun z => m (z.elim id fun ⟨_, y, _⟩ => (nomatch y))⟩) _ _ h
  · obtain ⟨c, h1, h2⟩ := lv.f f hf
    exact ⟨c, h1, fun z => h2 (z.elim id fun ⟨_, y, _⟩ => (nomatch y))⟩
theorem qAcm {names : List Str} {n : Nat} {fsp : FSp} {t : XK → TS} {fb : FS} (hn : names.length = n) (h : ∀ {Ta : List (Addr × Str)} (E : XK), SS K Ta [] [] [] [] (fun _ => E) (t E) fb) (pure : ∀ ds P X, fsp ds P X → fb (qHq P X) (qBu n ds)) (vs : List V) (H : Hp) (Q : VK) (E : XK) (l : lift K fsp vs H Q E) :
    t E { nx := fun _ H' => Q .non H', rt := Q } (start names vs) H := by
  obtain ⟨F, M, ds, P, X, lv, r, hs, q, x⟩ := l
  refine h E ⟨F, M, H⟩ H _ _ _ _ (qQr lv r hn) (pure ds P X hs) ⟨fun ρ σ H' hp e => q _ _ _ hp e.gr rfl, fun d v H' hd g r => q d v H' hd g r, fun _ _ _ z => z.elim, fun _ _ _ z => z.elim, fun x' ρ σ H' cls dd hx e r => x x' cls dd H' hx e.gr r, fun d v H' hd g r => q d v H' hd g (New.rep lv r)⟩
theorem qDo {names : List Str} {n : Nat} {fsp : FSp} {t : TS} {fb : FS} (hn : names.length = n) (h : ∀ {Ta : List (Addr × Str)}, SS K Ta [] [] [] [] (fun _ => E0) t fb) (pure : ∀ ds P X, fsp ds P X → fb (qHq P X0) (qBu n ds)) (vs : List V) (H : Hp) (Q : VK) (E : XK) (l : lift K fsp vs H Q E) :
    t { nx := fun _ H' => Q .non H', rt := Q } (start names vs) H := by
  obtain ⟨F, M, ds, P, X, lv, r, hs, q, x⟩ := l
  refine h ⟨F, M, H⟩ H _ _ _ _ (qQr lv r hn) (pure ds P X hs) ⟨fun ρ σ H' hp e => q _ _ _ hp e.gr rfl, fun d v H' hd g r => q d v H' hd g r, fun _ _ _ z => z.elim, fun _ _ _ z => z.elim, fun x' ρ σ H' cls dd hx e r => hx.elim, fun d v H' hd g r => q d v H' hd g (New.rep lv r)⟩
/-! ### Ratio(..) -/
theorem qSc : MkL K (CR K) (qCe K) (fun ds P X => ∃ a b : Int, ds = [.int a, .int b] ∧ b ≠ 0 ∧ Sml b ∧ P (.rat (Rat.divInt a b))) := by
  intro F M H ds vs P X Q E x dx lv r h q px nx nd ne
  obtain ⟨a, b, rfl, hb, h9, p⟩ := h
  have := Reps.ints (ns := [a, b]) r
  subst this
  refine qAdc nx nd hb h9 fun H' s R => q _ _ _ p (.same s) ⟨x, rfl, lv.ok nx, R⟩
/-! ### fields of an object in the making -/
theorem qN7 {te : TE} {fe : FE} {f : Str} {x C dx : Addr} {gs : List (Str × V)} {P : D → Prop} {X : XP} (he : SE K Ta [] E te fe) (e : REnv K Ta w [] H σ ρ) (m : w.M x) (hx : H x = some (.ins C dx gs)) (hσ : σ[0]? = some (some (.ref x))) (cl : Cls K C) (na : NoAttr K C f) (hl : gs.length < 1000) (hf : fe ρ P X) (px : PostX K w.F H X (E σ))
    (k : ∀ (d : D) (v : V) (H1 : Hp) (w' : Wd), P d → Gr K w.F H H1 → w'.F = w.F → w'.M = w.M → Rep K w.F w.M (upd H1 x (.ins C dx (putF f v gs))) d v → (∀ d' v', Rep K w.F w.M H d' v' → Rep K w.F w.M (upd H1 x (.ins C dx (putF f v gs))) d' v') → REnv K Ta w' [] (upd H1 x (.ins C dx (putF f v gs))) σ ρ → N.nx σ (upd H1 x (.ins C dx (putF f v gs)))) :
    sFld K (tVar 0) te f N σ H := by
  refine he w H σ ρ P X _ e hf (fun d v H1 hd g r => ?_) px
  have hx1 : H1 x = some (.ins C dx gs) := g.old _ _ hx (e.nf x m)
  refine ⟨_, hσ, x, C, dx, gs, rfl, hx1, cl, na, hl, ?_⟩
  have e1 := (e.grow g).amb (o' := .ins C dx (putF f v gs)) m hx1 trivial
  have go : Goes w.F w.M H1 w.M (upd H1 x (.ins C dx (putF f v gs))) := fun q u h nf n => ⟨by rw [upd_ne (fun z => n (by rw [z]; exact m))]; exact h, n⟩
  have r' : Rep K w.F w.M H1 d v := Rep.goes (fun q u h _ n => ⟨h, fun z => n (.inl z)⟩) _ _ r
  exact k d v H1 (w.re (Mo [] σ) (upd H1 x (.ins C dx (putF f v gs)))) hd g rfl rfl (Rep.goes go _ _ r') (fun d' v' r0 => Rep.goes go _ _ (Rep.goes g.goes _ _ r0)) e1
end
end MR

set_option Elab.async false
set_option linter.all false
set_option maxRecDepth 100000
set_option maxHeartbeats 4000000
set_option exponentiation.threshold 20000
/-! FL: the draws -/
namespace MR
open PySem PySem.Spec PyProof.Rows L2
def qAa5 (K : PySem.W.Frag) (H : Hp) (f c : Addr) : Prop := ∃ ns p b l n s, FeedAt K H f c ns p b l n s
def qW6 (K : PySem.W.Frag) : Sp := fun vs H Q _ => ∃ (f : Addr) (z : Int) (c : Addr), vs = [.ref f, .int z] ∧ qAa5 K H f c ∧ 0 < z ∧ Sml z ∧ ∀ (d : Int) (H' : Hp), 0 ≤ d → d < z → qAa5 K H' f c → Keep f H H' → Q (.int d) H'
theorem qGk {K : PySem.W.Frag} {H H0 : Hp} {f c : Addr} {ns : List Int} {p b l n s z : Int} {v2 v3 v4 : Option V} {D : L2.Ends} (F : FeedAt K H f c ns p b l n s) (hz : 0 < z) (hz9 : Sml z) (kp : Keep f H0 H)
    (k : ∀ (d : Int) (H' : Hp), 0 ≤ d → d < z → qAa5 K H' f c → Keep f H0 H' → D.rt (.int d) H') : qVv K D [some (.ref f), some (.int z), v2, v3, v4] H := by
  have ob := F.ob
  refine ⟨_, rfl, f, _, _, _, rfl, rfl, SqL.of ob, rfl, _, _, rfl, rfl, _, rfl, ?_⟩
  refine ite2 (fun c1 => ?_) (fun c1 => ?_)
  · refine ⟨_, rfl, f, _, _, _, rfl, rfl, SqL.of ob, rfl, .inl ⟨_, rfl, _, rfl, _, _, rfl, rfl, (by omega), ?_⟩⟩
    refine ⟨_, rfl, f, _, _, _, rfl, rfl, SqL.of ob, rfl, _, rfl, _, _, rfl, rfl, cdiv (by omega), _, rfl, f, _, _, 2, rfl, rfl, ob, rfl, ?_⟩
    refine ⟨_, rfl, ?_⟩
    have hq : 0 ≤ b.fdiv z := Int.fdiv_nonneg F.b0 (by omega)
    exact k _ _ (qIp hz).1 (qIp hz).2 ⟨ns, p, b.fdiv z, l, n, s, F.upd F.p0 hq F.l0 F.n0 F.s0⟩ (kp.trans qDy)
  · refine ⟨_, rfl, f, _, _, _, rfl, rfl, SqL.of ob, rfl, _, _, rfl, rfl, _, _, rfl, _, rfl, f, _, _, 3, rfl, rfl, ob, rfl, ?_⟩
    have hl : 0 ≤ (if l - 1 > 0 then l - 1 else 0) := by omega
    have F1 := F.upd F.p0 F.b0 hl F.n0 F.s0
    have k1 : Keep f H0 _ := kp.trans (qDy (f := f) (H := H) (o := .lst [.ref c, .int p, .int b, .int (if l - 1 > 0 then l - 1 else 0), .int n, .int s]))
    have ob1 := F1.ob
    have m7 : ∀ x : Int, IntMulOk 7919 x := fun x => qOi (by decide)
    have m4 : ∀ x : Int, IntMulOk x 48271 := fun x => qAbq (by decide)
    refine ⟨_, rfl, f, _, _, _, rfl, rfl, SqL.of ob1, rfl, _, rfl, f, _, _, _, rfl, rfl, SqL.of ob1, rfl, _, _, rfl, rfl, m7 _, _, _, rfl, rfl, _, _, rfl, rfl, _, _, rfl, rfl, m4 _, .inl ⟨_, rfl, _, _, rfl, rfl, (by decide : (2147483647 : Int) ≠ 0), ?_⟩⟩
    have step : ∀ (y m1 m2 m3 : Int), 0 ≤ y → y < 2147483647 → 0 < m1 → 0 < m2 → 0 ≤ y.fdiv m1 + m2 ∧ IntMulOk y (y.fdiv m1 + m2) := fun y m1 m2 m3 h0 h1 h2 h3 => by
      have hq : 0 ≤ y.fdiv m1 := Int.fdiv_nonneg h0 (by omega)
      exact ⟨by omega, qOi (by omega)⟩
    have hy2 := qIp (a := (s + 7919 * n + 1) * 48271) (z := 2147483647) (by decide)
    refine ⟨_, rfl, _, rfl, _, _, rfl, rfl, cdiv (by decide), _, _, rfl, rfl, _, _, rfl, rfl, (step _ 1009 69621 0 hy2.1 hy2.2 (by decide) (by decide)).2, .inl ⟨_, rfl, _, _, rfl, rfl, (by decide : (2147483647 : Int) ≠ 0), ?_⟩⟩
    have hu2 := qIp (a := ((s + 7919 * n + 1) * 48271).fmod 2147483647 * ((((s + 7919 * n + 1) * 48271).fmod 2147483647).fdiv 1009 + 69621)) (z := 2147483647) (by decide)
    refine ⟨_, rfl, _, rfl, _, _, rfl, rfl, cdiv (by decide), _, _, rfl, rfl, _, _, rfl, rfl, (step _ 2003 40692 0 hu2.1 hu2.2 (by decide) (by decide)).2, .inl ⟨_, rfl, _, _, rfl, rfl, (by decide : (2147483399 : Int) ≠ 0), ?_⟩⟩
    refine ⟨_, rfl, _, rfl, _, _, rfl, rfl, (by omega), ?_⟩
    exact k _ _ (qIp hz).1 (qIp hz).2 ⟨ns, _, _, _, _, _, F1⟩ k1
theorem qVc {K : PySem.W.Frag} (vs : List V) (H : Hp) (Q : VK) (E : XK) (h : qW6 K vs H Q E) : qHi K { nx := fun _ H' => Q .non H', rt := Q } (start ["_law_feed_here", "_law_size_here", "_law_number_here", "_law_cell", "_law_digit"] vs) H := by
  obtain ⟨f, z, c, rfl, ⟨ns, p, b, l, n, s, F⟩, hz, hz9, k⟩ := h
  refine ⟨_, rfl, f, _, _, _, rfl, rfl, (by decide), SqL.of F.ob, rfl, _, _, rfl, rfl, f, _, _, 4, rfl, rfl, F.ob, rfl, ?_⟩
  have F1 := F.upd F.p0 F.b0 F.l0 (n' := n + 1) (by have := F.n0; omega) F.s0
  have k1 : Keep f H _ := qDy (f := f) (H := H) (o := .lst [.ref c, .int p, .int b, .int l, .int (n + 1), .int s])
  have ob := F1.ob
  refine ⟨_, rfl, f, _, _, _, rfl, rfl, SqL.of ob, rfl, rfl, _, rfl, ?_⟩
  refine ite2 (fun _ => ?_) (fun _ => iteF (qGk F1 hz hz9 k1 k))
  refine ⟨_, rfl, f, _, _, _, rfl, rfl, SqL.of ob, rfl, rfl, _, rfl, ?_⟩
  refine ite2 (fun _ => ?_) (fun _ => iteF (qGk F1 hz hz9 k1 k))
  refine ⟨_, rfl, f, _, _, _, rfl, rfl, SqL.of ob, rfl, _, rfl, f, _, _, _, rfl, rfl, SqL.of ob, rfl, .ref c, (ns.map V.int).length, rfl, .inl ⟨_, F1.cs, rfl⟩, _, _, rfl, rfl, _, rfl, ?_⟩
  refine ite2 (fun c3 => ?_) (fun _ => qGk F1 hz hz9 k1 k)
  have hlt : p < ns.length := by
    have e := of_decide_eq_true c3
    rw [List.length_map] at e
    exact e
  have p0 := F.p0
  obtain ⟨x, hx⟩ : ∃ x, ns[p.toNat]? = some x := ⟨_, List.getElem?_eq_getElem (by omega)⟩
  have hx0 : 0 ≤ x := F.nn x (List.mem_of_getElem? hx)
  have hat : atI (ns.map V.int) p = some (.int x) := by
    have e : p = ((p.toNat : Nat) : Int) := by omega
    rw [e]
    exact atI_nat (by rw [List.getElem?_map, hx]; rfl)
  refine ⟨_, rfl, f, _, _, _, rfl, rfl, SqL.of ob, rfl, _, rfl, f, _, _, _, rfl, rfl, SqL.of ob, rfl, c, _, p, _, rfl, rfl, F1.cs, hat, ?_⟩
  refine ⟨_, rfl, f, _, _, _, rfl, rfl, (by decide), SqL.of ob, rfl, _, _, rfl, rfl, f, _, _, 1, rfl, rfl, ob, rfl, ?_⟩
  have F2 := F1.upd (p' := p + 1) (by omega) F.b0 F.l0 F1.n0 F.s0
  have k2 := k1.trans (qDy (f := f) (H := _) (o := .lst [.ref c, .int (p + 1), .int b, .int l, .int (n + 1), .int s]))
  have ob2 := F2.ob
  refine ⟨_, rfl, _, _, rfl, rfl, ⟨by decide, by decide, by decide⟩, _, _, rfl, rfl, _, rfl, ?_⟩
  refine ite2 (fun _ => ?_) (fun _ => ?_)
  · refine ⟨_, rfl, _, rfl, f, _, _, 2, rfl, rfl, ob2, rfl, ?_⟩
    exact qGk (F2.upd F2.p0 hx0 F.l0 F1.n0 F.s0) hz hz9 (k2.trans qDy) k
  · refine ⟨_, rfl, f, _, _, 3, rfl, rfl, ob2, rfl, ?_⟩
    have F3 := F2.upd F2.p0 F.b0 (l' := 7) (by decide) F1.n0 F.s0
    refine ⟨_, rfl, f, _, _, _, rfl, rfl, SqL.of F3.ob, rfl, _, rfl, _, _, rfl, rfl, _, rfl, f, _, _, 5, rfl, rfl, F3.ob, rfl, ?_⟩
    exact qGk (F3.upd F2.p0 F.b0 F3.l0 F1.n0 (s' := s + x) (by have := F.s0; omega)) hz hz9 ((k2.trans qDy).trans qDy) k
/-- _law_take(feed, size) -/
def qCj : FSp := fun ds P _ => ∃ z : Int, ds = [.feed, .int z] ∧ 0 < z ∧ Sml z ∧ ∀ d : Int, 0 ≤ d → d < z → P (.int d)
theorem qVw {K : PySem.W.Frag} : Lift K (qW6 K) qCj := by
  intro vs H Q E h
  obtain ⟨F, M, ds, P, X, lv, r, ⟨z, rfl, hz, h9, hp⟩, q, x⟩ := h
  obtain ⟨v, u, rfl, r1, r2⟩ := qAey r
  obtain ⟨f, hf, rfl⟩ := r1
  obtain ⟨c, ⟨ns, a1, a2, a3, a4, a5, o, G, e⟩, hc⟩ := lv.f f hf
  refine ⟨f, z, c, by rw [show u = .int z from r2], ⟨ns, a1, a2, a3, a4, a5, G⟩, hz, h9, fun d H' d0 d1 X' kp => q _ _ _ (hp d d0 d1) ⟨fun b o h n => kp b o h (fun y => n.1 (by rw [y]; exact hf)), fun f' c' hf' h' => ?_, fun t => qKq t fun b o h n => kp b o h (fun y => n (by rw [y, G.ob] at h; cases h; trivial))⟩ rfl⟩
  have ef : f' = f := by rw [hf] at hf'; cases hf'; rfl
  subst ef
  have hcc : c' = c := qOe h' ⟨ns, a1, a2, a3, a4, a5, o, G, e⟩
  subst hcc
  obtain ⟨ns', b1, b2, b3, b4, b5, G'⟩ := X'
  exact ⟨ns', b1, b2, b3, b4, b5, o, G', kp _ _ e G.ne⟩
theorem qKx {K : PySem.W.Frag} (vs : List V) (H : Hp) (Q : VK) (E : XK) (h : lift K qCj vs H Q E) : qHi K { nx := fun _ H' => Q .non H', rt := Q } (start ["_law_feed_here", "_law_size_here", "_law_number_here", "_law_cell", "_law_digit"] vs) H := qVc vs H Q E (qVw vs H Q E h)
def qIy (K : PySem.W.Frag) : Sp := fun vs H Q _ => ∃ (a : Addr) (ns : List Int), vs = [.ref a] ∧ SqL K H a (ns.map V.int) ∧ ns.length ≤ 63 ∧ ∀ (f : Addr) (H' : Hp), H f = none → Same H H' → (∃ c, FeedC K H' f c) → Q (.ref f) H'
theorem qVa {K : PySem.W.Frag} (vs : List V) (H : Hp) (Q : VK) (E : XK) (h : qIy K vs H Q E) : qK2 K { nx := fun _ H' => Q .non H', rt := Q } (start ["_law_script", "_law_cell"] vs) H := by
  obtain ⟨a, ns, rfl, hS, hl, k⟩ := h
  refine ⟨_, rfl, _, rfl, a, _, rfl, hS, fun p0 np => ?_⟩
  obtain ⟨ms, em, hm⟩ := qYp ns none (some 63)
  rw [em]
  have s0 : Same H (upd H p0 (.lst (ms.map V.int))) := qN3 np
  refine ⟨p0, rfl, ⟨_, SqL.of upd_same⟩, fun D hD => ?_⟩
  have nD : H D = none := s0.free hD
  have ne : D ≠ p0 := fun e => by rw [e, upd_same] at hD; cases hD
  refine lc_list (K := K) (a := p0) (xs := ms.map V.int) (fun i H' => Same H H' ∧ H' p0 = some (.lst (ms.map V.int)) ∧ H' D = some (.lst ((ms.take i).map fun z => V.int (z.natAbs : Nat))))
    ⟨fun b o e => ?_, ?_, upd_same⟩ (fun i H' _ q => SqL.of q.2.1) ?_ ?_
  · rw [upd_ne (ne_of_none e nD)]
    exact s0 b o e
  · rw [upd_ne (Ne.symm ne), upd_same]
  · rintro i x H' hx ⟨s1, q1, q2⟩
    obtain ⟨z, hz, rfl⟩ := qAcg hx
    have hi : i < ms.length := (List.getElem?_eq_some_iff.mp hz).1
    refine ⟨rfl, _, rfl, .inl ⟨_, rfl, _, rfl, _, q2, ?_, ?_, ?_, ?_⟩⟩
    · rw [List.length_map, List.length_take]
      exact small1000 (by omega)
    · intro b o e
      rw [upd_ne (ne_of_none e nD)]
      exact s1 b o e
    · rw [upd_ne (Ne.symm ne)]
      exact q1
    · rw [upd_same, qOs hz, List.map_append, qXq]
      rfl
  · rintro H' ⟨s1, q1, q2⟩
    rw [List.length_map, List.take_length] at q2
    refine ⟨(by show 6 ≤ sizeLine; decide), fun f nf => ?_⟩
    have s2 : Same H' _ := qN3 (o := .lst [.ref D, .int 0, .int 0, .int 0, .int 0, .int 0]) nf
    refine k f _ (s1.free nf) (s1.trans s2) ⟨D, ms.map (fun z => ((z.natAbs : Nat) : Int)), 0, 0, 0, 0, 0, _, ⟨upd_same, ?_, ne_of_none q2 nf, ?_, by decide, by decide, by decide, by decide, by decide⟩, s2 _ _ q2⟩
    · rw [List.map_map]
      exact SqL.of (s2 _ _ q2)
    · intro x hx
      obtain ⟨z, _, rfl⟩ := List.mem_map.mp hx
      omega
def qX1 (K : PySem.W.Frag) : Sp := fun vs H Q _ => ∃ (a : Addr) (ns : List Int), vs = [.ref a] ∧ SqL K H a (ns.map V.int) ∧ ns.length ≤ 63 ∧ ∀ H', Q (.bl true) H'
def yes : D → Prop := fun d => d = .bl true
/-- .. with tables of code objects -/
def qAdf (K : PySem.W.Frag) (T : List (Addr × Str)) : Sp := fun vs H Q _ => ∃ (a : Addr) (ns : List Int), vs = [.ref a] ∧ SqL K H a (ns.map V.int) ∧ ns.length ≤ 63 ∧ LamX.Tabs T H ∧ ∀ H', Q (.bl true) H'
theorem qAck {K : PySem.W.Frag} {T : List (Addr × Str)} {names : List Str} {n : Nat} {t : TS} {f : FS} (hn : names.length = n + 2) (hs : SS K T [] [] [] [] (fun _ => E0) t f) (hp : f (qHq yes X0) (some .exc :: some .feed :: List.replicate n none)) (vs : List V) (H : Hp) (Q : VK) (E : XK) (h : qAdf K T vs H Q E) :
    tSeq (tAsg (tCall (qIy K) [] E0 (tCons (tVar 0) tNil)) (gName 1)) t { nx := fun _ H' => Q .non H', rt := Q } (start names vs) H := by
  obtain ⟨a, ns, rfl, hS, hl, ht, q⟩ := h
  have es : L2.start names [.ref a] = some (.ref a) :: none :: List.replicate n none := by
    unfold L2.start
    rw [hn]
    show some (V.ref a) :: List.replicate (n + 1) none = _
    rw [List.replicate_succ]
  rw [es]
  refine ⟨_, rfl, a, ns, rfl, hS, hl, fun fa H' nf sm ⟨c, hc⟩ => ?_⟩
  have ht' : LamX.Tabs T H' := ht.ext sm
  have lv : Lv K ⟨some fa, T⟩ (fun _ => False) H' := ⟨fun _ z => z.elim, fun f' hf => by cases hf; exact ⟨c, hc, fun z => z⟩, fun _ z => z.elim, ht'⟩
  refine hs ⟨⟨some fa, T⟩, fun _ => False, H'⟩ H' _ _ _ _ ?_ hp ⟨fun ρ σ H2 hx e => ?_, fun d v H2 hd g r => ?_, fun _ _ _ z => z.elim, fun _ _ _ z => z.elim, fun _ _ _ _ _ _ z => z.elim, fun d v H2 hd _ r => ?_⟩
  · refine ⟨.refl, lv.m, lv.nf, fun i _ => ?_, fun i hi => (nomatch hi), fun i hi => (nomatch hi), fun f' hf => ?_, ht', rfl⟩
    · show Sl _ (some D.exc :: some D.feed :: List.replicate n none)[i]? (some (V.ref a) :: some (V.ref fa) :: List.replicate n none)[i]?
      match i with
      | 0 => exact ⟨a, rfl⟩
      | 1 => exact ⟨fa, rfl, rfl⟩
      | i + 2 =>
        simp only [List.getElem?_cons_succ]
        rw [List.getElem?_replicate, List.getElem?_replicate]
        split <;> trivial
    · cases hf
      exact ⟨c, hc, fun z => z.elim id fun ⟨_, y, _⟩ => (nomatch y)⟩
  · cases hx
  · cases hd
    rw [show v = .bl true from r]
    exact q H2
  · cases hd
    obtain ⟨_, _, _, _, _, _, r⟩ := r
    exact r.elim
theorem qAe2 {K : PySem.W.Frag} {names : List Str} {n : Nat} {t : TS} {f : FS} (hn : names.length = n + 2) (hs : SS K [] [] [] [] [] (fun _ => E0) t f) (hp : f (qHq yes X0) (some .exc :: some .feed :: List.replicate n none)) (vs : List V) (H : Hp) (Q : VK) (E : XK) (h : qX1 K vs H Q E) :
    tSeq (tAsg (tCall (qIy K) [] E0 (tCons (tVar 0) tNil)) (gName 1)) t { nx := fun _ H' => Q .non H', rt := Q } (start names vs) H := by
  obtain ⟨a, ns, rfl, hS, hl, q⟩ := h
  exact qAck (T := []) hn hs hp _ _ _ E ⟨a, ns, rfl, hS, hl, (fun _ z => nomatch z), q⟩
end MR

set_option Elab.async false
set_option linter.all false
set_option maxRecDepth 100000
set_option maxHeartbeats 4000000
set_option exponentiation.threshold 20000
/-! FL: further rules -/
namespace MR
open PySem PySem.Spec PyProof.Rows L2
def fBr (ow : List Nat) (fa : FE) : FE := fun ρ P X => qYk ow ρ ∧ fBor fa ρ P X
def fOwn (i : Nat) (fe : FE) : FS := fun FD ρ => i < ρ.length ∧ qDr i fe FD ρ
def qB6 : O2 := fun a b P X => (∃ ds, a = .lst ds) ∧ oIx a b P X
def oIxT : O2 := fun a b P X => (∃ ds, a = .tup ds) ∧ oIx a b P X
def qNw (C : Str) : List Str :=
  if C = "Ratio" then ["top", "bottom"] else if C = "Poly" then ["coefficients", "degree", "lead"] else if C = "Place" then ["low", "high"] else if C = "Lot" then ["poly", "begin", "count"] else if C = "Bar" then ["factor", "base", "other"] else []
structure KF (K : PySem.W.Frag) (cs : List Str) : Prop extends KT K cs where
  fld : ∀ C, C ∈ cs → ∀ f, f ∈ qNw C → FldOk K C f
section
variable {K : PySem.W.Frag} {w : Wd} {ow ow' ow1 owb owx : List Nat} {H H' : Hp} {σ : L2.St} {ρ : Env} {E : L2.St → XK} {E1 : XK} {N : L2.Ends} {FD : FEnds} {F : Fd} {M : Addr → Prop}
def fAsg (fe : FE) (g : FG) : FS := fun FD ρ => fe ρ (fun d => g d ρ FD.nx) (fun x => FD.ex x ρ)
def fAug (i : Nat) (g : Int → Int → Int) (fe : FE) : FS := fun FD ρ => ∃ a, ρ[i]? = some (some (.int a)) ∧ fe ρ (fun d => ∃ b, d = .int b ∧ FD.nx (ρ.set i (some (.int (g a b))))) (fun x => FD.ex x ρ)
theorem qAek {i : Nat} {te : TE} {fe : FE} {g : Int → Int → Int} (hi : i ∉ ow) (hs : Sub owx ow) (he : SE K Ta ow E te fe) : SS K Ta ow ow owb owx E (tAug i te (ipI g)) (fAug i g fe) := by
  intro w H σ ρ N FD e h k
  obtain ⟨a, ha, h⟩ := h
  have := e.imm i hi
  rw [ha] at this
  cases hv : σ[i]? with
  | none => rw [hv] at this; exact this.elim
  | some o =>
    rw [hv] at this
    cases o with
    | none => exact this.elim
    | some v =>
      have hva : v = .int a := this
      subst hva
      refine ⟨_, hv, he w H σ ρ _ _ _ e h (fun d v H' hd g r => ?_) (k.px e hs)⟩
      obtain ⟨b, rfl, hb⟩ := hd
      exact ⟨a, b, rfl, r, k.nx _ _ _ hb ((e.grow g).put hi rfl)⟩
def oIsB : O2 := fun a b P _ => match a, b with
  | .bl i, .bl j => P (.bl (decide (i = j)))
  | _, _ => False
def qZa : O2 := fun a b P _ => match a, b with
  | .bl i, .bl j => P (.bl (!decide (i = j)))
  | _, _ => False
/-! ### except suites -/
section
variable {i : Nat} {a : Addr} {cls : Value} {dd : Option Addr} {x : Exn}
def fLen (i : Nat) (fe : FE) : FE := fun ρ P X => i < ρ.length ∧ fe ρ P X
theorem SEH.len {ta : TE} {fa : FE} (h : SEH K Ta ow i a cls dd x ta fa) : SEH K Ta ow i a cls dd x ta (fLen i fa) := fun w H σ ρ P Q e r hi hf q => h w H σ ρ P Q e r hi hf.2 q
theorem RepXs.gr (g : Gr K F H H') : ∀ {fs : List (Str × D)} {gs : List (Str × V)}, RepXs K F H fs gs → RepXs K F H' fs gs
  | [], _, h => h
  | (n, d) :: r, _, h => by
    obtain ⟨v, gr, rfl, r1, r2⟩ := h
    exact ⟨v, gr, rfl, Rep.goes g.goes _ _ r1, RepXs.gr g r2⟩
theorem RepX.gr (g : Gr K F H H') (h : RepX K F H cls dd x) : RepX K F H' cls dd x := by
  refine ⟨h.1, ?_⟩
  rcases h.2 with h | ⟨ad, gs, h1, h2, h3, h4⟩
  · exact .inl h
  · exact .inr ⟨ad, gs, h1, h2, g.old _ _ h3 h2, h4.gr g⟩
end
end
end MR

set_option Elab.async false
set_option linter.all false
set_option maxRecDepth 100000
set_option maxHeartbeats 4000000
/-! MR: calls with keywords -/
namespace MR
open PySem PySem.Spec PyProof.Rows L2
theorem qAc0 {K : PySem.W.Frag} {x qual : Str} {params : Arguments} {body : List Stmt} {scope : Scope} {kws : List (Str × V)} {f : Addr} {fd : FuncData} {ps : List Str} (F : FunD K x qual params body scope [] kws f fd) (n : Nat) (ks : List Str) (g : {α : Type} → List α → List α → List α)
    (hrel : ∀ {vs zs : List V} {us ws : List Value}, Vals vs us → Vals zs ws → Vals (g vs zs) (g us ws))
    (h : ∀ (kV doc pm : Value) (an : Option Addr) (cdv ct : Value) (us ws : List Value), us.length = n → ws.length = ks.length → bindArgs (PySem.W.fnOf x qual params body scope .none kV doc pm an cdv ct) ⟨us, ks.zip ws⟩ = pure (ps.zip (g us ws))) :
    KBn K fd ps n ks (fun us ws => g us ws) (fun vs zs => g vs zs) := by
  obtain ⟨oc, od, dV, kV, doc, pm, an, cdv, ct, osl, rfl, lk, hcd, hD, hK⟩ := F.ex
  rcases hD with ⟨_, rfl⟩ | ⟨e, _⟩
  · exact ⟨fun s us ws X l1 l2 => .of_eq (h kV doc pm an cdv ct us ws l1 l2), fun r1 r2 => hrel r1 r2⟩
  · exact absurd rfl e
def qAam (P : Program) (w : World) (K : PySem.W.Frag) (mg : Str → Option Value) (base : Heap) (k : Nat) (x : Str) (n : Nat) (ks : List Str) (gV : List V → List V → List V) (sp : Sp) : Prop :=
  ∃ (f : Addr) (fd : FuncData) (ps : List Str) (g : List Value → List Value → List Value), mg x = some (.ref f) ∧ PySem.W.keepIn K (.ref f) = true ∧ FnOk P w K mg base (CXX P w) k f fd ps sp ∧ KBn K fd ps n ks g gV
section
variable {X : Cx} {k n : Nat} {sp : Sp} {E : XK} {x : Str} {p pos : Pos} {e : Expr} {es : List Expr} {kws : List Keyword} {t tk : TA} {ks : List Str} {gV : List V → List V → List V}
theorem qUw (D : qAam X.prog X.w X.K X.mg X.base k x 0 ks gV sp) (hr : Room k X.A) (hg : Gl X x) (hx : Passes (CXX X.prog X.w) X E) (hkw : PK X kws tk)
    (hall : (backToKw pos (keywordEach kws X.env)).all (·.1.isSome) = true := by rfl) (hks : (backToKw pos (keywordEach kws X.env)).filterMap (·.1) = ks := by rfl) (hdb : (x == ("__debug__" : Str)) = false := by decide)
    (hpl : ((backTo pos (starEach [] X.env)).any (·.1) || (backToKw pos (keywordEach kws X.env)).any (·.1.isNone)) = false := by rfl) :
    PE X (.Call (.Name x p) [] kws pos) (tCallN 0 ks.length sp gV E tNil tk) := by
  obtain ⟨f, fd, ps, g, h1, h2, h3, h4⟩ := D
  refine ⟨fun pins s σ H Q I h => ?_⟩
  refine wpAny_Call_Name_kw (ld_glob I hg h1 ?_ hdb)
  refine PySem.W.callWith_KW0 (h₀ := X.base) I.ok.mod.kin h2 hall ?_ hpl
  refine thn (hkw.run pos pins s σ H _ I h) fun ws s2 ⟨zs, H2, I2, rz, l1, l2, q2⟩ => ⟨I2.kIn, ?_⟩
  rw [hks]
  exact run_fnN (us := []) (vs := []) h3 hr h4 hx I2 .nil rz rfl l2 q2
end
section
variable {K : PySem.W.Frag} {ow : List Nat} {E : L2.St → XK} {E1 : XK}
def qSk (fsp : FSp) (n m : Nat) (fa fk : FA) : FE := fun ρ P X => fa ρ (fun ds => fk ρ (fun es => ds.length = n ∧ es.length = m ∧ fsp (ds ++ es) P X0) X) X
abbrev gApp : List V → List V → List V := fun vs zs => vs ++ zs
theorem qXi {sp : Sp} {fsp : FSp} {n m : Nat} {ta tk : TA} {fa fk : FA} (L : Lift K sp fsp) (ha : SA K Ta ow E ta fa) (hk : SA K Ta ow E tk fk) : SE K Ta ow E (tCallN n m sp gApp E0 ta tk) (qSk fsp n m fa fk) := by
  intro w H σ ρ P X Q e h q x
  refine ha w H σ ρ _ X _ e h (fun ds vs H1 h1 g1 r1 => ?_) x
  refine hk w H1 σ ρ _ X _ (e.grow g1) h1 (fun es us H2 h2 g2 r2 => ?_) (x.gr g1)
  refine ⟨by rw [r1.length]; exact h2.1, by rw [r2.length]; exact h2.2.1, L _ _ _ _ ?_⟩
  exact ⟨_, _, _, P, _, ((e.grow g1).grow g2).lv, (Reps.goes g2.goes _ _ r1).append r2, h2.2.2, fun d v H2 hd g3 r2 => q d v H2 hd ((g1.trans g2).trans g3) r2, px0⟩
end
theorem qBd {K : PySem.W.Frag} {fsp : FSp} {n : Nat} (h : ∀ ds P X, fsp ds P X → ds.length = n) {vs : List V} {H : Hp} {Q : VK} {E : XK} (l : lift K fsp vs H Q E) : vs.length = n := by
  obtain ⟨F, M, ds, P, X, lv, r, hs, _⟩ := l
  rw [r.length]
  exact h ds P X hs
end MR

set_option Elab.async false
set_option linter.all false
set_option maxRecDepth 100000
set_option maxHeartbeats 4000000
/-! FL: facts of the head -/
namespace MR
open PySem PySem.Spec PyProof.Rows L2 He
def ktF (cs : List Str) : Fct := fun K => cs.all fun C => ownF C K && ((["int", "bool", "str", "list", "tuple"].all fun n => qQ3 (PySem.W.kitOne K (.ref (ga K C)) (.type n)) false) && ((["NoneType", "int", "bool", "str", "list", "tuple", "dict"].all fun n => qQ3 (PySem.W.kitOne K (.type n) (.ref (ga K C))) false) &&
  ((cs.all fun C' => qQ3 (PySem.W.kitOne K (.ref (ga K C)) (.ref (ga K C'))) (decide (C = C'))) && (qNw C).all fun f => (Fa.noat C f).ok K)))
theorem qAeu {K : PySem.W.Frag} {cs : List Str} (h : ktF cs K = true) : KF K cs := by
  have h := List.all_eq_true.mp h
  refine ⟨⟨fun C hC => ?_, fun C hC n hn => ?_, fun C hC n hn => ?_, fun C hC C' hC' => ?_⟩, fun C hC f hf => ?_⟩ <;> obtain ⟨h1, h2⟩ := ba (h C hC) <;> obtain ⟨h2, h3⟩ := ba h2 <;> obtain ⟨h3, h4⟩ := ba h3 <;> obtain ⟨h4, h5⟩ := ba h4
  · exact qXn h1
  · exact qCq (List.all_eq_true.mp h2 n hn)
  · exact qCq (List.all_eq_true.mp h3 n hn)
  · exact qCq (List.all_eq_true.mp h4 C' hC')
  · exact ⟨(qXn h1).cl, noat_ok (List.all_eq_true.mp h5 f hf)⟩
abbrev bmV : List Value := [.type "ValueError", .type "Exception", .type "BaseException", .type "object"]
/-- an error class without an __init__ of its own -/
structure Ex0 (K : PySem.W.Frag) (C : Addr) : Prop where
  xin : PySem.W.excIn K C bmV "ValueError.__new__" = true
  kp : PySem.W.keepIn K (.ref C) = true
  bs : PySem.W.subIn K (.ref C) (.type "BaseException") = some true
  ty : PySem.W.typeIn K (.ref C) = some (.type "type")
def ex0F (x : Str) : Fct := fun K => PySem.W.excIn K (ga K x) bmV "ValueError.__new__" && (PySem.W.keepIn K (.ref (ga K x)) && (qQ3 (PySem.W.subIn K (.ref (ga K x)) (.type "BaseException")) true && qQ3 (PySem.W.typeIn K (.ref (ga K x))) (.type "type")))
theorem qXm {K : PySem.W.Frag} {x : Str} (h : ex0F x K = true) : Ex0 K (ga K x) := by
  obtain ⟨h1, h⟩ := ba h
  obtain ⟨h2, h⟩ := ba h
  obtain ⟨h3, h4⟩ := ba h
  exact ⟨h1, h2, qCq h3, qCq h4⟩
theorem mk0 {X : Cx} {C : Addr} {x : Str} {p pos : Pos} (T : Ex0 X.K C) (gC : X.mg x = some (.ref C)) (hg : Gl X x := by rfl) (hdb : (x == ("__debug__" : Str)) = false := by decide) : PMk X (.Call (.Name x p) [] [] pos) (fun σ H Q => Q (.ref C) none H) :=
  qYe PySem.F.excBase_ValueError T.xin gC T.kp (raises_own T.bs T.ty) hg hdb
theorem qI6 {X : Cx} {C : Addr} {W : WX} {x : Str} {p1 pos pos2 : Pos} (hc : X.calm = true) (tk : Takes X W) (T : Ex0 X.K C) (gC : X.mg x = some (.ref C)) (hg : Gl X x := by rfl) (hdb : (x == ("__debug__" : Str)) = false := by decide) :
    PS X (.Raise (some (.Call (.Name x p1) [] [] pos)) none pos2) (qHk C W) := ps_raise hc tk (mk0 T gC hg hdb)
end MR

set_option Elab.async false
set_option linter.all false
set_option maxRecDepth 100000
set_option maxHeartbeats 4000000
/-! MR: a call of an instance whose class has a __call__ -/
namespace MR
open PySem PySem.Spec PyProof.Rows L2
section
open PySem.W PySem.Calls
variable {M : Model} {A : Around} {E : Value → Shared → Prop} {s : Shared} {K : Frag} {env : PySem.Env} {pos : Pos} {x C : Addr} {first : List Value} {Q : Value → Shared → Prop}
end
section
variable {X : Cx} {k : Nat} {C : Addr} {sp : Sp} {E : XK} {pos : Pos} {fe e : Expr} {es : List Expr} {tf : TE} {t : TA}
end
end MR

set_option Elab.async false
set_option linter.all false
set_option maxRecDepth 100000
set_option maxHeartbeats 4000000
/-! MR: operators between instances of two own classes -/
namespace MR
open PySem PySem.Spec PyProof.Rows L2
section
open PySem.W
variable {prog : Program} {w : World} {A : Around} {E : Value → Shared → Prop} {s : Shared} {K : Frag} {x y C C2 L f g : Addr} {h₀ : Heap} {m : Str → Option Value} {ox oy : Obj} {od od2 : Option Obj}
end
/-- what the written part says of two classes and an operator -/
structure Op2C (K : PySem.W.Frag) (C C2 : Addr) (nm : String) : Prop where
  ne : C ≠ C2
  sf : PySem.W.selfFirst K C = true
  sf2 : PySem.W.selfFirst K C2 = true
  sub : PySem.W.subIn K (.ref C2) (.ref C) = some false
  rc : ∃ rc, PySem.W.findIn K (.ref C) (dunderR nm) = some rc ∧ (rc = none ∨ ∃ g : Addr, rc = some (.ref g))
  s2 : ∃ g : Addr, PySem.W.findIn K (.ref C2) (PySem.dunder nm) = some (some (.ref g))
  rc2 : ∃ rc, PySem.W.findIn K (.ref C2) (dunderR nm) = some rc ∧ (rc = none ∨ ∃ g : Addr, rc = some (.ref g))
open He in
open He in
section
variable {X : Cx} {k : Nat} {C C2 : Addr} {sp : Sp} {E : XK}
end
end MR

set_option Elab.async false
set_option linter.all false
set_option maxRecDepth 100000
set_option maxHeartbeats 4000000
/-! MR: an operator that declines, and the other side's reflected one -/
namespace MR
open PySem PySem.Spec PyProof.Rows L2
/-- the end of a call that hands back NotImplemented -/
def CEN (outer : List PySem.Env) (P : Program) (w : World) (H : Hp) (s : Shared) (Q : VK) (u : Value) (s' : Shared) : Prop :=
  ∃ H', s'.os = s.os ∧ AllBare s'.gens ∧ Un (frs outer) [] H H' s.heap s'.heap ∧ HOk P w H' s'.heap ∧ u = .notImplemented ∧ Q .non H'
def CRN (CX : CXT) (outer : List PySem.Env) (P : Program) (w : World) (H : Hp) (s : Shared) (Q : VK) (E : XK) (r : Result) (s' : Shared) : Prop :=
  match r with
  | .ok (.ret u) => CEN outer P w H s Q u s'
  | .ok _ => False
  | .error e => CX outer H s E e s'
structure NiOk (P : Program) (w : World) (K : PySem.W.Frag) (mg : Str → Option Value) (base : Heap) (CX : CXT) (k : Nat) (f : Addr) (fd : FuncData) (ps : List Str) (sp : Sp) : Prop where
  len : ∀ vs H Q E, sp vs H Q E → vs.length = ps.length
  run : ∀ (A : Around) (outer : List PySem.Env) (s : Shared) (H : Hp) (args : Args) (us : List Value) (vs : List V) (Q : VK) (E : XK), Room k A → Env0 P w K mg base A outer s H → BindsTo s fd args (ps.zip us) → Vals vs us → sp vs H Q E →
    codeAny (model P w) A (.call (.ref f) args) (CRN CX outer P w H s Q E) s
section
variable {X : Cx} {CX : CXT} {k : Nat} {f C C2 : Addr} {fd : FuncData} {ps : List Str} {sp sp2 : Sp} {E : XK}
end
section
open PySem.W
variable {prog : Program} {w : World} {A : Around} {E : Value → Shared → Prop} {s : Shared} {K : Frag} {x y C C2 L f g f2 : Addr} {h₀ : Heap} {m : Str → Option Value} {ox oy : Obj} {od od2 : Option Obj}
end
section
variable {X : Cx} {k : Nat} {C C2 : Addr} {sp sp2 : Sp} {E : XK}
end
end MR

set_option Elab.async false
set_option linter.all false
set_option maxRecDepth 100000
set_option maxHeartbeats 4000000
/-! MR: x in y by an own class; == of what may be None -/
namespace MR
open PySem PySem.Spec PyProof.Rows L2
section
variable {X : Cx} {k k2 : Nat} {C : Addr} {sp spN : Sp} {E : XK}
end
/-- the class and NoneType are strangers -/
structure NonC (K : PySem.W.Frag) (C : Addr) : Prop where
  sub : PySem.W.subIn K (.type "NoneType") (.ref C) = some false
  subR : PySem.W.subIn K (.ref C) (.type "NoneType") = some false
open He in
open He in
section
open PySem.W
variable {prog : Program} {w : World} {A : Around} {E : Value → Shared → Prop} {s : Shared} {K : Frag} {x C dx f : Addr} {od : Option Obj}
end
section
variable {X : Cx} {k k2 : Nat} {C : Addr} {sp spN : Sp}
end
end MR

set_option Elab.async false
set_option linter.all false
set_option maxRecDepth 100000
set_option maxHeartbeats 4000000
/-! MR: != of two instances of an own class that has __eq__ and no __ne__ -/
namespace MR
open PySem PySem.Spec PyProof.Rows L2
structure NeC (K : PySem.W.Frag) (C : Addr) : Prop where
  ne : PySem.W.findIn K (.ref C) "__ne__" = some (some (.builtin "object.__ne__"))
  ob : PySem.W.mroIn K C (.type "object") = some true
open He in
open He in
section
open PySem.W
variable {M : Model} {prog : Program} {w : World} {A : Around} {E : Value → Shared → Prop} {s : Shared} {K : Frag} {x y C f : Addr} {ox oy : Obj} {od od2 : Option Obj}
end
section
variable {X : Cx} {CX : CXT} {k : Nat} {C f : Addr} {fd : FuncData} {ps : List Str} {sp : Sp} {E : XK}
end
end MR

set_option Elab.async false
set_option linter.all false
set_option maxRecDepth 100000
set_option maxHeartbeats 4000000
/-! MR: a // b of numbers of any size -/
namespace MR
open PySem PySem.Spec PyProof.Rows L2
/-- nothing watches how _pylong is taken in -/
structure SeeC (K : PySem.W.Frag) : Prop where
  st : PySem.W.nsOkIn K cStatics = true
  st1 : PySem.W.nsIn K cStatics "sys.audit-hooks" = some none
  st2 : PySem.W.nsIn K cStatics "sys.dict" = some none
  sm : PySem.W.nsOkIn K sysModules = true
  sm1 : PySem.W.nsIn K sysModules "_pylong" = some none
  mn : ∃ bm ob, PySem.W.nsIn K mainGlobals "__builtins__" = some (some (.ref bm)) ∧ K.lookup bm = some ob ∧ ob.cls = .type "module" ∧ ob.dict = some builtinsNs
def seeM (K : PySem.W.Frag) : Bool := match PySem.W.nsIn K mainGlobals "__builtins__" with
  | some (some (.ref bm)) => (match K.lookup bm with
    | some ob => decide (ob.cls = .type "module") && decide (ob.dict = some builtinsNs)
    | none => false)
  | _ => false
open He in
def seeF : Fct := fun K => PySem.W.nsOkIn K cStatics && (decide (PySem.W.nsIn K cStatics "sys.audit-hooks" = some none) && (decide (PySem.W.nsIn K cStatics "sys.dict" = some none) && (PySem.W.nsOkIn K sysModules && (decide (PySem.W.nsIn K sysModules "_pylong" = some none) && seeM K))))
theorem qAci {K : PySem.W.Frag} (h : seeM K = true) : ∃ bm ob, PySem.W.nsIn K mainGlobals "__builtins__" = some (some (.ref bm)) ∧ K.lookup bm = some ob ∧ ob.cls = .type "module" ∧ ob.dict = some builtinsNs := by
  unfold seeM at h
  split at h
  · rename_i bm e
    split at h
    · rename_i ob e2
      obtain ⟨h1, h2⟩ := Bool.and_eq_true_iff.mp h
      exact ⟨bm, ob, e, e2, of_decide_eq_true h1, of_decide_eq_true h2⟩
    · cases h
  · cases h
open He in
theorem qAcr {K : PySem.W.Frag} (h : seeF K = true) : SeeC K := by
  obtain ⟨h1, h⟩ := Bool.and_eq_true_iff.mp h
  obtain ⟨h2, h⟩ := Bool.and_eq_true_iff.mp h
  obtain ⟨h3, h⟩ := Bool.and_eq_true_iff.mp h
  obtain ⟨h4, h⟩ := Bool.and_eq_true_iff.mp h
  obtain ⟨h5, h⟩ := Bool.and_eq_true_iff.mp h
  exact ⟨h1, of_decide_eq_true h2, of_decide_eq_true h3, h4, of_decide_eq_true h5, qAci h⟩
theorem SeeC.base {K : PySem.W.Frag} {mg : Str → Option Value} {base : Heap} (S : SeeC K) (M : Mod K mg base) : base.NoSeer where
  statics := ⟨_, .of_isNs (PySem.W.isNs_of_in M.kin S.st), PySem.W.nsMap_none_of_in M.kin S.st S.st1, PySem.W.nsMap_none_of_in M.kin S.st S.st2⟩
  mods := ⟨_, .of_isNs (PySem.W.isNs_of_in M.kin S.sm), PySem.W.nsMap_none_of_in M.kin S.sm S.sm1⟩
  imp := M.blt
  main := by
    obtain ⟨bm, ob, h1, h2, h3, h4⟩ := S.mn
    exact ⟨mg, bm, ob, M.glob, PySem.W.mg_of M.kin M.glob h1, M.kin _ _ h2, h3, h4⟩
section
variable {X : Cx}
theorem qXy (S : SeeC X.K) (ht : X.prog.given.tree = none) (hr : Room 32 X.A) {e : PySem.Env} {l : List PySem.Env} (hk : X.stack = e :: l) (hg : e.scope.isGenerator = false) (hc : e.scope.isCoroutine = false) (hb : e.builtins = builtinsNs) (hgl : e.globals = mainGlobals) {pins : List (Addr × Obj)} {σ : L2.St} {H : Hp} {s : Shared} (I : Inv X pins σ H s) : PylongRoom (model X.prog X.w) X.A s :=
  PylongRoom.of I.nolimit (by have := hr.dp; show X.A.depth + 100 < _; omega) (SeerAt.of ((S.base I.ok.mod).keeps I.bk) ht (by rw [I.ok.frames, hk]) hg hc hb hgl)
/-- i // j of any size -/
theorem qH1 (S : SeeC X.K) (ht : X.prog.given.tree = none) (hr : Room 32 X.A) {e : PySem.Env} {l : List PySem.Env} (hk : X.stack = e :: l := by rfl) (hg : e.scope.isGenerator = false := by rfl) (hc : e.scope.isCoroutine = false := by rfl) (hb : e.builtins = builtinsNs := by rfl) (hgl : e.globals = mainGlobals := by rfl) : OpR X (binaryOp .FloorDiv) (rI qAbc fun i j => .int (i.fdiv j)) := by
  intro pins s σ H x y v u Q I rx ry h
  obtain ⟨i, j, rfl, rfl, hj, q⟩ := h
  obtain ⟨t, rfl⟩ := rx
  obtain ⟨t', rfl⟩ := ry
  exact floordiv_int hj ⟨.int _, H, I.tok _, ⟨_, rfl⟩, q⟩ (.inr (qXy S ht hr hk hg hc hb hgl I))
end
end MR

set_option Elab.async false
set_option linter.all false
set_option maxRecDepth 100000
set_option maxHeartbeats 4000000
set_option exponentiation.threshold 20000
namespace MR
open PySem PySem.Spec PyProof.Rows L2
def top (i : Nat) : Stmt := PySem.Challenge.pw_momentrows_k10_common_factor.main.body.getD i (.Pass ⟨0, 0, 0, 0⟩)
abbrev qBa : Stmt := top 9
abbrev qA2 : Stmt := top 10
abbrev qA9 : Stmt := inClass (top 11) 0
abbrev qGd : Stmt := inClass (top 11) 7
abbrev qBq : Stmt := inClass (top 11) 9
abbrev qBm : Stmt := inClass (top 11) 11
abbrev qF3 : Stmt := inClass (top 11) 19
abbrev qBr : Stmt := top 17
abbrev qBz : Stmt := top 18
abbrev qBb : Stmt := inClass (top 11) 21
abbrev qAp : Stmt := top 32
abbrev qBe : Stmt := top 33
abbrev qBp : Stmt := top 34
abbrev qA3 : Stmt := top 35
abbrev qCa : Stmt := top 36
abbrev qB2 : Stmt := top 38
abbrev qBc : Stmt := top 39
abbrev qAw : Stmt := top 43
abbrev qAs : Stmt := top 40
abbrev qA4 : Stmt := top 42
abbrev qAt : Stmt := top 25
abbrev qBg : Stmt := inClass (top 20) 0
abbrev qAz : Stmt := top 37
abbrev qBj : Stmt := top 28
abbrev qAx : Stmt := top 29
abbrev qCn : Stmt := top 30
abbrev qBn : Stmt := top 44
abbrev qAy : Stmt := top 45
abbrev qEj : Stmt := top 46
def qHx : He.DefD := ⟨("is_integer", none), "is_integer", "is_integer", defArgs qBa, defBody qBa, defScope qBa, [], []⟩
def qG1 : He.DefD := ⟨("common_part", none), "common_part", "common_part", defArgs qA2, defBody qA2, defScope qA2, [], []⟩
def qIi : He.DefD := ⟨("Ratio", some "__init__"), "__init__", "Ratio.__init__", defArgs qA9, defBody qA9, defScope qA9, [.int 1], []⟩
def qQe : He.DefD := ⟨("Ratio", some "__add__"), "__add__", "Ratio.__add__", defArgs qGd, defBody qGd, defScope qGd, [], []⟩
def qJb : He.DefD := ⟨("Ratio", some "__sub__"), "__sub__", "Ratio.__sub__", defArgs qBq, defBody qBq, defScope qBq, [], []⟩
def qJf : He.DefD := ⟨("Ratio", some "__mul__"), "__mul__", "Ratio.__mul__", defArgs qBm, defBody qBm, defScope qBm, [], []⟩
def qQv : He.DefD := ⟨("Ratio", some "__neg__"), "__neg__", "Ratio.__neg__", defArgs qF3, defBody qF3, defScope qF3, [], []⟩
def qJj : He.DefD := ⟨("is_number", none), "is_number", "is_number", defArgs qBr, defBody qBr, defScope qBr, [], []⟩
def qKe : He.DefD := ⟨("as_ratio", none), "as_ratio", "as_ratio", defArgs qBz, defBody qBz, defScope qBz, [], []⟩
def qIh : He.DefD := ⟨("Ratio", some "over"), "over", "Ratio.over", defArgs qBb, defBody qBb, defScope qBb, [], []⟩
def qEp : He.DefD := ⟨("_law_is_integer", none), "_law_is_integer", "_law_is_integer", defArgs qAp, defBody qAp, defScope qAp, [], []⟩
def qJk : He.DefD := ⟨("_law_feed", none), "_law_feed", "_law_feed", defArgs qBe, defBody qBe, defScope qBe, [], []⟩
def qJm : He.DefD := ⟨("_law_take", none), "_law_take", "_law_take", defArgs qBp, defBody qBp, defScope qBp, [], []⟩
def qG3 : He.DefD := ⟨("_law_number", none), "_law_number", "_law_number", defArgs qA3, defBody qA3, defScope qA3, [], []⟩
def qMo : He.DefD := ⟨("_law_is", none), "_law_is", "_law_is", defArgs qCa, defBody qCa, defScope qCa, [], []⟩
def qKs : He.DefD := ⟨("_law_add", none), "_law_add", "_law_add", defArgs qB2, defBody qB2, defScope qB2, [], []⟩
def qIg : He.DefD := ⟨("_law_times", none), "_law_times", "_law_times", defArgs qBc, defBody qBc, defScope qBc, [], []⟩
def qG8 : He.DefD := ⟨("_law_ratios", none), "_law_ratios", "_law_ratios", defArgs qAw, defBody qAw, defScope qAw, [], []⟩
def qGm : He.DefD := ⟨("_law_product", none), "_law_product", "_law_product", defArgs qAs, defBody qAs, defScope qAs, [], []⟩
def qH4 : He.DefD := ⟨("_law_minus", none), "_law_minus", "_law_minus", defArgs qA4, defBody qA4, defScope qA4, [], []⟩
def qFv : He.DefD := ⟨("without_zeros", none), "without_zeros", "without_zeros", defArgs qAt, defBody qAt, defScope qAt, [], []⟩
def qJe : He.DefD := ⟨("Poly", some "__init__"), "__init__", "Poly.__init__", defArgs qBg, defBody qBg, defScope qBg, [], []⟩
def qGa : He.DefD := ⟨("_law_poly_is", none), "_law_poly_is", "_law_poly_is", defArgs qAz, defBody qAz, defScope qAz, [], []⟩
def qLi : He.DefD := ⟨("divided", none), "divided", "divided", defArgs qBj, defBody qBj, defScope qBj, [], []⟩
def qG7 : He.DefD := ⟨("made_monic", none), "made_monic", "made_monic", defArgs qAx, defBody qAx, defScope qAx, [], []⟩
def qP6 : He.DefD := ⟨("common", none), "common", "common", defArgs qCn, defBody qCn, defScope qCn, [], []⟩
def qJl : He.DefD := ⟨("_law_poly", none), "_law_poly", "_law_poly", defArgs qBn, defBody qBn, defScope qBn, [], []⟩
def qF6 : He.DefD := ⟨("_law_factors", none), "_law_factors", "_law_factors", defArgs qAy, defBody qAy, defScope qAy, [], []⟩
def qAal : He.DefD := ⟨("law", none), "law", "law", defArgs qEj, defBody qEj, defScope qEj, [], []⟩
def fn0 : List He.DefD := [qHx, qG1, qIi, qQe, qJb, qJf, qQv, qJj, qKe, qIh, qEp, qJk, qJm, qG3, qMo, qKs, qIg, qG8, qGm, qH4, qFv, qJe, qGa, qLi, qG7, qP6, qJl, qF6, qAal]
def fnL : List He.DefD := fn0
abbrev csL : List Str := ["Ratio", "Poly"]
def bs0 : List Fct := [(fun K => (He.Fa.free "isinstance").ok K),
  (fun K => (He.Fa.free "int").ok K),
  (fun K => (He.Fa.free "bool").ok K),
  (fun K => (He.Fa.free "abs").ok K),
  (fun K => (He.Fa.free "len").ok K),
  (fun K => (He.Fa.free "max").ok K),
  (fun K => (He.Fa.free "range").ok K),
  (fun K => (He.Fa.free "list").ok K),
  (fun K => (He.Fa.free "tuple").ok K),
  (fun K => (He.Fa.free "reversed").ok K),
  (fun K => (He.Fa.glo "is_integer").ok K),
  (fun K => (He.Fa.glo "common_part").ok K),
  (fun K => (He.Fa.glo "NoRatio").ok K),
  (fun K => (He.Fa.glo "Ratio").ok K),
  (fun K => (He.Fa.glo "is_number").ok K),
  (fun K => (He.Fa.glo "NoNumber").ok K),
  (fun K => (He.Fa.glo "as_ratio").ok K),
  (fun K => (He.Fa.glo "_law_is_integer").ok K),
  (fun K => (He.Fa.glo "_law_feed").ok K),
  (fun K => (He.Fa.glo "_law_take").ok K),
  (fun K => (He.Fa.glo "_law_number").ok K),
  (fun K => (He.Fa.glo "_law_is").ok K),
  (fun K => (He.Fa.glo "_law_add").ok K),
  (fun K => (He.Fa.glo "_law_times").ok K),
  (fun K => (He.Fa.glo "_law_ratios").ok K),
  (fun K => (He.Fa.glo "_law_product").ok K),
  (fun K => (He.Fa.glo "_law_minus").ok K),
  (fun K => (He.Fa.glo "without_zeros").ok K),
  (fun K => (He.Fa.glo "NoPoly").ok K),
  (fun K => (He.Fa.glo "Poly").ok K),
  (fun K => (He.Fa.glo "_law_poly_is").ok K),
  (fun K => (He.Fa.glo "NoDivisor").ok K),
  (fun K => (He.Fa.glo "divided").ok K),
  (fun K => (He.Fa.glo "made_monic").ok K),
  (fun K => (He.Fa.glo "common").ok K),
  (fun K => (He.Fa.glo "_law_poly").ok K),
  (fun K => (He.Fa.glo "_law_factors").ok K),
  (fun K => (He.Fa.glo "law").ok K),
  (supF PySem.Challenge.pw_momentrows_k10_common_factor "NoRatio" "word"),
  (supF PySem.Challenge.pw_momentrows_k10_common_factor "NoNumber" "word"),
  (ex0F "NoPoly"),
  (ex0F "NoDivisor"),
  (ktF csL),
  seeF,
  (opF "Ratio" "sub"),
  (opF "Ratio" "mul"),
  (fun K => (He.Fa.mkr "Ratio").ok K),
  (fun K => (He.Fa.meth "Ratio" "__add__").ok K),
  (fun K => (He.Fa.meth "Ratio" "__sub__").ok K),
  (fun K => (He.Fa.meth "Ratio" "__mul__").ok K),
  (fun K => (He.Fa.meth "Ratio" "__neg__").ok K),
  (fun K => (He.Fa.meth "Ratio" "over").ok K),
  (fun K => (He.Fa.mkr "Poly").ok K)]
def bsL : List Fct := bs0
def qAei : List Str := ["_wall", "__name__", "MeansError", "NoRatio", "NoPoly", "NoDivisor", "NoNumber", "MOST_DIGITS", "is_integer", "common_part", "Ratio", "is_plain", "floor_of", "power_of", "power_of_ratios", "whole_power", "is_number", "as_ratio", "Poly", "power_of_polys", "value_at", "coefficients_of", "without_zeros", "added", "multiplied", "divided", "made_monic", "common", "_law_is_integer", "_law_feed"]
def qAd6 : List Str := ["_law_take", "_law_number", "_law_is", "_law_poly_is", "_law_add", "_law_times", "_law_product", "_law_sum", "_law_minus", "_law_ratios", "_law_poly", "_law_factors"]
def qSv : List Str := qAei ++ qAd6
abbrev hk : PySem.W.Hook := qAds 4 bsL fnL
def ob (s : PySem.W.SharedT) : AlM := obsN 4 bsL fnL (HandSHeadRun.getT s)
theorem qAf3 (s : PySem.W.SharedT) : ob s = hk.obs s.abs := qAch (HandSHeadRun.getT_eq s)
section
open PySem PySem.W PySem.Calls PyProof.Rows HandSHeadRun
theorem qAb1 (w : World) (os : OsState) : (HandSHeadRun.endF (HandSHeadRun.stepQ (HandSHeadRun.denQ HandSHeadRun.tabQ) (PySem.W.OpenLaw.row PySem.Challenge.rw_momentrows_k10_common_factor).prog w) 12000 (PySem.W.OpenLaw.row PySem.Challenge.rw_momentrows_k10_common_factor).prog w os).map (fun s => (looksF (PySem.W.OpenLaw.row PySem.Challenge.rw_momentrows_k10_common_factor).prog (boot_heap w.params) s.abs, seenQ (PySem.W.view (PySem.W.OpenLaw.row PySem.Challenge.rw_momentrows_k10_common_factor).prog [46]) qSv (importedModules (PySem.W.OpenLaw.row PySem.Challenge.rw_momentrows_k10_common_factor).prog.main.body) (fun s => xlAt (PySem.W.view (PySem.W.OpenLaw.row PySem.Challenge.rw_momentrows_k10_common_factor).prog [46]) [] s && recOk (PySem.W.OpenLaw.row PySem.Challenge.rw_momentrows_k10_common_factor).toRowW.records s) s.abs)) = some (true, openGood (PySem.W.view (PySem.W.OpenLaw.row PySem.Challenge.rw_momentrows_k10_common_factor).prog [46]) qSv) := by kernel_rfl
theorem qAdt (w : World) (os : OsState) : qX7 (HandSHeadRun.endF (HandSHeadRun.stepQ (HandSHeadRun.denQ HandSHeadRun.tabQ) (PySem.W.OpenLaw.row PySem.Challenge.rw_momentrows_k10_common_factor).prog w) 12000 (PySem.W.OpenLaw.row PySem.Challenge.rw_momentrows_k10_common_factor).prog w os) (fun s => frU (HandSHeadRun.getT s) 4) bs0 := by
  unfold qX7
  kernel_rfl
theorem qAdv (w : World) (os : OsState) : qY4 (HandSHeadRun.endF (HandSHeadRun.stepQ (HandSHeadRun.denQ HandSHeadRun.tabQ) (PySem.W.OpenLaw.row PySem.Challenge.rw_momentrows_k10_common_factor).prog w) 12000 (PySem.W.OpenLaw.row PySem.Challenge.rw_momentrows_k10_common_factor).prog w os) (fun s => frU (HandSHeadRun.getT s) 4) fn0 := by
  unfold qY4
  kernel_rfl
theorem run (w : World) : HandSHeadRun.RunEq (PySem.W.OpenLaw.row PySem.Challenge.rw_momentrows_k10_common_factor) (PySem.W.view (PySem.W.OpenLaw.row PySem.Challenge.rw_momentrows_k10_common_factor).prog [46]) hk ob 12000 qSv w := by
  intro os
  exact qAfv (qAb1 w os) (qAdt w os) (qAdv w os)
end
end MR

set_option linter.all false
/-! FL: what readings are at known data -/
namespace MR
open PySem PySem.Spec PyProof.Rows L2
section
variable {P : D → Prop} {X : XP} {fsp : FSp} {ρ : Env} {R : Env → Prop} {a b c d : D} {q r : Rat} {cs es : List Rat} {n : Int} {C : Str} {i j k : Nat}
theorem qKa : qM3 (.rat q) = some ("Ratio" : Str) := rfl
theorem qIb : qM3 (.poly cs) = some ("Poly" : Str) := rfl
theorem qTw : qOj "Ratio" fsp (.rat q) (.rat r) P X ↔ fsp [.rat q, .rat r] P X0 := ⟨fun h => h.2.2, fun h => ⟨rfl, .inr rfl, h⟩⟩
theorem qS2 : qOj "Ratio" fsp (.rat q) (.int n) P X ↔ fsp [.rat q, .int n] P X0 := ⟨fun h => h.2.2, fun h => ⟨rfl, .inl trivial, h⟩⟩
theorem qT9 : qOj "Poly" fsp (.poly cs) (.poly es) P X ↔ fsp [.poly cs, .poly es] P X0 := ⟨fun h => h.2.2, fun h => ⟨rfl, .inr rfl, h⟩⟩
theorem qTm : qOj "Poly" fsp (.poly cs) (.int n) P X ↔ fsp [.poly cs, .int n] P X0 := ⟨fun h => h.2.2, fun h => ⟨rfl, .inl trivial, h⟩⟩
theorem qTa : qAda "Ratio" fsp (.int n) (.rat q) P X ↔ fsp [.rat q, .int n] P X0 := ⟨fun h => h.2.2, fun h => ⟨trivial, rfl, h⟩⟩
theorem qT3 : qAda "Poly" fsp (.int n) (.poly cs) P X ↔ fsp [.poly cs, .int n] P X0 := ⟨fun h => h.2.2, fun h => ⟨trivial, rfl, h⟩⟩
theorem qYq : qAen "Ratio" fsp (.rat q) P X ↔ fsp [.rat q] P X0 := ⟨fun h => h.2, fun h => ⟨rfl, h⟩⟩
theorem qY6 : qAen "Poly" fsp (.poly cs) P X ↔ fsp [.poly cs] P X0 := ⟨fun h => h.2, fun h => ⟨rfl, h⟩⟩
theorem qZc : qAgc "Ratio" fsp [.rat q] P X ↔ fsp [.rat q] P X0 := ⟨fun ⟨_, h1, h⟩ => by cases h1; exact h.2, fun h => ⟨_, rfl, rfl, h⟩⟩
theorem qY9 : qAez [i, j] (.tup [a, b]) ρ R ↔ R ((ρ.set i (some a)).set j (some b)) := by
  constructor
  · rintro ⟨ds, h, _, d1, r1, h1, d2, r2, h2, h3, hR⟩
    cases h; cases h1; cases h2; exact hR
  · exact fun h => ⟨_, rfl, rfl, _, _, rfl, _, _, rfl, rfl, h⟩
theorem qZs {l : Nat} : qAez [i, j, k, l] (.tup [a, b, c, d]) ρ R ↔ R ((((ρ.set i (some a)).set j (some b)).set k (some c)).set l (some d)) := by
  constructor
  · rintro ⟨ds, h, _, d1, r1, h1, d2, r2, h2, d3, r3, h3, d4, r4, h4, h5, hR⟩
    cases h; cases h1; cases h2; cases h3; cases h4; exact hR
  · exact fun h => ⟨_, rfl, rfl, _, _, rfl, _, _, rfl, _, _, rfl, _, _, rfl, rfl, h⟩
/-- x = e with a datum known at slot i -/
theorem qY5 {ds : List D} {Q : List D → Prop} : (∃ es, D.lst ds = D.lst es ∧ Q es) ↔ Q ds := by
  constructor
  · rintro ⟨es, h, q⟩; cases h; exact q
  · exact fun h => ⟨_, rfl, h⟩
theorem qX5 {ds : List D} {Q : List D → Prop} : (∃ es, D.tup ds = D.tup es ∧ Q es) ↔ Q ds := by
  constructor
  · rintro ⟨es, h, q⟩; cases h; exact q
  · exact fun h => ⟨_, rfl, h⟩
theorem qYg {ds : List D} : (∃ es, D.lst ds = D.lst es) ↔ True := ⟨fun _ => trivial, fun _ => ⟨_, rfl⟩⟩
theorem qYa {ds : List D} : (∃ es, D.tup ds = D.tup es) ↔ True := ⟨fun _ => trivial, fun _ => ⟨_, rfl⟩⟩
theorem qZm {Q : Int → Prop} : (∃ i, D.int n = D.int i ∧ Q i) ↔ Q n := by
  constructor
  · rintro ⟨es, h, q⟩; cases h; exact q
  · exact fun h => ⟨_, rfl, h⟩
theorem qT5 {ds : List D} {Q : List D → Prop} : (∃ es, [D.lst ds] = [D.lst es] ∧ Q es) ↔ Q ds := by
  constructor
  · rintro ⟨es, h, q⟩; cases h; exact q
  · exact fun h => ⟨_, rfl, h⟩
theorem qT2 {ds fs : List D} {Q : List D → List D → Prop} : (∃ es gs, [D.lst ds, D.lst fs] = [D.lst es, D.lst gs] ∧ Q es gs) ↔ Q ds fs := by
  constructor
  · rintro ⟨es, gs, h, q⟩; cases h; exact q
  · exact fun h => ⟨_, _, rfl, h⟩
theorem qTf {Q : Int → Prop} : (∃ i, [D.int n] = [D.int i] ∧ Q i) ↔ Q n := by
  constructor
  · rintro ⟨es, h, q⟩; cases h; exact q
  · exact fun h => ⟨_, rfl, h⟩
theorem qSz {m : Int} {Q : Int → Int → Prop} : (∃ i j, [D.int n, D.int m] = [D.int i, D.int j] ∧ Q i j) ↔ Q n m := by
  constructor
  · rintro ⟨es, gs, h, q⟩; cases h; exact q
  · exact fun h => ⟨_, _, rfl, h⟩
theorem qY2 {Q : List D → Prop} : (∃ d ds, [a] = [d] ∧ itD d = some ds ∧ Q ds) ↔ ∃ ds, itD a = some ds ∧ Q ds := by
  constructor
  · rintro ⟨d, ds, h, q⟩; cases h; exact ⟨ds, q⟩
  · exact fun ⟨ds, h⟩ => ⟨_, ds, rfl, h⟩
theorem qJ0 {ds : List D} {P : D → Prop} {X : XP} : qJ5 [.lst ds] P X ↔ P (.int (ds.length : Nat)) := Iff.rfl
theorem qJ7 {ds : List D} {P : D → Prop} {X : XP} : qJ5 [.tup ds] P X ↔ P (.int (ds.length : Nat)) := Iff.rfl
theorem qNv {ds : List D} : truD (.lst ds) = some !ds.isEmpty := rfl
theorem qN1 {ds : List D} : truD (.tup ds) = some !ds.isEmpty := rfl
theorem qOt : truD (.int n) = some (n != 0) := rfl
theorem qUa {b : Bool} : truD (.bl b) = some b := rfl
theorem qOq : truD .non = some false := rfl
theorem qUe {ds : List D} : itD (.lst ds) = some ds := rfl
theorem qUb {ds : List D} : itD (.tup ds) = some ds := rfl
theorem itEx {ds : List D} {Q : List D → Prop} (h : itD a = some ds) : (∃ es, itD a = some es ∧ Q es) ↔ Q ds := by
  constructor
  · rintro ⟨es, h2, q⟩
    rw [h] at h2; cases h2; exact q
  · exact fun q => ⟨_, h, q⟩
theorem qYs {ds : List D} {Q : List D → Int → Nat → Prop} : (∃ es m l, D.lst ds = D.lst es ∧ D.int n = D.int m ∧ ixN es.length m = some l ∧ Q es m l) ↔ ∃ l, ixN ds.length n = some l ∧ Q ds n l := by
  constructor
  · rintro ⟨es, m, l, h1, h2, h3, q⟩; cases h1; cases h2; exact ⟨l, h3, q⟩
  · exact fun ⟨l, h, q⟩ => ⟨_, _, l, rfl, rfl, h, q⟩
end
end MR

local macro_rules | `(tactic| simp_arith [$ls,*]) => `(tactic| simp only [MR.qB7, MR.qF1, MR.fB, MR.qRf, MR.qAe, MR.fC, MR.fOp, MR.fUn, MR.fLs, MR.qEi, MR.qXz, MR.qNa, MR.qAj, MR.qAc, MR.qAn, MR.qCg, MR.fNev, MR.qE1, MR.qDr, MR.fOwn, MR.qX2, MR.fAsg, MR.fPar, MR.qJi, MR.fAnd, MR.fOr, MR.qSi, MR.fOrV, MR.qUn, MR.fIf, MR.qXs, MR.qFx, MR.fTup, MR.qR5, MR.qMq, MR.qA1, MR.qLp, MR.qFc, MR.fBr, MR.fBor, MR.fApp, MR.qLf, MR.fAug, MR.qUf, MR.qI4, MR.fSl, MR.qI2, MR.qUr, MR.qVh, MR.fItT, MR.fIt, MR.qUv, MR.fBrk, MR.fCnt, MR.qHq, MR.qBu, MR.toB, MR.oI, MR.oI0, MR.qXu, MR.oAbs, MR.oMax, MR.oMin, MR.oInt, MR.qJ0, MR.qJ7, MR.qNk, MR.qMu, MR.oCat, MR.oIsB, MR.qZa, MR.oEq, MR.oNe, MR.eqD, MR.oIsN, MR.qYv, MR.isN, MR.qTw, MR.qS2, MR.qT9, MR.qTm, MR.qTa, MR.qT3, MR.qYq, MR.qY6, MR.qZc, MR.qNv, MR.qN1, MR.qOt, MR.qUa, MR.qOq, MR.qY9, MR.qZs, MR.qY5, MR.qX5, MR.qYg, MR.qYa, MR.qZm, MR.qT5, MR.qT2, MR.qTf, MR.qSz, MR.qY2, MR.qYs, MR.qUe, MR.qUb, MR.qB6, MR.oIxT, MR.InsD, List.map_cons, List.map_nil, List.cons_append, List.nil_append, List.length_cons, List.length_nil, List.getElem?_cons_zero, List.getElem?_cons_succ, List.set_cons_zero, List.set_cons_succ, List.replicate_succ, List.replicate_zero, Option.some.injEq, exists_eq_left', MR.qKa, MR.qIb, if_true, if_false, List.append_nil, true_and, and_true, true_or, or_true, Bool.false_eq_true, Bool.true_eq_false, reduceCtorEq, Nat.add_one_sub_one, Nat.reduceSub, Nat.reduceAdd, Nat.sub_self, Nat.zero_add, Nat.add_sub_cancel, $ls,*])
set_option Elab.async false
set_option linter.all false
set_option maxRecDepth 100000
set_option maxHeartbeats 4000000
set_option exponentiation.threshold 20000
/-! FR: Ratio, without a heap -/
namespace MR
open PySem PySem.Spec PyProof.Rows L2
def qU8 : FSp := fun ds P X => ∃ a b : Int, ds = [.int a, .int b] ∧ b ≠ 0 ∧ Sml b ∧ P (.rat (Rat.divInt a b))
theorem qMc {K : PySem.W.Frag} : MkL K (CR K) (qCe K) qU8 := qSc
def intD (cs : List Str) (d : D) : Option Bool := match isD cs (.ty "int") d with
  | some true => (isD cs (.ty "bool") d).map fun b => !b
  | some false => some false
  | none => none
def qDa (cs : List Str) : FSp := fun ds P _ => ∃ d b, ds = [d] ∧ intD cs d = some b ∧ P (.bl b)
theorem qAcs {K : PySem.W.Frag} {cs : List Str} {F : Fd} {M : Addr → Prop} {H : Hp} {d : D} {v : V} {b : Bool} (T : KT K cs) (r : Rep K F M H d v) (h : intD cs d = some b) : IntQ K H v b := by
  unfold intD at h
  cases h1 : isD cs (.ty "int") d with
  | none => rw [h1] at h; cases h
  | some b1 =>
    rw [h1] at h
    cases b1 with
    | false =>
      cases h
      obtain ⟨t, ty, k⟩ := qAaj T r h1
      exact ⟨t, false, ty, k, fun _ => rfl, fun z => by cases z⟩
    | true =>
      cases h2 : isD cs (.ty "bool") d with
      | none => rw [h2] at h; cases h
      | some b2 =>
        rw [h2] at h
        have hb : (!b2) = b := Option.some.inj h
        subst hb
        obtain ⟨t, ty, k1, k2⟩ := qWf T r h1 h2
        exact ⟨t, true, ty, k1, (fun z => by cases z), fun _ => ⟨b2, k2, rfl⟩⟩
theorem qGw {K : PySem.W.Frag} {cs : List Str} (T : KT K cs) : Lift K (qEy K) (qDa cs) := by
  intro vs H Q E h
  obtain ⟨F, M, ds, P, X, lv, r, ⟨d, b, rfl, hb, p⟩, q, x⟩ := h
  obtain ⟨v, rfl, rv⟩ := qNu r
  exact ⟨v, b, rfl, qAcs T rv hb, q _ _ _ p .refl rfl⟩
def qPv (a b : Rat) : Prop := ∃ n m, Sz n a ∧ Sz m b ∧ n + m ≤ 900000
def fR2 (f : Rat → Rat → Rat) : FSp := fun ds P _ => match ds with
  | [.rat a, .rat b] => qPv a b ∧ P (.rat (f a b))
  | [.rat a, .int n] => qPv a n ∧ P (.rat (f a n))
  | _ => False
/-- is it a number? -/
def qVg (cs : List Str) (d : D) : Option Bool := match isD cs (.own "Ratio") d with
  | some true => some true
  | some false => intD cs d
  | none => none
def qG2 (cs : List Str) : FSp := fun ds P _ => ∃ d b, ds = [d] ∧ qVg cs d = some b ∧ P (.bl b)
def qFw (cs : List Str) : FSp := fun ds P X => ∃ d w b, ds = [d, .str w] ∧ qVg cs d = some b ∧ (b = false → X ⟨"NoNumber", [("word", .str w)]⟩) ∧ (b = true → match d with
  | .rat q => P (.rat q)
  | .int n => P (.rat (n : Rat))
  | _ => False)
def qKj : FSp := fun ds P X => match ds with
  | [.rat a, .rat b] => qPv a b ∧ (b = 0 → X ⟨"NoRatio", [("word", .str "zero")]⟩) ∧ (b ≠ 0 → P (.rat (a / b)))
  | [.rat a, .int n] => qPv a n ∧ (n = 0 → X ⟨"NoRatio", [("word", .str "zero")]⟩) ∧ (n ≠ 0 → P (.rat (a / n)))
  | _ => False
def qGj (K : PySem.W.Frag) (cs : List Str) : TS :=
  (tSeq (tIfS (tB (tCB (rIsi K) (tCons (tVar 1) (tCons (tC (.ref (He.ga K "Ratio"))) tNil)))) (tRet (tMake (He.ga K "Ratio") (qCe K) [] E0 (tCons (tOp qF4 (tOp qDv (tFld K (tVar 0) "top") (tFld K (tVar 1) "bottom")) (tOp qDv (tFld K (tVar 1) "top") (tFld K (tVar 0) "bottom"))) (tCons (tOp qDv (tFld K (tVar 0) "bottom") (tFld K (tVar 1) "bottom")) tNil)))) tNext)
  (tSeq (tIfS (tB (tCall (qEy K) [] E0 (tCons (tVar 1) tNil))) (tRet (tMake (He.ga K "Ratio") (qCe K) [] E0 (tCons (tOp qF4 (tFld K (tVar 0) "top") (tOp qDv (tVar 1) (tFld K (tVar 0) "bottom"))) (tCons (tFld K (tVar 0) "bottom") tNil)))) tNext)
  tNever))
def qFq (cs : List Str) : FS :=
  (qB7 (qF1 (fB (qRf cs (.own "Ratio") (qAe 1))) (qEi (qAj qU8 [] (qAc (fOp qOx (fOp qNe (qE1 "Ratio" "top" (qAe 0)) (qE1 "Ratio" "bottom" (qAe 1))) (fOp qNe (qE1 "Ratio" "top" (qAe 1)) (qE1 "Ratio" "bottom" (qAe 0)))) (qAc (fOp qNe (qE1 "Ratio" "bottom" (qAe 0)) (qE1 "Ratio" "bottom" (qAe 1))) qAn)))) qCg)
  (qB7 (qF1 (fB (qAj (qDa cs) [] (qAc (qAe 1) qAn))) (qEi (qAj qU8 [] (qAc (fOp qOx (qE1 "Ratio" "top" (qAe 0)) (fOp qNe (qAe 1) (qE1 "Ratio" "bottom" (qAe 0)))) (qAc (qE1 "Ratio" "bottom" (qAe 0)) qAn)))) qCg)
  fNev))
theorem qR0 {K : PySem.W.Frag} {cs : List Str} (T : KF K cs) (hRatio : ("Ratio" : Str) ∈ cs) : SS K Ta [] [] [] [] (fun _ => E0) (qGj K cs) (qFq cs) :=
  (qAm (ow1 := []) (qDd (by decide) (qJ2 (qG5 (c := (.own "Ratio")) T.toKT (qAb (by decide)))) (qA5 (by decide) (qDj qMc qAh (qAa (qAl (fun _ => qEm) (qAl (fun _ => qDb) (qBh (T.fld _ hRatio _ (by decide)) (qAb (by decide))) (qBh (T.fld _ hRatio _ (by decide)) (qAb (by decide)))) (qAl (fun _ => qDb) (qBh (T.fld _ hRatio _ (by decide)) (qAb (by decide))) (qBh (T.fld _ hRatio _ (by decide)) (qAb (by decide))))) (qAa (qAl (fun _ => qDb) (qBh (T.fld _ hRatio _ (by decide)) (qAb (by decide))) (qBh (T.fld _ hRatio _ (by decide)) (qAb (by decide)))) qAd)))) (qA6 (by decide)))
  (qAm (ow1 := []) (qDd (by decide) (qJ2 (qAg (qGw T.toKT) qAh (qAa (qAb (by decide)) qAd))) (qA5 (by decide) (qDj qMc qAh (qAa (qAl (fun _ => qEm) (qBh (T.fld _ hRatio _ (by decide)) (qAb (by decide))) (qAl (fun _ => qDb) (qAb (by decide)) (qBh (T.fld _ hRatio _ (by decide)) (qAb (by decide))))) (qAa (qBh (T.fld _ hRatio _ (by decide)) (qAb (by decide))) qAd)))) (qA6 (by decide)))
  qAar))
def qF8 (K : PySem.W.Frag) (cs : List Str) : TS :=
  (tSeq (tIfS (tB (tCB (rIsi K) (tCons (tVar 1) (tCons (tC (.ref (He.ga K "Ratio"))) tNil)))) (tRet (tMake (He.ga K "Ratio") (qCe K) [] E0 (tCons (tOp qDv (tFld K (tVar 0) "top") (tFld K (tVar 1) "top")) (tCons (tOp qDv (tFld K (tVar 0) "bottom") (tFld K (tVar 1) "bottom")) tNil)))) tNext)
  (tSeq (tIfS (tB (tCall (qEy K) [] E0 (tCons (tVar 1) tNil))) (tRet (tMake (He.ga K "Ratio") (qCe K) [] E0 (tCons (tOp qDv (tFld K (tVar 0) "top") (tVar 1)) (tCons (tFld K (tVar 0) "bottom") tNil)))) tNext)
  tNever))
def qFa (cs : List Str) : FS :=
  (qB7 (qF1 (fB (qRf cs (.own "Ratio") (qAe 1))) (qEi (qAj qU8 [] (qAc (fOp qNe (qE1 "Ratio" "top" (qAe 0)) (qE1 "Ratio" "top" (qAe 1))) (qAc (fOp qNe (qE1 "Ratio" "bottom" (qAe 0)) (qE1 "Ratio" "bottom" (qAe 1))) qAn)))) qCg)
  (qB7 (qF1 (fB (qAj (qDa cs) [] (qAc (qAe 1) qAn))) (qEi (qAj qU8 [] (qAc (fOp qNe (qE1 "Ratio" "top" (qAe 0)) (qAe 1)) (qAc (qE1 "Ratio" "bottom" (qAe 0)) qAn)))) qCg)
  fNev))
theorem qRa {K : PySem.W.Frag} {cs : List Str} (T : KF K cs) (hRatio : ("Ratio" : Str) ∈ cs) : SS K Ta [] [] [] [] (fun _ => E0) (qF8 K cs) (qFa cs) :=
  (qAm (ow1 := []) (qDd (by decide) (qJ2 (qG5 (c := (.own "Ratio")) T.toKT (qAb (by decide)))) (qA5 (by decide) (qDj qMc qAh (qAa (qAl (fun _ => qDb) (qBh (T.fld _ hRatio _ (by decide)) (qAb (by decide))) (qBh (T.fld _ hRatio _ (by decide)) (qAb (by decide)))) (qAa (qAl (fun _ => qDb) (qBh (T.fld _ hRatio _ (by decide)) (qAb (by decide))) (qBh (T.fld _ hRatio _ (by decide)) (qAb (by decide)))) qAd)))) (qA6 (by decide)))
  (qAm (ow1 := []) (qDd (by decide) (qJ2 (qAg (qGw T.toKT) qAh (qAa (qAb (by decide)) qAd))) (qA5 (by decide) (qDj qMc qAh (qAa (qAl (fun _ => qDb) (qBh (T.fld _ hRatio _ (by decide)) (qAb (by decide))) (qAb (by decide))) (qAa (qBh (T.fld _ hRatio _ (by decide)) (qAb (by decide))) qAd)))) (qA6 (by decide)))
  qAar))
def qF7 (K : PySem.W.Frag) (cs : List Str) : TS :=
  (tRet (tOrV (tCB (rIsi K) (tCons (tVar 0) (tCons (tC (.ref (He.ga K "Ratio"))) tNil))) (tCall (qEy K) [] E0 (tCons (tVar 0) tNil))))
def qHo (cs : List Str) : FS :=
  (qEi (fOrV (qRf cs (.own "Ratio") (qAe 0)) (qAj (qDa cs) [] (qAc (qAe 0) qAn))))
theorem qSj {K : PySem.W.Frag} {cs : List Str} (T : KF K cs) (hRatio : ("Ratio" : Str) ∈ cs) : SS K Ta [] [] [] [] (fun _ => E0) (qF7 K cs) (qHo cs) :=
  (qA5 (by decide) (qAd1 (qG5 (c := (.own "Ratio")) T.toKT (qAb (by decide))) (qAg (qGw T.toKT) qAh (qAa (qAb (by decide)) qAd))))
def qFl (K : PySem.W.Frag) (cs : List Str) (E : XK) : TS :=
  (tSeq (tIfS (tB (tCB (rIsi K) (tCons (tVar 0) (tCons (tC (.ref (He.ga K "Ratio"))) tNil)))) (tRet (tVar 0)) tNext)
  (tSeq (tIfS (tB (tCall (qEy K) [] E0 (tCons (tVar 0) tNil))) (tRet (tMake (He.ga K "Ratio") (qCe K) [.int 1] E (tCons (tVar 0) tNil))) tNext)
  (qHp (He.ga K "NoNumber") "word" (fun cls d _ H => E cls d H) (tCons (tVar 1) tNil))))
def qIs (cs : List Str) : FS :=
  (qB7 (qF1 (fB (qRf cs (.own "Ratio") (qAe 0))) (qEi (qAe 0)) qCg)
  (qB7 (qF1 (fB (qAj (qDa cs) [] (qAc (qAe 0) qAn))) (qEi (qNa qU8 [.int 1] (qAc (qAe 0) qAn))) qCg)
  (qLp "NoNumber" "word" (qAe 1))))
theorem qVb {K : PySem.W.Frag} {cs : List Str} (T : KF K cs) (hRatio : ("Ratio" : Str) ∈ cs) (E : XK) : SS K Ta [] [] [] [] (fun _ => E) (qFl K cs E) (qIs cs) :=
  (qAm (ow1 := []) (qDd (by decide) (qJ2 (qG5 (c := (.own "Ratio")) T.toKT (qAb (by decide)))) (qA5 (by decide) (qAb (by decide))) (qA6 (by decide)))
  (qAm (ow1 := []) (qDd (by decide) (qJ2 (qAg (qGw T.toKT) qAh (qAa (qAb (by decide)) qAd))) (qA5 (by decide) (qNd qMc (qNx qAh) (qAa (qAb (by decide)) qAd))) (qA6 (by decide)))
  (qTg (by decide) (qAb (by decide)))))
def qDz (K : PySem.W.Frag) (cs : List Str) (E : XK) : TS :=
  (tSeq (tAsg (tIf (tB (tCB (rIsi K) (tCons (tVar 1) (tCons (tC (.ref (He.ga K "Ratio"))) tNil)))) (tVar 1) (tMake (He.ga K "Ratio") (qCe K) [.int 1] E (tCons (tVar 1) tNil))) (gName 2))
  (tSeq (tIfS (tTest (tOp rEq (tFld K (tVar 2) "top") (tC (.int 0)))) (qHp (He.ga K "NoRatio") "word" (fun cls d _ H => E cls d H) (tCons (tC (.str "zero")) tNil)) tNext)
  (tRet (tMake (He.ga K "Ratio") (qCe K) [] E (tCons (tOp qDv (tFld K (tVar 0) "top") (tFld K (tVar 2) "bottom")) (tCons (tOp qDv (tFld K (tVar 0) "bottom") (tFld K (tVar 2) "top")) tNil))))))
def qEo (cs : List Str) : FS :=
  (qB7 (qDr 2 (fIf (fB (qRf cs (.own "Ratio") (qAe 1))) (qAe 1) (qNa qU8 [.int 1] (qAc (qAe 1) qAn))))
  (qB7 (qF1 (fB (fOp oEq (qE1 "Ratio" "top" (qAe 2)) (fC (.int 0)))) (qLp "NoRatio" "word" (fC (.str "zero"))) qCg)
  (qEi (qNa qU8 [] (qAc (fOp qNe (qE1 "Ratio" "top" (qAe 0)) (qE1 "Ratio" "bottom" (qAe 2))) (qAc (fOp qNe (qE1 "Ratio" "bottom" (qAe 0)) (qE1 "Ratio" "top" (qAe 2))) qAn))))))
theorem qPt {K : PySem.W.Frag} {cs : List Str} (T : KF K cs) (hRatio : ("Ratio" : Str) ∈ cs) (E : XK) : SS K Ta [] [] [] [] (fun _ => E) (qDz K cs E) (qEo cs) :=
  (qAm (ow1 := []) (qBi (by decide) (by decide) (qAe5 (qJ2 (qG5 (c := (.own "Ratio")) T.toKT (qAb (by decide)))) (qAb (by decide)) (qNd qMc (qNx qAh) (qAa (qAb (by decide)) qAd))))
  (qAm (ow1 := []) (qDd (by decide) (qCr (qAl (fun _ => qLd) (qBh (T.fld _ hRatio _ (by decide)) (qAb (by decide))) qAi)) (qTg (by decide) qZw) (qA6 (by decide)))
  (qA5 (by decide) (qNd qMc qAh (qAa (qAl (fun _ => qDb) (qBh (T.fld _ hRatio _ (by decide)) (qAb (by decide))) (qBh (T.fld _ hRatio _ (by decide)) (qAb (by decide)))) (qAa (qAl (fun _ => qDb) (qBh (T.fld _ hRatio _ (by decide)) (qAb (by decide))) (qBh (T.fld _ hRatio _ (by decide)) (qAb (by decide)))) qAd))))))
theorem qE8 {cs : List Str} (h : ("Ratio" : Str) ∈ cs) (q : Rat) : isD cs (.own "Ratio") (.rat q) = some true := by
  simp only [isD, tyN, qM3, if_pos h, decide_true]
theorem qGg {cs : List Str} (h : ("Ratio" : Str) ∈ cs) (i : Int) : isD cs (.own "Ratio") (.int i) = some false := by
  simp only [isD, tyN, if_pos h]
theorem qUd (cs : List Str) (i : Int) : intD cs (.int i) = some true := rfl
theorem qCu {cs : List Str} {i : Int} {P : D → Prop} {X : XP} : qDa cs [.int i] P X ↔ P (.bl true) := by
  constructor
  · rintro ⟨d, b, h, hb, p⟩
    cases h
    rw [qUd] at hb
    cases hb
    exact p
  · exact fun p => ⟨_, _, rfl, qUd cs i, p⟩
theorem qGe (q : Rat) : qTr "top" (.rat q) = some (.int q.num) := by simp [qTr]
theorem qHm (q : Rat) : qTr "bottom" (.rat q) = some (.int (q.den : Nat)) := by
  have h : ¬ (("bottom" : Str) = "top") := qAew
  simp only [qTr, if_neg h, if_true]
theorem mk_R {a b : Int} {P : D → Prop} {X : XP} : qU8 [.int a, .int b] P X ↔ (b ≠ 0 ∧ Sml b ∧ P (.rat (Rat.divInt a b))) := by
  constructor
  · rintro ⟨a', b', h, h1, h2, h3⟩
    cases h
    exact ⟨h1, h2, h3⟩
  · exact fun ⟨h1, h2, h3⟩ => ⟨a, b, rfl, h1, h2, h3⟩
theorem szI {m : Nat} {k : Int} (h : Sz m (k : Rat)) : k.natAbs < 2 ^ m := h.num
theorem dsz {n : Nat} {a : Rat} (h : Sz n a) : ((a.den : Nat) : Int).natAbs < 2 ^ n := by rw [Int.natAbs_natCast]; exact h.den
theorem qAd4 (a b : Rat) : ((a.den : Nat) : Int) * ((b.den : Nat) : Int) ≠ 0 := Int.ne_of_gt (Int.mul_pos (qHd a) (qHd b))
theorem d_ne (a : Rat) : ((a.den : Nat) : Int) ≠ 0 := Int.ne_of_gt (qHd a)
theorem qAeh {n m : Nat} {a b : Rat} (h1 : Sz n a) (h2 : Sz m b) (hs : n + m ≤ 900000) : Sml (((a.den : Nat) : Int) * ((b.den : Nat) : Int)) := trivial
theorem d_sz {n m : Nat} {a : Rat} (h1 : Sz n a) (hs : n + m ≤ 900000) : Sml ((a.den : Nat) : Int) := trivial
theorem mok {i j : Int} {n m : Nat} {a b : Rat} (h1 : Sz n a) (h2 : Sz m b) (hs : n + m ≤ 900000) (hi : i.natAbs < 2 ^ n) (hj : j.natAbs < 2 ^ m) : IntMulOk i j := qUh hi hj h1.pos h2.pos (by omega)
theorem qRq {cs : List Str} (hR : ("Ratio" : Str) ∈ cs) (ds : List D) (P : D → Prop) (X : XP) (h : fR2 (fun a b => a - b) ds P X) : qFq cs (qHq P X0) (qBu 2 ds) := by
  match ds, h with
  | [.rat a, .rat b], ⟨⟨n, m, ha, hb, hs⟩, p⟩ =>
    simp_arith [qFq, qE8 hR, qGg hR, qCu, qGe, qHm, mk_R]
    exact ⟨mok ha hb hs ha.num (dsz hb), mok hb ha (by omega) hb.num (dsz ha), mok ha hb hs (dsz ha) (dsz hb), qAd4 a b, qAeh ha hb hs, by rw [qAe3]; exact p⟩
  | [.rat a, .int k], ⟨⟨n, m, ha, hb, hs⟩, p⟩ =>
    simp_arith [qFq, qE8 hR, qGg hR, qCu, qGe, qHm, mk_R]
    exact ⟨mok hb ha (by omega) (szI hb) (dsz ha), d_ne a, d_sz ha hs, by rw [qAb4]; exact p⟩
theorem qQ9 {cs : List Str} (hR : ("Ratio" : Str) ∈ cs) (ds : List D) (P : D → Prop) (X : XP) (h : fR2 (fun a b => a * b) ds P X) : qFa cs (qHq P X0) (qBu 2 ds) := by
  match ds, h with
  | [.rat a, .rat b], ⟨⟨n, m, ha, hb, hs⟩, p⟩ =>
    simp_arith [qFa, qE8 hR, qGg hR, qCu, qGe, qHm, mk_R]
    exact ⟨mok ha hb hs ha.num hb.num, mok ha hb hs (dsz ha) (dsz hb), qAd4 a b, qAeh ha hb hs, by rw [qAaa]; exact p⟩
  | [.rat a, .int k], ⟨⟨n, m, ha, hb, hs⟩, p⟩ =>
    simp_arith [qFa, qE8 hR, qGg hR, qCu, qGe, qHm, mk_R]
    exact ⟨mok ha hb hs ha.num (szI hb), d_ne a, d_sz ha hs, by rw [qAcq]; exact p⟩
theorem qQ7 {cs : List Str} (hR : ("Ratio" : Str) ∈ cs) (ds : List D) (P : D → Prop) (X : XP) (h : qG2 cs ds P X) : qHo cs (qHq P X0) (qBu 1 ds) := by
  obtain ⟨d, b, rfl, hb, p⟩ := h
  simp_arith [qHo]
  unfold qVg at hb
  cases h1 : isD cs (.own "Ratio") d with
  | none => rw [h1] at hb; cases hb
  | some k =>
    rw [h1] at hb
    refine ⟨k, rfl, ?_⟩
    cases k with
    | true => cases hb; exact p
    | false => exact ⟨d, b, rfl, hb, p⟩
theorem qTt (n : Int) : ((n : Int) : Rat) = Rat.divInt n 1 := by
  rw [Rat.divInt_eq_div]
  show (n : Rat) = (n : Rat) / 1
  grind
theorem qWk {n : Int} {P : D → Prop} {X : XP} : qU8 [.int n, .int 1] P X ↔ P (.rat (n : Rat)) := by
  rw [mk_R, ← qTt]
  constructor
  · exact fun h => h.2.2
  · exact fun h => ⟨by decide, by decide, h⟩
theorem qUo {cs : List Str} (hR : ("Ratio" : Str) ∈ cs) (ds : List D) (P : D → Prop) (X : XP) (h : qFw cs ds P X) : qIs cs (qHq P X) (qBu 2 ds) := by
  obtain ⟨d, w, b, rfl, hb, h0, h1⟩ := h
  simp_arith [qIs]
  unfold qVg at hb
  cases hk : isD cs (.own "Ratio") d with
  | none => rw [hk] at hb; cases hb
  | some k =>
    rw [hk] at hb
    refine ⟨k, rfl, ?_⟩
    cases k with
    | true =>
      cases hb
      have h1 := h1 rfl
      cases d with
      | rat q => exact h1
      | int n => rw [qGg hR] at hk; cases hk
      | _ => exact h1.elim
    | false =>
      refine ⟨d, b, rfl, hb, ?_⟩
      cases b with
      | false => exact h0 rfl
      | true =>
        have h1 := h1 rfl
        cases d with
        | rat q => rw [qE8 hR] at hk; cases hk
        | int n => exact (qWk (X := X)).mpr h1
        | _ => exact h1.elim
theorem qAbg {a b : Rat} (hb : b ≠ 0) : Rat.divInt (a.num * b.den) (a.den * b.num) = a / b := by
  have h1 := qG0 a
  have h2 := qG0 b
  have h3 : ((b.num : Int) : Rat) ≠ 0 := fun h => hb (by rw [← qD4 b, h, Rat.div_def, Rat.zero_mul])
  have e1 := qD4 a
  have e2 := qD4 b
  rw [Rat.divInt_eq_div, Rat.intCast_mul, Rat.intCast_mul]
  grind
theorem qWu {a b : Rat} {n m : Nat} {P : D → Prop} {X : XP} {cs : List Str} (ha : Sz n a) (hb : Sz m b) (hs : n + m ≤ 900000) (h0 : b = 0 → X ⟨"NoRatio", [("word", .str "zero")]⟩) (h1 : b ≠ 0 → P (.rat (a / b))) :
    if decide (b.num = 0) = true then X ⟨"NoRatio", [("word", .str "zero")]⟩ else IntMulOk a.num ((b.den : Nat) : Int) ∧ IntMulOk ((a.den : Nat) : Int) b.num ∧ ((a.den : Nat) : Int) * b.num ≠ 0 ∧ Sml (((a.den : Nat) : Int) * b.num) ∧ P (.rat (Rat.divInt (a.num * (b.den : Nat)) ((a.den : Nat) * b.num))) := by
  by_cases h : b.num = 0
  · rw [if_pos (decide_eq_true h)]
    exact h0 (Rat.num_eq_zero.mp h)
  · rw [if_neg (fun z => h (of_decide_eq_true z))]
    have nb : b ≠ 0 := fun z => h (by rw [z]; rfl)
    refine ⟨mok ha hb hs ha.num (dsz hb), mok ha hb hs (dsz ha) hb.num, Int.mul_ne_zero (d_ne a) h, ?_, by rw [qAbg nb]; exact h1 nb⟩
    trivial
theorem qO1 {cs : List Str} (hR : ("Ratio" : Str) ∈ cs) (ds : List D) (P : D → Prop) (X : XP) (h : qKj ds P X) : qEo cs (qHq P X) (qBu 3 ds) := by
  match ds, h with
  | [.rat a, .rat b], ⟨⟨n, m, ha, hb, hs⟩, p0, p1⟩ =>
    simp_arith [qEo, qE8 hR, qGg hR, qCu, qGe, qHm, mk_R]
    exact qWu (cs := cs) ha hb hs p0 p1
  | [.rat a, .int k], ⟨⟨n, m, ha, hb, hs⟩, p0, p1⟩ =>
    simp_arith [qEo, qE8 hR, qGg hR, qCu, qGe, qHm, mk_R]
    refine ⟨by decide, by decide, ?_⟩
    rw [← qTt]
    exact qWu (cs := cs) ha hb hs (fun h => p0 (by
      have := (Rat.intCast_inj (a := k) (b := 0)).mp h
      exact this)) (fun h => p1 fun z => h (by rw [z]; rfl))
theorem qM8 {K : PySem.W.Frag} {cs : List Str} (vs : List V) (H : Hp) (Q : VK) (E : XK) (h : (lift K (fR2 fun a b => a - b)) vs H Q E) : vs.length = 2 := qBd (fun ds P X h => by unfold fR2 at h; first | ((repeat (first | (obtain ⟨rfl, _⟩ := h; exact rfl) | obtain ⟨_, h⟩ := h)); done) | (split at h <;> first | rfl | exact h.elim)) h
theorem qQi {K : PySem.W.Frag} {cs : List Str} (T : KF K cs) (hRatio : ("Ratio" : Str) ∈ cs) (vs : List V) (H : Hp) (Q : VK) (E : XK) (h : (lift K (fR2 fun a b => a - b)) vs H Q E) : qGj K cs { nx := fun _ H' => Q .non H', rt := Q } (start ["self", "other"] vs) H :=
  qDo rfl (qR0 T hRatio) (qRq hRatio) vs H Q E h
theorem qNc {K : PySem.W.Frag} {cs : List Str} (vs : List V) (H : Hp) (Q : VK) (E : XK) (h : (lift K (fR2 fun a b => a * b)) vs H Q E) : vs.length = 2 := qBd (fun ds P X h => by unfold fR2 at h; first | ((repeat (first | (obtain ⟨rfl, _⟩ := h; exact rfl) | obtain ⟨_, h⟩ := h)); done) | (split at h <;> first | rfl | exact h.elim)) h
theorem qQq {K : PySem.W.Frag} {cs : List Str} (T : KF K cs) (hRatio : ("Ratio" : Str) ∈ cs) (vs : List V) (H : Hp) (Q : VK) (E : XK) (h : (lift K (fR2 fun a b => a * b)) vs H Q E) : qF8 K cs { nx := fun _ H' => Q .non H', rt := Q } (start ["self", "other"] vs) H :=
  qDo rfl (qRa T hRatio) (qQ9 hRatio) vs H Q E h
theorem qNj {K : PySem.W.Frag} {cs : List Str} (vs : List V) (H : Hp) (Q : VK) (E : XK) (h : (lift K (qG2 cs)) vs H Q E) : vs.length = 1 := qBd (fun ds P X h => by unfold qG2 at h; first | ((repeat (first | (obtain ⟨rfl, _⟩ := h; exact rfl) | obtain ⟨_, h⟩ := h)); done) | (split at h <;> first | rfl | exact h.elim)) h
theorem qQa {K : PySem.W.Frag} {cs : List Str} (T : KF K cs) (hRatio : ("Ratio" : Str) ∈ cs) (vs : List V) (H : Hp) (Q : VK) (E : XK) (h : (lift K (qG2 cs)) vs H Q E) : qF7 K cs { nx := fun _ H' => Q .non H', rt := Q } (start ["value"] vs) H :=
  qDo rfl (qSj T hRatio) (qQ7 hRatio) vs H Q E h
theorem qPj {K : PySem.W.Frag} {cs : List Str} (vs : List V) (H : Hp) (Q : VK) (E : XK) (h : (lift K (qFw cs)) vs H Q E) : vs.length = 2 := qBd (fun ds P X h => by unfold qFw at h; first | ((repeat (first | (obtain ⟨rfl, _⟩ := h; exact rfl) | obtain ⟨_, h⟩ := h)); done) | (split at h <;> first | rfl | exact h.elim)) h
theorem qR7 {K : PySem.W.Frag} {cs : List Str} (T : KF K cs) (hRatio : ("Ratio" : Str) ∈ cs) (vs : List V) (H : Hp) (Q : VK) (E : XK) (h : (lift K (qFw cs)) vs H Q E) : qFl K cs E { nx := fun _ H' => Q .non H', rt := Q } (start ["value", "word"] vs) H :=
  qAcm (t := fun E => qFl K cs E) rfl (qVb T hRatio) (qUo hRatio) vs H Q E h
theorem qMh {K : PySem.W.Frag} {cs : List Str} (vs : List V) (H : Hp) (Q : VK) (E : XK) (h : (lift K qKj) vs H Q E) : vs.length = 2 := qBd (fun ds P X h => by unfold qKj at h; first | ((repeat (first | (obtain ⟨rfl, _⟩ := h; exact rfl) | obtain ⟨_, h⟩ := h)); done) | (split at h <;> first | rfl | exact h.elim)) h
theorem qM9 {K : PySem.W.Frag} {cs : List Str} (T : KF K cs) (hRatio : ("Ratio" : Str) ∈ cs) (vs : List V) (H : Hp) (Q : VK) (E : XK) (h : (lift K qKj) vs H Q E) : qDz K cs E { nx := fun _ H' => Q .non H', rt := Q } (start ["self", "other", "divisor"] vs) H :=
  qAcm (t := fun E => qDz K cs E) rfl (qPt T hRatio) (qO1 hRatio) vs H Q E h
end MR

set_option Elab.async false
set_option linter.all false
set_option maxRecDepth 100000
set_option maxHeartbeats 4000000
set_option exponentiation.threshold 20000
/-! FP: Poly, without a heap -/
namespace MR
open PySem PySem.Spec PyProof.Rows L2
theorem qHy {d : D} {ds : List D} (h : itD d = some ds) : d = .lst ds ∨ d = .tup ds := by
  cases d <;> first | (cases h; done) | skip
  · exact .inl (by cases h; rfl)
  · exact .inr (by cases h; rfl)
theorem qD9 {d : D} {ds : List D} {e : D} {k : Nat} {P : D → Prop} {X : XP} (h : itD d = some ds) (hk : ds[k]? = some e) (p : P e) : oIx d (.int (k : Nat)) P X := by
  rcases qHy h with rfl | rfl
  · exact ⟨ds, _, e, .inl rfl, rfl, atI_nat hk, p⟩
  · exact ⟨ds, _, e, .inr rfl, rfl, atI_nat hk, p⟩
def qCl (cs : List Rat) : List D := cs.map D.rat
theorem qDx (cs : List Rat) : (qCl cs).length = cs.length := List.length_map ..
theorem qGv {cs : List Rat} {k : Nat} (h : k < cs.length) : (qCl cs)[k]? = some (.rat (coef cs k)) := by
  unfold qCl
  rw [List.getElem?_map, qLl h]
  rfl
theorem qCp (lo : Int) (n : Nat) : qIl lo (n + 1) = .int lo :: qIl (lo + 1) n := by
  unfold qIl
  rw [List.range_succ_eq_map, List.map_cons, List.map_map]
  congr 1
  · congr 1; omega
  · refine List.map_congr_left fun k _ => ?_
    show D.int (lo + ((k + 1 : Nat) : Int)) = D.int (lo + 1 + (k : Int))
    congr 1; omega
/-- the sizes of a row -/
def SzL (n : Nat) (cs : List Rat) : Prop := ∀ c, c ∈ cs → Sz n c
theorem qAb3 : Sz 1 (0 : Rat) := ⟨by decide, by decide⟩
theorem SzL.coef {n : Nat} {cs : List Rat} (h : SzL n cs) (hn : 0 < n) (k : Nat) : Sz n (coef cs k) := by
  by_cases hk : k < cs.length
  · exact h _ (List.mem_of_getElem? (qLl hk))
  · rw [qAr (by omega)]
    exact qAb3.mono hn
def qEf : FSp := fun ds P _ => ∃ cs, ds = [.lst (qCl cs)] ∧ P (.lst (qCl (strip cs)))
/-- sizes for a product of two rows, sum by sum -/
structure MulSz (cs es : List Rat) : Prop where
  prod : ∀ i j, i < cs.length → j < es.length → qPv (coef cs i) (coef es j)
  sum : ∀ i j, i < cs.length → j < es.length → qPv (conv (coef cs) (coef es) i (i + j)) (coef cs i * coef es j)
/-- the value by Horner -/
def horner (cs : List Rat) (x : Rat) : Rat := cs.foldr (fun c v => v * x + c) 0
def qZ1 : D → Option Rat
  | .rat q => some q
  | .int n => some (n : Rat)
  | _ => none
def qF0 : List D → Option (List Rat)
  | [] => some []
  | d :: ds => match qZ1 d, qF0 ds with
    | some q, some qs => some (q :: qs)
    | _, _ => none
theorem qKh {cs : List Str} (hR : ("Ratio" : Str) ∈ cs) {d : D} {q : Rat} (h : qZ1 d = some q) : qVg cs d = some true := by
  cases d <;> first | (cases h; done) | skip
  · unfold qVg; rw [qGg hR]; rfl
  · unfold qVg; rw [qE8 hR]
/-- Poly(..): numbers; or an item that is none, behind numbers; or neither a list nor a tuple -/
def qCc (cs : List Str) : FSp := fun ds P X => ∃ d, ds = [d] ∧ ((∃ items qs, itD d = some items ∧ items.length ≤ 100000 ∧ qF0 items = some qs ∧ P (.poly (strip qs))) ∨
  (∃ items pre b post, itD d = some items ∧ items.length ≤ 100000 ∧ items = pre ++ b :: post ∧ (∃ qs, qF0 pre = some qs) ∧ qVg cs b = some false ∧ X ⟨"NoPoly", []⟩) ∨
  (isD cs (.ty "list") d = some false ∧ isD cs (.ty "tuple") d = some false ∧ X ⟨"NoPoly", []⟩))
/-- the promise of an __init__ -/
def qLg (K : PySem.W.Frag) (C : Str) (fsp : FSp) : Sp := fun vs H Q E => ∃ (F : Fd) (M : Addr → Prop) (H1 : Hp) (ds : List D) (us : List V) (P : D → Prop) (X : XP) (x dx : Addr), vs = .ref x :: us ∧ H = upd (upd H1 dx (.own x)) x (.ins (He.ga K C) dx []) ∧ H1 x = none ∧ H1 dx = none ∧ dx ≠ x ∧
  Lv K F M H1 ∧ Reps K F M H1 ds us ∧ fsp ds P X ∧ (∀ d H', P d → Gr K F H1 H' → Rep K F M H' d (.ref x) → Q .non H') ∧ PostX K F H1 X E
theorem qJ8 {K : PySem.W.Frag} {C : Str} {fsp : FSp} : MkL K (He.ga K C) (qLg K C fsp) fsp := fun F M H ds vs P X Q E x dx lv r h q px n1 n2 ne =>
  ⟨F, M, H, ds, vs, P, X, x, dx, rfl, rfl, n1, n2, ne, lv, r, h, fun d H' hd g rd => ⟨rfl, q d _ H' hd g rd⟩, px⟩
def qDt (K : PySem.W.Frag) (cs : List Str) : TS :=
  (tSeq (tAsg (tCB (qDu K) (tCons (tVar 0) tNil)) (gName 1))
  (tSeq (tWhile (tAnd (tTest (tOp rGt0 (tVar 1) (tC (.int 0)))) (tTest (tOp rEq (tFld K (tOp (rIxL K) (tVar 0) (tOp qF4 (tVar 1) (tC (.int 1)))) "top") (tC (.int 0))))) (tAsg (tOp qF4 (tVar 1) (tC (.int 1))) (gName 1)))
  (tRet (tSl (rSlL K) (tVar 0) tNoPart (tPart (tVar 1))))))
def qD2 (cs : List Str) : FS :=
  (qB7 (qDr 1 (fLs qJ5 (qAc (qAe 0) qAn)))
  (qB7 (qMx (fAnd (fB (fOp oGt (qAe 1) (fC (.int 0)))) (fB (fOp oEq (qE1 "Ratio" "top" (fOp qB6 (qAe 0) (fOp qOx (qAe 1) (fC (.int 1))))) (fC (.int 0))))) (qDr 1 (fOp qOx (qAe 1) (fC (.int 1)))))
  (qEi (fSl (qAe 0) qI2 (qUr (qAe 1))))))
theorem qLc {K : PySem.W.Frag} {cs : List Str} (T : KF K cs) (hRatio : ("Ratio" : Str) ∈ cs) (hPoly : ("Poly" : Str) ∈ cs) : SS K Ta [] [] [] [] (fun _ => E0) (qDt K cs) (qD2 cs) :=
  (qAm (ow1 := []) (qBi (by decide) (by decide) (qE4 (fun _ => qDc) (qAa (qAb (by decide)) qAd)))
  (qAm (ow1 := []) (qTs (by decide) (qAah (qCr (qAl (fun _ => qAea) (qAb (by decide)) qAi)) (qCr (qAl (fun _ => qLd) (qBh (T.fld _ hRatio _ (by decide)) (qAl (fun _ => qAq) (qAb (by decide)) (qAl (fun _ => qEm) (qAb (by decide)) qAi))) qAi))) (qBi (by decide) (by decide) (qAl (fun _ => qEm) (qAb (by decide)) qAi)))
  (qA5 (by decide) (SF.se (qAfq (qAb (by decide)) qAb0 (qAaz (qAb (by decide))))))))
def qJt (K : PySem.W.Frag) (cs : List Str) (E : XK) : TS :=
  (tSeq (tIfS (tNot (tB (tCB (rIsiT K) (tCons (tVar 1) (tCons (tTup (tCons (tC (.ty "list")) (tCons (tC (.ty "tuple")) tNil))) tNil))))) (qHk (He.ga K "NoPoly") (fun cls d _ H => E cls d H)) tNext)
  (tSeq (tFor (iSeq K (tVar 1)) (gName 2) (tIfS (tNot (tB (tCall (lift K (qG2 cs)) [] E0 (tCons (tVar 2) tNil)))) (qHk (He.ga K "NoPoly") (fun cls d _ H => E cls d H)) tNext))
  (tAsg (tCall (lift K qEf) [] E0 (tCons (tLc (iSeq K (tVar 1)) (gName 2) tYes (tCall (lift K (qFw cs)) [] E0 (tCons (tVar 2) (tCons (tC (.str "coefficient")) tNil))) [2]) tNil)) (gName 3))))
def qB5 (cs : List Str) : FS :=
  (qB7 (qF1 (qJi (fB (qUv cs (qAe 1)))) (qFc "NoPoly") qCg)
  (qB7 (qE7 (fIt (qAe 1)) (qA1 2) (qF1 (qJi (fB (qAj (qG2 cs) [] (qAc (qAe 2) qAn)))) (qFc "NoPoly") qCg))
  (qDr 3 (qAj qEf [] (qAc (fLc (fIt (qAe 1)) (qA1 2) qI4 (qAj (qFw cs) [] (qAc (qAe 2) (qAc (fC (.str "coefficient")) qAn))) [2]) qAn)))))
theorem qKz {K : PySem.W.Frag} {cs : List Str} (T : KF K cs) (hRatio : ("Ratio" : Str) ∈ cs) (hPoly : ("Poly" : Str) ∈ cs) (E : XK) : SS K Ta [] [] [] [] (fun _ => E) (qJt K cs E) (qB5 cs) :=
  (qAm (ow1 := []) (qDd (by decide) (qC3 (qJ2 (qAbz T.toKT (qAb (by decide))))) (qLs (by decide)) (qA6 (by decide)))
  (qAm (ow1 := []) (qD7 (by decide) (qVx (qAb (by decide))) (qBf (by decide)) (qDd (by decide) (qC3 (qJ2 (qAg Lift.refl qAh (qAa (qAb (by decide)) qAd)))) (qLs (by decide)) (qA6 (by decide))))
  (qBi (by decide) (by decide) (qAg Lift.refl qAh (qAa (SF.se (qKu (by decide) (by decide) (qVx (qAb (by decide))) (qBf (by decide)) qF5 (qAg Lift.refl qAh (qAa (qAb (by decide)) (qAa qZw qAd))))) qAd)))))
def qEx (K : PySem.W.Frag) (cs : List Str) (E : XK) : TE :=
  (tCB (qSp K) (tCons (tVar 3) tNil))
def qCv (cs : List Str) : FE :=
  (fLs qMu (qAc (qAe 3) qAn))
theorem qE6 {K : PySem.W.Frag} {cs : List Str} (T : KF K cs) (hRatio : ("Ratio" : Str) ∈ cs) (hPoly : ("Poly" : Str) ∈ cs) (E : XK) : SE K Ta [] (fun _ => E) (qEx K cs E) (qCv cs) :=
  (qE4 (fun _ => qYt) (qAa (qAb (by decide)) qAd))
def qHj (K : PySem.W.Frag) (cs : List Str) (E : XK) : TE :=
  (tOp qF4 (tCB (qDu K) (tCons (tVar 3) tNil)) (tC (.int 1)))
def qEn (cs : List Str) : FE :=
  (fOp qOx (fLs qJ5 (qAc (qAe 3) qAn)) (fC (.int 1)))
theorem qH5 {K : PySem.W.Frag} {cs : List Str} (T : KF K cs) (hRatio : ("Ratio" : Str) ∈ cs) (hPoly : ("Poly" : Str) ∈ cs) (E : XK) : SE K Ta [] (fun _ => E) (qHj K cs E) (qEn cs) :=
  (qAl (fun _ => qEm) (qE4 (fun _ => qDc) (qAa (qAb (by decide)) qAd)) qAi)
def qIv (K : PySem.W.Frag) (cs : List Str) (E : XK) : TE :=
  (tIf (qU6 K (tVar 3)) (tOp (rIxL K) (tVar 3) (tUn qSh (tC (.int 1)))) (tMake (He.ga K "Ratio") (qCe K) [.int 1] E (tCons (tC (.int 0)) tNil)))
def qDs (cs : List Str) : FE :=
  (fIf (qXs (qAe 3)) (fOp qB6 (qAe 3) (fUn qXu (fC (.int 1)))) (qNa qU8 [.int 1] (qAc (fC (.int 0)) qAn)))
theorem qJs {K : PySem.W.Frag} {cs : List Str} (T : KF K cs) (hRatio : ("Ratio" : Str) ∈ cs) (hPoly : ("Poly" : Str) ∈ cs) (E : XK) : SE K Ta [] (fun _ => E) (qIv K cs E) (qDs cs) :=
  (qAe5 (qS1 (qAb (by decide))) (qAl (fun _ => qAq) (qAb (by decide)) (qYj (fun _ => qS9) qAi)) (qNd qMc (qNx qAh) (qAa qAi qAd)))
def qJc (K : PySem.W.Frag) (cs : List Str) (E : XK) : TS :=
  (tSeq (tIfS (tNot (tB (tCB (rIsiT K) (tCons (tVar 1) (tCons (tTup (tCons (tC (.ty "list")) (tCons (tC (.ty "tuple")) tNil))) tNil))))) (qHk (He.ga K "NoPoly") (fun cls d _ H => E cls d H)) tNext)
  (tSeq (tFor (iSeq K (tVar 1)) (gName 2) (tIfS (tNot (tB (tCall (lift K (qG2 cs)) [] E0 (tCons (tVar 2) tNil)))) (qHk (He.ga K "NoPoly") (fun cls d _ H => E cls d H)) tNext))
  (tSeq (tAsg (tCall (lift K qEf) [] E0 (tCons (tLc (iSeq K (tVar 1)) (gName 2) tYes (tCall (lift K (qFw cs)) [] E0 (tCons (tVar 2) (tCons (tC (.str "coefficient")) tNil))) [2]) tNil)) (gName 3))
  (tSeq (sFld K (tVar 0) (tCB (qSp K) (tCons (tVar 3) tNil)) "coefficients")
  (tSeq (sFld K (tVar 0) (tOp qF4 (tCB (qDu K) (tCons (tVar 3) tNil)) (tC (.int 1))) "degree")
  (sFld K (tVar 0) (tIf (qU6 K (tVar 3)) (tOp (rIxL K) (tVar 3) (tUn qSh (tC (.int 1)))) (tMake (He.ga K "Ratio") (qCe K) [.int 1] E (tCons (tC (.int 0)) tNil))) "lead"))))))
theorem qAo {n : Nat} (h : n ≤ 100000) : n < sizeLine := by
  have : sizeLine = 2 ^ 24 := rfl
  omega
/-- Ratio + Ratio -/
theorem qAbo {f : Rat → Rat → Rat} {a b : Rat} {P : D → Prop} {X : XP} : fR2 f [.rat a, .rat b] P X ↔ (qPv a b ∧ P (.rat (f a b))) := Iff.rfl
theorem qI8 (q : Rat) : q.num = 0 ↔ q = 0 := Rat.num_eq_zero
theorem qAa2 {cs : List Rat} {k : Nat} {P : D → Prop} {X : XP} (h : k < cs.length) (p : P (.rat (coef cs k))) : oIx (.lst (qCl cs)) (.int (k : Nat)) P X := qD9 rfl (qGv h) p
theorem qS7 {α : Type} (xs : List α) (k : Nat) : cutD xs none (some (k : Int)) = xs.take k := by
  unfold cutD
  rw [HT.sIx_none, HT.sIx_nat, List.drop_zero, Nat.sub_zero]
  rw [Nat.min_def]
  split
  · rfl
  · rename_i h
    rw [List.take_length, List.take_of_length_le (by omega)]
theorem qQn (cs : List Rat) (k : Nat) : (qCl cs).take k = qCl (cs.take k) := by
  unfold qCl
  rw [List.map_take]
theorem qKn {cs : List Str} (hR : ("Ratio" : Str) ∈ cs) (hP : ("Poly" : Str) ∈ cs) (ds : List D) (P : D → Prop) (X : XP) (h : qEf ds P X) : qD2 cs (qHq P X0) (qBu 2 ds) := by
  obtain ⟨xs, rfl, p⟩ := h
  simp_arith [qD2, qMx, qDx]
  refine ⟨fun m ρ => m ≤ xs.length ∧ ρ = [some (.lst (qCl xs)), some (.int (m : Nat))] ∧ szN (coef xs) xs.length = szN (coef xs) m, ⟨xs.length, Nat.le_refl _, rfl, rfl⟩, ?_⟩
  rintro m ρ ⟨hm, rfl, hz⟩
  simp_arith []
  cases m with
  | zero =>
    simp_arith [Int.lt_irrefl, decide_false, Int.ofNat_zero, Int.natCast_zero]
    have e : cutD (qCl xs) none (some ((0 : Nat) : Int)) = qCl (strip xs) := by
      rw [qS7, qQn]
      unfold strip
      rw [hz]
      rfl
    rw [show (some (0 : Int)) = some ((0 : Nat) : Int) from rfl, e]
    exact p
  | succ m =>
    have d : decide ((0 : Int) < ((m + 1 : Nat) : Int)) = true := decide_eq_true (by omega)
    simp_arith [d]
    have e1 : ((m + 1 : Nat) : Int) - 1 = ((m : Nat) : Int) := by omega
    rw [e1]
    refine qAa2 (by omega) ?_
    simp_arith [qGe]
    by_cases hz2 : coef xs m = 0
    · rw [decide_eq_true ((qI8 _).mpr hz2), if_pos rfl]
      refine ⟨m, by omega, by omega, rfl, ?_⟩
      rw [hz]
      show (if coef xs m = 0 then _ else _) = _
      rw [if_pos hz2]
    · rw [decide_eq_false (fun z => hz2 ((qI8 _).mp z)), if_neg (by decide)]
      rw [qS7, qQn]
      have : szN (coef xs) (m + 1) = m + 1 := by
        show (if coef xs m = 0 then _ else _) = _
        rw [if_neg hz2]
      unfold strip at p
      rw [hz, this] at p
      exact p
theorem qVn (q : List Rat) : qTr "coefficients" (.poly q) = some (.tup (qCl q)) := by simp [qTr, qCl]
theorem qAdj (q : List Rat) : qTr "degree" (.poly q) = some (.int ((q.length : Int) - 1)) := by
  have h : ¬ (("degree" : Str) = "coefficients") := by decide +kernel
  simp only [qTr, if_neg h, if_true]
theorem qZ8 (q : List Rat) : qTr "lead" (.poly q) = some (.rat (qAk q)) := by
  have h : ¬ (("lead" : Str) = "coefficients") := by decide +kernel
  have h2 : ¬ (("lead" : Str) = "degree") := by decide +kernel
  simp only [qTr, if_neg h, if_neg h2, if_true]
/-! ### multiplied -/
theorem qD0 {α β : Type} (l : List α) (c : β) : (l.map fun _ => c) = List.replicate l.length c := by
  induction l with
  | nil => rfl
  | cons a l ih => rw [List.map_cons, ih]; rfl
/-- a comprehension whose turns all give f d -/
theorem qJd {g : FG} {fe : FE} {ρ0 : Env} {P : D → Prop} (f : D → D) : ∀ (ds acc : List D), (∀ d, d ∈ ds → ∀ Q : D → Prop, Q (f d) → g d ρ0 fun ρ2 => fe ρ2 Q X0) → acc.length + ds.length < sizeLine → P (.lst (acc ++ ds.map f)) → qMw g qI4 fe ρ0 P ds acc
  | [], acc, _, _, p => by
    rw [List.map_nil, List.append_nil] at p
    exact p
  | d :: ds, acc, h, hl, p => by
    unfold qMw
    have h1 := h d List.mem_cons_self
    simp only [qI4, if_true]
    refine h1 _ ⟨by rw [List.length_cons] at hl; omega, ?_⟩
    refine qJd f ds (acc ++ [f d]) (fun d' hd' => h d' (List.mem_cons_of_mem _ hd')) ?_ ?_
    · rw [List.length_append, List.length_singleton]
      rw [List.length_cons] at hl
      omega
    · rw [List.append_assoc]
      exact p
/-- row after the first i rows and of row i the first j places -/
def cell (f g : Nat → Rat) (i j k : Nat) : Rat := conv f g i k + if i ≤ k ∧ k < i + j then f i * g (k - i) else 0
theorem qRb {n i : Nat} {f g : Nat → D} (h : ∀ k, k < n → g k = if k = i then g i else f k) : ((List.range n).map f).set i (g i) = (List.range n).map g := by
  refine List.ext_getElem? fun k => ?_
  rw [List.getElem?_set, List.length_map, List.length_range]
  by_cases hk : k < n
  · rw [List.getElem?_map, List.getElem?_map, List.getElem?_range hk]
    by_cases hi : i = k
    · subst hi
      rw [if_pos rfl, if_pos hk]
      rfl
    · rw [if_neg hi]
      show some (f k) = some (g k)
      rw [h k hk, if_neg (Ne.symm hi)]
  · rw [List.getElem?_map, List.getElem?_map, List.getElem?_eq_none (l := List.range n) (by simp; omega)]
    split
    · rw [if_neg (by omega)]
      rfl
    · rfl
theorem qVs (c : Rat) (cs : List Rat) : qCl (c :: cs) = .rat c :: qCl cs := rfl
theorem qFp {n k : Nat} {f : Nat → D} (h : k < n) : ((List.range n).map f)[k]? = some (f k) := by
  rw [List.getElem?_map, List.getElem?_range h]
  rfl
theorem qRg {n k : Nat} (h : k < n) : ixN n (k : Int) = some k := by
  unfold ixN
  rw [if_pos (by omega), if_pos (by omega)]
  simp
/-! ### values -/
/-! ### operators -/
theorem SzL.neg {n : Nat} {cs : List Rat} (h : SzL n cs) : SzL n (qOc cs) := fun c hc => by
  unfold qOc at hc
  obtain ⟨d, hd, rfl⟩ := List.mem_map.mp hc
  exact (h d hd).neg
theorem qPi : ∀ cs : List Rat, qF0 (qCl cs) = some cs
  | [] => rfl
  | c :: cs => by
    show (match qZ1 (.rat c), qF0 (qCl cs) with | some q, some qs => some (q :: qs) | _, _ => none) = _
    rw [qPi cs]
    rfl
theorem qHe {cs : List Str} {es : List Rat} {P : D → Prop} {X : XP} (hl : es.length ≤ 100000) (p : P (.poly (strip es))) : qCc cs [.lst (qCl es)] P X := ⟨_, rfl, .inl ⟨_, es, rfl, by rw [qDx]; exact hl, qPi es, p⟩⟩
/-! ### Poly(..) -/
theorem qZl {K : PySem.W.Frag} {F : Fd} {M : Addr → Prop} {H1 : Hp} {C x dx : Addr} {n : Nat} {ds : List D} {us : List V} {names : List Str} (lv : Lv K F M H1) (r : Reps K F M H1 ds us) (n1 : H1 x = none) (n2 : H1 dx = none) (ne : dx ≠ x) (hn : names.length = n + 1) :
    REnv K F.T ⟨F, fun p => M p ∨ p = x, upd (upd H1 dx (.own x)) x (.ins C dx [])⟩ [] (upd (upd H1 dx (.own x)) x (.ins C dx [])) (start names (.ref x :: us)) (some (.adr x) :: qBu n ds) := by
  have old : ∀ {b : Addr} {o : HO}, H1 b = some o → b ≠ x ∧ upd (upd H1 dx (.own x)) x (.ins C dx []) b = some o := fun {b o} h => by
    have h1 : b ≠ x := ne_of_none h n1
    have h2 : b ≠ dx := ne_of_none h n2
    exact ⟨h1, by rw [upd_ne h1, upd_ne h2]; exact h⟩
  have sm : Same H1 (upd (upd H1 dx (.own x)) x (.ins C dx [])) := fun b o h => (old h).2
  have go : Goes F M H1 ((⟨F, fun p => M p ∨ p = x, upd (upd H1 dx (.own x)) x (.ins C dx [])⟩ : Wd).Mx [] (L2.start names (.ref x :: us))) (upd (upd H1 dx (.own x)) x (.ins C dx [])) := fun p o h nf m => ⟨(old h).2, fun z => by
    rcases z with (z | z) | ⟨_, y, _⟩
    · exact m z
    · exact (old h).1 z
    · cases y⟩
  refine ⟨.refl, fun p m => ?_, fun p m => ?_, fun i _ => ?_, fun i hi => (nomatch hi), fun i hi => (nomatch hi), fun f hf => ?_, lv.t.ext sm, rfl⟩
  · rcases m with m | m
    · obtain ⟨o, h⟩ := lv.m p m
      exact ⟨o, (old h).2⟩
    · exact ⟨_, by rw [m]; exact upd_same⟩
  · rcases m with m | m
    · exact lv.nf p m
    · rw [m]; exact (lv.ok n1).1
  · have es : L2.start names (.ref x :: us) = some (.ref x) :: (us.map some ++ List.replicate (n - us.length) none) := by
      unfold L2.start
      rw [hn, List.length_cons, List.map_cons, List.cons_append]
      congr 3
      omega
    have mx : ∀ q, (⟨F, fun p => M p ∨ p = x, upd (upd H1 dx (.own x)) x (.ins C dx [])⟩ : Wd).Mx [] (L2.start names (.ref x :: us)) q ↔ (M q ∨ q = x) := fun q => ⟨fun z => z.elim id fun ⟨_, y, _⟩ => (nomatch y), .inl⟩
    show Sl (Rep K F ((⟨F, fun p => M p ∨ p = x, upd (upd H1 dx (.own x)) x (.ins C dx [])⟩ : Wd).Mx [] (L2.start names (.ref x :: us))) _) _ _
    generalize hMx : (⟨F, fun p => M p ∨ p = x, upd (upd H1 dx (.own x)) x (.ins C dx [])⟩ : Wd).Mx [] (L2.start names (.ref x :: us)) = MM at go ⊢
    rw [es]
    cases i with
    | zero => exact rfl
    | succ i =>
      rw [List.getElem?_cons_succ, List.getElem?_cons_succ]
      unfold qBu
      rw [r.length]
      exact qNq (n - ds.length) i r fun d v h => Rep.goes go d v h
  · obtain ⟨c, h1, h2⟩ := lv.f f hf
    refine ⟨c, h1.same sm, fun z => ?_⟩
    rcases z with (z | z) | ⟨_, y, _⟩
    · exact h2 z
    · obtain ⟨_, _, _, _, _, _, o, _, hc⟩ := h1
      exact (old hc).1 z
    · cases y
/-- the numbers of a list: the looks at its items, the list of Ratios -/
theorem qK1 {cs : List Str} {FD : FEnds} {hd : D} {C : Str} (hR : ("Ratio" : Str) ∈ cs) {v3 : Option D} {x : D}
    (body : FS) (hb : body = qF1 (qJi (fB (qAj (qG2 cs) [] (qAc (qAe 2) qAn)))) (qFc C) qCg) :
    ∀ (items : List D) (v2 : Option D), ((∃ qs, qF0 items = some qs) ∧ ∀ v2, FD.nx [some x, some hd, v2, v3]) ∨ (∃ pre b post, items = pre ++ b :: post ∧ (∃ qs, qF0 pre = some qs) ∧ qVg cs b = some false ∧ ∀ ρ, FD.ex ⟨C, []⟩ ρ) → qB9 (qA1 2) body FD items [some x, some hd, v2, v3]
  | [], v2, h => by
    rcases h with ⟨_, h⟩ | ⟨pre, b, post, h, _⟩
    · exact h v2
    · cases pre <;> cases h
  | d :: items, v2, h => by
    unfold qB9
    rw [hb]
    simp_arith []
    rw [← hb]
    rcases h with ⟨⟨qs, hq⟩, h⟩ | ⟨pre, b', post, h, ⟨qs, hq⟩, hn, hx⟩
    · have hv : ∃ q, qZ1 d = some q ∧ ∃ qs, qF0 items = some qs := by
        simp only [qF0] at hq
        split at hq
        · rename_i q' qs' h1 h2; exact ⟨_, h1, _, h2⟩
        · cases hq
      obtain ⟨q, hv, qs', hqs⟩ := hv
      refine ⟨d, true, rfl, qKh hR hv, ?_⟩
      simp_arith [Bool.not_true]
      exact qK1 hR body hb items _ (.inl ⟨⟨qs', hqs⟩, h⟩)
    · cases pre with
      | nil =>
        simp only [List.nil_append, List.cons.injEq] at h
        obtain ⟨rfl, rfl⟩ := h
        refine ⟨d, false, rfl, hn, ?_⟩
        simp_arith [Bool.not_false]
        exact hx _
      | cons e pre =>
        simp only [List.cons_append, List.cons.injEq] at h
        obtain ⟨rfl, rfl⟩ := h
        have hv : ∃ q, qZ1 d = some q ∧ ∃ qs, qF0 pre = some qs := by
          simp only [qF0] at hq
          split at hq
          · rename_i q' qs' h1 h2; exact ⟨_, h1, _, h2⟩
          · cases hq
        obtain ⟨q, hv, qs', hqs⟩ := hv
        refine ⟨d, true, rfl, qKh hR hv, ?_⟩
        simp_arith [Bool.not_true]
        exact qK1 hR body hb _ _ (.inr ⟨pre, b', post, rfl, ⟨qs', hqs⟩, hn, hx⟩)
def qZf (d : D) : D := match qZ1 d with
  | some q => .rat q
  | none => d
theorem qMp : ∀ {items : List D} {qs : List Rat}, qF0 items = some qs → items.map qZf = qCl qs
  | [], qs, h => by cases h; rfl
  | d :: items, qs, h => by
    simp only [qF0] at h
    split at h
    · rename_i q qs' h1 h2
      cases h
      rw [List.map_cons, qMp h2, qVs]
      unfold qZf
      rw [h1]
    · cases h
theorem qQs {d : D} : ∀ {items : List D} {qs : List Rat}, qF0 items = some qs → d ∈ items → ∃ q, qZ1 d = some q
  | [], _, _, h => by cases h
  | e :: items, qs, h, hd => by
    simp only [qF0] at h
    split at h
    · rename_i q qs' h1 h2
      rcases List.mem_cons.mp hd with rfl | hd
      · exact ⟨q, h1⟩
      · exact qQs h2 hd
    · cases h
theorem qZn {cs : List Str} (hR : ("Ratio" : Str) ∈ cs) {d : D} {q : Rat} {w : Str} {P : D → Prop} {X : XP} (h : qZ1 d = some q) (p : P (.rat q)) : qFw cs [d, .str w] P X := by
  refine ⟨d, w, true, rfl, qKh hR h, (fun z => by cases z), fun _ => ?_⟩
  cases d <;> first | (cases h; done) | skip
  · cases h; exact p
  · cases h; exact p
theorem qAca {cs : List Str} (hR : ("Ratio" : Str) ∈ cs) {ρ0 : Env} {P : D → Prop} {i : Nat} {w : Str} {items : List D} {qs : List Rat} (hi : i < ρ0.length) (hq : qF0 items = some qs) (hl : items.length ≤ 100000) (p : P (.lst (qCl qs))) : qMw (qA1 i) qI4 (qAj (qFw cs) [] (qAc (qAe i) (qAc (fC (.str w)) qAn))) ρ0 P items [] := by
  refine qJd qZf _ [] (fun d hd Q q => ?_) ?_ ?_
  · obtain ⟨v, hv⟩ := qQs hq hd
    refine ⟨_, by rw [qBl, if_pos rfl, if_pos hi], ?_⟩
    show qFw cs [d, .str w] Q X0
    refine qZn hR hv ?_
    unfold qZf at q
    rw [hv] at q
    exact q
  · exact qAo (by simp; omega)
  · rw [qMp hq]
    exact p
theorem qAcu {cs : List Rat} (h : cs ≠ []) : atI (qCl cs) (-1) = some (.rat (qAk cs)) := by
  have hl : 0 < cs.length := List.length_pos_iff.mpr h
  unfold atI ixN
  rw [if_neg (by decide), qDx, if_pos (by omega)]
  show (qCl cs)[(-1 + (cs.length : Int)).toNat]? = _
  rw [show (-1 + (cs.length : Int)).toNat = cs.length - 1 by omega, qGv (by omega)]
  rfl
theorem qZg {cs : List Str} (hR : ("Ratio" : Str) ∈ cs) {d : D} {s : D} {P : D → Prop} {X : XP} {FD : FEnds} (h : qCc cs [d] P X) (hn : ∀ v2 qs, P (.poly (strip qs)) → FD.nx [some s, some d, v2, some (.lst (qCl (strip qs)))]) (hx : ∀ ρ, X ⟨"NoPoly", []⟩ → FD.ex ⟨"NoPoly", []⟩ ρ) :
    qB5 cs FD [some s, some d, none, none] := by
  obtain ⟨d', e, h⟩ := h
  cases e
  have isl : ∀ items, itD d = some items → ∃ b b', isD cs (.ty "list") d = some b ∧ isD cs (.ty "tuple") d = some b' ∧ (b || b') = true := fun items h => by
    rcases qHy h with rfl | rfl
    · exact ⟨true, false, by simp [isD, tyN, subN], by simp [isD, tyN, subN], rfl⟩
    · exact ⟨false, true, by simp [isD, tyN, subN], by simp [isD, tyN, subN], rfl⟩
  have main : ∀ items, itD d = some items → items.length ≤ 100000 → ((∃ qs, qF0 items = some qs ∧ P (.poly (strip qs))) ∨ (∃ pre b post, items = pre ++ b :: post ∧ (∃ qs, qF0 pre = some qs) ∧ qVg cs b = some false ∧ X ⟨"NoPoly", []⟩)) → qB5 cs FD [some s, some d, none, none]   := fun items hi hl h => by
    obtain ⟨b, b', h1, h2, h3⟩ := isl items hi
    simp_arith [qB5, qE7, itEx hi]
    refine ⟨b, b', h1, h2, ?_⟩
    rw [h3]
    simp_arith [Bool.not_true]
    refine qK1 hR _ rfl items none ?_
    rcases h with ⟨qs, hq, hp⟩ | ⟨pre, bb, post, h, hq, hb, hX⟩
    · refine .inl ⟨⟨qs, hq⟩, fun v2 => ?_⟩
      simp_arith [fLc, itEx hi]
      refine qAca hR (by simp [qFz]) hq hl ?_
      exact ⟨qs, rfl, hn v2 qs hp⟩
    · exact .inr ⟨pre, bb, post, h, hq, hb, fun ρ => hx ρ hX⟩
  rcases h with ⟨items, qs, hi, hl, hq, hp⟩ | ⟨items, pre, b, post, hi, hl, h1, h2, h3, h4⟩ | ⟨h1, h2, h3⟩
  · exact main items hi hl (.inl ⟨qs, hq, hp⟩)
  · exact main items hi hl (.inr ⟨pre, b, post, h1, h2, h3, h4⟩)
  · simp_arith [qB5]
    refine ⟨false, false, h1, h2, ?_⟩
    simp_arith [Bool.not_false, Bool.or_false]
    exact hx _ h3
theorem qQ4 {f g : Str} {v x : V} {r : List (Str × V)} (h : ¬ g = f) : putF f v ((g, x) :: r) = (g, x) :: putF f v r := by
  show (if g = f then _ else _) = _
  rw [if_neg h]
theorem Gr.updx {K : PySem.W.Frag} {F : Fd} {H1 Ha : Hp} {x : Addr} {o : HO} (g : Gr K F H1 Ha) (n : H1 x = none) (nf : F.no x) {u : HO} (hx : Ha x = some u) (hu : Pl u) : Gr K F H1 (upd Ha x o) := by
  refine ⟨fun b u h m => ?_, fun f c hf h => ?_, fun z => qId (g.tab z) hx hu⟩
  · rw [upd_ne (ne_of_none h n)]
    exact g.old b u h m
  · refine (g.feed f c hf h).keep (fun z => nf.1 (by rw [z]; exact hf)) (fun z => ?_)
    obtain ⟨_, _, _, _, _, _, _, _, hc⟩ := h
    rw [← z, n] at hc; cases hc
theorem qPa {K : PySem.W.Frag} {cs : List Str} (T : KF K cs) (hRatio : ("Ratio" : Str) ∈ cs) (hPoly : ("Poly" : Str) ∈ cs) (vs : List V) (H : Hp) (Q : VK) (E : XK) (h : qLg K "Poly" (qCc cs) vs H Q E) : qJc K cs E { nx := fun _ H' => Q .non H', rt := Q } (start ["self", "coefficients", "item", "kept"] vs) H := by
  obtain ⟨F, M, H1, ds, us, P, X, x, dx, rfl, rfl, n1, n2, ne, lv, r, hf, q, px⟩ := h
  obtain ⟨d, rfl, _⟩ := id hf
  have e0 := qZl (C := He.ga K "Poly") (n := 3) (names := ["self", "coefficients", "item", "kept"]) lv r n1 n2 ne rfl
  have sm0 : Gr K F H1 (upd (upd H1 dx (.own x)) x (.ins (He.ga K "Poly") dx [])) := .same fun b o h => by
    rw [upd_ne (ne_of_none h n1), upd_ne (ne_of_none h n2)]
    exact h
  generalize hH : upd (upd H1 dx (.own x)) x (.ins (He.ga K "Poly") dx []) = H0 at e0 sm0
  have hx0 : H0 x = some (.ins (He.ga K "Poly") dx []) := by rw [← hH]; exact upd_same
  let FD : FEnds := ⟨fun ρ => ∃ v2 qs, ρ = [some (.adr x), some d, v2, some (.lst (qCl (strip qs)))] ∧ P (.poly (strip qs)), fun _ => False, fun _ => False, fun _ => False, fun e _ => X e, fun _ => False⟩
  have hpre : qB5 cs FD [some (.adr x), some d, none, none] := qZg hRatio hf (fun v2 qs p => ⟨v2, qs, rfl, p⟩) (fun _ p => p)
  refine qKz T hRatio hPoly E _ H0 _ _ _ FD e0 hpre ⟨?_, fun _ _ _ z => z.elim, fun _ _ _ z => z.elim, fun _ _ _ z => z.elim, fun x' ρ σ H' cls dd hx' e rx => px x' cls dd H' hx' (sm0.trans e.gr) rx, fun _ _ _ z => z.elim⟩
  rintro ρ σ H2 ⟨v2, qs, rfl, hp⟩ e2
  have cl := (T.own _ hPoly).cl
  have fo : ∀ f, f ∈ qNw "Poly" → NoAttr K (He.ga K "Poly") f := fun f hf => (T.fld _ hPoly f hf).na
  have hσ : σ[0]? = some (some (.ref x)) := by
    have := e2.imm 0 (by simp)
    cases hv : σ[0]? with
    | none => rw [hv] at this; exact this.elim
    | some o =>
      rw [hv] at this
      cases o with
      | none => exact this.elim
      | some v => rw [show v = .ref x from this]
  have nfx : F.no x := (lv.ok n1).1
  have hx2 : H2 x = some (.ins (He.ga K "Poly") dx []) := e2.gr.old _ _ hx0 nfx
  have g02 : Gr K F H1 H2 := sm0.trans e2.gr
  have pX : ∀ {Ha : Hp}, Gr K F H1 Ha → PostX K F Ha X E := fun g => px.gr g
  generalize hks : strip qs = ks at hp e2
  have hN : Nrm ks := by rw [← hks]; exact qLo qs
  -- coefficients
  refine qN7 (w := ⟨F, fun p => M p ∨ p = x, H0⟩) (C := He.ga K "Poly") (dx := dx) (gs := []) (P := fun d => d = .tup (qCl ks)) (X := X) (qE6 T hRatio hPoly E) e2 (.inr rfl) hx2 hσ cl (fo _ (by decide)) (by decide) ?_ (pX g02) ?_
  · simp_arith [qCv]
  · intro dc vc H3 w3 hdc g3 ef3 em3 rc keep3 e3
    subst hdc
    have x3 : Gr K F H1 (upd H3 x (.ins (He.ga K "Poly") dx (putF "coefficients" vc []))) := (g02.trans g3).updx n1 nfx (g3.old _ _ hx2 nfx) trivial
    refine qN7 (w := w3) (C := He.ga K "Poly") (dx := dx) (P := fun d => d = .int ((ks.length : Int) - 1)) (X := X) (qH5 T hRatio hPoly E) e3 (by rw [em3]; exact .inr rfl) upd_same hσ cl (fo _ (by decide)) (by show 1 < 1000; decide) ?_ (by rw [ef3]; exact pX x3) ?_
    · simp_arith [qEn, qDx]
    · intro dd vd H4 w4 hdd g4 ef4 em4 rd keep4 e4
      subst hdd
      rw [ef3, em3] at keep4 rd
      rw [ef3] at g4
      have x4 : Gr K F H1 (upd H4 x (.ins (He.ga K "Poly") dx (putF "degree" vd (putF "coefficients" vc [])))) := (x3.trans g4).updx n1 nfx (g4.old _ _ upd_same nfx) trivial
      refine qN7 (w := w4) (C := He.ga K "Poly") (dx := dx) (P := fun d => d = .rat (qAk ks)) (X := X) (qJs T hRatio hPoly E) e4 (by rw [em4, em3]; exact .inr rfl) upd_same hσ cl (fo _ (by decide)) (by show 2 < 1000; decide) ?_ (by rw [ef4, ef3]; exact pX x4) ?_
      · by_cases hk : ks = []
        · subst hk
          simp_arith [qDs, qCl, List.isEmpty_nil, Bool.not_true, qWk, Rat.intCast_zero]
          rfl
        · have hx : (qCl ks).isEmpty = false := by cases ks with | nil => exact absurd rfl hk | cons a l => rfl
          simp_arith [qDs, hx, Bool.not_false]
          exact ⟨_, _, _, .inl rfl, rfl, qAcu hk, rfl⟩
      · intro dl vl H5 w5 hdl g5 ef5 em5 rl keep5 e5
        subst hdl
        rw [ef4, em4, ef3, em3] at keep5 rl
        rw [ef4, ef3] at g5
        have x5 : Gr K F H1 (upd H5 x (.ins (He.ga K "Poly") dx (putF "lead" vl (putF "degree" vd (putF "coefficients" vc []))))) := (x4.trans g5).updx n1 nfx (g5.old _ _ upd_same nfx) trivial
        refine q (.poly ks) _ hp x5 ?_
        have rc5 := keep5 _ _ (keep4 _ _ rc)
        obtain ⟨t, tv, rfl, okt, ht, rt⟩ := rc5
        obtain ⟨l, rfl, okl, hl⟩ := rl
        have evd : vd = .int ((ks.length : Int) - 1) := rd
        subst evd
        have eF : putF "lead" (.ref l) (putF "degree" (.int ((ks.length : Int) - 1)) (putF "coefficients" (.ref t) [])) = qSf t l ks.length := by
          have k1 : ¬ (("coefficients" : Str) = "degree") := by decide +kernel
          have k2 : ¬ (("coefficients" : Str) = "lead") := by decide +kernel
          have k3 : ¬ (("degree" : Str) = "lead") := by decide +kernel
          show putF "lead" _ (putF "degree" _ [("coefficients", _)]) = _
          rw [qQ4 k1, show putF "degree" (V.int ((ks.length : Int) - 1)) [] = [(("degree" : Str), V.int ((ks.length : Int) - 1))] from rfl, qQ4 k2, qQ4 k3]
          rfl
        have go : Goes F (fun p => M p ∨ p = x) (upd H5 x (.ins (He.ga K "Poly") dx (putF "lead" (.ref l) (putF "degree" (.int ((ks.length : Int) - 1)) (putF "coefficients" (.ref t) []))))) M (upd H5 x (.ins (He.ga K "Poly") dx (putF "lead" (.ref l) (putF "degree" (.int ((ks.length : Int) - 1)) (putF "coefficients" (.ref t) []))))) := fun p o h _ m => ⟨h, fun z => m (.inl z)⟩
        have rr : RRats K F M _ ks tv := (RRats.of rt).goes go
        have rl' : RRat K F M _ (qAk ks) (.ref l) := RRat.goes go ⟨l, rfl, okl, hl⟩
        rw [eF] at ht rr rl' ⊢
        exact ⟨x, dx, t, l, tv, rfl, lv.ok n1, upd_same, ⟨okt.1, fun z => okt.2 (.inl z)⟩, ht, rr, rl', hN⟩
theorem qL0 {cs : List Str} (ds : List D) (P : D → Prop) (X : XP) (h : qCc cs ds P X) : ds.length = 1 := by
  obtain ⟨_, rfl, _⟩ := h
  rfl
theorem qIt {K : PySem.W.Frag} {cs : List Str} (vs : List V) (H : Hp) (Q : VK) (E : XK) (h : (lift K qEf) vs H Q E) : vs.length = 1 := qBd (fun ds P X h => by unfold qEf at h; first | ((repeat (first | (obtain ⟨rfl, _⟩ := h; exact rfl) | obtain ⟨_, h⟩ := h)); done) | (split at h <;> first | rfl | exact h.elim)) h
theorem qJn {K : PySem.W.Frag} {cs : List Str} (T : KF K cs) (hRatio : ("Ratio" : Str) ∈ cs) (hPoly : ("Poly" : Str) ∈ cs) (vs : List V) (H : Hp) (Q : VK) (E : XK) (h : (lift K qEf) vs H Q E) : qDt K cs { nx := fun _ H' => Q .non H', rt := Q } (start ["row", "size"] vs) H :=
  qDo rfl (qLc T hRatio hPoly) (qKn hRatio hPoly) vs H Q E h
end MR

set_option Elab.async false
set_option linter.all false
set_option maxRecDepth 100000
set_option maxHeartbeats 4000000
set_option exponentiation.threshold 20000
/-! FLE: == of two lists (or tuples) of Ratios, the answer True -/
namespace MR
open PySem PySem.Spec PyProof.Rows L2
section
variable {X : Cx} {k : Nat} {E : XK}
end
section
variable {K : PySem.W.Frag} {E1 : XK}
/-! ### sum of a list of ints -/
end
end MR

set_option Elab.async false
set_option linter.all false
set_option maxRecDepth 100000
set_option maxHeartbeats 4000000
set_option exponentiation.threshold 20000
namespace MR
open PySem PySem.Spec PyProof.Rows L2
/-- the sum of the first k products -/
def qYx (cs ms : List Rat) : Nat → Rat
  | 0 => 0
  | k + 1 => qYx cs ms k + coef cs k * coef ms k
/-- the means of p * x ** k -/
def shL (cs ms : List Rat) : List Rat := (List.range (ms.length - (cs.length - 1))).map fun k => qYx cs (ms.drop k) cs.length
end MR

set_option Elab.async false
set_option linter.all false
set_option maxRecDepth 100000
set_option maxHeartbeats 4000000
set_option exponentiation.threshold 20000
namespace MR
open PySem PySem.Spec PyProof.Rows L2
def qCd (cs : List Rat) : List Rat := (strip cs).map fun c => c / qAk (strip cs)
def qCs : FSp := fun ds P _ => ∃ d cs n, ds = [d] ∧ itD d = some (qCl cs) ∧ SzL n cs ∧ 0 < n ∧ n + n ≤ 900000 ∧ cs.length ≤ 1000 ∧ P (.lst (qCl (qCd cs)))
def qEr (K : PySem.W.Frag) (cs : List Str) : TS :=
  (tSeq (tAsg (tCall (lift K qEf) [] E0 (tCons (tCB (qIe K) (tCons (tVar 0) tNil)) tNil)) (gName 1))
  (tSeq (tIfS (tNot (qU6 K (tVar 1))) (tRet (tLst tNil)) tNext)
  (tRet (tLc (iList K (tVar 1)) (gName 2) tYes (tMeth (He.ga K "Ratio") "over" (lift K qKj) [] E0 (tVar 2) (tCons (tOp (rIxL K) (tVar 1) (tUn qSh (tC (.int 1)))) tNil)) [2]))))
def qFf (cs : List Str) : FS :=
  (qB7 (qDr 1 (qAj qEf [] (qAc (fLs qNk (qAc (qAe 0) qAn)) qAn)))
  (qB7 (qF1 (qJi (qXs (qAe 1))) (qEi (qFx qAn)) qCg)
  (qEi (fLc (qVh (qAe 1)) (qA1 2) qI4 (qMq "Ratio" "over" qKj (qAe 2) (qAc (fOp qB6 (qAe 1) (fUn qXu (fC (.int 1)))) qAn)) [2]))))
theorem qN9 {K : PySem.W.Frag} {cs : List Str} (T : KF K cs) (hRatio : ("Ratio" : Str) ∈ cs) (hPoly : ("Poly" : Str) ∈ cs) : SS K Ta [] [] [] [] (fun _ => E0) (qEr K cs) (qFf cs) :=
  (qAm (ow1 := []) (qBi (by decide) (by decide) (qAg Lift.refl qAh (qAa (SF.se (qHv (qAa (qAb (by decide)) qAd))) qAd)))
  (qAm (ow1 := []) (qDd (by decide) (qC3 (qS1 (qAb (by decide)))) (qA5 (by decide) (qB8 qAd)) (qA6 (by decide)))
  (qA5 (by decide) (SF.se (qKu (by decide) (by decide) (qIx (qAb (by decide))) (qBf (by decide)) qF5 (qYm Lift.refl (qAb (by decide)) (qAa (qAl (fun _ => qAq) (qAb (by decide)) (qYj (fun _ => qS9) qAi)) qAd)))))))
theorem qNb {cs : List Str} (hR : ("Ratio" : Str) ∈ cs) (hP : ("Poly" : Str) ∈ cs) (ds : List D) (P : D → Prop) (X : XP) (h : qCs ds P X) : qFf cs (qHq P X0) (qBu 3 ds) := by
  obtain ⟨d, es, n, rfl, h1, z, n0, hn, l, p⟩ := h
  have ol : ∀ {P : D → Prop} {X : XP}, qNk [d] P X ↔ P (.lst (qCl es)) := fun {P X} => by
    rcases qHy h1 with rfl | rfl <;> exact Iff.rfl
  simp only [qB7, qF1, fB, qRf, qAe, fC, fOp, fUn, fLs, qEi, qXz, qNa, qAj, qAc, qAn, qCg, fNev, qE1, qDr, fOwn, qX2, fAsg, fPar, qJi, fAnd, fOr, qSi, fOrV, qUn, fIf, qXs, qFx, fTup, qR5, qMq, qA1, qLp, qFc, fBr, fBor, fApp, qLf, fAug, qUf, qI4, fSl, qI2, qUr, qVh, fItT, fIt, qUv, fBrk, fCnt, qHq, qBu, toB, oI, oI0, qXu, oAbs, oMax, oMin, oInt, qJ0, qJ7, qMu, oCat, oIsB, qZa, oEq, oNe, eqD, oIsN, qYv, isN, qTw, qS2, qT9, qTm, qTa, qT3, qYq, qY6, qZc, qNv, qN1, qOt, qUa, qOq, qY9, qZs, qY5, qX5, qYg, qYa, qZm, qT5, qT2, qTf, qSz, qY2, qYs, qUe, qUb, qB6, oIxT, InsD, List.map_cons, List.map_nil, List.cons_append, List.nil_append, List.length_cons, List.length_nil, List.getElem?_cons_zero, List.getElem?_cons_succ, List.set_cons_zero, List.set_cons_succ, List.replicate_succ, List.replicate_zero, Option.some.injEq, exists_eq_left', qKa, qIb, if_true, if_false, List.append_nil, true_and, and_true, true_or, or_true, Bool.false_eq_true, Bool.true_eq_false, reduceCtorEq, Nat.add_one_sub_one, Nat.reduceSub, Nat.reduceAdd, Nat.sub_self, Nat.zero_add, Nat.add_sub_cancel, qFf, ol]
  refine ⟨es, rfl, ?_⟩
  have zs : SzL n (strip es) := fun c hc => z c (List.mem_of_mem_take hc)
  have ls : (strip es).length ≤ es.length := by rw [qC7]; exact qHs _ _
  have hnrm := qLo es
  unfold qCd at p
  generalize strip es = s at *
  by_cases e : s.length = 0
  · have e0 : s = [] := List.length_eq_zero_iff.mp e
    subst e0
    simp_arith [show (qCl []).isEmpty = true from rfl, Bool.not_true, Bool.not_false]
    exact ⟨by decide, p⟩
  · have hx : (qCl s).isEmpty = false := by
      cases s with
      | nil => exact absurd rfl e
      | cons a b => rfl
    have lead : qAk s ≠ 0 := qOp hnrm (by omega)
    simp_arith [hx, Bool.not_true, Bool.not_false, fLc]
    refine qJd (fun d => match d with | .rat q => .rat (q / qAk s) | e => e) _ [] (fun e he Q k => ?_) (by rw [qDx]; exact qAo (by simp only [List.length_nil]; omega)) ?_
    · unfold qCl at he
      obtain ⟨c, hc, rfl⟩ := List.mem_map.mp he
      simp only [qFz]
      simp_arith []
      refine ⟨⟨by decide, by decide⟩, ?_⟩
      refine ⟨_, -1, .rat (qAk s), .inl rfl, rfl, ?_, ?_⟩
      · unfold atI ixN
        rw [qDx, if_neg (by omega), if_pos (by omega)]
        show (qCl s)[(((s.length : Nat) : Int) + -1).toNat]? = _
        rw [show (((s.length : Nat) : Int) + -1).toNat = s.length - 1 by omega]
        exact qGv (by omega)
      · exact ⟨⟨n, n, zs c hc, zs.coef n0 _, hn⟩, fun z => absurd z lead, fun _ => k⟩
    · rw [List.nil_append]
      have e2 : (qCl s).map (fun d => match d with | .rat q => D.rat (q / qAk s) | e => e) = qCl (s.map fun c => c / qAk s) := by
        unfold qCl
        rw [List.map_map, List.map_map]
        rfl
      rw [e2]
      exact p
theorem qK4 {K : PySem.W.Frag} {cs : List Str} (vs : List V) (H : Hp) (Q : VK) (E : XK) (h : (lift K qCs) vs H Q E) : vs.length = 1 := qBd (fun ds P X h => by unfold qCs at h; first | ((repeat (first | (obtain ⟨rfl, _⟩ := h; exact rfl) | obtain ⟨_, h⟩ := h)); done) | (split at h <;> first | rfl | exact h.elim)) h
theorem qL1 {K : PySem.W.Frag} {cs : List Str} (T : KF K cs) (hRatio : ("Ratio" : Str) ∈ cs) (hPoly : ("Poly" : Str) ∈ cs) (vs : List V) (H : Hp) (Q : VK) (E : XK) (h : (lift K qCs) vs H Q E) : qEr K cs { nx := fun _ H' => Q .non H', rt := Q } (start ["row", "kept", "c"] vs) H :=
  qDo rfl (qN9 T hRatio hPoly) (qNb hRatio hPoly) vs H Q E h
end MR

set_option Elab.async false
set_option linter.all false
set_option maxRecDepth 100000
set_option maxHeartbeats 4000000
set_option exponentiation.threshold 20000
namespace MR
open PySem PySem.Spec PyProof.Rows L2
def qFt : FSp := fun ds P _ => ∃ z : Int, ds = [.feed, .int z] ∧ 0 < z ∧ Sml z ∧ ∀ d : Int, -z < d → d < z → P (.int d)
def fIs : FSp := fun ds P _ => ∃ q a b n m, ds = [.rat q, .int a, .int b] ∧ b ≠ 0 ∧ Sz n q ∧ a.natAbs < 2 ^ m ∧ b.natAbs < 2 ^ m ∧ n + m ≤ 1000000 ∧ P (.bl (decide (q = Rat.divInt a b)))
abbrev prD (p : Int × Int) : D := .lst [.int p.1, .int p.2]
def prL (ps : List (Int × Int)) : List D := ps.map prD
def qVi (p q : Int × Int) : Int × Int := if p.1 = 0 then q else if q.1 = 0 then p else if p.2 = q.2 then (p.1 + q.1, p.2) else (p.1 * q.2 + q.1 * p.2, p.2 * q.2)
def qOz (p q : Int × Int) : Int × Int := (p.1 * q.1, p.2 * q.2)
structure SzP (n : Nat) (p : Int × Int) : Prop where
  a : p.1.natAbs < 2 ^ n
  b : p.2.natAbs < 2 ^ n
  pos : 0 < p.2
def qOn : FSp := fun ds P _ => ∃ p q n m, ds = [prD p, prD q] ∧ SzP n p ∧ SzP m q ∧ n + m ≤ 900000 ∧ P (prD (qVi p q))
def qFm : FSp := fun ds P _ => ∃ p q n m, ds = [prD p, prD q] ∧ SzP n p ∧ SzP m q ∧ n + m ≤ 900000 ∧ P (prD (qOz p q))
def qB0 (p : Int × Int) : Rat := Rat.divInt p.1 p.2
def qCk : FSp := fun ds P _ => ∃ ps n, ds = [.lst (prL ps)] ∧ (∀ p, p ∈ ps → SzP n p) ∧ n ≤ 900000 ∧ ps.length ≤ 1000 ∧ P (.lst (qCl (ps.map qB0)))
def qC5 (K : PySem.W.Frag) (cs : List Str) : TS :=
  (tRet (tAndV (tCB (rIsi K) (tCons (tVar 0) (tCons (tC (.ty "int")) tNil))) (tNotV (tCB (rIsi K) (tCons (tVar 0) (tCons (tC (.ty "bool")) tNil))))))
def qDf (cs : List Str) : FS :=
  (qEi (qSi (qRf cs (.ty "int") (qAe 0)) (qUn (qRf cs (.ty "bool") (qAe 0)))))
theorem qIu {K : PySem.W.Frag} {cs : List Str} (T : KF K cs) (hRatio : ("Ratio" : Str) ∈ cs) : SS K Ta [] [] [] [] (fun _ => E0) (qC5 K cs) (qDf cs) :=
  (qA5 (by decide) (qWj (qG5 (c := (.ty "int")) T.toKT (qAb (by decide))) (qAcy (qG5 (c := (.ty "bool")) T.toKT (qAb (by decide))))))
def qEu (K : PySem.W.Frag) (cs : List Str) : TS :=
  (tSeq (tAsg (tOp qF4 (tC (.int 1)) (tOp qDv (tC (.int 2)) (tCall (lift K qCj) [] E0 (tCons (tVar 0) (tCons (tC (.int 2)) tNil))))) (gName 2))
  (tRet (tOp qDv (tVar 2) (tCall (lift K qCj) [] E0 (tCons (tVar 0) (tCons (tVar 1) tNil))))))
def qFd (cs : List Str) : FS :=
  (qB7 (qDr 2 (fOp qOx (fC (.int 1)) (fOp qNe (fC (.int 2)) (qAj qCj [] (qAc (qAe 0) (qAc (fC (.int 2)) qAn))))))
  (qEi (fOp qNe (qAe 2) (qAj qCj [] (qAc (qAe 0) (qAc (qAe 1) qAn))))))
theorem qNr {K : PySem.W.Frag} {cs : List Str} (T : KF K cs) (hRatio : ("Ratio" : Str) ∈ cs) : SS K Ta [] [] [] [] (fun _ => E0) (qEu K cs) (qFd cs) :=
  (qAm (ow1 := []) (qBi (by decide) (by decide) (qAl (fun _ => qEm) qAi (qAl (fun _ => qDb) qAi (qAg Lift.refl qAh (qAa (qAb (by decide)) (qAa qAi qAd))))))
  (qA5 (by decide) (qAl (fun _ => qDb) (qAb (by decide)) (qAg Lift.refl qAh (qAa (qAb (by decide)) (qAa (qAb (by decide)) qAd))))))
def qI3 (K : PySem.W.Frag) (cs : List Str) : TS :=
  (tSeq (tIfS (tOr (tNot (tB (tCB (rIsi K) (tCons (tVar 0) (tCons (tC (.ref (He.ga K "Ratio"))) tNil))))) (tOr (tNot (tB (tCall (lift K (qDa cs)) [] E0 (tCons (tFld K (tVar 0) "top") tNil)))) (tNot (tB (tCall (lift K (qDa cs)) [] E0 (tCons (tFld K (tVar 0) "bottom") tNil)))))) (tRet (tC (.bl false))) tNext)
  (tRet (tAndV (tOp rGe0 (tFld K (tVar 0) "bottom") (tC (.int 1))) (tOp rEq (tOp qDv (tFld K (tVar 0) "top") (tVar 2)) (tOp qDv (tVar 1) (tFld K (tVar 0) "bottom"))))))
def qLk (cs : List Str) : FS :=
  (qB7 (qF1 (fOr (qJi (fB (qRf cs (.own "Ratio") (qAe 0)))) (fOr (qJi (fB (qAj (qDa cs) [] (qAc (qE1 "Ratio" "top" (qAe 0)) qAn)))) (qJi (fB (qAj (qDa cs) [] (qAc (qE1 "Ratio" "bottom" (qAe 0)) qAn)))))) (qEi (fC (.bl false))) qCg)
  (qEi (qSi (fOp oGe (qE1 "Ratio" "bottom" (qAe 0)) (fC (.int 1))) (fOp oEq (fOp qNe (qE1 "Ratio" "top" (qAe 0)) (qAe 2)) (fOp qNe (qAe 1) (qE1 "Ratio" "bottom" (qAe 0)))))))
theorem qWz {K : PySem.W.Frag} {cs : List Str} (T : KF K cs) (hRatio : ("Ratio" : Str) ∈ cs) : SS K Ta [] [] [] [] (fun _ => E0) (qI3 K cs) (qLk cs) :=
  (qAm (ow1 := []) (qDd (by decide) (qL9 (qC3 (qJ2 (qG5 (c := (.own "Ratio")) T.toKT (qAb (by decide))))) (qL9 (qC3 (qJ2 (qAg Lift.refl qAh (qAa (qBh (T.fld _ hRatio _ (by decide)) (qAb (by decide))) qAd)))) (qC3 (qJ2 (qAg Lift.refl qAh (qAa (qBh (T.fld _ hRatio _ (by decide)) (qAb (by decide))) qAd)))))) (qA5 (by decide) qM2) (qA6 (by decide)))
  (qA5 (by decide) (qWj (qAl (fun _ => qAf9) (qBh (T.fld _ hRatio _ (by decide)) (qAb (by decide))) qAi) (qAl (fun _ => qLd) (qAl (fun _ => qDb) (qBh (T.fld _ hRatio _ (by decide)) (qAb (by decide))) (qAb (by decide))) (qAl (fun _ => qDb) (qAb (by decide)) (qBh (T.fld _ hRatio _ (by decide)) (qAb (by decide))))))))
def qHf (K : PySem.W.Frag) (cs : List Str) : TS :=
  (tSeq (tIfS (tTest (tOp rEq (tOp (rIxL K) (tVar 0) (tC (.int 0))) (tC (.int 0)))) (tRet (tVar 1)) tNext)
  (tSeq (tIfS (tTest (tOp rEq (tOp (rIxL K) (tVar 1) (tC (.int 0))) (tC (.int 0)))) (tRet (tVar 0)) tNext)
  (tSeq (tIfS (tTest (tOp rEq (tOp (rIxL K) (tVar 0) (tC (.int 1))) (tOp (rIxL K) (tVar 1) (tC (.int 1))))) (tRet (tLst (tCons (tOp qEg (tOp (rIxL K) (tVar 0) (tC (.int 0))) (tOp (rIxL K) (tVar 1) (tC (.int 0)))) (tCons (tOp (rIxL K) (tVar 0) (tC (.int 1))) tNil)))) tNext)
  (tRet (tLst (tCons (tOp qEg (tOp qDv (tOp (rIxL K) (tVar 0) (tC (.int 0))) (tOp (rIxL K) (tVar 1) (tC (.int 1)))) (tOp qDv (tOp (rIxL K) (tVar 1) (tC (.int 0))) (tOp (rIxL K) (tVar 0) (tC (.int 1))))) (tCons (tOp qDv (tOp (rIxL K) (tVar 0) (tC (.int 1))) (tOp (rIxL K) (tVar 1) (tC (.int 1)))) tNil)))))))
def qI0 (cs : List Str) : FS :=
  (qB7 (qF1 (fB (fOp oEq (fOp qB6 (qAe 0) (fC (.int 0))) (fC (.int 0)))) (qEi (qAe 1)) qCg)
  (qB7 (qF1 (fB (fOp oEq (fOp qB6 (qAe 1) (fC (.int 0))) (fC (.int 0)))) (qEi (qAe 0)) qCg)
  (qB7 (qF1 (fB (fOp oEq (fOp qB6 (qAe 0) (fC (.int 1))) (fOp qB6 (qAe 1) (fC (.int 1))))) (qEi (qFx (qAc (fOp qLq (fOp qB6 (qAe 0) (fC (.int 0))) (fOp qB6 (qAe 1) (fC (.int 0)))) (qAc (fOp qB6 (qAe 0) (fC (.int 1))) qAn)))) qCg)
  (qEi (qFx (qAc (fOp qLq (fOp qNe (fOp qB6 (qAe 0) (fC (.int 0))) (fOp qB6 (qAe 1) (fC (.int 1)))) (fOp qNe (fOp qB6 (qAe 1) (fC (.int 0))) (fOp qB6 (qAe 0) (fC (.int 1))))) (qAc (fOp qNe (fOp qB6 (qAe 0) (fC (.int 1))) (fOp qB6 (qAe 1) (fC (.int 1)))) qAn)))))))
theorem qUj {K : PySem.W.Frag} {cs : List Str} (T : KF K cs) (hRatio : ("Ratio" : Str) ∈ cs) : SS K Ta [] [] [] [] (fun _ => E0) (qHf K cs) (qI0 cs) :=
  (qAm (ow1 := []) (qDd (by decide) (qCr (qAl (fun _ => qLd) (qAl (fun _ => qAq) (qAb (by decide)) qAi) qAi)) (qA5 (by decide) (qAb (by decide))) (qA6 (by decide)))
  (qAm (ow1 := []) (qDd (by decide) (qCr (qAl (fun _ => qLd) (qAl (fun _ => qAq) (qAb (by decide)) qAi) qAi)) (qA5 (by decide) (qAb (by decide))) (qA6 (by decide)))
  (qAm (ow1 := []) (qDd (by decide) (qCr (qAl (fun _ => qLd) (qAl (fun _ => qAq) (qAb (by decide)) qAi) (qAl (fun _ => qAq) (qAb (by decide)) qAi))) (qA5 (by decide) (qB8 (qAa (qAl (fun _ => qEe) (qAl (fun _ => qAq) (qAb (by decide)) qAi) (qAl (fun _ => qAq) (qAb (by decide)) qAi)) (qAa (qAl (fun _ => qAq) (qAb (by decide)) qAi) qAd)))) (qA6 (by decide)))
  (qA5 (by decide) (qB8 (qAa (qAl (fun _ => qEe) (qAl (fun _ => qDb) (qAl (fun _ => qAq) (qAb (by decide)) qAi) (qAl (fun _ => qAq) (qAb (by decide)) qAi)) (qAl (fun _ => qDb) (qAl (fun _ => qAq) (qAb (by decide)) qAi) (qAl (fun _ => qAq) (qAb (by decide)) qAi))) (qAa (qAl (fun _ => qDb) (qAl (fun _ => qAq) (qAb (by decide)) qAi) (qAl (fun _ => qAq) (qAb (by decide)) qAi)) qAd)))))))
def qFo (K : PySem.W.Frag) (cs : List Str) : TS :=
  (tRet (tLst (tCons (tOp qDv (tOp (rIxL K) (tVar 0) (tC (.int 0))) (tOp (rIxL K) (tVar 1) (tC (.int 0)))) (tCons (tOp qDv (tOp (rIxL K) (tVar 0) (tC (.int 1))) (tOp (rIxL K) (tVar 1) (tC (.int 1)))) tNil))))
def qGb (cs : List Str) : FS :=
  (qEi (qFx (qAc (fOp qNe (fOp qB6 (qAe 0) (fC (.int 0))) (fOp qB6 (qAe 1) (fC (.int 0)))) (qAc (fOp qNe (fOp qB6 (qAe 0) (fC (.int 1))) (fOp qB6 (qAe 1) (fC (.int 1)))) qAn))))
theorem qQj {K : PySem.W.Frag} {cs : List Str} (T : KF K cs) (hRatio : ("Ratio" : Str) ∈ cs) : SS K Ta [] [] [] [] (fun _ => E0) (qFo K cs) (qGb cs) :=
  (qA5 (by decide) (qB8 (qAa (qAl (fun _ => qDb) (qAl (fun _ => qAq) (qAb (by decide)) qAi) (qAl (fun _ => qAq) (qAb (by decide)) qAi)) (qAa (qAl (fun _ => qDb) (qAl (fun _ => qAq) (qAb (by decide)) qAi) (qAl (fun _ => qAq) (qAb (by decide)) qAi)) qAd))))
def qEv (K : PySem.W.Frag) (cs : List Str) : TS :=
  (tRet (tLc (iList K (tVar 0)) (gName 1) tYes (tMake (He.ga K "Ratio") (qCe K) [] E0 (tCons (tOp (rIxL K) (tVar 1) (tC (.int 0))) (tCons (tOp (rIxL K) (tVar 1) (tC (.int 1))) tNil))) [1]))
def qFj (cs : List Str) : FS :=
  (qEi (fLc (qVh (qAe 0)) (qA1 1) qI4 (qAj qU8 [] (qAc (fOp qB6 (qAe 1) (fC (.int 0))) (qAc (fOp qB6 (qAe 1) (fC (.int 1))) qAn))) [1]))
theorem qOo {K : PySem.W.Frag} {cs : List Str} (T : KF K cs) (hRatio : ("Ratio" : Str) ∈ cs) : SS K Ta [] [] [] [] (fun _ => E0) (qEv K cs) (qFj cs) :=
  (qA5 (by decide) (SF.se (qKu (by decide) (by decide) (qIx (qAb (by decide))) (qBf (by decide)) qF5 (qDj qMc qAh (qAa (qAl (fun _ => qAq) (qAb (by decide)) qAi) (qAa (qAl (fun _ => qAq) (qAb (by decide)) qAi) qAd))))))
theorem qIz {cs : List Str} (hR : ("Ratio" : Str) ∈ cs) (ds : List D) (P : D → Prop) (X : XP) (h : qDa cs ds P X) : qDf cs (qHq P X0) (qBu 1 ds) := by
  obtain ⟨d, b, rfl, hb, p⟩ := h
  simp_arith [qDf]
  unfold intD at hb
  cases h1 : isD cs (.ty "int") d with
  | none => rw [h1] at hb; cases hb
  | some k =>
    rw [h1] at hb
    refine ⟨k, rfl, ?_⟩
    cases k with
    | false => cases hb; exact p
    | true =>
      cases h2 : isD cs (.ty "bool") d with
      | none => rw [h2] at hb; cases hb
      | some k2 =>
        rw [h2] at hb
        have : (!k2) = b := Option.some.inj hb
        subst this
        exact ⟨k2, rfl, p⟩
theorem qD5 {z : Int} {P : D → Prop} {X : XP} (h0 : 0 < z) (h9 : Sml z) (h : ∀ d : Int, 0 ≤ d → d < z → P (.int d)) : qCj [.feed, .int z] P X := ⟨z, rfl, h0, h9, h⟩
theorem qV8 {z : Int} {P : D → Prop} {X : XP} (h0 : 0 < z) (h9 : Sml z) (h : ∀ d : Int, -z < d → d < z → P (.int d)) : qFt [.feed, .int z] P X := ⟨z, rfl, h0, h9, h⟩
theorem qN2 {cs : List Str} (hR : ("Ratio" : Str) ∈ cs) (ds : List D) (P : D → Prop) (X : XP) (h : qFt ds P X) : qFd cs (qHq P X0) (qBu 3 ds) := by
  obtain ⟨z, rfl, z0, z9, p⟩ := h
  simp_arith [qFd]
  refine qD5 (by decide) (by decide) fun d d0 d1 => ?_
  simp_arith []
  refine ⟨qOi (by decide), ?_⟩
  refine qD5 z0 z9 fun e e0 e1 => ?_
  simp_arith []
  refine ⟨qOi (by omega), ?_⟩
  have : d = 0 ∨ d = 1 := by omega
  rcases this with rfl | rfl
  · have := p e (by omega) e1
    rw [show (1 - 2 * 0 : Int) * e = e by omega]
    exact this
  · have := p (-e) (by omega) (by omega)
    rw [show (1 - 2 * 1 : Int) * e = -e by omega]
    exact this
theorem qXv {q : Rat} {a b : Int} (hb : b ≠ 0) : q.num * b = a * (q.den : Nat) ↔ q = Rat.divInt a b := by
  have h1 : Rat.divInt q.num (q.den : Nat) = Rat.divInt a b ↔ q.num * b = a * (q.den : Nat) := Rat.divInt_eq_divInt_iff (d_ne q) hb
  rw [Rat.num_divInt_den] at h1
  exact h1.symm
theorem qWl {cs : List Str} (hR : ("Ratio" : Str) ∈ cs) (ds : List D) (P : D → Prop) (X : XP) (h : fIs ds P X) : qLk cs (qHq P X0) (qBu 3 ds) := by
  obtain ⟨q, a, b, n, m, rfl, hb, hq, ha, hb2, hs, p⟩ := h
  have d1 : decide ((1 : Int) ≤ ((q.den : Nat) : Int)) = true := decide_eq_true (by have := q.den_nz; omega)
  simp_arith [qLk, qE8 hR, qCu, qGe, qHm, Bool.not_true, d1]
  have m0 : 0 < m := by
    rcases Nat.eq_zero_or_pos m with e | e
    · subst e; omega
    · exact e
  refine ⟨qUh hq.num hb2 hq.pos m0 (by omega), qUh ha (dsz hq) m0 hq.pos (by omega), ?_⟩
  rw [decide_eq_decide.mpr (qXv hb)]
  exact p
theorem ix0 {a b : D} {P : D → Prop} {X : XP} : oIx (.lst [a, b]) (.int 0) P X ↔ P a := by
  constructor
  · rintro ⟨ds, n, d, h, hn, ha, p⟩
    cases hn
    rcases h with h | h <;> cases h
    cases ha; exact p
  · exact fun p => ⟨_, _, a, .inl rfl, rfl, rfl, p⟩
theorem ix1 {a b : D} {P : D → Prop} {X : XP} : oIx (.lst [a, b]) (.int 1) P X ↔ P b := by
  constructor
  · rintro ⟨ds, n, d, h, hn, ha, p⟩
    cases hn
    rcases h with h | h <;> cases h
    cases ha; exact p
  · exact fun p => ⟨_, _, b, .inl rfl, rfl, rfl, p⟩
theorem qKv {i j : Int} {n m : Nat} (hi : i.natAbs < 2 ^ n) (hj : j.natAbs < 2 ^ m) (hs : n + m ≤ 900000) : IntMulOk i j := by
  refine qUh (a := n + 1) (b := m + 1) (Nat.lt_of_lt_of_le hi (Nat.pow_le_pow_right (by decide) (by omega))) (Nat.lt_of_lt_of_le hj (Nat.pow_le_pow_right (by decide) (by omega))) (by omega) (by omega) (by omega)
theorem qUy {cs : List Str} (hR : ("Ratio" : Str) ∈ cs) (ds : List D) (P : D → Prop) (X : XP) (h : qOn ds P X) : qI0 cs (qHq P X0) (qBu 2 ds) := by
  obtain ⟨⟨a, b⟩, ⟨c, d⟩, n, m, rfl, h1, h2, hs, p⟩ := h
  simp_arith [qI0, ix0, ix1]
  unfold qVi at p
  dsimp only at p
  by_cases e1 : a = 0
  · rw [if_pos e1] at p
    rw [decide_eq_true e1, if_pos rfl]
    exact p
  · rw [if_neg e1] at p
    rw [decide_eq_false e1, if_neg (by decide)]
    by_cases e2 : c = 0
    · rw [if_pos e2] at p
      rw [decide_eq_true e2, if_pos rfl]
      exact p
    · rw [if_neg e2] at p
      rw [decide_eq_false e2, if_neg (by decide)]
      by_cases e3 : b = d
      · rw [if_pos e3] at p
        rw [decide_eq_true e3, if_pos rfl]
        exact ⟨by decide, p⟩
      · rw [if_neg e3] at p
        rw [decide_eq_false e3, if_neg (by decide)]
        exact ⟨qKv h1.a h2.b hs, qKv h2.a h1.b (by omega), qKv h1.b h2.b hs, by decide, p⟩
theorem qPh {cs : List Str} (hR : ("Ratio" : Str) ∈ cs) (ds : List D) (P : D → Prop) (X : XP) (h : qFm ds P X) : qGb cs (qHq P X0) (qBu 2 ds) := by
  obtain ⟨⟨a, b⟩, ⟨c, d⟩, n, m, rfl, h1, h2, hs, p⟩ := h
  simp_arith [qGb, ix0, ix1]
  exact ⟨qKv h1.a h2.a hs, qKv h1.b h2.b hs, by decide, p⟩
def ofPr (d : D) : D := match d with
  | .lst [.int a, .int b] => .rat (Rat.divInt a b)
  | e => e
theorem qNl {cs : List Str} (hR : ("Ratio" : Str) ∈ cs) (ds : List D) (P : D → Prop) (X : XP) (h : qCk ds P X) : qFj cs (qHq P X0) (qBu 2 ds) := by
  obtain ⟨ps, n, rfl, h1, hn, hl, p⟩ := h
  simp_arith [qFj, fLc]
  refine qJd ofPr _ [] (fun d hd Q q => ?_) ?_ ?_
  · obtain ⟨⟨a, b⟩, hp, rfl⟩ := List.mem_map.mp hd
    have s := h1 _ hp
    simp only [qFz]
    simp_arith [ix0, ix1, mk_R]
    exact ⟨Int.ne_of_gt s.pos, trivial, q⟩
  · simp only [prL, List.length_map, List.length_nil]
    exact qAo (by omega)
  · have e : (prL ps).map ofPr = qCl (ps.map qB0) := by
      unfold prL qCl
      rw [List.map_map, List.map_map]
      rfl
    rw [List.nil_append, e]
    exact p
theorem qHc {ps : List (Int × Int)} {k : Nat} {p : Int × Int} (h : ps[k]? = some p) : (prL ps)[k]? = some (prD p) := by
  unfold prL
  rw [List.getElem?_map, h]
  rfl
theorem qIr (ps : List (Int × Int)) : (prL ps).length = ps.length := List.length_map ..
/-- a list of three ints, one of them -/
theorem ix3 {a b c : Int} {k : Int} {P : D → Prop} {X : XP} (h0 : 0 ≤ k) (h3 : k < 3) (p : ∀ z, z = a ∨ z = b ∨ z = c → P (.int z)) : oIx (.lst [.int a, .int b, .int c]) (.int k) P X := by
  have : k = 0 ∨ k = 1 ∨ k = 2 := by omega
  rcases this with rfl | rfl | rfl
  · exact ⟨_, _, _, .inl rfl, rfl, rfl, p _ (.inl rfl)⟩
  · exact ⟨_, _, _, .inl rfl, rfl, rfl, p _ (.inr (.inl rfl))⟩
  · exact ⟨_, _, _, .inl rfl, rfl, rfl, p _ (.inr (.inr rfl))⟩
theorem p2 {a : Int} {n : Nat} (h : a.natAbs < 2 ^ n) (hn : n ≤ 900000) : Sml a := trivial
theorem qTe {p : Int × Int} (h : 0 < p.2) : qB0 p = 0 ↔ p.1 = 0 := by
  unfold qB0
  have e : Rat.divInt p.1 p.2 = Rat.divInt 0 1 ↔ p.1 * 1 = 0 * p.2 := Rat.divInt_eq_divInt_iff (by omega) (by decide)
  have z : Rat.divInt 0 1 = 0 := by decide
  rw [z, Int.mul_one, Int.zero_mul] at e
  exact e
theorem qTd {b : Int} (h : 0 < b) : ((b : Int) : Rat) ≠ 0 := fun z => by
  have := Rat.intCast_eq_zero_iff.mp z
  omega
theorem qAa9 {p q : Int × Int} (hp : 0 < p.2) (hq : 0 < q.2) : qB0 (qVi p q) = qB0 p + qB0 q := by
  unfold qVi
  split
  · rename_i h
    rw [(qTe hp).mpr h, Rat.zero_add]
  · split
    · rename_i h
      rw [(qTe hq).mpr h, Rat.add_zero]
    · have h1 := qTd hp
      have h2 := qTd hq
      split
      · rename_i h
        unfold qB0
        dsimp only
        rw [Rat.divInt_eq_div, Rat.divInt_eq_div, Rat.divInt_eq_div, Rat.intCast_add, ← h]
        grind
      · unfold qB0
        dsimp only
        rw [Rat.divInt_eq_div, Rat.divInt_eq_div, Rat.divInt_eq_div, Rat.intCast_add, Rat.intCast_mul, Rat.intCast_mul, Rat.intCast_mul]
        grind
theorem qAcn {p q : Int × Int} (hp : 0 < p.2) (hq : 0 < q.2) : qB0 (qOz p q) = qB0 p * qB0 q := by
  have h1 := qTd hp
  have h2 := qTd hq
  unfold qB0 qOz
  dsimp only
  rw [Rat.divInt_eq_div, Rat.divInt_eq_div, Rat.divInt_eq_div, Rat.intCast_mul, Rat.intCast_mul]
  grind
theorem SzP.mono {n m : Nat} {p : Int × Int} (h : SzP n p) (hn : n ≤ m) : SzP m p := ⟨Nat.lt_of_lt_of_le h.a (Nat.pow_le_pow_right (by decide) hn), Nat.lt_of_lt_of_le h.b (Nat.pow_le_pow_right (by decide) hn), h.pos⟩
theorem qLn {i j : Int} {n m : Nat} (h1 : i.natAbs < 2 ^ n) (h2 : j.natAbs < 2 ^ m) : (i * j).natAbs < 2 ^ (n + m) := by
  rw [Int.natAbs_mul]
  exact qIn h1 h2
theorem qAbw {n m : Nat} {p q : Int × Int} (h1 : SzP n p) (h2 : SzP m q) : SzP (n + m) (qOz p q) := ⟨qLn h1.a h2.a, qLn h1.b h2.b, Int.mul_pos h1.pos h2.pos⟩
theorem qAcb {n : Nat} {p : Int × Int} (h : SzP n p) : Sz n (qB0 p) := qQg (Int.ne_of_gt h.pos) h.a h.b
theorem qYl {ps : List (Int × Int)} {k : Nat} {p : Int × Int} (h : ps[k]? = some p) : coef (ps.map qB0) k = qB0 p := qP0 (by rw [List.getElem?_map, h]; rfl)
theorem qAbn {ps : List (Int × Int)} {n : Nat} (h : ∀ p, p ∈ ps → SzP n p) : SzL n (ps.map qB0) := fun c hc => by
  obtain ⟨p, hp, rfl⟩ := List.mem_map.mp hc
  exact qAcb (h p hp)
theorem qWq {n : Nat} {cs : List Rat} (h : SzL n cs) : SzL n (strip cs) := fun c hc => h c (List.mem_of_mem_take hc)
theorem qAbb {q : Rat} {a b : Int} {n m : Nat} {P : D → Prop} {X : XP} (hb : b ≠ 0) (hq : Sz n q) (ha : a.natAbs < 2 ^ m) (hb2 : b.natAbs < 2 ^ m) (hs : n + m ≤ 1000000) (e : q = Rat.divInt a b) (p : P (.bl true)) : fIs [.rat q, .int a, .int b] P X := ⟨q, a, b, n, m, rfl, hb, hq, ha, hb2, hs, by rw [decide_eq_true e]; exact p⟩
theorem qHn {K : PySem.W.Frag} {cs : List Str} (vs : List V) (H : Hp) (Q : VK) (E : XK) (h : (lift K (qDa cs)) vs H Q E) : vs.length = 1 := qBd (fun ds P X h => by unfold qDa at h; first | ((repeat (first | (obtain ⟨rfl, _⟩ := h; exact rfl) | obtain ⟨_, h⟩ := h)); done) | (split at h <;> first | rfl | exact h.elim)) h
theorem qIj {K : PySem.W.Frag} {cs : List Str} (T : KF K cs) (hRatio : ("Ratio" : Str) ∈ cs) (vs : List V) (H : Hp) (Q : VK) (E : XK) (h : (lift K (qDa cs)) vs H Q E) : qC5 K cs { nx := fun _ H' => Q .non H', rt := Q } (start ["_law_value"] vs) H :=
  qDo rfl (qIu T hRatio) (qIz hRatio) vs H Q E h
theorem qKd {K : PySem.W.Frag} {cs : List Str} (vs : List V) (H : Hp) (Q : VK) (E : XK) (h : (lift K qFt) vs H Q E) : vs.length = 2 := qBd (fun ds P X h => by unfold qFt at h; first | ((repeat (first | (obtain ⟨rfl, _⟩ := h; exact rfl) | obtain ⟨_, h⟩ := h)); done) | (split at h <;> first | rfl | exact h.elim)) h
theorem qMa {K : PySem.W.Frag} {cs : List Str} (T : KF K cs) (hRatio : ("Ratio" : Str) ∈ cs) (vs : List V) (H : Hp) (Q : VK) (E : XK) (h : (lift K qFt) vs H Q E) : qEu K cs { nx := fun _ H' => Q .non H', rt := Q } (start ["_law_feed_here", "_law_size", "_law_sign"] vs) H :=
  qDo rfl (qNr T hRatio) (qN2 hRatio) vs H Q E h
theorem qRn {K : PySem.W.Frag} {cs : List Str} (vs : List V) (H : Hp) (Q : VK) (E : XK) (h : (lift K fIs) vs H Q E) : vs.length = 3 := qBd (fun ds P X h => by unfold fIs at h; first | ((repeat (first | (obtain ⟨rfl, _⟩ := h; exact rfl) | obtain ⟨_, h⟩ := h)); done) | (split at h <;> first | rfl | exact h.elim)) h
theorem qUs {K : PySem.W.Frag} {cs : List Str} (T : KF K cs) (hRatio : ("Ratio" : Str) ∈ cs) (vs : List V) (H : Hp) (Q : VK) (E : XK) (h : (lift K fIs) vs H Q E) : qI3 K cs { nx := fun _ H' => Q .non H', rt := Q } (start ["_law_value", "_law_top", "_law_bottom"] vs) H :=
  qDo rfl (qWz T hRatio) (qWl hRatio) vs H Q E h
theorem qO2 {K : PySem.W.Frag} {cs : List Str} (vs : List V) (H : Hp) (Q : VK) (E : XK) (h : (lift K qOn) vs H Q E) : vs.length = 2 := qBd (fun ds P X h => by unfold qOn at h; first | ((repeat (first | (obtain ⟨rfl, _⟩ := h; exact rfl) | obtain ⟨_, h⟩ := h)); done) | (split at h <;> first | rfl | exact h.elim)) h
theorem qSs {K : PySem.W.Frag} {cs : List Str} (T : KF K cs) (hRatio : ("Ratio" : Str) ∈ cs) (vs : List V) (H : Hp) (Q : VK) (E : XK) (h : (lift K qOn) vs H Q E) : qHf K cs { nx := fun _ H' => Q .non H', rt := Q } (start ["_law_a", "_law_b"] vs) H :=
  qDo rfl (qUj T hRatio) (qUy hRatio) vs H Q E h
theorem qMb {K : PySem.W.Frag} {cs : List Str} (vs : List V) (H : Hp) (Q : VK) (E : XK) (h : (lift K qFm) vs H Q E) : vs.length = 2 := qBd (fun ds P X h => by unfold qFm at h; first | ((repeat (first | (obtain ⟨rfl, _⟩ := h; exact rfl) | obtain ⟨_, h⟩ := h)); done) | (split at h <;> first | rfl | exact h.elim)) h
theorem qN0 {K : PySem.W.Frag} {cs : List Str} (T : KF K cs) (hRatio : ("Ratio" : Str) ∈ cs) (vs : List V) (H : Hp) (Q : VK) (E : XK) (h : (lift K qFm) vs H Q E) : qFo K cs { nx := fun _ H' => Q .non H', rt := Q } (start ["_law_a", "_law_b"] vs) H :=
  qDo rfl (qQj T hRatio) (qPh hRatio) vs H Q E h
theorem qLa {K : PySem.W.Frag} {cs : List Str} (vs : List V) (H : Hp) (Q : VK) (E : XK) (h : (lift K qCk) vs H Q E) : vs.length = 1 := qBd (fun ds P X h => by unfold qCk at h; first | ((repeat (first | (obtain ⟨rfl, _⟩ := h; exact rfl) | obtain ⟨_, h⟩ := h)); done) | (split at h <;> first | rfl | exact h.elim)) h
theorem qL5 {K : PySem.W.Frag} {cs : List Str} (T : KF K cs) (hRatio : ("Ratio" : Str) ∈ cs) (vs : List V) (H : Hp) (Q : VK) (E : XK) (h : (lift K qCk) vs H Q E) : qEv K cs { nx := fun _ H' => Q .non H', rt := Q } (start ["_law_pairs", "_law_pair"] vs) H :=
  qDo rfl (qOo T hRatio) (qNl hRatio) vs H Q E h
end MR

set_option Elab.async false
set_option linter.all false
set_option maxRecDepth 100000
set_option maxHeartbeats 4000000
set_option exponentiation.threshold 20000
namespace MR
open PySem PySem.Spec PyProof.Rows L2
/-- what a lot of the law holds -/
structure LotOk (n : Nat) (xs ws : List Int) (b c : Int) : Prop where
  l : xs.length = ws.length
  l1 : xs.length ≤ 100
  x : ∀ x, x ∈ xs → x.natAbs < 2 ^ 70
  w : ∀ w, w ∈ ws → w.natAbs < 2 ^ n
  b0 : 0 < b
  b1 : b.natAbs < 2 ^ 6
  c0 : 0 < c
  c1 : c.natAbs < 2 ^ n
/-- a drawn lot -/
structure LotS (k : Int) (xs ws : List Int) (b c : Int) : Prop extends LotOk 28 xs ws b c where
  sx : ∀ x, x ∈ xs → x.natAbs < 2 ^ 34
  sb : b ≤ 5
  sc : c ≤ 9
  sl : (xs.length : Int) ≤ k
def powL (ws xs : List Int) (k : Nat) : List Int := (List.range xs.length).map fun i => ws.getD i 0 * xs.getD i 0 ^ k
def qAfl (xs ws : List Int) (b c : Int) (k : Nat) : Int × Int := ((powL ws xs k).sum, c * b ^ k)
/-! ### a lot is drawn -/
/-! ### the numbers of a lot -/
theorem qZ0 {n : Nat} : ∀ {xs : List Int}, (∀ x, x ∈ xs → x.natAbs < 2 ^ n) → xs.sum.natAbs ≤ xs.length * 2 ^ n
  | [], _ => by simp
  | x :: xs, h => by
    have h1 := h x (List.mem_cons_self ..)
    have h2 := qZ0 fun y hy => h y (List.mem_cons_of_mem _ hy)
    rw [List.sum_cons, List.length_cons, Nat.add_mul, Nat.one_mul]
    omega
theorem qP1 {xs : List Int} {i : Nat} (h : i < xs.length) : xs.getD i 0 ∈ xs := by
  rw [List.getD_eq_getElem?_getD, List.getElem?_eq_getElem h]
  exact List.getElem_mem h
theorem qXf {x : Int} {m : Nat} (h : x.natAbs < 2 ^ m) : ∀ k, (x ^ k).natAbs < 2 ^ (m * k + 1)
  | 0 => by simp
  | k + 1 => by
    rw [Int.pow_succ]
    have := qLn (qXf h k) h
    exact Nat.lt_of_lt_of_le this (Nat.pow_le_pow_right (by decide) (by rw [Nat.mul_add]; omega))
theorem qX9 (ws xs : List Int) (k : Nat) : (powL ws xs k).length = xs.length := by simp [powL]
section
variable {n : Nat} {xs ws : List Int} {b c : Int}
theorem LotOk.pw (h : LotOk n xs ws b c) (k : Nat) (x : Int) (hx : x ∈ powL ws xs k) : x.natAbs < 2 ^ (n + (70 * k + 1)) := by
  unfold powL at hx
  obtain ⟨i, hi, rfl⟩ := List.mem_map.mp hx
  have hi' := List.mem_range.mp hi
  exact qLn (h.w _ (qP1 (by rw [← h.l]; exact hi'))) (qXf (h.x _ (qP1 hi')) k)
theorem LotOk.bt (h : LotOk n xs ws b c) (k : Nat) : (c * b ^ k).natAbs < 2 ^ (n + (6 * k + 1)) := qLn h.c1 (qXf (m := 6) h.b1 k)
theorem LotOk.num (h : LotOk n xs ws b c) {k : Nat} (hk : k ≤ 12) : SzP (n + 848) (qAfl xs ws b c k) := by
  have s := qZ0 (h.pw k)
  have p0 : 2 ^ (n + (70 * k + 1)) ≤ 2 ^ (n + 841) := Nat.pow_le_pow_right (by decide) (by omega)
  have l1 := h.l1
  refine ⟨?_, ?_, ?_⟩
  · show (powL ws xs k).sum.natAbs < _
    rw [qX9] at s
    have : xs.length * 2 ^ (n + (70 * k + 1)) ≤ 100 * 2 ^ (n + 841) := Nat.mul_le_mul l1 p0
    have e : 2 ^ (n + 848) = 128 * 2 ^ (n + 841) := by rw [show n + 848 = 7 + (n + 841) by omega, Nat.pow_add]
    have pos : 0 < 2 ^ (n + 841) := Nat.pow_pos (by decide)
    omega
  · exact Nat.lt_of_lt_of_le (h.bt k) (Nat.pow_le_pow_right (by decide) (by omega))
  · exact Int.mul_pos h.c0 (Int.pow_pos h.b0)
end
end MR

set_option Elab.async false
set_option linter.all false
set_option maxRecDepth 100000
set_option maxHeartbeats 4000000
/-! MR: == of two tuples, the answer either -/
namespace MR
namespace TQ
open PySem PySem.SeqAt GQ
open AutoSeq1 (wpAny_loadPart')
open MeetsSeq MeetsSeq2 MeetsSeq3 SeqRoads2
section
variable {prog : Program} {w : World} {A : Around} {R : Result → Shared → Prop}
end
end TQ
end MR
namespace MR
open PySem PySem.Spec PyProof.Rows L2
section
variable {X : Cx} {k : Nat} {E : XK}
/-- a tuple's items are these Ratios -/
def Rts (K : PySem.W.Frag) (H : Hp) (xs : List V) (qs : List Rat) : Prop := xs.length = qs.length ∧ ∀ (i : Nat) x q, xs[i]? = some x → qs[i]? = some q → ∃ p, x = .ref p ∧ IsRat K H p q
theorem Rts.ext {K : PySem.W.Frag} {H H' : Hp} {xs : List V} {qs : List Rat} (h : Rts K H xs qs) (e : Ext H H') : Rts K H' xs qs := ⟨h.1, fun i x q h1 h2 => let ⟨p, hx, dx, z⟩ := h.2 i x q h1 h2; ⟨p, hx, dx, e _ _ z⟩⟩
end
end MR

set_option Elab.async false
set_option linter.all false
set_option maxRecDepth 100000
set_option maxHeartbeats 4000000
/-! MR: lambdas, with all that stays told -/
namespace MR
open PySem PySem.Spec PyProof.Rows L2 LamX
section
variable {X : Cx} {pins : List (Addr × Obj)} {σ : L2.St} {H : Hp} {s : Shared}
end
end MR

set_option Elab.async false
set_option linter.all false
set_option maxRecDepth 100000
set_option maxHeartbeats 4000000
/-! FL: lambdas handed to a def of the law -/
namespace MR
open PySem PySem.Spec PyProof.Rows L2 LamX
section
variable {K : PySem.W.Frag} {Ta : List (Addr × Str)} {w : Wd} {ow : List Nat} {H H1 : Hp} {σ : L2.St} {ρ : Env} {E : L2.St → XK}
/-! ### a def that catches, whose suite asks only of which class the error is -/
end
end MR

set_option Elab.async false
set_option linter.all false
set_option maxRecDepth 100000
set_option maxHeartbeats 4000000
/-! FL: operators of two own classes; new objects that a def hands back; a def that catches -/
namespace MR
open PySem PySem.Spec PyProof.Rows L2 LamX
section
variable {K : PySem.W.Frag} {E1 : XK} {F : Fd} {M : Addr → Prop} {H : Hp}
end
section
variable {P : D → Prop} {X : XP} {fsp : FSp} {cs es : List Rat} {q : Rat} {n : Int}
end
/-! ### new objects -/
section
variable {K : PySem.W.Frag} {Ta : List (Addr × Str)} {w : Wd} {ow ow' ow1 owb owx : List Nat} {H H' : Hp} {σ : L2.St} {ρ : Env} {E : L2.St → XK} {N : L2.Ends} {FD : FEnds} {F : Fd} {M : Addr → Prop}
end
/-! ### a def that asks of which class the error is -/
end MR

set_option Elab.async false
set_option linter.all false
set_option maxRecDepth 100000
set_option maxHeartbeats 4000000
/-! FL: an operator that declines; the reflected one -/
namespace MR
open PySem PySem.Spec PyProof.Rows L2 LamX
section
variable {K : PySem.W.Frag} {E1 : XK} {F : Fd} {M : Addr → Prop} {H : Hp}
end
section
variable {P : D → Prop} {X : XP} {fni fr : FSp} {cs : List Rat} {q : Rat} {n : Int}
end
end MR

set_option Elab.async false
set_option linter.all false
set_option maxRecDepth 100000
set_option maxHeartbeats 4000000
/-! FL: in, == of what may be None, C(word=..) -/
namespace MR
open PySem PySem.Spec PyProof.Rows L2 LamX
section
variable {K : PySem.W.Frag} {Ta : List (Addr × Str)} {ow : List Nat} {E : L2.St → XK} {E1 : XK} {F : Fd} {M : Addr → Prop} {H : Hp}
end
end MR

set_option Elab.async false
set_option linter.all false
set_option maxRecDepth 100000
set_option maxHeartbeats 4000000
/-! FL: == of two tuples of Ratios, either answer -/
namespace MR
open PySem PySem.Spec PyProof.Rows L2 LamX
section
variable {K : PySem.W.Frag} {E1 : XK}
/-! ### lists that + and * make -/
end
end MR

set_option Elab.async false
set_option linter.all false
set_option maxRecDepth 100000
set_option maxHeartbeats 4000000
/-! MR: != of two lists whose items are equal -/
namespace MR
namespace TQ
open PySem PySem.SeqAt GQ
open AutoSeq1 (wpAny_loadPart')
open MeetsSeq MeetsSeq2 MeetsSeq3 SeqRoads2
section
variable {prog : Program} {w : World} {A : Around} {R : Result → Shared → Prop}
end
/-! ### lists compared, the answer either -/
section
variable {prog : Program} {w : World} {A : Around} {R : Result → Shared → Prop}
end
end TQ
open PySem PySem.Spec PyProof.Rows L2
section
variable {X : Cx} {k : Nat} {E : XK}
/-- two numbers inside a list: both ints, or both Ratios -/
def NumQ (K : PySem.W.Frag) (H : Hp) (x y : V) (b : Bool) : Prop :=
  (∃ i j : Int, x = .int i ∧ y = .int j ∧ b = decide (i = j)) ∨ ∃ p q a c, x = .ref p ∧ y = .ref q ∧ IsRat K H p a ∧ IsRat K H q c ∧ qPv a c ∧ b = decide (a = c)
theorem NumQ.ext {K : PySem.W.Frag} {H H' : Hp} {x y : V} {b : Bool} (h : NumQ K H x y b) (e : Ext H H') : NumQ K H' x y b := by
  rcases h with h | ⟨p, q, a, c, h1, h2, ⟨dx, h3⟩, ⟨dy, h4⟩, h5⟩
  · exact .inl h
  · exact .inr ⟨p, q, a, c, h1, h2, ⟨dx, e _ _ h3⟩, ⟨dy, e _ _ h4⟩, h5⟩
end
end MR

set_option Elab.async false
set_option linter.all false
set_option maxRecDepth 100000
set_option maxHeartbeats 4000000
/-! FL: == and != of two lists of numbers; {}; tuples joined and cut -/
namespace MR
open PySem PySem.Spec PyProof.Rows L2 LamX
section
variable {K : PySem.W.Frag} {E1 : XK} {F : Fd} {M : Addr → Prop} {H : Hp}
/-- two numbers: is the one the other, if they are of one kind and small -/
inductive NumE : D → D → Bool → Prop where
  | int (i j : Int) : NumE (.int i) (.int j) (decide (i = j))
  | rat (a c : Rat) (h : qPv a c) : NumE (.rat a) (.rat c) (decide (a = c))
/-! ### {} -/
/-! ### t + u -/
/-! ### x != y by the class's own == -/
/-! ### one of two ways -/
end
end MR

set_option Elab.async false
set_option linter.all false
set_option maxRecDepth 100000
set_option maxHeartbeats 4000000
/-! FL: calls of instances, xs[::-1] -/
namespace MR
open PySem PySem.Spec PyProof.Rows L2
section
variable {K : PySem.W.Frag} {Ta : List (Addr × Str)} {ow : List Nat} {E : L2.St → XK} {E1 : XK}
theorem Reps.reverse {F : Fd} {M : Addr → Prop} {H : Hp} : ∀ {ds : List D} {vs : List V}, Reps K F M H ds vs → Reps K F M H ds.reverse vs.reverse
  | [], _, h => by rw [show _ = [] from h]; exact rfl
  | d :: ds, _, h => by
    obtain ⟨v, us, rfl, h1, h2⟩ := h
    rw [List.reverse_cons, List.reverse_cons]
    exact (Reps.reverse h2).append (.one h1)
end
section
variable {P : D → Prop} {X : XP} {fsp : FSp} {ρ : Env}
end
end MR

set_option Elab.async false
set_option linter.all false
set_option maxRecDepth 100000
set_option maxHeartbeats 4000000
/-! MR: calls of methods inside try, by words; xs[::k] -/
namespace MR
open PySem PySem.Spec PyProof.Rows L2
section
variable {X : Cx} {k : Nat} {C : Addr} {sp : Sp} {dvs : List V} {x m : Str} {p pos apos : Pos} {e o : Expr} {es : List Expr} {ta : TE} {t : TA}
end
end MR

set_option Elab.async false
set_option linter.all false
set_option maxRecDepth 100000
set_option maxHeartbeats 4000000
/-! FL: methods inside try, by words, that hand back new lists; xs[::k]; an int in a list -/
namespace MR
open PySem PySem.Spec PyProof.Rows L2 LamX
section
variable {K : PySem.W.Frag} {Ta : List (Addr × Str)} {ow : List Nat} {E : L2.St → XK} {E1 : XK} {C m : Str} {sp : Sp} {fsp : FSp} {to : TE} {ta tk : TA} {fo : FE} {fa fk : FA}
end
end MR

set_option Elab.async false
set_option linter.all false
set_option maxRecDepth 100000
set_option maxHeartbeats 4000000
/-! FL: == and != of plain data; the script's cells; not in; any -/
namespace MR
open PySem PySem.Spec PyProof.Rows L2 LamX
section
variable {K : PySem.W.Frag} {E1 : XK} {F : Fd} {M : Addr → Prop} {H : Hp}
/-! ### the script -/
/-! ### not in -/
/-! ### any -/
/-! ### C(x, word=..) -/
end
section
variable {X : Cx} {k n : Nat} {C : Addr} {sp : Sp} {E : XK} {x : Str} {p pos : Pos} {e : Expr} {es : List Expr} {t : TA}
end
end MR

set_option Elab.async false
set_option linter.all false
set_option maxRecDepth 100000
set_option maxHeartbeats 4000000
set_option exponentiation.threshold 20000
namespace MR
open PySem PySem.Spec PyProof.Rows L2
/-! ### pairs: products and sums of rows -/
def qOy (ps : List (Int × Int)) (k : Nat) : Int × Int := ps.getD k (0, 1)
theorem qDw {ps : List (Int × Int)} {k : Nat} (h : k < ps.length) : ps[k]? = some (qOy ps k) := by
  unfold qOy
  rw [List.getD_eq_getElem?_getD, List.getElem?_eq_getElem h]
  rfl
theorem qDh {ps : List (Int × Int)} {k : Nat} (h : k < ps.length) : qOy ps k ∈ ps := List.mem_of_getElem? (qDw h)
theorem qF2 {ps : List (Int × Int)} {k : Nat} (h : k < ps.length) : coef (ps.map qB0) k = qB0 (qOy ps k) := qYl (qDw h)
/-- the cell k when i rows are done -/
def prC (ps qs : List (Int × Int)) : Nat → Nat → Int × Int
  | 0, _ => (0, 1)
  | i + 1, k => if i ≤ k ∧ k < i + qs.length then qVi (prC ps qs i k) (qOz (qOy ps i) (qOy qs (k - i))) else prC ps qs i k
def qO0 (ps qs : List (Int × Int)) (i j k : Nat) : Int × Int := if i ≤ k ∧ k < i + j then qVi (prC ps qs i k) (qOz (qOy ps i) (qOy qs (k - i))) else prC ps qs i k
def qDp (ps qs : List (Int × Int)) : List (Int × Int) := if ps.length = 0 ∨ qs.length = 0 then [] else (List.range (ps.length + qs.length - 1)).map fun k => prC ps qs ps.length k
/-- sizes that a sum of products goes through -/
structure SumS (ps qs : List (Int × Int)) (S : Nat → Int × Int → Prop) : Prop where
  zero : S 0 (0, 1)
  mono : ∀ c r, S c r → S (c + 1) r
  step : ∀ c r p q, c < qs.length → S c r → p ∈ ps → q ∈ qs → (∃ n m, SzP n p ∧ SzP m q ∧ n + m ≤ 900000) ∧ (∃ n m, SzP n r ∧ SzP m (qOz p q) ∧ n + m ≤ 900000) ∧ S (c + 1) (qVi r (qOz p q))
def qCy : FSp := fun ds P _ => ∃ ps qs S, ds = [.lst (prL ps), .lst (prL qs)] ∧ ps.length ≤ 1000 ∧ qs.length ≤ 1000 ∧ SumS ps qs S ∧ P (.lst (prL (qDp ps qs)))
def negP (p : Int × Int) : Int × Int := (-p.1, p.2)
def qGh : FSp := fun ds P _ => ∃ ps, ds = [.lst (prL ps)] ∧ ps.length ≤ 1000 ∧ P (.lst (prL (ps.map negP)))
def qD1 (K : PySem.W.Frag) (cs : List Str) : TS :=
  (tSeq (tIfS (tOr (tTest (tOp rEq (tCB (qDu K) (tCons (tVar 0) tNil)) (tC (.int 0)))) (tTest (tOp rEq (tCB (qDu K) (tCons (tVar 1) tNil)) (tC (.int 0))))) (tRet (tLst tNil)) tNext)
  (tSeq (tAsg (tLc (iRng1 (tCons (tOp qF4 (tOp qEg (tCB (qDu K) (tCons (tVar 0) tNil)) (tCB (qDu K) (tCons (tVar 1) tNil))) (tC (.int 1))) tNil)) (gName 5) tYes (tLst (tCons (tC (.int 0)) (tCons (tC (.int 1)) tNil))) [5]) (gName 2))
  (tSeq (tFor (iRng1 (tCons (tCB (qDu K) (tCons (tVar 0) tNil)) tNil)) (gName 3) (tFor (iRng1 (tCons (tCB (qDu K) (tCons (tVar 1) tNil)) tNil)) (gName 4) (tAsg (tCall (lift K qOn) [] E0 (tCons (tOp (rIxL K) (tVar 2) (tOp qEg (tVar 3) (tVar 4))) (tCons (tCall (lift K qFm) [] E0 (tCons (tOp (rIxL K) (tVar 0) (tVar 3)) (tCons (tOp (rIxL K) (tVar 1) (tVar 4)) tNil))) tNil))) (gSub (tVar 2) (tOp qEg (tVar 3) (tVar 4)) rSetL))))
  (tRet (tVar 2)))))
def qEw (cs : List Str) : FS :=
  (qB7 (qF1 (fOr (fB (fOp oEq (fLs qJ5 (qAc (qAe 0) qAn)) (fC (.int 0)))) (fB (fOp oEq (fLs qJ5 (qAc (qAe 1) qAn)) (fC (.int 0))))) (qEi (qFx qAn)) qCg)
  (qB7 (fOwn 2 (fLc (qB3 (qAc (fOp qOx (fOp qLq (fLs qJ5 (qAc (qAe 0) qAn)) (fLs qJ5 (qAc (qAe 1) qAn))) (fC (.int 1))) qAn)) (qA1 5) qI4 (qFx (qAc (fC (.int 0)) (qAc (fC (.int 1)) qAn))) [5]))
  (qB7 (qE7 (qB3 (qAc (fLs qJ5 (qAc (qAe 0) qAn)) qAn)) (qA1 3) (qE7 (qB3 (qAc (fLs qJ5 (qAc (qAe 1) qAn)) qAn)) (qA1 4) (qLf 2 (qAj qOn [] (qAc (fOp oIx (qAe 2) (fOp qLq (qAe 3) (qAe 4))) (qAc (qAj qFm [] (qAc (fOp qB6 (qAe 0) (qAe 3)) (qAc (fOp qB6 (qAe 1) (qAe 4)) qAn))) qAn))) (fOp qLq (qAe 3) (qAe 4)))))
  (qEi (qAe 2)))))
theorem qMg {K : PySem.W.Frag} {cs : List Str} (T : KF K cs) (hRatio : ("Ratio" : Str) ∈ cs) : SS K Ta [] [] [] [] (fun _ => E0) (qD1 K cs) (qEw cs) :=
  (qAm (ow1 := []) (qDd (by decide) (qL9 (qCr (qAl (fun _ => qLd) (qE4 (fun _ => qDc) (qAa (qAb (by decide)) qAd)) qAi)) (qCr (qAl (fun _ => qLd) (qE4 (fun _ => qDc) (qAa (qAb (by decide)) qAd)) qAi))) (qA5 (by decide) (qB8 qAd)) (qA6 (by decide)))
  (qAm (ow1 := [2]) (qTo (by decide) (by decide) (qKu (by decide) (by decide) (qCm (qAa (qAl (fun _ => qEm) (qAl (fun _ => qEe) (qE4 (fun _ => qDc) (qAa (qAb (by decide)) qAd)) (qE4 (fun _ => qDc) (qAa (qAb (by decide)) qAd))) qAi) qAd)) (qBf (by decide)) qF5 (qB8 (qAa qAi (qAa qAi qAd)))))
  (qAm (ow1 := [2]) (qD7 (by decide) (qCm (qAa (qE4 (fun _ => qDc) (qAa (qAb (by decide)) qAd)) qAd)) (qBf (by decide)) (qD7 (by decide) (qCm (qAa (qE4 (fun _ => qDc) (qAa (qAb (by decide)) qAd)) qAd)) (qBf (by decide)) (qRx (by decide) (by decide) (qAg Lift.refl qAh (qAa (qVk (by decide) (qAl (fun _ => qEe) (qAb (by decide)) (qAb (by decide)))) (qAa (qAg Lift.refl qAh (qAa (qAl (fun _ => qAq) (qAb (by decide)) (qAb (by decide))) (qAa (qAl (fun _ => qAq) (qAb (by decide)) (qAb (by decide))) qAd))) qAd))) (qAl (fun _ => qEe) (qAb (by decide)) (qAb (by decide))))))
  (qRv (ow1 := []) (by decide) (qA5 (by decide) (qAb (by decide)))))))
def qFr (K : PySem.W.Frag) (cs : List Str) : TS :=
  (tRet (tLc (iList K (tVar 0)) (gName 1) tYes (tLst (tCons (tUn qSh (tOp (rIxL K) (tVar 1) (tC (.int 0)))) (tCons (tOp (rIxL K) (tVar 1) (tC (.int 1))) tNil))) [1]))
def qGi (cs : List Str) : FS :=
  (qEi (fLc (qVh (qAe 0)) (qA1 1) qI4 (qFx (qAc (fUn qXu (fOp qB6 (qAe 1) (fC (.int 0)))) (qAc (fOp qB6 (qAe 1) (fC (.int 1))) qAn))) [1]))
theorem qQk {K : PySem.W.Frag} {cs : List Str} (T : KF K cs) (hRatio : ("Ratio" : Str) ∈ cs) : SS K Ta [] [] [] [] (fun _ => E0) (qFr K cs) (qGi cs) :=
  (qA5 (by decide) (SF.se (qKu (by decide) (by decide) (qIx (qAb (by decide))) (qBf (by decide)) qF5 (qB8 (qAa (qYj (fun _ => qS9) (qAl (fun _ => qAq) (qAb (by decide)) qAi)) (qAa (qAl (fun _ => qAq) (qAb (by decide)) qAi) qAd))))))
section
variable {ps qs : List (Int × Int)} {S : Nat → Int × Int → Prop}
/-- how many products are in the cell -/
def qU3 (m i k : Nat) : Nat := min i (k + 1) - min i (k + 1 - m)
theorem qAdd (m i k : Nat) : qU3 m i k ≤ m := by unfold qU3; omega
theorem SumS.le (h : SumS ps qs S) {c d : Nat} (hc : c ≤ d) {r : Int × Int} (hr : S c r) : S d r := by
  obtain ⟨e, rfl⟩ := Nat.exists_eq_add_of_le hc
  induction e with
  | zero => exact hr
  | succ e ih => exact h.mono _ _ (ih (by omega))
theorem SumS.cell (h : SumS ps qs S) : ∀ i k, i ≤ ps.length → S (qU3 qs.length i k) (prC ps qs i k)
  | 0, k, _ => h.le (Nat.zero_le _) h.zero
  | i + 1, k, hi => by
    have ih := h.cell i k (by omega)
    unfold prC
    by_cases hc : i ≤ k ∧ k < i + qs.length
    · rw [if_pos hc]
      have e : qU3 qs.length (i + 1) k = qU3 qs.length i k + 1 := by unfold qU3; omega
      rw [e]
      have hlt : qU3 qs.length i k < qs.length := by unfold qU3; omega
      exact (h.step _ _ _ _ hlt ih (qDh (by omega)) (qDh (by omega))).2.2
    · rw [if_neg hc]
      refine h.le ?_ ih
      unfold qU3; omega
theorem qQt (i j k : Nat) : qO0 ps qs i (j + 1) k = if k = i + j then qVi (qO0 ps qs i j (i + j)) (qOz (qOy ps i) (qOy qs j)) else qO0 ps qs i j k := by
  unfold qO0
  by_cases h : k = i + j
  · subst h
    rw [if_pos (by omega), if_pos rfl, if_neg (by omega), show i + j - i = j by omega]
  · rw [if_neg h]
    by_cases h2 : i ≤ k ∧ k < i + j
    · rw [if_pos (by omega), if_pos h2]
    · rw [if_neg (by omega), if_neg h2]
theorem qAcl (i j : Nat) : qO0 ps qs i j (i + j) = prC ps qs i (i + j) := by
  unfold qO0
  rw [if_neg (by omega)]
theorem qWo (i k : Nat) : qO0 ps qs i 0 k = prC ps qs i k := by
  unfold qO0
  rw [if_neg (by omega)]
abbrev qT6 : FS := qLf 2 (qAj qOn [] (qAc (fOp oIx (qAe 2) (fOp qLq (qAe 3) (qAe 4))) (qAc (qAj qFm [] (qAc (fOp qB6 (qAe 0) (qAe 3)) (qAc (fOp qB6 (qAe 1) (qAe 4)) qAn))) qAn))) (fOp qLq (qAe 3) (qAe 4))
theorem qWv (h : SumS ps qs S) {i : Nat} (hi : i < ps.length) {FD : FEnds} {v5 : Option D}
    (k : ∀ v4, FD.nx [some (.lst (prL ps)), some (.lst (prL qs)), some (.lst ((List.range (ps.length + qs.length - 1)).map fun k => prD (qO0 ps qs i qs.length k))), some (.int (i : Nat)), v4, v5]) :
    ∀ (r j : Nat) (v4 : Option D), j + r = qs.length → qB9 (qA1 4) qT6 FD (qIl (j : Nat) r) [some (.lst (prL ps)), some (.lst (prL qs)), some (.lst ((List.range (ps.length + qs.length - 1)).map fun k => prD (qO0 ps qs i j k))), some (.int (i : Nat)), v4, v5]
  | 0, j, v4, hj => by
    have : j = qs.length := by omega
    subst this
    exact k v4
  | r + 1, j, v4, hj => by
    have ih := qWv h hi k r (j + 1)
    rw [qCp]
    unfold qB9
    simp_arith []
    have e1 : (i : Int) + (j : Int) = ((i + j : Nat) : Int) := by omega
    rw [e1]
    have hlt : i + j < ps.length + qs.length - 1 := by omega
    refine qD9 rfl (qFp hlt) ?_
    refine qD9 rfl (qHc (qDw hi)) ?_
    refine qD9 rfl (qHc (qDw (by omega : j < qs.length))) ?_
    have hc := h.cell i (i + j) (by omega)
    have hlt2 : qU3 qs.length i (i + j) < qs.length := by unfold qU3; omega
    obtain ⟨⟨n, m, z1, z2, zs⟩, ⟨n', m', z3, z4, zs2⟩, _⟩ := h.step _ _ _ _ hlt2 hc (qDh hi) (qDh (by omega : j < qs.length))
    refine ⟨_, _, n, m, rfl, z1, z2, zs, ?_⟩
    refine ⟨_, _, n', m', rfl, by rw [qAcl]; exact z3, z4, zs2, ?_⟩
    refine ⟨i + j, by rw [List.length_map, List.length_range]; exact qRg hlt, ?_⟩
    have e := ih (some (.int (j : Nat))) (by omega)
    have e2 : ((List.range (ps.length + qs.length - 1)).map fun k => prD (qO0 ps qs i j k)).set (i + j) (prD (qVi (qO0 ps qs i j (i + j)) (qOz (qOy ps i) (qOy qs j)))) = (List.range (ps.length + qs.length - 1)).map fun k => prD (qO0 ps qs i (j + 1) k) := by
      have e3 : prD (qVi (qO0 ps qs i j (i + j)) (qOz (qOy ps i) (qOy qs j))) = prD (qO0 ps qs i (j + 1) (i + j)) := by
        rw [qQt, if_pos rfl]
      rw [e3]
      refine qRb (g := fun k => prD (qO0 ps qs i (j + 1) k)) fun k hk => ?_
      by_cases h : k = i + j
      · rw [if_pos h, h]
      · rw [if_neg h, qQt, if_neg h]
    rw [e2]
    exact e
theorem qUg (h : SumS ps qs S) (l2 : qs.length ≤ 1000) {FD : FEnds} {v5 : Option D}
    (k : ∀ v3 v4, FD.nx [some (.lst (prL ps)), some (.lst (prL qs)), some (.lst ((List.range (ps.length + qs.length - 1)).map fun k => prD (prC ps qs ps.length k))), v3, v4, v5]) :
    ∀ (r i : Nat) (v3 v4 : Option D), i + r = ps.length → qB9 (qA1 3) (qE7 (qB3 (qAc (fLs qJ5 (qAc (qAe 1) qAn)) qAn)) (qA1 4) qT6) FD (qIl (i : Nat) r) [some (.lst (prL ps)), some (.lst (prL qs)), some (.lst ((List.range (ps.length + qs.length - 1)).map fun k => prD (prC ps qs i k))), v3, v4, v5]
  | 0, i, v3, v4, hi => by
    have : i = ps.length := by omega
    subst this
    exact k v3 v4
  | r + 1, i, v3, v4, hi => by
    have ih := qUg h l2 k r (i + 1)
    rw [qCp]
    unfold qB9
    simp_arith [qE7, qB3, qIr]
    refine ⟨by omega, by omega, ?_⟩
    rw [Int.toNat_natCast]
    have st := qWv h (i := i) (by omega) (v5 := v5) (FD := { FD with nx := qB9 (qA1 3) (qE7 (qB3 (qAc (fLs qJ5 (qAc (qAe 1) qAn)) qAn)) (qA1 4) qT6) FD (qIl ((i : Int) + 1) r), ct := qB9 (qA1 3) (qE7 (qB3 (qAc (fLs qJ5 (qAc (qAe 1) qAn)) qAn)) (qA1 4) qT6) FD (qIl ((i : Int) + 1) r), bk := FD.nx }) (fun v4 => ?_) qs.length 0 v4 (by omega)
    · have e0 : ((List.range (ps.length + qs.length - 1)).map fun k => prD (qO0 ps qs i 0 k)) = (List.range (ps.length + qs.length - 1)).map fun k => prD (prC ps qs i k) := List.map_congr_left fun k _ => by rw [qWo]
      rw [e0] at st
      exact st
    · have e0 : ((List.range (ps.length + qs.length - 1)).map fun k => prD (qO0 ps qs i qs.length k)) = (List.range (ps.length + qs.length - 1)).map fun k => prD (prC ps qs (i + 1) k) := List.map_congr_left fun k _ => rfl
      rw [e0]
      exact ih _ _ (by omega)
end
theorem qMl {cs : List Str} (hR : ("Ratio" : Str) ∈ cs) (ds : List D) (P : D → Prop) (X : XP) (h : qCy ds P X) : qEw cs (qHq P X0) (qBu 6 ds) := by
  obtain ⟨ps, qs, S, rfl, l1, l2, h, p⟩ := h
  unfold qDp at p
  simp_arith [qEw, qIr]
  by_cases e1 : ps.length = 0
  · rw [if_pos (.inl e1)] at p
    rw [decide_eq_true (show (ps.length : Int) = 0 by omega)]
    simp_arith []
    exact ⟨by decide, p⟩
  · rw [decide_eq_false (show ¬ (ps.length : Int) = 0 by omega)]
    simp_arith []
    by_cases e2 : qs.length = 0
    · rw [if_pos (.inr e2)] at p
      rw [decide_eq_true (show (qs.length : Int) = 0 by omega)]
      simp_arith []
      exact ⟨by decide, p⟩
    · rw [if_neg (by omega)] at p
      rw [decide_eq_false (show ¬ (qs.length : Int) = 0 by omega)]
      simp_arith [fLc, qB3, qIr]
      refine ⟨by decide, by omega, by omega, ?_⟩
      refine qJd (fun _ => prD (0, 1)) _ [] (fun d hd Q q => ?_) ?_ ?_
      · simp only [qFz]
        simp_arith []
        exact ⟨by decide, q⟩
      · simp only [qIl, List.length_map, List.length_range, List.length_nil]
        exact qAo (by omega)
      · rw [List.nil_append]
        simp_arith [qE7, qB3, qIr]
        refine ⟨by omega, by omega, ?_⟩
        rw [Int.toNat_natCast]
        have st := qUg (FD := (⟨fun ρ => (∃ d, ρ[2]? = some (some d) ∧ P d), P, fun _ => False, fun _ => False, fun _ _ => False, P⟩ : FEnds)) (v5 := none) h l2 (fun v3 v4 => ?_) ps.length 0 none none (by omega)
        · have e0 : ((qIl 0 ((ps.length : Int) + (qs.length : Int) - 1).toNat).map fun _ => prD (0, 1)) = (List.range (ps.length + qs.length - 1)).map fun k => prD (prC ps qs 0 k) := by
            rw [qD0, show (fun k => prD (prC ps qs 0 k)) = fun _ => prD (0, 1) from rfl, qD0]
            congr 1
            simp only [qIl, List.length_map, List.length_range]
            omega
          rw [e0]
          exact st
        · refine ⟨_, rfl, ?_⟩
          unfold prL at p
          rw [List.map_map] at p
          exact p
def negD (d : D) : D := match d with
  | .lst [.int a, .int b] => .lst [.int (-a), .int b]
  | e => e
theorem qO3 {cs : List Str} (hR : ("Ratio" : Str) ∈ cs) (ds : List D) (P : D → Prop) (X : XP) (h : qGh ds P X) : qGi cs (qHq P X0) (qBu 2 ds) := by
  obtain ⟨ps, rfl, l1, p⟩ := h
  simp_arith [qGi, fLc]
  refine qJd negD _ [] (fun d hd Q q => ?_) (qAo (by rw [qIr]; simp only [List.length_nil]; omega)) ?_
  · obtain ⟨⟨a, b⟩, hp, rfl⟩ := List.mem_map.mp hd
    simp only [qFz]
    simp_arith [ix0, ix1]
    exact ⟨by decide, q⟩
  · have e : (prL ps).map negD = prL (ps.map negP) := by
      unfold prL
      rw [List.map_map, List.map_map]
      rfl
    rw [List.nil_append, e]
    exact p
/-! ### their values -/
theorem qV2 {ps qs : List (Int × Int)} {S : Nat → Int × Int → Prop} (h : SumS ps qs S) : ∀ i k, i ≤ ps.length → qB0 (prC ps qs i k) = conv (coef (ps.map qB0)) (coef (qs.map qB0)) i k
  | 0, k, _ => by
    show qB0 (0, 1) = 0
    exact Rat.zero_divInt 1
  | i + 1, k, hi => by
    have ih := qV2 h i k (by omega)
    show qB0 (if i ≤ k ∧ k < i + qs.length then _ else _) = conv _ _ i k + (if i ≤ k then _ else 0)
    by_cases h1 : i ≤ k
    · rw [if_pos h1]
      by_cases h2 : k < i + qs.length
      · rw [if_pos ⟨h1, h2⟩]
        have hc := h.cell i k (by omega)
        have hlt : qU3 qs.length i k < qs.length := by unfold qU3; omega
        obtain ⟨⟨n, m, z1, z2, _⟩, ⟨n', m', z3, z4, _⟩, _⟩ := h.step _ _ _ _ hlt hc (qDh (by omega : i < ps.length)) (qDh (by omega : k - i < qs.length))
        rw [qAa9 z3.pos z4.pos, qAcn z1.pos z2.pos, ih, qF2 (by omega), qF2 (by omega)]
      · rw [if_neg (by omega), ih, qAr (cs := qs.map qB0) (by rw [List.length_map]; omega), Rat.mul_zero, Rat.add_zero]
    · rw [if_neg (by omega), if_neg h1, ih, Rat.add_zero]
theorem qXw {ps qs : List (Int × Int)} {S : Nat → Int × Int → Prop} (h : SumS ps qs S) : (qDp ps qs).map qB0 = qIk (ps.map qB0) (qs.map qB0) := by
  unfold qDp qIk
  rw [List.length_map, List.length_map]
  split
  · rfl
  · rw [List.map_map]
    exact List.map_congr_left fun k _ => qV2 h _ k (Nat.le_refl _)
theorem qY0 {ps qs : List (Int × Int)} {S : Nat → Int × Int → Prop} (h : SumS ps qs S) {r : Int × Int} (hr : r ∈ qDp ps qs) : S qs.length r := by
  unfold qDp at hr
  split at hr
  · cases hr
  · obtain ⟨k, _, rfl⟩ := List.mem_map.mp hr
    exact h.le (qAdd _ _ _) (h.cell _ k (Nat.le_refl _))
theorem qJw {K : PySem.W.Frag} {cs : List Str} (vs : List V) (H : Hp) (Q : VK) (E : XK) (h : (lift K qCy) vs H Q E) : vs.length = 2 := qBd (fun ds P X h => by unfold qCy at h; first | ((repeat (first | (obtain ⟨rfl, _⟩ := h; exact rfl) | obtain ⟨_, h⟩ := h)); done) | (split at h <;> first | rfl | exact h.elim)) h
theorem qK9 {K : PySem.W.Frag} {cs : List Str} (T : KF K cs) (hRatio : ("Ratio" : Str) ∈ cs) (vs : List V) (H : Hp) (Q : VK) (E : XK) (h : (lift K qCy) vs H Q E) : qD1 K cs { nx := fun _ H' => Q .non H', rt := Q } (start ["_law_one", "_law_other", "_law_row", "_law_i", "_law_j", "_law_k"] vs) H :=
  qDo rfl (qMg T hRatio) (qMl hRatio) vs H Q E h
theorem qMi {K : PySem.W.Frag} {cs : List Str} (vs : List V) (H : Hp) (Q : VK) (E : XK) (h : (lift K qGh) vs H Q E) : vs.length = 1 := qBd (fun ds P X h => by unfold qGh at h; first | ((repeat (first | (obtain ⟨rfl, _⟩ := h; exact rfl) | obtain ⟨_, h⟩ := h)); done) | (split at h <;> first | rfl | exact h.elim)) h
theorem qNs {K : PySem.W.Frag} {cs : List Str} (T : KF K cs) (hRatio : ("Ratio" : Str) ∈ cs) (vs : List V) (H : Hp) (Q : VK) (E : XK) (h : (lift K qGh) vs H Q E) : qFr K cs { nx := fun _ H' => Q .non H', rt := Q } (start ["_law_row", "_law_pair"] vs) H :=
  qDo rfl (qQk T hRatio) (qO3 hRatio) vs H Q E h
end MR

set_option Elab.async false
set_option linter.all false
set_option maxRecDepth 100000
set_option maxHeartbeats 4000000
set_option exponentiation.threshold 20000
namespace MR
open PySem PySem.Spec PyProof.Rows L2
structure SzQ (m : Nat) (p : Int × Int) : Prop where
  a : p.1.natAbs < 2 ^ m
  b : p.2.natAbs < 2 ^ m
  ne : p.2 ≠ 0
theorem SzP.q {m : Nat} {p : Int × Int} (h : SzP m p) : SzQ m p := ⟨h.a, h.b, Int.ne_of_gt h.pos⟩
/-- is it the Poly with these coefficients? -/
def qAv : FSp := fun ds P _ => ∃ qs ps n m, ds = [.poly qs, .lst (prL ps)] ∧ qs = strip (ps.map qB0) ∧ SzL n qs ∧ 0 < n ∧ (∀ p, p ∈ ps → SzQ m p) ∧ n + m ≤ 900000 ∧ ps.length ≤ 1000 ∧ P (.bl true)
def qEc (K : PySem.W.Frag) (cs : List Str) : TS :=
  (tSeq (tAsg (tCB (qDu K) (tCons (tVar 1) tNil)) (gName 2))
  (tSeq (tFor (iRng1 (tCons (tCB (qDu K) (tCons (tVar 1) tNil)) tNil)) (gName 3) (tIfS (tAnd (tTest (tOp rGt0 (tVar 2) (tC (.int 0)))) (tTest (tOp rEq (tOp (rIxL K) (tOp (rIxL K) (tVar 1) (tOp qF4 (tVar 2) (tC (.int 1)))) (tC (.int 0))) (tC (.int 0))))) (tAug 2 (tC (.int 1)) (ipI fun i j => i - j)) tNext))
  (tSeq (tIfS (tOr (tNot (tB (tCB (rIsi K) (tCons (tVar 0) (tCons (tC (.ref (He.ga K "Poly"))) tNil))))) (tOr (tNot (tB (tCB (rIsi K) (tCons (tFld K (tVar 0) "coefficients") (tCons (tC (.ty "tuple")) tNil))))) (tTest (tOp rNe (tCB (qDu K) (tCons (tFld K (tVar 0) "coefficients") tNil)) (tVar 2))))) (tRet (tC (.bl false))) tNext)
  (tSeq (tIfS (tOr (tNot (tB (tCall (lift K (qDa cs)) [] E0 (tCons (tFld K (tVar 0) "degree") tNil)))) (tTest (tOp rNe (tFld K (tVar 0) "degree") (tOp qF4 (tVar 2) (tC (.int 1)))))) (tRet (tC (.bl false))) tNext)
  (tSeq (tFor (iRng1 (tCons (tVar 2) tNil)) (gName 3) (tIfS (tNot (tB (tCall (lift K fIs) [] E0 (tCons (tOp (rIxT K) (tFld K (tVar 0) "coefficients") (tVar 3)) (tCons (tOp (rIxL K) (tOp (rIxL K) (tVar 1) (tVar 3)) (tC (.int 0))) (tCons (tOp (rIxL K) (tOp (rIxL K) (tVar 1) (tVar 3)) (tC (.int 1))) tNil)))))) (tRet (tC (.bl false))) tNext))
  (tSeq (tIfS (tTest (tOp rEq (tVar 2) (tC (.int 0)))) (tRet (tCall (lift K fIs) [] E0 (tCons (tFld K (tVar 0) "lead") (tCons (tC (.int 0)) (tCons (tC (.int 1)) tNil))))) tNext)
  (tRet (tCall (lift K fIs) [] E0 (tCons (tFld K (tVar 0) "lead") (tCons (tOp (rIxL K) (tOp (rIxL K) (tVar 1) (tOp qF4 (tVar 2) (tC (.int 1)))) (tC (.int 0))) (tCons (tOp (rIxL K) (tOp (rIxL K) (tVar 1) (tOp qF4 (tVar 2) (tC (.int 1)))) (tC (.int 1))) tNil)))))))))))
def qEs (cs : List Str) : FS :=
  (qB7 (qDr 2 (fLs qJ5 (qAc (qAe 1) qAn)))
  (qB7 (qE7 (qB3 (qAc (fLs qJ5 (qAc (qAe 1) qAn)) qAn)) (qA1 3) (qF1 (fAnd (fB (fOp oGt (qAe 2) (fC (.int 0)))) (fB (fOp oEq (fOp qB6 (fOp qB6 (qAe 1) (fOp qOx (qAe 2) (fC (.int 1)))) (fC (.int 0))) (fC (.int 0))))) (fAug 2 (fun i j => i - j) (fC (.int 1))) qCg))
  (qB7 (qF1 (fOr (qJi (fB (qRf cs (.own "Poly") (qAe 0)))) (fOr (qJi (fB (qRf cs (.ty "tuple") (qE1 "Poly" "coefficients" (qAe 0))))) (fB (fOp oNe (fLs qJ5 (qAc (qE1 "Poly" "coefficients" (qAe 0)) qAn)) (qAe 2))))) (qEi (fC (.bl false))) qCg)
  (qB7 (qF1 (fOr (qJi (fB (qAj (qDa cs) [] (qAc (qE1 "Poly" "degree" (qAe 0)) qAn)))) (fB (fOp oNe (qE1 "Poly" "degree" (qAe 0)) (fOp qOx (qAe 2) (fC (.int 1)))))) (qEi (fC (.bl false))) qCg)
  (qB7 (qE7 (qB3 (qAc (qAe 2) qAn)) (qA1 3) (qF1 (qJi (fB (qAj fIs [] (qAc (fOp oIxT (qE1 "Poly" "coefficients" (qAe 0)) (qAe 3)) (qAc (fOp qB6 (fOp qB6 (qAe 1) (qAe 3)) (fC (.int 0))) (qAc (fOp qB6 (fOp qB6 (qAe 1) (qAe 3)) (fC (.int 1))) qAn)))))) (qEi (fC (.bl false))) qCg))
  (qB7 (qF1 (fB (fOp oEq (qAe 2) (fC (.int 0)))) (qEi (qAj fIs [] (qAc (qE1 "Poly" "lead" (qAe 0)) (qAc (fC (.int 0)) (qAc (fC (.int 1)) qAn))))) qCg)
  (qEi (qAj fIs [] (qAc (qE1 "Poly" "lead" (qAe 0)) (qAc (fOp qB6 (fOp qB6 (qAe 1) (fOp qOx (qAe 2) (fC (.int 1)))) (fC (.int 0))) (qAc (fOp qB6 (fOp qB6 (qAe 1) (fOp qOx (qAe 2) (fC (.int 1)))) (fC (.int 1))) qAn)))))))))))
theorem qL8 {K : PySem.W.Frag} {cs : List Str} (T : KF K cs) (hRatio : ("Ratio" : Str) ∈ cs) (hPoly : ("Poly" : Str) ∈ cs) : SS K Ta [] [] [] [] (fun _ => E0) (qEc K cs) (qEs cs) :=
  (qAm (ow1 := []) (qBi (by decide) (by decide) (qE4 (fun _ => qDc) (qAa (qAb (by decide)) qAd)))
  (qAm (ow1 := []) (qD7 (by decide) (qCm (qAa (qE4 (fun _ => qDc) (qAa (qAb (by decide)) qAd)) qAd)) (qBf (by decide)) (qDd (by decide) (qAah (qCr (qAl (fun _ => qAea) (qAb (by decide)) qAi)) (qCr (qAl (fun _ => qLd) (qAl (fun _ => qAq) (qAl (fun _ => qAq) (qAb (by decide)) (qAl (fun _ => qEm) (qAb (by decide)) qAi)) qAi) qAi))) (qAek (by decide) (by decide) qAi) (qA6 (by decide))))
  (qAm (ow1 := []) (qDd (by decide) (qL9 (qC3 (qJ2 (qG5 (c := (.own "Poly")) T.toKT (qAb (by decide))))) (qL9 (qC3 (qJ2 (qG5 (c := (.ty "tuple")) T.toKT (qBh (T.fld _ hPoly _ (by decide)) (qAb (by decide)))))) (qCr (qAl (fun _ => qAes) (qE4 (fun _ => qDc) (qAa (qBh (T.fld _ hPoly _ (by decide)) (qAb (by decide))) qAd)) (qAb (by decide)))))) (qA5 (by decide) qM2) (qA6 (by decide)))
  (qAm (ow1 := []) (qDd (by decide) (qL9 (qC3 (qJ2 (qAg Lift.refl qAh (qAa (qBh (T.fld _ hPoly _ (by decide)) (qAb (by decide))) qAd)))) (qCr (qAl (fun _ => qAes) (qBh (T.fld _ hPoly _ (by decide)) (qAb (by decide))) (qAl (fun _ => qEm) (qAb (by decide)) qAi)))) (qA5 (by decide) qM2) (qA6 (by decide)))
  (qAm (ow1 := []) (qD7 (by decide) (qCm (qAa (qAb (by decide)) qAd)) (qBf (by decide)) (qDd (by decide) (qC3 (qJ2 (qAg Lift.refl qAh (qAa (qAl (fun _ => qZu) (qBh (T.fld _ hPoly _ (by decide)) (qAb (by decide))) (qAb (by decide))) (qAa (qAl (fun _ => qAq) (qAl (fun _ => qAq) (qAb (by decide)) (qAb (by decide))) qAi) (qAa (qAl (fun _ => qAq) (qAl (fun _ => qAq) (qAb (by decide)) (qAb (by decide))) qAi) qAd)))))) (qA5 (by decide) qM2) (qA6 (by decide))))
  (qAm (ow1 := []) (qDd (by decide) (qCr (qAl (fun _ => qLd) (qAb (by decide)) qAi)) (qA5 (by decide) (qAg Lift.refl qAh (qAa (qBh (T.fld _ hPoly _ (by decide)) (qAb (by decide))) (qAa qAi (qAa qAi qAd))))) (qA6 (by decide)))
  (qA5 (by decide) (qAg Lift.refl qAh (qAa (qBh (T.fld _ hPoly _ (by decide)) (qAb (by decide))) (qAa (qAl (fun _ => qAq) (qAl (fun _ => qAq) (qAb (by decide)) (qAl (fun _ => qEm) (qAb (by decide)) qAi)) qAi) (qAa (qAl (fun _ => qAq) (qAl (fun _ => qAq) (qAb (by decide)) (qAl (fun _ => qEm) (qAb (by decide)) qAi)) qAi) qAd)))))))))))
theorem qWr {m : Nat} {p : Int × Int} (h : SzQ m p) : qB0 p = 0 ↔ p.1 = 0 := by
  have hne : ((p.2 : Int) : Rat) ≠ 0 := fun z => h.ne (Rat.intCast_inj.mp (z.trans Rat.intCast_zero.symm))
  unfold qB0
  rw [Rat.divInt_eq_div]
  constructor
  · intro e
    have : ((p.1 : Int) : Rat) = 0 := by grind
    exact Rat.intCast_inj.mp (this.trans Rat.intCast_zero.symm)
  · intro e
    rw [e, Rat.intCast_zero]
    grind
section
variable {ps : List (Int × Int)} {m : Nat} {FD : FEnds}
theorem qQo (hp : ∀ p, p ∈ ps → SzQ m p) {v0 : Option D}
    (fin : ∀ v3, FD.nx [v0, some (.lst (prL ps)), some (.int ((szN (coef (ps.map qB0)) ps.length : Nat) : Int)), v3]) :
    ∀ (r j : Nat) (v3 : Option D), j + r = ps.length → qB9 (qA1 3) (qF1 (fAnd (fB (fOp oGt (qAe 2) (fC (.int 0)))) (fB (fOp oEq (fOp qB6 (fOp qB6 (qAe 1) (fOp qOx (qAe 2) (fC (.int 1)))) (fC (.int 0))) (fC (.int 0))))) (fAug 2 (fun i j => i - j) (fC (.int 1))) qCg) FD (qIl (j : Nat) r) [v0, some (.lst (prL ps)), some (.int ((max (szN (coef (ps.map qB0)) ps.length) (ps.length - j) : Nat) : Int)), v3]
  | 0, j, v3, hj => by
    have := fin v3
    have hz := qHs (coef (ps.map qB0)) ps.length
    rw [show max (szN (coef (ps.map qB0)) ps.length) (ps.length - j) = szN (coef (ps.map qB0)) ps.length by omega]
    exact this
  | r + 1, j, v3, hj => by
    have ih := qQo hp fin r (j + 1)
    have hz := qHs (coef (ps.map qB0)) ps.length
    have hzero := qHw (coef (ps.map qB0)) ps.length
    have hlast := qH6 (coef (ps.map qB0)) ps.length
    rw [qCp]
    unfold qB9
    generalize hZ : szN (coef (ps.map qB0)) ps.length = z at *
    by_cases h0 : 0 < max z (ps.length - j)
    · have d0 : decide ((0 : Int) < ((max z (ps.length - j) : Nat) : Int)) = true := decide_eq_true (by omega)
      simp_arith [d0]
      rw [show ((max z (ps.length - j) : Nat) : Int) - 1 = ((max z (ps.length - j) - 1 : Nat) : Int) by omega]
      have hl : max z (ps.length - j) - 1 < ps.length := by omega
      refine qD9 rfl (qHc (qDw hl)) ?_
      simp_arith [ix0]
      have hq := hp _ (qDh hl)
      have hv := qWr hq
      rw [← qF2 hl] at hv
      by_cases hc : z < ps.length - j
      · have : coef (ps.map qB0) (max z (ps.length - j) - 1) = 0 := hzero _ (by omega) hl
        rw [decide_eq_true (hv.mp this)]
        simp_arith []
        have e := ih (some (.int (j : Nat))) (by omega)
        rw [show max z (ps.length - (j + 1)) = max z (ps.length - j) - 1 by omega] at e
        exact e
      · have hm : max z (ps.length - j) = z := by omega
        rw [hm] at hv h0 ⊢
        rw [decide_eq_false (fun y => hlast h0 (hv.mpr y))]
        simp_arith []
        have e := ih (some (.int (j : Nat))) (by omega)
        rw [show max z (ps.length - (j + 1)) = z by omega] at e
        exact e
    · omega
theorem qPx {qs : List Rat} {n : Nat} (hl : ps.length ≤ 1000) (hv : ∀ k, k < qs.length → k < ps.length ∧ coef qs k = qB0 (qOy ps k)) (hn : SzL n qs) (n0 : 0 < n) (hp : ∀ p, p ∈ ps → SzQ m p) (hs : n + m ≤ 900000) {v2 : Option D}
    (fin : ∀ v3, FD.nx [some (.poly qs), some (.lst (prL ps)), v2, v3]) :
    ∀ (r j : Nat) (v3 : Option D), j + r = qs.length → qB9 (qA1 3) (qF1 (qJi (fB (qAj fIs [] (qAc (fOp oIxT (qE1 "Poly" "coefficients" (qAe 0)) (qAe 3)) (qAc (fOp qB6 (fOp qB6 (qAe 1) (qAe 3)) (fC (.int 0))) (qAc (fOp qB6 (fOp qB6 (qAe 1) (qAe 3)) (fC (.int 1))) qAn)))))) (qEi (fC (.bl false))) qCg) FD (qIl (j : Nat) r) [some (.poly qs), some (.lst (prL ps)), v2, v3]
  | 0, j, v3, hj => fin v3
  | r + 1, j, v3, hj => by
    have ih := qPx hl hv hn n0 hp hs fin r (j + 1)
    obtain ⟨hlt, he⟩ := hv j (by omega)
    have hq := hp _ (qDh hlt)
    rw [qCp]
    unfold qB9
    simp_arith [qVn]
    refine qD9 rfl (qGv (by omega)) ?_
    refine qD9 rfl (qHc (qDw hlt)) ?_
    simp_arith [ix0, ix1]
    refine qD9 rfl (qHc (qDw hlt)) ?_
    simp_arith [ix0, ix1]
    refine qAbb hq.ne (hn.coef n0 j) hq.a hq.b (by omega) he ?_
    simp_arith [Bool.not_true]
    exact ih _ (by omega)
end
theorem qMd {cs : List Str} (hR : ("Ratio" : Str) ∈ cs) (hP : ("Poly" : Str) ∈ cs) (ds : List D) (P : D → Prop) (X : XP) (h : qAv ds P X) : qEs cs (qHq P X0) (qBu 4 ds) := by
  obtain ⟨qs, ps, n, m, rfl, hq, hn, n0, hp, hs, hl, p⟩ := h
  have lq : qs.length = szN (coef (ps.map qB0)) ps.length := by rw [hq, qC7, List.length_map]
  have hz := qHs (coef (ps.map qB0)) ps.length
  have hv : ∀ k, k < qs.length → k < ps.length ∧ coef qs k = qB0 (qOy ps k) := fun k hk => by
    have : k < ps.length := by omega
    refine ⟨this, ?_⟩
    rw [hq, qA7, qF2 this]
  simp_arith [qEs, qE7, qB3, qIr]
  refine ⟨by omega, by omega, ?_⟩
  rw [Int.toNat_natCast]
  have st := qQo (ps := ps) (m := m) (v0 := some (.poly qs)) hp (FD := ?_) (fin := ?_) ps.length 0 none (by omega)
  · rw [show max (szN (coef (ps.map qB0)) ps.length) (ps.length - 0) = ps.length by omega] at st
    exact st
  · intro v3
    rw [← lq]
    have i1 : isD cs (.own "Poly") (.poly qs) = some true := by simp [isD, tyN, qM3, hP]
    have i2 : isD cs (.ty "tuple") (.tup (qCl qs)) = some true := by simp [isD, tyN, subN]
    have t0 : decide ((qs.length : Int) = (qs.length : Int)) = true := decide_eq_true rfl
    simp_arith [qVn, qAdj, i1, i2, Bool.not_true, qDx, t0, qCu, decide_true, qE7, qB3]
    refine ⟨by omega, by omega, ?_⟩
    rw [Int.toNat_natCast]
    refine qPx hl hv hn n0 hp hs (fun v3 => ?_) qs.length 0 v3 (by omega)
    by_cases h0 : qs.length = 0
    · have d0 : decide ((qs.length : Int) = 0) = true := decide_eq_true (by omega)
      simp_arith [qZ8, d0]
      have e : qs = [] := List.length_eq_zero_iff.mp h0
      rw [e, qZh]
      exact qAbb (n := 1) (m := 1) (by decide) ⟨by decide, by decide⟩ (by decide) (by decide) (by decide) (Rat.zero_divInt 1).symm p
    · have d0 : decide ((qs.length : Int) = 0) = false := decide_eq_false (by omega)
      obtain ⟨hlt, he⟩ := hv (qs.length - 1) (by omega)
      have hq' := hp _ (qDh hlt)
      simp_arith [qZ8, d0]
      rw [show (qs.length : Int) - 1 = ((qs.length - 1 : Nat) : Int) by omega]
      refine qD9 rfl (qHc (qDw hlt)) ?_
      simp_arith [ix0, ix1]
      refine qD9 rfl (qHc (qDw hlt)) ?_
      simp_arith [ix0, ix1]
      exact qAbb hq'.ne (hn.coef n0 _) hq'.a hq'.b (by omega) he p
theorem qJo {K : PySem.W.Frag} {cs : List Str} (vs : List V) (H : Hp) (Q : VK) (E : XK) (h : (lift K qAv) vs H Q E) : vs.length = 2 := qBd (fun ds P X h => by unfold qAv at h; first | ((repeat (first | (obtain ⟨rfl, _⟩ := h; exact rfl) | obtain ⟨_, h⟩ := h)); done) | (split at h <;> first | rfl | exact h.elim)) h
theorem qKg {K : PySem.W.Frag} {cs : List Str} (T : KF K cs) (hRatio : ("Ratio" : Str) ∈ cs) (hPoly : ("Poly" : Str) ∈ cs) (vs : List V) (H : Hp) (Q : VK) (E : XK) (h : (lift K qAv) vs H Q E) : qEc K cs { nx := fun _ H' => Q .non H', rt := Q } (start ["_law_p", "_law_pairs", "_law_size", "_law_k"] vs) H :=
  qDo rfl (qL8 T hRatio hPoly) (qMd hRatio hPoly) vs H Q E h
end MR

set_option Elab.async false
set_option linter.all false
set_option maxRecDepth 100000
set_option maxHeartbeats 4000000
set_option exponentiation.threshold 20000
namespace MR
open PySem PySem.Spec PyProof.Rows L2
/-! ### places -/
def optV : D → Option (Option Rat)
  | .non => some none
  | .rat q => some (some q)
  | .int n => some (some (n : Rat))
  | _ => none
section
variable {K : PySem.W.Frag} {Ta : List (Addr × Str)} {w : Wd} {H : Hp} {σ : L2.St} {ρ : Env} {M : Addr → Prop} {x : Addr}
end
end MR

set_option linter.all false
/-! NSeq: sequences of numbers, how moving acts on them; values over a common bottom -/
namespace MR
theorem qMv {cs : List Rat} {n : Nat} (hl : cs.length = n + 1) (h : coef cs n ≠ 0) : strip cs = cs := by
  unfold strip
  have : szN (coef cs) cs.length = n + 1 := by
    rw [hl]
    unfold szN
    rw [if_neg h]
  rw [this, List.take_of_length_le (by omega)]
/-! ### over a common bottom -/
/-- q = a / d with a at most N -/
def Ov (N : Nat) (d : Int) (q : Rat) : Prop := ∃ a : Int, q * (d : Rat) = (a : Rat) ∧ a.natAbs ≤ N
theorem Ov.mono {N M : Nat} {d : Int} {q : Rat} (h : Ov N d q) (hn : N ≤ M) : Ov M d q := let ⟨a, h1, h2⟩ := h; ⟨a, h1, by omega⟩
theorem Ov.div {N : Nat} {d : Int} {q : Rat} (h : Ov N d q) (hd : 0 < d) : ∃ a : Int, q = Rat.divInt a d ∧ a.natAbs ≤ N := by
  obtain ⟨a, h1, h2⟩ := h
  refine ⟨a, ?_, h2⟩
  have : (d : Rat) ≠ 0 := fun z => by
    have := Rat.intCast_inj.mp (z.trans Rat.intCast_zero.symm)
    omega
  rw [Rat.divInt_eq_div, ← h1]
  grind
theorem Ov.sz {N n m : Nat} {d : Int} {q : Rat} (h : Ov N d q) (hd : 0 < d) (hN : N < 2 ^ n) (hm : d.natAbs < 2 ^ m) : Sz (max n m) q := by
  obtain ⟨a, rfl, h2⟩ := h.div hd
  have h1 : 2 ^ n ≤ 2 ^ max n m := Nat.pow_le_pow_right (by decide) (Nat.le_max_left ..)
  have h3 : 2 ^ m ≤ 2 ^ max n m := Nat.pow_le_pow_right (by decide) (Nat.le_max_right ..)
  exact qQg (by omega) (by omega) (by omega)
theorem Ov.add {N M : Nat} {d : Int} {q r : Rat} (h1 : Ov N d q) (h2 : Ov M d r) : Ov (N + M) d (q + r) := by
  obtain ⟨a, e1, b1⟩ := h1
  obtain ⟨b, e2, b2⟩ := h2
  exact ⟨a + b, by rw [Rat.intCast_add, ← e1, ← e2]; grind, by omega⟩
theorem Ov.mul {N M : Nat} {d e : Int} {q r : Rat} (h1 : Ov N d q) (h2 : Ov M e r) : Ov (N * M) (d * e) (q * r) := by
  obtain ⟨a, e1, b1⟩ := h1
  obtain ⟨b, e2, b2⟩ := h2
  exact ⟨a * b, by rw [Rat.intCast_mul, Rat.intCast_mul, ← e1, ← e2]; grind, by rw [Int.natAbs_mul]; exact Nat.mul_le_mul b1 b2⟩
theorem Ov.lift {N : Nat} {d : Int} {q : Rat} (h : Ov N d q) (e : Int) : Ov (N * e.natAbs) (d * e) q := by
  obtain ⟨a, e1, b1⟩ := h
  exact ⟨a * e, by rw [Rat.intCast_mul, Rat.intCast_mul, ← e1]; grind, by rw [Int.natAbs_mul]; exact Nat.mul_le_mul_right _ b1⟩
theorem Ov.neg {N : Nat} {d : Int} {q : Rat} (h : Ov N d q) : Ov N d (-q) := by
  obtain ⟨a, e1, b1⟩ := h
  exact ⟨-a, by rw [Rat.intCast_neg, ← e1]; grind, by omega⟩
theorem Ov.of {a b : Int} (hb : b ≠ 0) : Ov a.natAbs b (Rat.divInt a b) := by
  refine ⟨a, ?_, Nat.le_refl _⟩
  have : (b : Rat) ≠ 0 := fun z => hb (Rat.intCast_inj.mp (z.trans Rat.intCast_zero.symm))
  rw [Rat.divInt_eq_div]
  grind
theorem Ov.zero {d : Int} {N : Nat} : Ov N d 0 := ⟨0, by rw [Rat.zero_mul]; rfl, Nat.zero_le _⟩
theorem Ov.int (a : Int) : Ov a.natAbs 1 (a : Rat) := ⟨a, by rw [Rat.intCast_one, Rat.mul_one], Nat.le_refl _⟩
end MR

set_option Elab.async false
set_option linter.all false
set_option maxRecDepth 100000
set_option maxHeartbeats 4000000
set_option exponentiation.threshold 20000
namespace MR
open PySem PySem.Spec PyProof.Rows L2
theorem lc_list {α : Type} {g : FG} {fe : FE} {ρ0 : Env} {P : D → Prop} (mk f : α → D) : ∀ (xs : List α) (acc : List D), (∀ x, x ∈ xs → ∀ Q : D → Prop, Q (f x) → g (mk x) ρ0 fun ρ2 => fe ρ2 Q X0) → acc.length + xs.length < sizeLine → P (.lst (acc ++ xs.map f)) → qMw g qI4 fe ρ0 P (xs.map mk) acc
  | [], acc, _, _, p => by
    rw [List.map_nil, List.append_nil] at p
    exact p
  | x :: xs, acc, h, hl, p => by
    rw [List.map_cons]
    unfold qMw
    have h1 := h x List.mem_cons_self
    show g (mk x) ρ0 fun ρ2 => qI4 ρ2 (fun b => if b = true then fe ρ2 (fun y => acc.length < sizeLine ∧ qMw g qI4 fe ρ0 P (xs.map mk) (acc ++ [y])) X0 else qMw g qI4 fe ρ0 P (xs.map mk) acc) X0
    have := h1 (fun y => acc.length < sizeLine ∧ qMw g qI4 fe ρ0 P (xs.map mk) (acc ++ [y])) ⟨by simp at hl; omega, lc_list mk f xs (acc ++ [f x]) (fun y hy => h y (List.mem_cons_of_mem _ hy)) (by simp at hl ⊢; omega) (by simpa using p)⟩
    exact this
end MR

set_option Elab.async false
set_option linter.all false
set_option maxRecDepth 100000
set_option maxHeartbeats 4000000
/-! FL: max(xs), min(xs) -/
namespace MR
open PySem PySem.Spec PyProof.Rows L2 LamX
section
variable {K : PySem.W.Frag} {E1 : XK}
end
end MR

set_option Elab.async false
set_option linter.all false
set_option maxRecDepth 100000
set_option maxHeartbeats 4000000
set_option exponentiation.threshold 20000
namespace MR
open PySem PySem.Spec PyProof.Rows L2
/-- the ends of a drawn place -/
structure EndsOk (lo hi : Option Int) : Prop where
  no : lo = none → hi = none
  lt : ∀ a b, lo = some a → hi = some b → a < b
  la : ∀ a, lo = some a → a.natAbs < 2 ^ 36
  lb : ∀ b, hi = some b → b.natAbs < 2 ^ 36
/-- a drawn row: tops, bottoms -/
structure SzT (p : Int × Int) : Prop where
  a : p.1.natAbs < 2 ^ 320
  b : p.2.natAbs < 2 ^ 24
  pos : 0 < p.2
/-- a row under change -/
structure SzM (m : Nat) (p : Int × Int) : Prop where
  a : p.1.natAbs < 2 ^ 319 + m
  b : p.2.natAbs < 2 ^ 24
  pos : 0 < p.2
end MR


set_option Elab.async false
set_option linter.all false
set_option maxRecDepth 100000
set_option maxHeartbeats 4000000
set_option exponentiation.threshold 20000
/-! NStep: the steps of a row, and how great their numbers get -/
namespace MR
open PySem PySem.Spec PyProof.Rows L2
/-- a row over the common bottom d, all below 2 ^ n -/
structure Cd (n : Nat) (d : Int) (cs : List Rat) : Prop where
  pos : 0 < d
  le : d.natAbs ≤ 2 ^ n
  ov : ∀ i, Ov (2 ^ n) d (coef cs i)
theorem qAaq {n m : Nat} (h : n < m) {a : Nat} (ha : a ≤ 2 ^ n) : a < 2 ^ m := Nat.lt_of_le_of_lt ha (Nat.pow_lt_pow_right (by decide) h)
theorem qC9 {n m : Nat} (h : n ≤ m) : 2 ^ n ≤ 2 ^ m := Nat.pow_le_pow_right (by decide) h
theorem qMf {n : Nat} {d : Int} {q : Rat} (h : Ov (2 ^ n) d q) (hd : 0 < d) (hl : d.natAbs ≤ 2 ^ n) : Sz (n + 1) q := by
  have := h.sz hd (qAaq (Nat.lt_succ_self n) (Nat.le_refl _)) (qAaq (Nat.lt_succ_self n) hl)
  rw [Nat.max_self] at this
  exact this
section
variable {n m : Nat} {d e : Int} {cs es : List Rat}
theorem Cd.mono (h : Cd n d cs) (hn : n ≤ m) : Cd m d cs := ⟨h.pos, Nat.le_trans h.le (qC9 hn), fun i => (h.ov i).mono (qC9 hn)⟩
theorem Cd.sz (h : Cd n d cs) (i : Nat) : Sz (n + 1) (coef cs i) := qMf (h.ov i) h.pos h.le
theorem Cd.szL (h : Cd n d cs) : SzL (n + 1) cs := fun c hc => by
  obtain ⟨i, hi, rfl⟩ := List.mem_iff_getElem.mp hc
  have := h.sz i
  rw [qP0 (List.getElem?_eq_getElem hi)] at this
  exact this
theorem Cd.strip (h : Cd n d cs) : Cd n d (strip cs) := ⟨h.pos, h.le, fun i => by rw [qA7]; exact h.ov i⟩
theorem qJ4 {f g : Nat → Rat} {N M : Nat} (hf : ∀ i, Ov N d (f i)) (hg : ∀ i, Ov M e (g i)) (k : Nat) : ∀ n, Ov (n * (N * M)) (d * e) (conv f g n k)
  | 0 => Ov.zero
  | n + 1 => by
    show Ov _ _ (conv f g n k + (if n ≤ k then f n * g (k - n) else 0))
    refine (Ov.add (M := N * M) (qJ4 hf hg k n) ?_).mono (by rw [Nat.add_mul, Nat.one_mul]; exact Nat.le_refl _)
    split
    · exact (hf n).mul (hg (k - n))
    · exact Ov.zero
theorem qWw {N M : Nat} (hf : ∀ i, Ov N d (coef cs i)) (hg : ∀ i, Ov M e (coef es i)) : ∀ n, Ov (n * (N * M)) (d * e) (qYx cs es n)
  | 0 => Ov.zero
  | n + 1 => by
    show Ov _ _ (qYx cs es n + coef cs n * coef es n)
    exact (Ov.add (qWw hf hg n) ((hf n).mul (hg n))).mono (by rw [Nat.add_mul, Nat.one_mul]; exact Nat.le_refl _)
theorem qPq {k : Nat} (hk : k ≤ 16) : k * (2 ^ n * 2 ^ m) ≤ 2 ^ (n + m + 4) := by
  rw [Nat.pow_add, Nat.pow_add, Nat.mul_comm]
  exact Nat.mul_le_mul_left _ hk
theorem qBt {a b : Int} (ha : a.natAbs ≤ 2 ^ n) (hb : b.natAbs ≤ 2 ^ m) : (a * b).natAbs ≤ 2 ^ (n + m) := by
  rw [Int.natAbs_mul, Nat.pow_add]
  exact Nat.mul_le_mul ha hb
theorem Cd.conv (h : Cd n d cs) (g : Cd m e es) {j : Nat} (hj : j ≤ 16) (k : Nat) : Ov (2 ^ (n + m + 4)) (d * e) (conv (coef cs) (coef es) j k) := (qJ4 h.ov g.ov k j).mono (qPq hj)
theorem Cd.dot (h : Cd n d cs) (g : Cd m e es) {j : Nat} (hj : j ≤ 16) : Ov (2 ^ (n + m + 4)) (d * e) (qYx cs es j) := (qWw h.ov g.ov j).mono (qPq hj)
theorem Cd.de (h : Cd n d cs) (g : Cd m e es) : (d * e).natAbs ≤ 2 ^ (n + m + 4) := Nat.le_trans (qBt h.le g.le) (qC9 (by omega))
theorem Cd.one (h : Cd n d cs) (g : Cd m e es) (i j : Nat) : Ov (2 ^ (n + m + 4)) (d * e) (coef cs i * coef es j) := ((h.ov i).mul (g.ov j)).mono (by rw [← Nat.pow_add]; exact qC9 (by omega))
theorem Cd.mul (h : Cd n d cs) (g : Cd m e es) (hl : cs.length ≤ 16) : Cd (n + m + 4) (d * e) (qIk cs es) := ⟨Int.mul_pos h.pos g.pos, h.de g, fun i => by rw [qE9]; exact h.conv g hl i⟩
theorem Cd.mulSz (h : Cd n d cs) (g : Cd m e es) (hl : cs.length ≤ 16) (hs : 2 * (n + m + 5) ≤ 900000) : MulSz cs es := by
  have p := Int.mul_pos h.pos g.pos
  refine ⟨fun i j _ _ => ⟨_, _, h.sz i, g.sz j, by omega⟩, fun i j hi _ => ⟨_, _, qMf (h.conv g (by omega) (i + j)) p (h.de g), qMf (h.one g i j) p (h.de g), by omega⟩⟩
/-- the sizes of a mean, sum by sum -/
def qAbx (cs ms : List Rat) : Prop := ∀ i, i < cs.length → qPv (coef cs i) (coef ms i) ∧ qPv (qYx cs ms i) (coef cs i * coef ms i)
theorem Cd.dotSz (h : Cd n d cs) (g : Cd m e es) (hl : cs.length ≤ 16) (hs : 2 * (n + m + 5) ≤ 900000) : qAbx cs es := by
  have p := Int.mul_pos h.pos g.pos
  exact fun i hi => ⟨⟨_, _, h.sz i, g.sz i, by omega⟩, ⟨_, _, qMf (h.dot g (by omega)) p (h.de g), qMf (h.one g i i) p (h.de g), by omega⟩⟩
theorem qXg (cs : List Rat) (k i : Nat) : coef (cs.drop k) i = coef cs (k + i) := by
  unfold coef
  rw [List.getElem?_drop]
theorem Cd.drop (h : Cd n d cs) (k : Nat) : Cd n d (cs.drop k) := ⟨h.pos, h.le, fun i => by rw [qXg]; exact h.ov _⟩
theorem qVe (cs : List Rat) (k i : Nat) : coef (cs.take k) i = if i < k then coef cs i else 0 := by
  by_cases h : i < k
  · rw [if_pos h, qPe h]
  · rw [if_neg h, qAr (by rw [List.length_take]; omega)]
theorem Cd.take (h : Cd n d cs) (k : Nat) : Cd n d (cs.take k) := ⟨h.pos, h.le, fun i => by
  rw [qVe]
  split
  · exact h.ov i
  · exact Ov.zero⟩
theorem Cd.sh (h : Cd n d cs) (g : Cd m e es) (hl : cs.length ≤ 16) : Cd (n + m + 4) (d * e) (shL cs es) := ⟨Int.mul_pos h.pos g.pos, h.de g, fun i => by
  unfold shL
  rw [qFg]
  split
  · exact h.dot (g.drop i) hl
  · exact Ov.zero⟩
end
/-! ### the steps of a row -/
abbrev PW := List Rat × Rat
def xL : List Rat := [0, 1]
def qQ2 (q : Rat) : List Rat := if q = 0 then [] else [q]
def qHl (p ms : List Rat) : Rat := qYx p ms p.length
def xpN (p : List Rat) : List Rat := strip (qIk xL p)
def qXt (p : List Rat) : List Rat := strip (qIk (xpN p) p)
def alN (ms p : List Rat) (w : Rat) : Rat := qHl (qXt p) ms / w
def qMn (ms p : List Rat) (w : Rat) : List Rat := strip (qVf xL (qOc (qQ2 (alN ms p w))))
def f1N (ms p : List Rat) (w : Rat) : List Rat := strip (qIk (qMn ms p w) p)
def beN (w : Rat) (b : PW) : List Rat := strip (qIk b.1 (qQ2 (w / b.2)))
def fN (ms p : List Rat) (w : Rat) : Option PW → List Rat
  | none => f1N ms p w
  | some b => strip (qVf (f1N ms p w) (qOc (beN w b)))
def sqN (p : List Rat) : List Rat := strip (qIk p p)
def qZo (ms : List Rat) : Option PW → Option PW → PW
  | none, _ => ([1], coef ms 0)
  | some (p, w), b => (fN ms p w b, qHl (sqN (fN ms p w b)) ms)
/-- the k-th pair, and the one before -/
def chN (ms : List Rat) : Nat → PW × Option PW
  | 0 => (([1], coef ms 0), none)
  | k + 1 => (qZo ms (some (chN ms k).1) (chN ms k).2, some (chN ms k).1)
theorem qNy (ms : List Rat) (k : Nat) : chN ms (k + 1) = (qZo ms (some (chN ms k).1) (chN ms k).2, some (chN ms k).1) := rfl
theorem qC2 (q : Rat) (i : Nat) : coef (qQ2 q) i = if i = 0 then q else 0 := by
  unfold qQ2
  by_cases h : q = 0
  · rw [if_pos h, qAr (Nat.zero_le _)]
    subst h
    simp
  · rw [if_neg h]
    cases i with
    | zero => rfl
    | succ i => rw [qAr (by simp)]; simp
theorem qV1 (q : Rat) : (qQ2 q).length ≤ 1 := by
  unfold qQ2
  split <;> simp
theorem qC0 (cs : List Rat) : (strip cs).length ≤ cs.length := by rw [qC7]; exact qHs _ _
theorem qGu (cs es : List Rat) : (qIk cs es).length ≤ cs.length + es.length - 1 := by
  unfold qIk
  split
  · simp
  · simp
/-! ### lengths -/
theorem qW5 (p : List Rat) : (xpN p).length ≤ p.length + 1 := by
  have h1 := qC0 (qIk xL p)
  have h2 := qGu xL p
  have : xL.length = 2 := rfl
  unfold xpN
  omega
theorem qAbf (p : List Rat) : (qXt p).length ≤ 2 * p.length := by
  have h1 := qC0 (qIk (xpN p) p)
  have h2 := qGu (xpN p) p
  have h3 := qW5 p
  unfold qXt
  omega
theorem qTp (ms p : List Rat) (w : Rat) : (qMn ms p w).length ≤ 2 := by
  have h1 := qC0 (qVf xL (qOc (qQ2 (alN ms p w))))
  have h2 := qM5 xL (qOc (qQ2 (alN ms p w)))
  rw [qN4] at h2
  have h3 := qV1 (alN ms p w)
  have : xL.length = 2 := rfl
  unfold qMn
  omega
theorem qAak (ms p : List Rat) (w : Rat) : (f1N ms p w).length ≤ p.length + 1 := by
  have h1 := qC0 (qIk (qMn ms p w) p)
  have h2 := qGu (qMn ms p w) p
  have h3 := qTp ms p w
  unfold f1N
  omega
theorem qZz (w : Rat) (b : PW) : (beN w b).length ≤ b.1.length := by
  have h1 := qC0 (qIk b.1 (qQ2 (w / b.2)))
  have h2 := qGu b.1 (qQ2 (w / b.2))
  have h3 := qV1 (w / b.2)
  unfold beN
  omega
theorem qAae (p : List Rat) : (sqN p).length ≤ 2 * p.length - 1 := by
  have h1 := qC0 (qIk p p)
  have h2 := qGu p p
  unfold sqN
  omega
theorem qG9 (ms : List Rat) : ∀ k, (chN ms k).1.1.length ≤ k + 1 ∧ ∀ b, (chN ms k).2 = some b → b.1.length ≤ k
  | 0 => ⟨Nat.le_refl _, fun b h => by cases h⟩
  | k + 1 => by
    obtain ⟨h1, h2⟩ := qG9 ms k
    refine ⟨?_, fun b h => by cases h; exact h1⟩
    show (fN ms (chN ms k).1.1 (chN ms k).1.2 (chN ms k).2).length ≤ _
    -- the length of p may be smaller
    have e1 := qAak ms (chN ms k).1.1 (chN ms k).1.2
    cases hb : (chN ms k).2 with
    | none =>
      show (f1N ms (chN ms k).1.1 (chN ms k).1.2).length ≤ _
      omega
    | some q =>
      have e2 := qZz (chN ms k).1.2 q
      have e3 := h2 q hb
      have e4 := qC0 (qVf (f1N ms (chN ms k).1.1 (chN ms k).1.2) (qOc (beN (chN ms k).1.2 q)))
      have e5 := qM5 (f1N ms (chN ms k).1.1 (chN ms k).1.2) (qOc (beN (chN ms k).1.2 q))
      rw [qN4] at e5
      show (strip (qVf (f1N ms (chN ms k).1.1 (chN ms k).1.2) (qOc (beN (chN ms k).1.2 q)))).length ≤ _
      omega
/-! ### only the first numbers count -/
end MR

set_option Elab.async false
set_option linter.all false
set_option maxRecDepth 100000
set_option maxHeartbeats 1000000
set_option exponentiation.threshold 20000
/-! NStep2: the sizes in a step -/
namespace MR
open PySem PySem.Spec PyProof.Rows L2
def qAb9 (a c : List Rat) : Prop := ∃ n m, SzL n a ∧ SzL m c ∧ 0 < n ∧ 0 < m ∧ n + m ≤ 900000
structure StepSz (ms p : List Rat) (w : Rat) (b : Option PW) : Prop where
  s1 : MulSz xL p
  s2 : MulSz (xpN p) p
  s3 : qAbx (qXt p) ms
  s4 : qPv (qHl (qXt p) ms) w
  s5 : qAb9 xL (qQ2 (alN ms p w))
  s6 : MulSz (qMn ms p w) p
  s7 : ∀ q, b = some q → qPv w q.2 ∧ MulSz q.1 (qQ2 (w / q.2)) ∧ qAb9 (f1N ms p w) (beN w q)
  s8 : MulSz (fN ms p w b) (fN ms p w b)
  s9 : qAbx (sqN (fN ms p w b)) ms
structure Lv2 (m : Nat) (M : Int) (b : Nat) (D : Int) (p : List Rat) (w : Rat) : Prop where
  cd : Cd b D p
  ov : Ov (2 ^ (2 * b + m + 8)) (D * D * M) w
theorem qAb2 : Cd 0 1 xL := ⟨by decide, by decide, fun i => by
  match i with
  | 0 => exact Ov.zero
  | 1 => exact ⟨1, by show (1 : Rat) * ((1 : Int) : Rat) = ((1 : Int) : Rat); rw [Rat.one_mul], by decide⟩
  | i + 2 => rw [qAr (show xL.length ≤ i + 2 by show 2 ≤ _; omega)]; exact Ov.zero⟩
theorem qW3 {n : Nat} {d : Int} {q : Rat} (hd : 0 < d) (hl : d.natAbs ≤ 2 ^ n) (h : Ov (2 ^ n) d q) : Cd n d (qQ2 q) := ⟨hd, hl, fun i => by
  rw [qC2]
  split
  · exact h
  · exact Ov.zero⟩
theorem qV5 {f g : Nat → Rat} (hg : ∀ j, g (j + 1) = 0) (k : Nat) : ∀ n, conv f g n k = if k < n then f k * g 0 else 0
  | 0 => by simp [conv]
  | n + 1 => by
    show conv f g n k + (if n ≤ k then f n * g (k - n) else 0) = _
    rw [qV5 hg k n]
    by_cases h1 : k < n
    · rw [if_pos h1, if_neg (by omega), if_pos (by omega), Rat.add_zero]
    · rw [if_neg h1, Rat.zero_add]
      by_cases h2 : k = n
      · subst h2
        rw [if_pos (Nat.le_refl _), if_pos (by omega), Nat.sub_self]
      · rw [if_pos (by omega), if_neg (by omega)]
        obtain ⟨j, hj⟩ : ∃ j, k - n = j + 1 := ⟨k - n - 1, by omega⟩
        rw [hj, hg, Rat.mul_zero]
theorem qXc (a : List Rat) (q : Rat) (i : Nat) : coef (qIk a (qQ2 q)) i = coef a i * q := by
  rw [qE9, qV5 (fun j => by rw [qC2, if_neg (by omega)])]
  split
  · rw [qC2, if_pos rfl]
  · rw [qAr (by omega), Rat.zero_mul]
theorem qC4 {a : Int} (h : 0 < a) : (a : Rat) ≠ 0 := fun z => by
  have := Rat.intCast_inj.mp (z.trans Rat.intCast_zero.symm)
  omega
theorem qW9 {a : Int} : 0 < (a : Rat) ↔ 0 < a := by
  rw [← Rat.intCast_zero]
  exact Rat.intCast_lt_intCast
/-- a worth above 0 as a whole number over D * D * M -/
theorem qS8 {n : Nat} {E : Int} {w : Rat} (h : Ov (2 ^ n) E w) (hE : 0 < E) (hw : 0 < w) : ∃ W : Int, w * (E : Rat) = (W : Rat) ∧ 0 < W ∧ W.natAbs ≤ 2 ^ n := by
  obtain ⟨W, e, l⟩ := h
  exact ⟨W, e, qW9.mp (by rw [← e]; exact Rat.mul_pos hw (qW9.mpr hE)), l⟩
theorem qAbe {m b b' B : Nat} {M D : Int} {ms p : List Rat} {w : Rat} {bf : Option PW} (hm : Cd m M ms) (h : Lv2 m M b D p w) (w0 : 0 < w) (lp : p.length ≤ 7)
    (hb : ∀ q, bf = some q → q.1.length ≤ 8 ∧ 0 < q.2 ∧ ∃ D', Lv2 m M b' D' q.1 q.2) (hB : 4 * b + 2 * b' + 2 * m + 25 ≤ B) (hs : 4 * B + 2 * m + 60 ≤ 900000) :
    StepSz ms p w bf ∧ ∃ D', Lv2 m M B D' (fN ms p w bf) (qHl (sqN (fN ms p w bf)) ms) := by
  have lx : xL.length ≤ 16 := by decide
  have l1 := qW5 p
  have l2 := qAbf p
  have l3 := qTp ms p w
  have c1 : Cd (b + 4) (1 * D) (xpN p) := ((qAb2.mul h.cd lx).strip).mono (by omega)
  have c2 : Cd (2 * b + 8) (1 * D * D) (qXt p) := ((c1.mul h.cd (by omega)).strip).mono (by omega)
  have c3 : Ov (2 ^ (2 * b + m + 12)) (1 * D * D * M) (qHl (qXt p) ms) := (c2.dot hm (by omega)).mono (qC9 (by omega))
  have pDD : 0 < D * D := Int.mul_pos h.cd.pos h.cd.pos
  have pE : 0 < D * D * M := Int.mul_pos pDD hm.pos
  obtain ⟨W, eW, pW, lW⟩ := qS8 h.ov pE w0
  have wne : w ≠ 0 := Rat.ne_of_gt w0
  obtain ⟨A, eA, lA⟩ := c3
  have ea : alN ms p w * (W : Rat) = (A : Rat) := by
    rw [← eA, ← eW]
    unfold alN
    rw [show (1 : Int) * D * D * M = D * D * M by rw [Int.one_mul]]
    grind
  have oa : Ov (2 ^ (2 * b + m + 12)) W (alN ms p w) := ⟨A, ea, lA⟩
  have lW' : W.natAbs ≤ 2 ^ (2 * b + m + 12) := Nat.le_trans lW (qC9 (by omega))
  have c4 : Cd (2 * b + m + 12) W (qMn ms p w) := Cd.strip ⟨pW, lW', fun i => by
    rw [qGx, qGs, qC2]
    match i with
    | 0 =>
      rw [if_pos rfl, show coef xL 0 = 0 from rfl, Rat.zero_add]
      exact oa.neg
    | 1 =>
      rw [if_neg (by decide), show coef xL 1 = 1 from rfl, Rat.neg_zero, Rat.add_zero]
      exact ⟨W, by rw [Rat.one_mul], lW'⟩
    | i + 2 =>
      rw [if_neg (by omega), qAr (show xL.length ≤ i + 2 by show 2 ≤ _; omega), Rat.neg_zero, Rat.add_zero]
      exact Ov.zero⟩
  have c5 : Cd (3 * b + m + 16) (W * D) (f1N ms p w) := ((c4.mul h.cd (by omega)).strip).mono (by omega)
  have zm : Sz (2 * b + m + 13) (qHl (qXt p) ms) := qMf (n := 2 * b + m + 12) ⟨A, eA, lA⟩ (by rw [Int.one_mul]; exact pE) (by
    rw [Int.one_mul]
    exact Nat.le_trans (qBt (qBt h.cd.le h.cd.le) hm.le) (qC9 (by omega)))
  have zw : Sz (2 * b + m + 9) w := qMf (n := 2 * b + m + 8) h.ov pE (Nat.le_trans (qBt (qBt h.cd.le h.cd.le) hm.le) (qC9 (by omega)))
  have main : (∀ q, bf = some q → qPv w q.2 ∧ MulSz q.1 (qQ2 (w / q.2)) ∧ qAb9 (f1N ms p w) (beN w q)) ∧ ∃ D', Cd B D' (fN ms p w bf) := by
    cases bf with
    | none => exact ⟨fun q z => (by cases z), _, c5.mono (by omega)⟩
    | some q =>
      obtain ⟨lq, q0, D', h'⟩ := hb q rfl
      obtain ⟨p', w'⟩ := q
      have q0 : 0 < w' := q0
      have lq : p'.length ≤ 8 := lq
      have h' : Lv2 m M b' D' p' w' := h'
      have pE' : 0 < D' * D' * M := Int.mul_pos (Int.mul_pos h'.cd.pos h'.cd.pos) hm.pos
      obtain ⟨W', eW', pW', lWW⟩ := qS8 h'.ov pE' q0
      have wne' : w' ≠ 0 := Rat.ne_of_gt q0
      have zw' : Sz (2 * b' + m + 9) w' := qMf (n := 2 * b' + m + 8) h'.ov pE' (Nat.le_trans (qBt (qBt h'.cd.le h'.cd.le) hm.le) (qC9 (by omega)))
      have pG : 0 < W' * (D * D) := Int.mul_pos pW' pDD
      have lG : (W' * (D * D)).natAbs ≤ 2 ^ (2 * b + 2 * b' + m + 8) := Nat.le_trans (qBt lWW (qBt h.cd.le h.cd.le)) (qC9 (by omega))
      have nM : (M : Rat) ≠ 0 := qC4 hm.pos
      have nD : (D : Rat) ≠ 0 := qC4 h.cd.pos
      have nD' : (D' : Rat) ≠ 0 := qC4 h'.cd.pos
      have nW' : (W' : Rat) ≠ 0 := qC4 pW'
      have eb : w / w' * ((W' * (D * D) : Int) : Rat) = ((W * (D' * D') : Int) : Rat) := by
        simp only [Rat.intCast_mul] at eW eW' ⊢
        rw [← eW', ← eW]
        grind
      have ob : Ov (2 ^ (2 * b + 2 * b' + m + 8)) (W' * (D * D)) (w / w') := ⟨W * (D' * D'), eb, Nat.le_trans (qBt lW (qBt h'.cd.le h'.cd.le)) (qC9 (by omega))⟩
      have cr : Cd (2 * b + 2 * b' + m + 8) (W' * (D * D)) (qQ2 (w / w')) := qW3 pG lG ob
      have cb : Cd (2 * b + 2 * b' + m + 8) (W' * (D * D)) (beN w (p', w')) := Cd.strip ⟨pG, lG, fun i => by
        rw [qXc]
        obtain ⟨z, ez, lz⟩ := h'.cd.ov i
        refine ⟨W * (D' * z), ?_, Nat.le_trans (qBt lW (qBt h'.cd.le lz)) (qC9 (by omega))⟩
        show coef p' i * (w / w') * _ = _
        rw [Rat.mul_assoc, eb]
        simp only [Rat.intCast_mul]
        rw [← ez]
        grind⟩
      refine ⟨fun q z => ?_, (W * D) * (W' * D), ?_⟩
      · cases z
        exact ⟨⟨_, _, zw, zw', by omega⟩, h'.cd.mulSz cr (by omega) (by omega), _, _, c5.szL, cb.szL, by omega, by omega, by omega⟩
      · have eD : (W' * (D * D)) * W = (W * D) * (W' * D) := by ac_rfl
        have lWD : (W' * D).natAbs ≤ 2 ^ (2 * b' + m + 8 + b) := qBt lWW h.cd.le
        have g1 : ∀ i, Ov (2 ^ (4 * b + 2 * b' + 2 * m + 24)) ((W * D) * (W' * D)) (coef (f1N ms p w) i) := fun i => ((c5.ov i).lift (W' * D)).mono (Nat.le_trans (Nat.mul_le_mul_left _ lWD) (by rw [← Nat.pow_add]; exact qC9 (by omega)))
        have g2 : ∀ i, Ov (2 ^ (4 * b + 2 * b' + 2 * m + 24)) ((W * D) * (W' * D)) (coef (beN w (p', w')) i) := fun i => by
          have := (cb.ov i).lift W
          rw [eD] at this
          exact this.mono (Nat.le_trans (Nat.mul_le_mul_left _ lW) (by rw [← Nat.pow_add]; exact qC9 (by omega)))
        refine Cd.mono (n := 4 * b + 2 * b' + 2 * m + 25) (Cd.strip ⟨Int.mul_pos (Int.mul_pos pW h.cd.pos) (Int.mul_pos pW' h.cd.pos), ?_, fun i => ?_⟩) hB
        · exact Nat.le_trans (qBt (qBt lW h.cd.le) lWD) (qC9 (by omega))
        · rw [qGx, qGs]
          refine ((g1 i).add (g2 i).neg).mono ?_
          rw [Nat.pow_succ 2 (4 * b + 2 * b' + 2 * m + 24)]
          generalize 2 ^ (4 * b + 2 * b' + 2 * m + 24) = z
          omega
  obtain ⟨m7, DD, cf⟩ := main
  have lf : (fN ms p w bf).length ≤ 8 := by
    have e1 := qAak ms p w
    cases bf with
    | none => exact Nat.le_trans e1 (by omega)
    | some q =>
      obtain ⟨lq, _⟩ := hb q rfl
      have e2 := qZz w q
      have e4 := qC0 (qVf (f1N ms p w) (qOc (beN w q)))
      have e5 := qM5 (f1N ms p w) (qOc (beN w q))
      rw [qN4] at e5
      show (strip (qVf (f1N ms p w) (qOc (beN w q)))).length ≤ _
      omega
  have ls := qAae (fN ms p w bf)
  have cs : Cd (2 * B + 4) (DD * DD) (sqN (fN ms p w bf)) := ((cf.mul cf (by omega)).strip).mono (by omega)
  refine ⟨⟨qAb2.mulSz h.cd lx (by omega), c1.mulSz h.cd (by omega) (by omega), c2.dotSz hm (by omega) (by omega), ⟨_, _, zm, zw, by omega⟩, ⟨_, _, qAb2.szL, (qW3 pW lW' oa).szL, by omega, by omega, by omega⟩, c4.mulSz h.cd (by omega) (by omega), m7, cf.mulSz cf (by omega) (by omega), cs.dotSz hm (by omega) (by omega)⟩, DD, cf, ?_⟩
  exact (cs.dot hm (by omega)).mono (qC9 (by omega))
end MR

set_option Elab.async false
set_option linter.all false
set_option maxRecDepth 100000
set_option maxHeartbeats 4000000
/-! FL: a dict that a name owns: d = {}, d[k] = v, d.get(k, x) -/
namespace MR
open PySem PySem.Spec PyProof.Rows L2 LamX
section
variable {K : PySem.W.Frag} {w : Wd} {ow ow' ow1 owb owx : List Nat} {H H' : Hp} {σ : L2.St} {ρ : Env} {E : L2.St → XK} {N : L2.Ends} {FD : FEnds} {F : Fd} {M : Addr → Prop}
end
end MR

set_option Elab.async false
set_option linter.all false
set_option maxRecDepth 100000
set_option maxHeartbeats 4000000
set_option exponentiation.threshold 20000
namespace MR
open PySem PySem.Spec PyProof.Rows L2
section
variable {cs : List Str} {a c ms : List Rat} {q : Rat} {P : D → Prop} {X : XP}
end
end MR

set_option Elab.async false
set_option linter.all false
set_option maxRecDepth 100000
set_option maxHeartbeats 1000000
/-! NOrth: sums, the form of a row of numbers, orthogonality of the steps -/
namespace MR
open PySem PySem.Spec PyProof.Rows L2
abbrev Fu := Nat → Rat
def sm : Nat → Fu → Rat
  | 0, _ => 0
  | n + 1, F => sm n F + F n
theorem qBy {F G : Fu} : ∀ {n : Nat}, (∀ i, i < n → F i = G i) → sm n F = sm n G
  | 0, _ => rfl
  | n + 1, h => by
    show sm n F + F n = sm n G + G n
    rw [qBy fun i hi => h i (by omega), h n (by omega)]
theorem qPf (F G : Fu) : ∀ n, sm n (fun i => F i + G i) = sm n F + sm n G
  | 0 => by show (0 : Rat) = 0 + 0; rw [Rat.add_zero]
  | n + 1 => by
    show sm n _ + (F n + G n) = (sm n F + F n) + (sm n G + G n)
    rw [qPf F G n]
    grind
theorem qQp (c : Rat) (F : Fu) : ∀ n, sm n (fun i => c * F i) = c * sm n F
  | 0 => by show (0 : Rat) = c * 0; rw [Rat.mul_zero]
  | n + 1 => by
    show sm n _ + c * F n = c * (sm n F + F n)
    rw [qQp c F n, Rat.mul_add]
theorem qEd {F : Fu} : ∀ {n : Nat}, (∀ i, i < n → F i = 0) → sm n F = 0
  | 0, _ => rfl
  | n + 1, h => by
    show sm n F + F n = 0
    rw [qEd fun i hi => h i (by omega), h n (by omega), Rat.add_zero]
theorem qIo {F : Fu} {n : Nat} (h : ∀ i, n ≤ i → F i = 0) : ∀ m, n ≤ m → sm m F = sm n F
  | 0, hm => by rw [show n = 0 by omega]
  | m + 1, hm => by
    by_cases e : n = m + 1
    · rw [e]
    · show sm m F + F m = _
      rw [qIo h m (by omega), h m (by omega), Rat.add_zero]
theorem qM7 (F : Fu) : ∀ n, sm (n + 1) F = F 0 + sm n (fun i => F (i + 1))
  | 0 => by show 0 + F 0 = F 0 + 0; rw [Rat.zero_add, Rat.add_zero]
  | n + 1 => by
    show sm (n + 1) F + F (n + 1) = F 0 + (sm n (fun i => F (i + 1)) + F (n + 1))
    rw [qM7 F n, Rat.add_assoc]
theorem qWt (F : Nat → Nat → Rat) (m : Nat) : ∀ n, sm n (fun i => sm m (fun j => F i j)) = sm m (fun j => sm n (fun i => F i j))
  | 0 => by
    show (0 : Rat) = _
    rw [qEd]
    intro i _
    rfl
  | n + 1 => by
    show sm n (fun i => sm m (fun j => F i j)) + sm m (fun j => F n j) = _
    rw [qWt F m n, ← qPf]
    rfl
/-! ### polynomials as sequences of coefficients -/
/-- nothing from n on -/
def Dg (n : Nat) (f : Fu) : Prop := ∀ i, n ≤ i → f i = 0
theorem Dg.mono {n m : Nat} {f : Fu} (h : Dg n f) (hn : n ≤ m) : Dg m f := fun i hi => h i (by omega)
def xF (f : Fu) : Fu
  | 0 => 0
  | i + 1 => f i
theorem Dg.x {n : Nat} {f : Fu} (h : Dg n f) : Dg (n + 1) (xF f) := fun i hi => by
  cases i with
  | zero => rfl
  | succ i => exact h i (by omega)
theorem Dg.sub {n : Nat} {f g : Fu} (h : Dg n f) (h' : Dg n g) (c : Rat) : Dg n (fun i => f i - c * g i) := fun i hi => by
  show f i - c * g i = 0
  rw [h i hi, h' i hi, Rat.mul_zero, Rat.sub_eq_add_neg, Rat.neg_zero, Rat.add_zero]
/-- the form of the row m -/
def Bf (N : Nat) (m f g : Fu) : Rat := sm N fun i => sm N fun j => f i * g j * m (i + j)
section
variable {N : Nat} {m : Fu}
theorem qD6 (f g : Fu) : Bf N m f g = Bf N m g f := by
  unfold Bf
  rw [qWt]
  refine qBy fun i _ => qBy fun j _ => ?_
  rw [Nat.add_comm j i, Rat.mul_comm (f j)]
theorem qH3 {f f' g g' : Fu} (h : ∀ i, f i = f' i) (h' : ∀ i, g i = g' i) : Bf N m f g = Bf N m f' g' := by
  rw [show f = f' from funext h, show g = g' from funext h']
theorem qZy (f f' g : Fu) : Bf N m (fun i => f i + f' i) g = Bf N m f g + Bf N m f' g := by
  unfold Bf
  rw [← qPf]
  refine qBy fun i _ => ?_
  rw [← qPf]
  refine qBy fun j _ => ?_
  grind
theorem qZv (c : Rat) (f g : Fu) : Bf N m (fun i => c * f i) g = c * Bf N m f g := by
  unfold Bf
  rw [← qQp]
  refine qBy fun i _ => ?_
  rw [← qQp]
  refine qBy fun j _ => ?_
  grind
theorem qPl (f f' g : Fu) (c : Rat) : Bf N m (fun i => f i - c * f' i) g = Bf N m f g - c * Bf N m f' g := by
  rw [show (fun i => f i - c * f' i) = (fun i => f i + (-c) * f' i) from funext fun i => by grind, qZy, qZv]
  grind
theorem qV0 (g f f' : Fu) (c : Rat) : Bf N m g (fun i => f i - c * f' i) = Bf N m g f - c * Bf N m g f' := by
  rw [qD6, qPl, qD6 f, qD6 f']
theorem qSq (g f f' : Fu) : Bf N m g (fun i => f i + f' i) = Bf N m g f + Bf N m g f' := by
  rw [qD6, qZy, qD6 f, qD6 f']
theorem qR1 (c : Rat) (g f : Fu) : Bf N m g (fun i => c * f i) = c * Bf N m g f := by
  rw [qD6, qZv, qD6 f]
/-- x on the one side, x on the other -/
theorem Bf_x {f g : Fu} (hf : Dg N f) (hg : Dg N g) : Bf (N + 1) m (xF f) g = Bf (N + 1) m f (xF g) := by
  have e1 : Bf (N + 1) m (xF f) g = sm N fun i => sm N fun j => f i * g j * m (i + 1 + j) := by
    unfold Bf
    rw [qM7]
    rw [qEd (F := fun j => xF f 0 * g j * m (0 + j)) fun j _ => by show 0 * g j * _ = 0; rw [Rat.zero_mul, Rat.zero_mul], Rat.zero_add]
    refine qBy fun i _ => ?_
    show sm N _ + xF f (i + 1) * g N * _ = _
    rw [hg N (Nat.le_refl _), Rat.mul_zero, Rat.zero_mul, Rat.add_zero]
    rfl
  have e2 : Bf (N + 1) m f (xF g) = sm N fun i => sm N fun j => f i * g j * m (i + 1 + j) := by
    unfold Bf
    show sm N _ + sm (N + 1) (fun j => f N * xF g j * m (N + j)) = _
    rw [qEd (F := fun j => f N * xF g j * m (N + j)) fun j _ => by rw [hf N (Nat.le_refl _), Rat.zero_mul, Rat.zero_mul], Rat.add_zero]
    refine qBy fun i _ => ?_
    rw [qM7]
    show f i * 0 * _ + _ = _
    rw [Rat.mul_zero, Rat.zero_mul, Rat.zero_add]
    refine qBy fun j _ => ?_
    show f i * g j * m (i + (j + 1)) = _
    rw [show i + (j + 1) = i + 1 + j by omega]
  rw [e1, e2]
end
/-! ### a product's mean -/
theorem qVt (cs ms : List Rat) : ∀ n, qYx cs ms n = sm n fun i => coef cs i * coef ms i
  | 0 => rfl
  | n + 1 => by
    show qYx cs ms n + coef cs n * coef ms n = _
    rw [qVt cs ms n]
    rfl
theorem qAb8 (cs : List Rat) : Dg cs.length (coef cs) := fun i hi => qAr hi
theorem qZe (cs ms : List Rat) {N : Nat} (h : cs.length ≤ N) : qHl cs ms = sm N fun i => coef cs i * coef ms i := by
  unfold qHl
  rw [qVt]
  exact (qIo (fun i hi => by rw [qAr hi, Rat.zero_mul]) N h).symm
theorem qAev (g m : Fu) (c : Rat) (n : Nat) {M : Nat} (hg : Dg M g) : ∀ K, n + M ≤ K → sm K (fun k => (if n ≤ k then c * g (k - n) else 0) * m k) = sm M (fun j => c * g j * m (n + j)) := by
  intro K hK
  have h1 : ∀ K, sm (n + K) (fun k => (if n ≤ k then c * g (k - n) else 0) * m k) = sm K (fun j => c * g j * m (n + j)) := by
    intro K
    induction K with
    | zero =>
      rw [Nat.add_zero]
      refine qEd fun i hi => ?_
      rw [if_neg (by omega), Rat.zero_mul]
    | succ K ih =>
      show sm (n + K) _ + (if n ≤ n + K then c * g (n + K - n) else 0) * m (n + K) = sm K _ + c * g K * m (n + K)
      rw [ih, if_pos (by omega), show n + K - n = K by omega]
  obtain ⟨d, rfl⟩ : ∃ d, K = n + (M + d) := ⟨K - n - M, by omega⟩
  rw [h1]
  exact qIo (fun i hi => by rw [hg i hi, Rat.mul_zero, Rat.zero_mul]) _ (by omega)
theorem qXo (f g m : Fu) {M : Nat} (hg : Dg M g) : ∀ n K, n + M ≤ K → sm K (fun k => conv f g n k * m k) = sm n (fun i => sm M (fun j => f i * g j * m (i + j)))
  | 0, K, _ => by
    rw [qEd fun i _ => by show (0 : Rat) * _ = 0; rw [Rat.zero_mul]]
    rfl
  | n + 1, K, h => by
    have e : ∀ k, conv f g (n + 1) k * m k = conv f g n k * m k + (if n ≤ k then f n * g (k - n) else 0) * m k := fun k => by
      show (conv f g n k + (if n ≤ k then f n * g (k - n) else 0)) * m k = _
      rw [Rat.add_mul]
    rw [qBy fun k _ => e k, qPf, qXo f g m hg n K (by omega), qAev g m (f n) n hg K (by omega)]
    rfl
theorem qJx (a b ms : List Rat) {N : Nat} (ha : a.length ≤ N) (hb : b.length ≤ N) : qHl (strip (qIk a b)) ms = Bf N (coef ms) (coef a) (coef b) := by
  have l1 := qC0 (qIk a b)
  have l2 := qGu a b
  rw [qZe _ _ (N := a.length + b.length) (by omega)]
  rw [qBy (G := fun k => conv (coef a) (coef b) a.length k * coef ms k) fun k _ => by rw [qA7, qE9]]
  rw [qXo _ _ _ (qAb8 b) _ _ (Nat.le_refl _)]
  unfold Bf
  rw [qIo (n := a.length) (fun i hi => qEd fun j _ => by rw [qAr hi, Rat.zero_mul, Rat.zero_mul]) N ha]
  refine qBy fun i _ => ?_
  exact (qIo (fun j hj => by rw [qAr hj, Rat.mul_zero, Rat.zero_mul]) N hb).symm
/-! ### the steps as sequences -/
theorem qAdo (p : List Rat) (i : Nat) : coef (xpN p) i = xF (coef p) i := by
  unfold xpN
  rw [qA7, qE9]
  show conv (coef xL) (coef p) 2 i = _
  show (0 + (if 0 ≤ i then coef xL 0 * coef p (i - 0) else 0)) + (if 1 ≤ i then coef xL 1 * coef p (i - 1) else 0) = _
  rw [show coef xL 0 = 0 from rfl, show coef xL 1 = 1 from rfl, if_pos (Nat.zero_le _), Rat.zero_mul, Rat.zero_add, Rat.zero_add]
  cases i with
  | zero => rfl
  | succ i =>
    rw [if_pos (by omega), Rat.one_mul]
    rfl
theorem qYw {q p : List Rat} {a : Rat} (h0 : coef q 0 = -a) (h1 : coef q 1 = 1) (h2 : ∀ i, 2 ≤ i → coef q i = 0) (i : Nat) : coef (strip (qIk q p)) i = xF (coef p) i - a * coef p i := by
  rw [qA7, qE9]
  have e : conv (coef q) (coef p) q.length i = conv (coef q) (coef p) 2 i := by
    by_cases hq : q.length ≤ 2
    · exact (qPp (fun k hk => qAr hk) 2 hq i).symm
    · exact qPp h2 q.length (by omega) i
  rw [e]
  show (0 + (if 0 ≤ i then coef q 0 * coef p (i - 0) else 0)) + (if 1 ≤ i then coef q 1 * coef p (i - 1) else 0) = _
  rw [h0, h1, if_pos (Nat.zero_le _), Nat.sub_zero]
  cases i with
  | zero =>
    rw [if_neg (by omega)]
    show _ = 0 - a * coef p 0
    grind
  | succ i =>
    rw [if_pos (by omega)]
    show 0 + -a * coef p (i + 1) + 1 * coef p i = coef p i - a * coef p (i + 1)
    grind
theorem qVj (ms p : List Rat) (w : Rat) (i : Nat) : coef (f1N ms p w) i = xF (coef p) i - alN ms p w * coef p i := by
  refine qYw ?_ ?_ (fun i hi => ?_) i
  · unfold qMn
    rw [qA7, qGx, qGs, qC2, if_pos rfl, show coef xL 0 = 0 from rfl, Rat.zero_add]
  · unfold qMn
    rw [qA7, qGx, qGs, qC2, if_neg (by decide), show coef xL 1 = 1 from rfl, Rat.neg_zero, Rat.add_zero]
  · unfold qMn
    rw [qA7, qGx, qGs, qC2, if_neg (by omega), qAr (show xL.length ≤ i from hi), Rat.neg_zero, Rat.add_zero]
theorem qT4 {f g : Nat → Rat} (hg : ∀ j, g (j + 1) = 0) (k : Nat) : ∀ n, conv f g n k = if k < n then f k * g 0 else 0
  | 0 => by simp [conv]
  | n + 1 => by
    show conv f g n k + (if n ≤ k then f n * g (k - n) else 0) = _
    rw [qT4 hg k n]
    by_cases h1 : k < n
    · rw [if_pos h1, if_neg (by omega), if_pos (by omega), Rat.add_zero]
    · rw [if_neg h1, Rat.zero_add]
      by_cases h2 : k = n
      · subst h2
        rw [if_pos (Nat.le_refl _), if_pos (by omega), Nat.sub_self]
      · rw [if_pos (by omega), if_neg (by omega)]
        obtain ⟨j, hj⟩ : ∃ j, k - n = j + 1 := ⟨k - n - 1, by omega⟩
        rw [hj, hg, Rat.mul_zero]
theorem qAb7 (w : Rat) (b : PW) (i : Nat) : coef (beN w b) i = w / b.2 * coef b.1 i := by
  unfold beN
  rw [qA7, qE9, qT4 (fun j => by rw [qC2, if_neg (by omega)]), qC2, if_pos rfl]
  split
  · exact Rat.mul_comm _ _
  · rw [qAr (by omega), Rat.mul_zero]
theorem qYi (ms : List Rat) (x : PW) (b : Option PW) : (qZo ms (some x) b).1 = fN ms x.1 x.2 b := by cases x; rfl
theorem qYu (ms : List Rat) (x : PW) (b : Option PW) : (qZo ms (some x) b).2 = qHl (sqN (fN ms x.1 x.2 b)) ms := by cases x; rfl
theorem ch1 (ms : List Rat) (k : Nat) : (chN ms (k + 1)).1.1 = fN ms (chN ms k).1.1 (chN ms k).1.2 (chN ms k).2 := by rw [qNy, qYi]
theorem ch2 (ms : List Rat) (k : Nat) : (chN ms (k + 1)).1.2 = qHl (sqN (chN ms (k + 1)).1.1) ms := by rw [ch1, qNy, qYu]
theorem chb (ms : List Rat) (k : Nat) : (chN ms (k + 1)).2 = some (chN ms k).1 := by rw [qNy]
theorem qAa4 (ms p : List Rat) (w : Rat) (b : PW) : fN ms p w (some b) = strip (qVf (f1N ms p w) (qOc (beN w b))) := rfl
/-- the k-th polynomial of the row, and its worth -/
def pS (ms : List Rat) (k : Nat) : Fu := coef (chN ms k).1.1
def hS (ms : List Rat) (k : Nat) : Rat := (chN ms k).1.2
def aS (ms : List Rat) (k : Nat) : Rat := alN ms (chN ms k).1.1 (chN ms k).1.2
theorem qRy (ms : List Rat) (i : Nat) : pS ms 0 i = if i = 0 then 1 else 0 := by
  show coef [1] i = _
  cases i with
  | zero => rfl
  | succ i => rw [qAr (by simp)]; simp
theorem qXl (ms : List Rat) (i : Nat) : pS ms 1 i = xF (pS ms 0) i - aS ms 0 * pS ms 0 i := qVj ms _ _ i
theorem qR9 (ms : List Rat) (k i : Nat) : pS ms (k + 2) i = xF (pS ms (k + 1)) i - aS ms (k + 1) * pS ms (k + 1) i - hS ms (k + 1) / hS ms k * pS ms k i := by
  unfold pS hS aS
  rw [ch1 ms (k + 1), chb, qAa4, qA7, qGx, qGs, qVj, qAb7, Rat.sub_eq_add_neg (_ - _)]
theorem qPw (ms : List Rat) (k : Nat) : Dg (k + 1) (pS ms k) := fun i hi => qAr (Nat.le_trans (qG9 ms k).1 hi)
theorem qTq (ms : List Rat) : ∀ k, pS ms k k = 1
  | 0 => by rw [qRy, if_pos rfl]
  | 1 => by
    rw [qXl]
    show pS ms 0 0 - aS ms 0 * pS ms 0 1 = 1
    rw [qRy, if_pos rfl, qRy, if_neg (by decide), Rat.mul_zero]
    grind
  | k + 2 => by
    rw [qR9]
    show pS ms (k + 1) (k + 1) - _ * pS ms (k + 1) (k + 2) - _ * pS ms k (k + 2) = 1
    rw [qTq ms (k + 1), qPw ms (k + 1) (k + 2) (by omega), qPw ms k (k + 2) (by omega), Rat.mul_zero, Rat.mul_zero]
    grind
theorem qO5 (ms : List Rat) (k : Nat) {N : Nat} (hN : k + 1 ≤ N) : hS ms k = Bf N (coef ms) (pS ms k) (pS ms k) := by
  cases k with
  | zero =>
    have e := qJx [1] [1] ms (N := N) (by simpa using hN) (by simpa using hN)
    show coef ms 0 = Bf N (coef ms) (coef [1]) (coef [1])
    rw [← e]
    have e2 : strip (qIk [1] [1]) = [(1 : Rat)] := by
      have : qIk [(1 : Rat)] [1] = [1] := by
        unfold qIk conv
        simp [coef, conv]
        grind
      rw [this]
      exact qMv (n := 0) rfl (by decide)
    rw [e2]
    show coef ms 0 = 0 + 1 * coef ms 0
    grind
  | succ k =>
    have l := (qG9 ms (k + 1)).1
    unfold hS pS
    rw [ch2]
    exact qJx (chN ms (k + 1)).1.1 (chN ms (k + 1)).1.1 ms (by omega) (by omega)
theorem qAej (ms : List Rat) (k : Nat) {N : Nat} (hN : k + 2 ≤ N) : aS ms k = Bf N (coef ms) (xF (pS ms k)) (pS ms k) / hS ms k := by
  have l := (qG9 ms k).1
  have l2 := qW5 (chN ms k).1.1
  have e : qHl (qXt (chN ms k).1.1) ms = Bf N (coef ms) (coef (xpN (chN ms k).1.1)) (coef (chN ms k).1.1) := qJx _ _ ms (by omega) (by omega)
  show qHl (qXt (chN ms k).1.1) ms / hS ms k = _
  rw [e, qH3 (fun i => qAdo (chN ms k).1.1 i) (fun i => rfl)]
  rfl
end MR

set_option Elab.async false
set_option linter.all false
set_option maxRecDepth 100000
set_option maxHeartbeats 1000000
/-! NOrth2: the steps are orthogonal; the form tells a polynomial from 0 -/
namespace MR
open PySem PySem.Spec PyProof.Rows L2
section
variable {N : Nat} {ms : List Rat} {g f : Fu}
theorem qAa3 (g : Fu) : Bf N (coef ms) g (xF (pS ms 0)) = Bf N (coef ms) g (pS ms 1) + aS ms 0 * Bf N (coef ms) g (pS ms 0) := by
  have e : ∀ i, xF (pS ms 0) i = pS ms 1 i + aS ms 0 * pS ms 0 i := fun i => by rw [qXl]; grind
  rw [qH3 (fun i => rfl) e, qSq, qR1]
theorem qAct (g : Fu) (a : Nat) : Bf N (coef ms) g (xF (pS ms (a + 1))) = Bf N (coef ms) g (pS ms (a + 2)) + aS ms (a + 1) * Bf N (coef ms) g (pS ms (a + 1)) + hS ms (a + 1) / hS ms a * Bf N (coef ms) g (pS ms a) := by
  have e : ∀ i, xF (pS ms (a + 1)) i = (pS ms (a + 2) i + aS ms (a + 1) * pS ms (a + 1) i) + hS ms (a + 1) / hS ms a * pS ms a i := fun i => by
    rw [qR9 ms a i]
    generalize hS ms (a + 1) / hS ms a = c
    grind
  rw [qH3 (fun i => rfl) e, qSq, qSq, qR1, qR1]
theorem qAf6 (g : Fu) : Bf N (coef ms) (pS ms 1) g = Bf N (coef ms) (xF (pS ms 0)) g - aS ms 0 * Bf N (coef ms) (pS ms 0) g := by
  rw [qH3 (fun i => qXl ms i) (fun i => rfl), qPl]
theorem qAdh (g : Fu) (k : Nat) : Bf N (coef ms) (pS ms (k + 2)) g = Bf N (coef ms) (xF (pS ms (k + 1))) g - aS ms (k + 1) * Bf N (coef ms) (pS ms (k + 1)) g - hS ms (k + 1) / hS ms k * Bf N (coef ms) (pS ms k) g := by
  rw [qH3 (fun i => qR9 ms k i) (fun i => rfl), qPl, qPl]
end
theorem sub0 (a : Rat) : a - 0 = a := by grind
theorem qJ3 {a b : Rat} (h : b ≠ 0) : a / b * b = a := by grind
theorem orth {ms : List Rat} {n N : Nat} (hN : n + 1 ≤ N) (h : ∀ k, k < n → hS ms k ≠ 0) : ∀ k, k ≤ n → ∀ a b, a < b → b ≤ k → Bf (N + 1) (coef ms) (pS ms b) (pS ms a) = 0
  | 0, _, a, b, h1, h2 => by omega
  | 1, hk, a, b, h1, h2 => by
    obtain rfl : b = 1 := by omega
    obtain rfl : a = 0 := by omega
    have h0 := h 0 (by omega)
    rw [qAf6, ← qO5 ms 0 (by omega), qAej ms 0 (N := N + 1) (by omega), qJ3 h0, Rat.sub_self]
  | k + 2, hk, a, b, h1, h2 => by
    have ih := orth hN h (k + 1) (by omega)
    by_cases hb : b ≤ k + 1
    · exact ih a b h1 hb
    · obtain rfl : b = k + 2 := by omega
      have sy : ∀ i j, i < j → j ≤ k + 1 → Bf (N + 1) (coef ms) (pS ms i) (pS ms j) = 0 := fun i j hij hj => by rw [qD6]; exact ih i j hij hj
      rw [qAdh]
      have hk0 := h k (by omega)
      have hk1 := h (k + 1) (by omega)
      by_cases ha : a = k + 1
      · subst ha
        rw [← qO5 ms (k + 1) (by omega), sy k (k + 1) (by omega) (by omega), qAej ms (k + 1) (N := N + 1) (by omega), qJ3 hk1, Rat.sub_self, Rat.mul_zero, Rat.sub_self]
      · rw [Bf_x ((qPw ms (k + 1)).mono (by omega)) ((qPw ms a).mono (by omega)), ih a (k + 1) (by omega) (by omega), Rat.mul_zero, sub0]
        cases a with
        | zero =>
          rw [qAa3, ih 0 (k + 1) (by omega) (by omega), Rat.mul_zero, Rat.add_zero]
          cases k with
          | zero =>
            rw [← qO5 ms (0 + 1) (by omega), ← qO5 ms 0 (by omega), qJ3 hk0, Rat.sub_self]
          | succ k =>
            rw [ih 1 (k + 1 + 1) (by omega) (by omega), ih 0 (k + 1) (by omega) (by omega), Rat.mul_zero, Rat.sub_self]
        | succ a =>
          rw [qAct, ih (a + 1) (k + 1) (by omega) (by omega), ih a (k + 1) (by omega) (by omega), Rat.mul_zero, Rat.add_zero, Rat.mul_zero, Rat.add_zero]
          by_cases hak : a + 1 = k
          · subst hak
            rw [← qO5 ms (a + 1 + 1) (by omega), ← qO5 ms (a + 1) (by omega), qJ3 hk0, Rat.sub_self]
          · rw [ih (a + 2) (k + 1) (by omega) (by omega), ih (a + 1) k (by omega) (by omega), Rat.mul_zero, Rat.sub_self]
/-- against all lower degrees -/
theorem qAas {ms : List Rat} {M : Nat} {g : Fu} : ∀ {n : Nat}, (∀ i, i < n → Bf M (coef ms) g (pS ms i) = 0) → ∀ {f : Fu}, Dg n f → Bf M (coef ms) g f = 0
  | 0, _, f, hf => by
    unfold Bf
    exact qEd fun i _ => qEd fun j _ => by rw [hf j (by omega), Rat.mul_zero, Rat.zero_mul]
  | n + 1, h, f, hf => by
    have d : Dg n (fun i => f i - f n * pS ms n i) := fun i hi => by
      show f i - f n * pS ms n i = 0
      by_cases e : i = n
      · subst e
        rw [qTq, Rat.mul_one, Rat.sub_self]
      · rw [hf i (by omega), qPw ms n i (by omega), Rat.mul_zero, Rat.sub_self]
    have := qAas (fun i hi => h i (by omega)) d
    rw [qV0, h n (by omega), Rat.mul_zero] at this
    grind
theorem qX3 {ms : List Rat} {n N : Nat} (hN : n + 1 ≤ N) (h : ∀ k, k < n → hS ms k ≠ 0) {f : Fu} (hf : Dg n f) : Bf (N + 1) (coef ms) (pS ms n) f = 0 := qAas (fun i hi => orth hN h n (Nat.le_refl _) i n hi (Nat.le_refl _)) hf
/-- what is orthogonal to all degrees below n, and below degree n, is 0 -/
theorem nondeg {ms : List Rat} {N : Nat} : ∀ (n : Nat), n ≤ N → (∀ k, k < n → hS ms k ≠ 0) → ∀ {f : Fu}, Dg n f → (∀ i, i < n → Bf (N + 1) (coef ms) f (pS ms i) = 0) → ∀ i, f i = 0
  | 0, _, _, f, hf, _ => fun i => hf i (by omega)
  | n + 1, hN, h, f, hf, ho => by
    have hn := h n (by omega)
    have d : Dg n (fun i => f i - f n * pS ms n i) := fun i hi => by
      show f i - f n * pS ms n i = 0
      by_cases e : i = n
      · subst e
        rw [qTq, Rat.mul_one, Rat.sub_self]
      · rw [hf i (by omega), qPw ms n i (by omega), Rat.mul_zero, Rat.sub_self]
    have e := qX3 (ms := ms) (n := n) (N := N) (by omega) (fun k hk => h k (by omega)) d
    rw [qV0, ← qO5 ms n (by omega), qD6, ho n (by omega)] at e
    have f0 : f n = 0 := by
      have : f n * hS ms n = 0 := by grind
      rcases Rat.mul_eq_zero.mp this with z | z
      · exact z
      · exact absurd z hn
    refine nondeg n (by omega) (fun k hk => h k (by omega)) (fun i hi => ?_) (fun i hi => ho i (by omega))
    by_cases e : i = n
    · rw [e, f0]
    · exact hf i (by omega)
end MR

set_option Elab.async false
set_option linter.all false
set_option maxRecDepth 100000
set_option maxHeartbeats 1000000
/-! NSiegel: a small whole solution of few equations (by counting); so the steps' polynomials have small numbers -/
namespace MR
open PySem PySem.Spec PyProof.Rows L2
theorem pig : ∀ (B A : Nat) (f : Nat → Nat), B < A → (∀ i, i < A → f i < B) → ∃ i j, i < j ∧ j < A ∧ f i = f j
  | 0, A, f, h, hf => absurd (hf 0 (by omega)) (by omega)
  | B + 1, A, f, h, hf => by
    by_cases e : ∃ i, i < A - 1 ∧ f i = f (A - 1)
    · obtain ⟨i, h1, h2⟩ := e
      exact ⟨i, A - 1, h1, by omega, h2⟩
    · have ne : ∀ i, i < A - 1 → f i ≠ f (A - 1) := fun i hi z => e ⟨i, hi, z⟩
      have hl := hf (A - 1) (by omega)
      obtain ⟨i, j, h1, h2, h3⟩ := pig B (A - 1) (fun i => if f i = B then f (A - 1) else f i) (by omega) (fun i hi => by
        show (if f i = B then f (A - 1) else f i) < B
        have hi2 := hf i (by omega)
        have hn := ne i hi
        split
        · omega
        · omega)
      refine ⟨i, j, h1, by omega, ?_⟩
      have h3 : (if f i = B then f (A - 1) else f i) = (if f j = B then f (A - 1) else f j) := h3
      have n1 := ne i (by omega)
      have n2 := ne j (by omega)
      split at h3
      · split at h3
        · omega
        · exact absurd h3.symm n2
      · split at h3
        · exact absurd h3 n1
        · exact h3
def enc (B : Nat) (v : Nat → Nat) : Nat → Nat
  | 0 => 0
  | s + 1 => v 0 + B * enc B (fun i => v (i + 1)) s
theorem qWg {B : Nat} : ∀ {s : Nat} {v : Nat → Nat}, (∀ i, i < s → v i < B) → enc B v s < B ^ s
  | 0, v, _ => by show 0 < B ^ 0; simp
  | s + 1, v, h => by
    have h0 := h 0 (by omega)
    have ih := qWg (B := B) (s := s) (v := fun i => v (i + 1)) fun i hi => h (i + 1) (by omega)
    show v 0 + B * enc B (fun i => v (i + 1)) s < B ^ (s + 1)
    have : B * (enc B (fun i => v (i + 1)) s + 1) ≤ B * B ^ s := Nat.mul_le_mul_left _ ih
    rw [Nat.mul_add, Nat.mul_one] at this
    have e : B ^ (s + 1) = B * B ^ s := by rw [Nat.pow_succ, Nat.mul_comm]
    rw [e]
    omega
theorem qR8 {B : Nat} : ∀ {s : Nat} {v w : Nat → Nat}, (∀ i, i < s → v i < B) → (∀ i, i < s → w i < B) → enc B v s = enc B w s → ∀ i, i < s → v i = w i
  | 0, v, w, _, _, _, i, hi => by omega
  | s + 1, v, w, hv, hw, he, i, hi => by
    have he : v 0 + B * enc B (fun i => v (i + 1)) s = w 0 + B * enc B (fun i => w (i + 1)) s := he
    have h0 := hv 0 (by omega)
    have h1 := hw 0 (by omega)
    have e0 : v 0 = w 0 := by
      have := congrArg (· % B) he
      simpa [Nat.add_mul_mod_self_left, Nat.mod_eq_of_lt h0, Nat.mod_eq_of_lt h1] using this
    have e1 : enc B (fun i => v (i + 1)) s = enc B (fun i => w (i + 1)) s := by
      have : B * enc B (fun i => v (i + 1)) s = B * enc B (fun i => w (i + 1)) s := by omega
      exact Nat.eq_of_mul_eq_mul_left (by omega) this
    cases i with
    | zero => exact e0
    | succ i => exact qR8 (fun i hi => hv (i + 1) (by omega)) (fun i hi => hw (i + 1) (by omega)) e1 i (by omega)
def dig (B : Nat) : Nat → Nat → Nat
  | 0, n => n % B
  | j + 1, n => dig B j (n / B)
theorem qLe {B : Nat} (hB : 0 < B) : ∀ j n, dig B j n < B
  | 0, n => Nat.mod_lt _ hB
  | j + 1, n => qLe hB j (n / B)
theorem qRc {B : Nat} (hB : 0 < B) : ∀ {s n n' : Nat}, n < B ^ s → n' < B ^ s → (∀ j, j < s → dig B j n = dig B j n') → n = n'
  | 0, n, n', h, h', _ => by
    rw [Nat.pow_zero] at h h'
    omega
  | s + 1, n, n', h, h', hd => by
    rw [Nat.pow_succ, Nat.mul_comm] at h h'
    have h0 : n % B = n' % B := hd 0 (by omega)
    have ih := qRc hB (s := s) (Nat.div_lt_of_lt_mul h) (Nat.div_lt_of_lt_mul h') fun j hj => hd (j + 1) (by omega)
    rw [← Nat.div_add_mod n B, ← Nat.div_add_mod n' B, ih, h0]
/-- sums of whole numbers -/
def smI : Nat → (Nat → Int) → Int
  | 0, _ => 0
  | n + 1, F => smI n F + F n
theorem qKc {F G : Nat → Int} : ∀ {n : Nat}, (∀ i, i < n → F i = G i) → smI n F = smI n G
  | 0, _ => rfl
  | n + 1, h => by
    show smI n F + F n = smI n G + G n
    rw [qKc fun i hi => h i (by omega), h n (by omega)]
theorem qRh (F G : Nat → Int) : ∀ n, smI n (fun i => F i - G i) = smI n F - smI n G
  | 0 => rfl
  | n + 1 => by
    show smI n _ + (F n - G n) = (smI n F + F n) - (smI n G + G n)
    rw [qRh F G n]
    omega
theorem qSo {F : Nat → Int} {T : Nat} : ∀ n, (∀ i, i < n → (F i).natAbs ≤ T) → (smI n F).natAbs ≤ n * T
  | 0, _ => Nat.zero_le _
  | n + 1, h => by
    have h1 := qSo n fun i hi => h i (by omega)
    have h2 := h n (by omega)
    show (smI n F + F n).natAbs ≤ (n + 1) * T
    rw [Nat.add_mul, Nat.one_mul]
    omega
theorem qOh (F : Nat → Int) : ∀ n, ((smI n F : Int) : Rat) = sm n fun i => ((F i : Int) : Rat)
  | 0 => Rat.intCast_zero
  | n + 1 => by
    show ((smI n F + F n : Int) : Rat) = sm n _ + _
    rw [Rat.intCast_add, qOh F n]
/-- s equations with s + 1 unknowns have a small whole solution that is not 0 -/
theorem siegel {s mu : Nat} (hs : s ≤ 7) (a : Nat → Nat → Int) (ha : ∀ i j, (a i j).natAbs ≤ 2 ^ mu) : ∃ x : Nat → Int, (∀ j, (x j).natAbs ≤ 2 ^ ((mu + 5) * s + 1)) ∧ (∃ j, j < s + 1 ∧ x j ≠ 0) ∧ (∀ j, s + 1 ≤ j → x j = 0) ∧ ∀ i, i < s → smI (s + 1) (fun j => a i j * x j) = 0 := by
  obtain ⟨t, ht⟩ : ∃ t, t = (mu + 5) * s + 1 := ⟨_, rfl⟩
  rw [← ht]
  have pB : 0 < 2 ^ t := Nat.two_pow_pos t
  -- the values, moved above 0
  let v : Nat → Nat → Int := fun n i => smI (s + 1) (fun j => a i j * (dig (2 ^ t) j n : Int))
  have hv : ∀ n i, (v n i).natAbs ≤ 2 ^ (t + mu + 3) := fun n i => by
    refine Nat.le_trans (qSo (T := 2 ^ mu * 2 ^ t) (s + 1) fun j _ => ?_) ?_
    · rw [Int.natAbs_mul]
      exact Nat.mul_le_mul (ha i j) (Nat.le_of_lt (qLe pB j n))
    · rw [← Nat.pow_add, show t + mu + 3 = 3 + (mu + t) by omega, Nat.pow_add 2 3]
      exact Nat.mul_le_mul_right _ (by omega)
  obtain ⟨O, hO⟩ : ∃ O : Nat, O = 2 ^ (t + mu + 3) := ⟨_, rfl⟩
  have e5 : 2 ^ (t + mu + 4) = 2 * O := by rw [hO, show t + mu + 4 = (t + mu + 3) + 1 by omega, Nat.pow_succ, Nat.mul_comm]
  have e6 : 2 ^ (t + mu + 5) = 4 * O := by rw [show t + mu + 5 = (t + mu + 4) + 1 by omega, Nat.pow_succ, e5]; omega
  have pO : 0 < O := by rw [hO]; exact Nat.two_pow_pos _
  let w : Nat → Nat → Nat := fun n i => (v n i + (O : Int)).toNat
  have hv' : ∀ n i, (v n i).natAbs ≤ O := fun n i => by rw [hO]; exact hv n i
  have hw : ∀ n i, w n i < 2 ^ (t + mu + 5) := fun n i => by
    have := hv' n i
    rw [e6]
    show (v n i + (O : Int)).toNat < _
    omega
  have hexp : (t + mu + 5) * s < t * (s + 1) := by
    rw [Nat.mul_add t, Nat.mul_one, show t + mu + 5 = t + (mu + 5) by omega, Nat.add_mul]
    omega
  obtain ⟨n, n', h1, h2, h3⟩ := pig ((2 ^ (t + mu + 5)) ^ s) ((2 ^ t) ^ (s + 1)) (fun n => enc (2 ^ (t + mu + 5)) (w n) s) (by
    rw [← Nat.pow_mul, ← Nat.pow_mul]
    exact Nat.pow_lt_pow_right (by decide) hexp) (fun n _ => qWg fun i _ => hw n i)
  have hwe := qR8 (fun i _ => hw n i) (fun i _ => hw n' i) h3
  have hve : ∀ i, i < s → v n i = v n' i := fun i hi => by
    have e : (v n i + (O : Int)).toNat = (v n' i + (O : Int)).toNat := hwe i hi
    have b1 := hv' n i
    have b2 := hv' n' i
    omega
  refine ⟨fun j => if j < s + 1 then (dig (2 ^ t) j n : Int) - (dig (2 ^ t) j n' : Int) else 0, fun j => ?_, ?_, fun j hj => if_neg (by omega), fun i hi => ?_⟩
  · have d1 := qLe pB j n
    have d2 := qLe pB j n'
    show (if j < s + 1 then _ else _ : Int).natAbs ≤ _
    split
    · omega
    · simp
  · refine Classical.byContradiction fun z => ?_
    have : ∀ j, j < s + 1 → dig (2 ^ t) j n = dig (2 ^ t) j n' := fun j hj => by
      refine Classical.byContradiction fun y => z ⟨j, hj, ?_⟩
      show (if j < s + 1 then _ else _ : Int) ≠ 0
      rw [if_pos hj]
      omega
    have := qRc pB (s := s + 1) (by omega) h2 this
    omega
  · have e : ∀ j, j < s + 1 → a i j * (if j < s + 1 then (dig (2 ^ t) j n : Int) - (dig (2 ^ t) j n' : Int) else 0) = a i j * (dig (2 ^ t) j n : Int) - a i j * (dig (2 ^ t) j n' : Int) := fun j hj => by
      rw [if_pos hj, Int.mul_sub]
    rw [qKc e, qRh]
    have := hve i hi
    show v n i - v n' i = 0
    omega
/-- the polynomial of a step over a small whole number -/
theorem qU2 {mu : Nat} {M : Int} {ms : List Rat} {s : Nat} (hm : Cd mu M ms) (hs : s ≤ 7) (h : ∀ k, k < s → hS ms k ≠ 0) : ∃ D, Cd ((mu + 5) * s + 1) D (chN ms s).1.1 := by
  -- the numbers of the row, whole
  have hM : ∀ i, ∃ z : Int, coef ms i * (M : Rat) = (z : Rat) ∧ z.natAbs ≤ 2 ^ mu := hm.ov
  obtain ⟨z, hz⟩ : ∃ z : Nat → Int, ∀ i, coef ms i * (M : Rat) = (z i : Rat) ∧ (z i).natAbs ≤ 2 ^ mu := ⟨fun i => (hM i).choose, fun i => (hM i).choose_spec⟩
  obtain ⟨x, xb, ⟨j0, hj0, x0⟩, xd, xe⟩ := siegel (s := s) (mu := mu) hs (fun i j => z (i + j)) (fun i j => (hz (i + j)).2)
  have nM := qC4 hm.pos
  have dx : Dg (s + 1) (fun j => ((x j : Int) : Rat)) := fun j hj => by
    show ((x j : Int) : Rat) = 0
    rw [xd j hj, Rat.intCast_zero]
  have eqs : ∀ i, i < s → sm (s + 1) (fun j => coef ms (i + j) * ((x j : Int) : Rat)) = 0 := fun i hi => by
    have e := congrArg (fun y : Int => (y : Rat)) (xe i hi)
    rw [qOh, Rat.intCast_zero] at e
    have e2 : sm (s + 1) (fun j => ((z (i + j) * x j : Int) : Rat)) = (M : Rat) * sm (s + 1) (fun j => coef ms (i + j) * ((x j : Int) : Rat)) := by
      rw [← qQp]
      refine qBy fun j _ => ?_
      rw [Rat.intCast_mul, ← (hz (i + j)).1]
      grind
    rw [e2] at e
    rcases Rat.mul_eq_zero.mp e with y | y
    · exact absurd y nM
    · exact y
  -- orthogonal to all lower degrees
  have low : ∀ g, Dg s g → Bf (s + 2) (coef ms) g (fun j => ((x j : Int) : Rat)) = 0 := fun g hg => by
    unfold Bf
    refine qEd fun i _ => ?_
    by_cases hi : i < s
    · rw [qIo (n := s + 1) (fun j hj => by rw [dx j hj, Rat.mul_zero, Rat.zero_mul]) (s + 2) (by omega)]
      have e : sm (s + 1) (fun j => g i * ((x j : Int) : Rat) * coef ms (i + j)) = g i * sm (s + 1) (fun j => coef ms (i + j) * ((x j : Int) : Rat)) := by
        rw [← qQp]
        exact qBy fun j _ => by grind
      rw [e, eqs i hi, Rat.mul_zero]
    · exact qEd fun j _ => by rw [hg i (by omega), Rat.zero_mul, Rat.zero_mul]
  have p1 := fun (i : Nat) (hi : i < s) => low (pS ms i) ((qPw ms i).mono (by omega))
  have dy : Dg s (fun j => ((x j : Int) : Rat) - ((x s : Int) : Rat) * pS ms s j) := fun j hj => by
    show ((x j : Int) : Rat) - ((x s : Int) : Rat) * pS ms s j = 0
    by_cases e : j = s
    · subst e
      rw [qTq, Rat.mul_one, Rat.sub_self]
    · rw [show ((x j : Int) : Rat) = 0 from dx j (by omega), qPw ms s j (by omega), Rat.mul_zero, Rat.sub_self]
  have ey := nondeg (ms := ms) (N := s + 1) s (by omega) h dy (fun i hi => by
    rw [qPl, qD6, p1 i hi, orth (n := s) (Nat.le_refl _) h s (Nat.le_refl _) i s hi (Nat.le_refl _), Rat.mul_zero, Rat.sub_self])
  have xs0 : x s ≠ 0 := fun e => by
    have e2 : ((x j0 : Int) : Rat) - ((x s : Int) : Rat) * pS ms s j0 = 0 := ey j0
    rw [e, Rat.intCast_zero, Rat.zero_mul, sub0, ← Rat.intCast_zero] at e2
    exact x0 (Rat.intCast_inj.mp e2)
  have val : ∀ i, coef (chN ms s).1.1 i * ((x s : Int) : Rat) = ((x i : Int) : Rat) := fun i => by
    have e2 : ((x i : Int) : Rat) - ((x s : Int) : Rat) * coef (chN ms s).1.1 i = 0 := ey i
    grind
  refine ⟨((x s).natAbs : Int), by omega, by rw [Int.natAbs_natCast]; exact xb s, fun i => ?_⟩
  by_cases hp : 0 ≤ x s
  · rw [show ((x s).natAbs : Int) = x s by omega]
    exact ⟨x i, val i, xb i⟩
  · rw [show ((x s).natAbs : Int) = -x s by omega]
    exact ⟨-x i, by rw [Rat.intCast_neg, Rat.intCast_neg, ← val i]; grind, by have := xb i; omega⟩
end MR

set_option Elab.async false
set_option linter.all false
set_option maxRecDepth 100000
set_option maxHeartbeats 1000000
set_option exponentiation.threshold 20000
/-! NStep3: the list of steps, what it decides; leading parts of a row -/
namespace MR
open PySem PySem.Spec PyProof.Rows L2
abbrev Step := Nat × List Rat × List Rat × Rat
/-- how many steps of the factor have a number below k -/
def cntN (u : List Rat) (k : Nat) : Nat := (k + 2 - u.length) / 2
abbrev OnN (u : List Rat) (k : Nat) : Prop := u.length ≤ k + 1 ∧ (k + 1 - u.length) % 2 = 0
def stpN (ms u : List Rat) (k : Nat) : Step := (k, u, (chN (shL u ms) (cntN u k)).1)
def rndN (ms : List Rat) : List (List Rat) → Nat → List Step
  | [], _ => []
  | u :: us, k => if OnN u k then stpN ms u k :: rndN ms us k else rndN ms us k
def posS (s : Step) : Bool := decide (0 < s.2.2.2)
def qAga (l : List Step) : Option Step := l.find? fun s => !posS s
def powX (j : Nat) : List Rat := List.replicate j 0 ++ [1]
def qR2 (s : Step) : List Rat := strip (qCd (strip (qIk s.2.1 s.2.2.1)))
/-! ### the sizes -/
def tbN (m K : Nat) : Nat := (m + 5) * K + 1
theorem qJ1 {m j k : Nat} (h : j ≤ k) : tbN m j ≤ tbN m k := by
  have := Nat.mul_le_mul_left (m + 5) h
  unfold tbN
  omega
theorem qUu (ms : List Rat) (k : Nat) : (chN ms k).1.2 = qHl (sqN (chN ms k).1.1) ms := by
  have l := (qG9 ms k).1
  have e1 := qO5 ms k (N := k + 1) (Nat.le_refl _)
  have e2 := qJx (chN ms k).1.1 (chN ms k).1.1 ms (N := k + 1) l l
  unfold hS pS at e1
  unfold sqN
  rw [e1, e2]
theorem qJz {m : Nat} {M : Int} {ms : List Rat} {k T : Nat} (hm : Cd m M ms) (hk : k ≤ 7) (hT : tbN m k ≤ T) (h : ∀ j, j < k → 0 < (chN ms j).1.2) : ∃ D, Lv2 m M T D (chN ms k).1.1 (chN ms k).1.2 := by
  obtain ⟨D, hD⟩ := qU2 hm hk fun j hj => Rat.ne_of_gt (h j hj)
  have hD : Cd T D (chN ms k).1.1 := hD.mono hT
  have l := (qG9 ms k).1
  have cs : Cd (2 * T + 4) (D * D) (sqN (chN ms k).1.1) := ((hD.mul hD (by omega)).strip).mono (by omega)
  refine ⟨D, hD, ?_⟩
  rw [qUu]
  have ls := qAae (chN ms k).1.1
  exact (cs.dot hm (by omega)).mono (qC9 (by omega))
structure StOk (K : Nat) (ms : List Rat) (fs : List (List Rat)) (a c : Nat) : Prop where
  k6 : K ≤ 7
  len : ms.length ≤ 2 * K + 2
  cm : ∃ M, Cd c M ms
  cu : ∀ u, u ∈ fs → 0 < u.length ∧ u.length ≤ 3 ∧ ∃ d, Cd a d u
  bt : 24 * tbN (a + c + 4) K + 10 * (a + c + 4) + 200 ≤ 900000
theorem StOk.row {K : Nat} {ms : List Rat} {fs : List (List Rat)} {a c : Nat} (h : StOk K ms fs a c) {u : List Rat} (hu : u ∈ fs) : ∃ M, Cd (a + c + 4) M (shL u ms) := by
  obtain ⟨M, hM⟩ := h.cm
  obtain ⟨_, hl, d, hd⟩ := h.cu u hu
  exact ⟨_, hd.sh hM (by omega)⟩
theorem StOk.step {K : Nat} {ms : List Rat} {fs : List (List Rat)} {a c : Nat} (h : StOk K ms fs a c) {u : List Rat} (hu : u ∈ fs) {k : Nat} (hk : k + 1 ≤ K) (hw : ∀ j, j ≤ k → 0 < (chN (shL u ms) j).1.2) : StepSz (shL u ms) (chN (shL u ms) k).1.1 (chN (shL u ms) k).1.2 (chN (shL u ms) k).2 := by
  obtain ⟨M, hM⟩ := h.row hu
  have h6 := h.k6
  have hb := h.bt
  have t1 := qJ1 (m := a + c + 4) (show k ≤ K by omega)
  obtain ⟨D, h1⟩ := qJz hM (show k ≤ 7 by omega) t1 fun j hj => hw j (by omega)
  obtain ⟨l1, l2⟩ := qG9 (shL u ms) k
  have hb' : ∀ q, (chN (shL u ms) k).2 = some q → q.1.length ≤ 8 ∧ 0 < q.2 ∧ ∃ D', Lv2 (a + c + 4) M (tbN (a + c + 4) K) D' q.1 q.2 := fun q hq => by
    refine ⟨Nat.le_trans (l2 q hq) (by omega), ?_⟩
    cases k with
    | zero => cases hq
    | succ j =>
      cases hq
      exact ⟨hw j (by omega), qJz hM (show j ≤ 7 by omega) (qJ1 (by omega)) fun i hi => hw i (by omega)⟩
  exact (qAbe hM h1 (hw k (by omega)) (by omega) hb' (Nat.le_refl _) (by omega)).1
theorem StOk.lv {K : Nat} {ms : List Rat} {fs : List (List Rat)} {a c : Nat} (h : StOk K ms fs a c) {u : List Rat} (hu : u ∈ fs) {k : Nat} (hk : k ≤ K) (hw : ∀ j, j < k → 0 < (chN (shL u ms) j).1.2) : ∃ D, Cd (tbN (a + c + 4) K) D (chN (shL u ms) k).1.1 := by
  obtain ⟨M, hM⟩ := h.row hu
  have h6 := h.k6
  obtain ⟨D, hD⟩ := qJz hM (show k ≤ 7 by omega) (qJ1 hk) hw
  exact ⟨D, hD.cd⟩
theorem StOk.worth {K : Nat} {ms : List Rat} {fs : List (List Rat)} {a c : Nat} (h : StOk K ms fs a c) {u : List Rat} (hu : u ∈ fs) {k : Nat} (hk : k ≤ K) (hw : ∀ j, j < k → 0 < (chN (shL u ms) j).1.2) : Sz (2 * tbN (a + c + 4) K + (a + c + 4) + 9) (chN (shL u ms) k).1.2 := by
  obtain ⟨M, hM⟩ := h.row hu
  have h6 := h.k6
  obtain ⟨D, hD⟩ := qJz hM (show k ≤ 7 by omega) (qJ1 hk) hw
  exact qMf (n := 2 * tbN (a + c + 4) K + (a + c + 4) + 8) hD.ov (Int.mul_pos (Int.mul_pos hD.cd.pos hD.cd.pos) hM.pos) (Nat.le_trans (qBt (qBt hD.cd.le hD.cd.le) hM.le) (qC9 (by omega)))
/-! ### leading parts -/
/-- the first step in a round of k .. that is not above 0 -/
def stG (ms : List Rat) (fs : List (List Rat)) : Nat → Nat → Option Step
  | 0, _ => none
  | n + 1, k => match qAga (rndN ms fs k) with
    | some s => some s
    | none => stG ms fs n (k + 1)
/-- whether the first n numbers have a lot -/
def dK (ms : List Rat) (fs : List (List Rat)) (n : Nat) : Bool := match stG ms fs n 0 with
  | none => true
  | some s => if s.2.2.2 < 0 then false else ((List.range (n + 1 - (qR2 s).length)).find? fun j => decide (qHl (strip (qIk (qR2 s) (powX j))) ms ≠ 0)).isNone
end MR

set_option Elab.async false
set_option linter.all false
set_option maxRecDepth 100000
set_option maxHeartbeats 4000000
set_option exponentiation.threshold 20000
namespace MR
open PySem PySem.Spec PyProof.Rows L2
def UnSz (ms q : List Rat) : Prop := ∃ n d c M, Cd n d q ∧ Cd c M ms ∧ 2 * (n + c + 20) ≤ 900000 ∧ ms.length ≤ 16 ∧ q.length ≤ ms.length + 1
def BoSz (s : Step) : Prop := ∃ a b du dp, Cd a du s.2.1 ∧ Cd b dp s.2.2.1 ∧ 2 * (a + b + 10) ≤ 900000 ∧ s.2.1.length ≤ 8 ∧ s.2.2.1.length ≤ 8
structure StepOk (K : Nat) (ms : List Rat) (fs : List (List Rat)) (a c : Nat) (s : Step) : Prop where
  w : qPv s.2.2.2 ((0 : Int) : Rat)
  bo : BoSz s
  un : UnSz ms (qR2 s)
  len : s.2.1.length + s.2.2.1.length ≤ ms.length + 1
  l8 : s.2.1.length ≤ 3 ∧ s.2.2.1.length ≤ K + 1
  num : s.1 < ms.length
  fac : s.2.1 ∈ fs
end MR

set_option Elab.async false
set_option linter.all false
set_option maxRecDepth 100000
set_option maxHeartbeats 4000000
set_option exponentiation.threshold 20000
namespace MR
open PySem PySem.Spec PyProof.Rows L2
/-! ### division -/
/-- what is left when the quotient's numbers from t on are done -/
def qOf (dv q r : Nat → Rat) (t k : Nat) : Rat := conv q dv t k + r k
/-- one = dv * q + r -/
structure DivZ (za zb zc : Nat) (one dv q r : List Rat) : Prop where
  n : Nrm dv
  l : 0 < dv.length
  eq : ∀ k, coef one k = conv (coef q) (coef dv) q.length k + coef r k
  lr : r.length < dv.length
  lq : q.length = one.length + 1 - dv.length
  l1 : one.length ≤ 1000
  l2 : dv.length ≤ 1000
  za0 : 0 < za
  zb0 : 0 < zb
  zq : SzL za q
  zd : SzL zb dv
  zr : ∀ t k, t ≤ q.length → Sz zc (qOf (coef dv) (coef q) (coef r) t k)
  b : za + zb + zc ≤ 900000
def qC1 : FSp := fun ds P X => ∃ d1 d2 one dv, ds = [d1, d2] ∧ itD d1 = some (qCl one) ∧ itD d2 = some (qCl dv) ∧ ((strip dv = [] ∧ X ⟨"NoDivisor", []⟩) ∨ ∃ za zb zc q r, DivZ za zb zc one (strip dv) q r ∧ P (.tup [.lst (qCl q), .lst (qCl (strip r))]))
def qFu (K : PySem.W.Frag) (cs : List Str) (E : XK) : TS :=
  (tSeq (tAsg (tCall (lift K qEf) [] E0 (tCons (tCB (qIe K) (tCons (tVar 1) tNil)) tNil)) (gName 2))
  (tSeq (tIfS (tNot (qU6 K (tVar 2))) (qHk (He.ga K "NoDivisor") (fun cls d _ H => E cls d H)) tNext)
  (tSeq (tAsg (tLc (iSeq K (tVar 0)) (gName 9) tYes (tVar 9) [9]) (gName 3))
  (tSeq (tAsg (tCB (qDu K) (tCons (tVar 2) tNil)) (gName 4))
  (tSeq (tAsg (tLc (iRng1 (tCons (tCB qAby (tCons (tC (.int 0)) (tCons (tOp qEg (tOp qF4 (tCB (qDu K) (tCons (tVar 3) tNil)) (tVar 4)) (tC (.int 1))) tNil))) tNil)) (gName 10) tYes (tMake (He.ga K "Ratio") (qCe K) [.int 1] E0 (tCons (tC (.int 0)) tNil)) [10]) (gName 5))
  (tSeq (tFor (iRevR (tRg1 (tCB (qDu K) (tCons (tVar 5) tNil)))) (gName 6) (tSeq (tAsg (tMeth (He.ga K "Ratio") "over" (lift K qKj) [] E (tOp (rIxL K) (tVar 3) (tOp qF4 (tOp qEg (tVar 6) (tVar 4)) (tC (.int 1)))) (tCons (tOp (rIxL K) (tVar 2) (tOp qF4 (tVar 4) (tC (.int 1)))) tNil)) (gName 7))
  (tSeq (tAsg (tVar 7) (gSub (tVar 5) (tVar 6) rSetL))
  (tFor (iRng1 (tCons (tVar 4) tNil)) (gName 8) (tAsg (tOp (rOwn (He.ga K "Ratio") (lift K (fR2 fun a b => a - b)) E0) (tOp (rIxL K) (tVar 3) (tOp qEg (tVar 6) (tVar 8))) (tOp (rOwn (He.ga K "Ratio") (lift K (fR2 fun a b => a * b)) E0) (tVar 7) (tOp (rIxL K) (tVar 2) (tVar 8)))) (gSub (tVar 3) (tOp qEg (tVar 6) (tVar 8)) rSetL))))))
  (tRet (tTup (tCons (tVar 5) (tCons (tCall (lift K qEf) [] E0 (tCons (tVar 3) tNil)) tNil))))))))))
def qIq (cs : List Str) : FS :=
  (qB7 (qDr 2 (qAj qEf [] (qAc (fLs qNk (qAc (qAe 1) qAn)) qAn)))
  (qB7 (qF1 (qJi (qXs (qAe 2))) (qFc "NoDivisor") qCg)
  (qB7 (fOwn 3 (fLc (fIt (qAe 0)) (qA1 9) qI4 (qAe 9) [9]))
  (qB7 (qDr 4 (fLs qJ5 (qAc (qAe 2) qAn)))
  (qB7 (fOwn 5 (fLc (qB3 (qAc (fLs oMax (qAc (fC (.int 0)) (qAc (fOp qLq (fOp qOx (fBr [3] (fLs qJ5 (qAc (qAe 3) qAn))) (qAe 4)) (fC (.int 1))) qAn))) qAn)) (qA1 10) qI4 (qAj qU8 [.int 1] (qAc (fC (.int 0)) qAn)) [10]))
  (qB7 (qE7 (qXb (fBr [5, 3] (fLs qJ5 (qAc (qAe 5) qAn)))) (qA1 6) (qB7 (qDr 7 (qR5 "Ratio" "over" qKj (fOp oIx (qAe 3) (fOp qOx (fOp qLq (qAe 6) (qAe 4)) (fC (.int 1)))) (qAc (fOp qB6 (qAe 2) (fOp qOx (qAe 4) (fC (.int 1)))) qAn)))
  (qB7 (qLf 5 (qAe 7) (qAe 6))
  (qE7 (qB3 (qAc (qAe 4) qAn)) (qA1 8) (qLf 3 (fOp (qOj "Ratio" (fR2 fun a b => a - b)) (fOp oIx (qAe 3) (fOp qLq (qAe 6) (qAe 8))) (fOp (qOj "Ratio" (fR2 fun a b => a * b)) (qAe 7) (fOp qB6 (qAe 2) (qAe 8)))) (fOp qLq (qAe 6) (qAe 8)))))))
  (qEi (fTup (qAc (qAe 5) (qAc (qAj qEf [] (qAc (qAe 3) qAn)) qAn))))))))))
theorem qU5 {K : PySem.W.Frag} {cs : List Str} (T : KF K cs) (hRatio : ("Ratio" : Str) ∈ cs) (hPoly : ("Poly" : Str) ∈ cs) (E : XK) : SS K Ta [] [] [] [] (fun _ => E) (qFu K cs E) (qIq cs) :=
  (qAm (ow1 := []) (qBi (by decide) (by decide) (qAg Lift.refl qAh (qAa (SF.se (qHv (qAa (qAb (by decide)) qAd))) qAd)))
  (qAm (ow1 := []) (qDd (by decide) (qC3 (qS1 (qAb (by decide)))) (qLs (by decide)) (qA6 (by decide)))
  (qAm (ow1 := [3]) (qTo (by decide) (by decide) (qKu (by decide) (by decide) (qVx (qAb (by decide))) (qBf (by decide)) qF5 (qAb (by decide))))
  (qAm (ow1 := [3]) (qBi (by decide) (by decide) (qE4 (fun _ => qDc) (qAa (qAb (by decide)) qAd)))
  (qAm (ow1 := [5, 3]) (qTo (by decide) (by decide) (qKu (by decide) (by decide) (qCm (qAa (qE4 (fun _ => qAdu) (qAa qAi (qAa (qAl (fun _ => qEe) (qAl (fun _ => qEm) (qAat (qE4 (fun _ => qDc) (qAa (qAb (by decide)) qAd))) (qAb (by decide))) qAi) qAd))) qAd)) (qBf (by decide)) qF5 (qDj qMc (qNx qAh) (qAa qAi qAd))))
  (qAm (ow1 := [5, 3]) (qD7 (by decide) (qZb (qAat (qE4 (fun _ => qDc) (qAa (qAb (by decide)) qAd)))) (qBf (by decide)) (qAm (ow1 := [5, 3]) (qBi (by decide) (by decide) (qAcv Lift.refl (qVk (by decide) (qAl (fun _ => qEm) (qAl (fun _ => qEe) (qAb (by decide)) (qAb (by decide))) qAi)) (qAa (qAl (fun _ => qAq) (qAb (by decide)) (qAl (fun _ => qEm) (qAb (by decide)) qAi)) qAd)))
  (qAm (ow1 := [5, 3]) (qRx (by decide) (by decide) (qAb (by decide)) (qAb (by decide)))
  (qD7 (by decide) (qCm (qAa (qAb (by decide)) qAd)) (qBf (by decide)) (qRx (by decide) (by decide) (qAl (fun _ => (qVl Lift.refl)) (qVk (by decide) (qAl (fun _ => qEe) (qAb (by decide)) (qAb (by decide)))) (qAl (fun _ => (qVl Lift.refl)) (qAb (by decide)) (qAl (fun _ => qAq) (qAb (by decide)) (qAb (by decide))))) (qAl (fun _ => qEe) (qAb (by decide)) (qAb (by decide))))))))
  (qRv (ow1 := []) (by decide) (qA5 (by decide) (qAdb (qAa (qAb (by decide)) (qAa (qAg Lift.refl qAh (qAa (qAb (by decide)) qAd)) qAd)))))))))))
theorem qAdl {i : Nat} {ρ : Env} {ds : List D} (h : ρ[i]? = some (some (.lst ds))) : qYk [i] ρ := fun j hj => by
  rw [List.mem_singleton.mp hj]
  exact ⟨ds, h⟩
theorem qAdr {i j : Nat} {ρ : Env} {ds es : List D} (h : ρ[i]? = some (some (.lst ds))) (h2 : ρ[j]? = some (some (.lst es))) : qYk [i, j] ρ := fun k hk => by
  rcases List.mem_cons.mp hk with rfl | hk
  · exact ⟨ds, h⟩
  · rw [List.mem_singleton.mp hk]
    exact ⟨es, h2⟩
section
variable {za zb zc : Nat} {one dv q r : List Rat} {FD : FEnds}
theorem DivZ.done (h : DivZ za zb zc one dv q r) : one = (List.range one.length).map fun k => qOf (coef dv) (coef q) (coef r) q.length k := by
  refine qLw (by simp) fun k => ?_
  rw [qFg]
  split
  · exact h.eq k
  · exact qAr (by omega)
/-- within the turn t, j cells done -/
def qFy (dv q r : Nat → Rat) (t j k : Nat) : Rat := if t ≤ k ∧ k < t + j then qOf dv q r t k else qOf dv q r (t + 1) k
theorem qNh (dv q r : Nat → Rat) (t k : Nat) : qOf dv q r (t + 1) k = qOf dv q r t k + (if t ≤ k then q t * dv (k - t) else 0) := by
  show conv q dv t k + _ + r k = conv q dv t k + r k + _
  grind
theorem qAco (h : DivZ za zb zc one dv q r) {t : Nat} (ht : t < q.length) : qOf (coef dv) (coef q) (coef r) (t + 1) (t + dv.length - 1) = coef q t * coef dv (dv.length - 1) := by
  have l := h.l
  have lr := h.lr
  rw [qNh, if_pos (by omega)]
  have e1 : qOf (coef dv) (coef q) (coef r) t (t + dv.length - 1) = 0 := by
    show conv _ _ t _ + coef r _ = 0
    rw [qNp (m := dv.length) (fun k hk => qAr hk) _ _ (by omega), qAr (by omega)]
    grind
  rw [e1, show t + dv.length - 1 - t = dv.length - 1 by omega]
  grind
theorem qMr (dv q r : Nat → Rat) (t j k : Nat) : qFy dv q r t (j + 1) k = if k = t + j then qFy dv q r t j (t + j) - q t * dv j else qFy dv q r t j k := by
  unfold qFy
  by_cases h : k = t + j
  · subst h
    rw [if_pos (by omega), if_pos rfl, if_neg (by omega), qNh, if_pos (by omega), show t + j - t = j by omega]
    grind
  · rw [if_neg h]
    by_cases h2 : t ≤ k ∧ k < t + j
    · rw [if_pos (by omega), if_pos h2]
    · rw [if_neg (by omega), if_neg h2]
theorem qZq (h : DivZ za zb zc one dv q r) {t : Nat} (ht : t < q.length) (j k : Nat) : Sz zc (qFy (coef dv) (coef q) (coef r) t j k) := by
  unfold qFy
  split
  · exact h.zr _ _ (by omega)
  · exact h.zr _ _ (by omega)
theorem qVd (h : DivZ za zb zc one dv q r) {t k : Nat} : qFy (coef dv) (coef q) (coef r) t dv.length k = qOf (coef dv) (coef q) (coef r) t k := by
  unfold qFy
  split
  · rfl
  · rw [qNh]
    by_cases h1 : t ≤ k
    · rw [if_pos h1, qAr (cs := dv) (by omega)]
      grind
    · rw [if_neg h1]
      grind
abbrev qAd7 : FS := qLf 3 (fOp (qOj "Ratio" (fR2 fun a b => a - b)) (fOp oIx (qAe 3) (fOp qLq (qAe 6) (qAe 8))) (fOp (qOj "Ratio" (fR2 fun a b => a * b)) (qAe 7) (fOp qB6 (qAe 2) (qAe 8)))) (fOp qLq (qAe 6) (qAe 8))
theorem qAad (h : DivZ za zb zc one dv q r) {t : Nat} (ht : t < q.length) {v0 v1 v5 v9 v10 : Option D}
    (fin : ∀ v8, FD.nx [v0, v1, some (.lst (qCl dv)), some (.lst ((List.range one.length).map fun k => .rat (qOf (coef dv) (coef q) (coef r) t k))), some (.int (dv.length : Nat)), v5, some (.int (t : Nat)), some (.rat (coef q t)), v8, v9, v10]) :
    ∀ (n j : Nat) (v8 : Option D), j + n = dv.length → qB9 (qA1 8) qAd7 FD (qIl (j : Nat) n) [v0, v1, some (.lst (qCl dv)), some (.lst ((List.range one.length).map fun k => .rat (qFy (coef dv) (coef q) (coef r) t j k))), some (.int (dv.length : Nat)), v5, some (.int (t : Nat)), some (.rat (coef q t)), v8, v9, v10]
  | 0, j, v8, hj => by
    have : j = dv.length := by omega
    subst this
    have e0 : ((List.range one.length).map fun k => D.rat (qFy (coef dv) (coef q) (coef r) t dv.length k)) = (List.range one.length).map fun k => D.rat (qOf (coef dv) (coef q) (coef r) t k) := List.map_congr_left fun k _ => by rw [qVd h]
    rw [e0]
    exact fin v8
  | n + 1, j, v8, hj => by
    have ih := qAad h ht fin n (j + 1)
    have lq := h.lq
    rw [qCp]
    unfold qB9
    simp_arith []
    have e1 : (t : Int) + (j : Int) = ((t + j : Nat) : Int) := by omega
    rw [e1]
    have hlt : t + j < one.length := by omega
    refine qD9 rfl (qFp hlt) ?_
    refine qD9 rfl (qGv (by omega)) ?_
    simp_arith [qAbo]
    have zq := h.zq.coef h.za0 t
    have zd := h.zd.coef h.zb0 j
    have bb := h.b
    refine ⟨⟨_, _, zq, zd, by omega⟩, ⟨_, _, qZq h ht j _, zq.mul zd, by omega⟩, ?_⟩
    refine ⟨t + j, by rw [List.length_map, List.length_range]; exact qRg hlt, ?_⟩
    have e := ih (some (.int (j : Nat))) (by omega)
    have e2 : ((List.range one.length).map fun k => D.rat (qFy (coef dv) (coef q) (coef r) t j k)).set (t + j) (.rat (qFy (coef dv) (coef q) (coef r) t j (t + j) - coef q t * coef dv j)) = (List.range one.length).map fun k => D.rat (qFy (coef dv) (coef q) (coef r) t (j + 1) k) := by
      have e3 : D.rat (qFy (coef dv) (coef q) (coef r) t j (t + j) - coef q t * coef dv j) = D.rat (qFy (coef dv) (coef q) (coef r) t (j + 1) (t + j)) := by
        rw [qMr, if_pos rfl]
      rw [e3]
      refine qRb (g := fun k => D.rat (qFy (coef dv) (coef q) (coef r) t (j + 1) k)) fun k hk => ?_
      by_cases hh : k = t + j
      · rw [if_pos hh, hh]
      · rw [if_neg hh, qMr, if_neg hh]
    rw [e2]
    exact e
/-- the quotient from t on -/
def qS5 (q : List Rat) (t : Nat) : List D := (List.range q.length).map fun k => .rat (if t ≤ k then coef q k else 0)
theorem qAa1 (n : Nat) : rrD (n + 1) = .int (n : Nat) :: rrD n := by
  unfold rrD
  rw [List.range_succ_eq_map, List.map_cons, List.map_map]
  congr 1
  · congr 1; omega
  · refine List.map_congr_left fun k _ => ?_
    show D.int (((n + 1 : Nat) : Int) - 1 - ((k + 1 : Nat) : Int)) = D.int ((n : Int) - 1 - (k : Int))
    congr 1; omega
theorem qWc (h : DivZ za zb zc one dv q r) {v0 v1 v9 v10 : Option D}
    (fin : ∀ v6 v7 v8, FD.nx [v0, v1, some (.lst (qCl dv)), some (.lst ((List.range one.length).map fun k => .rat (qOf (coef dv) (coef q) (coef r) 0 k))), some (.int (dv.length : Nat)), some (.lst (qS5 q 0)), v6, v7, v8, v9, v10]) :
    ∀ (t : Nat) (v6 v7 v8 : Option D), t ≤ q.length → qB9 (qA1 6) (qB7 (qDr 7 (qR5 "Ratio" "over" qKj (fOp oIx (qAe 3) (fOp qOx (fOp qLq (qAe 6) (qAe 4)) (fC (.int 1)))) (qAc (fOp qB6 (qAe 2) (fOp qOx (qAe 4) (fC (.int 1)))) qAn)))
  (qB7 (qLf 5 (qAe 7) (qAe 6))
  (qE7 (qB3 (qAc (qAe 4) qAn)) (qA1 8) qAd7))) FD (rrD t) [v0, v1, some (.lst (qCl dv)), some (.lst ((List.range one.length).map fun k => .rat (qOf (coef dv) (coef q) (coef r) t k))), some (.int (dv.length : Nat)), some (.lst (qS5 q t)), v6, v7, v8, v9, v10]
  | 0, v6, v7, v8, ht => fin _ _ _
  | t + 1, v6, v7, v8, ht => by
    have ih := qWc h fin t
    have lq := h.lq
    have l := h.l
    have l1 := h.l1
    have l2 := h.l2
    rw [qAa1]
    unfold qB9
    simp_arith []
    rw [show (t : Int) + (dv.length : Int) - 1 = ((t + dv.length - 1 : Nat) : Int) by omega]
    refine qD9 rfl (qFp (by omega)) ?_
    refine ⟨⟨by decide, by decide⟩, ?_⟩
    rw [show (dv.length : Int) - 1 = ((dv.length - 1 : Nat) : Int) by omega]
    refine qD9 rfl (qGv (by omega)) ?_
    have lead : coef dv (dv.length - 1) ≠ 0 := qOp h.n l
    have zr := h.zr (t + 1) (t + dv.length - 1) ht
    have zd := h.zd.coef h.zb0 (dv.length - 1)
    have bb := h.b
    refine ⟨⟨_, _, zr, zd, by omega⟩, fun z => absurd z lead, fun _ => ?_⟩
    rw [qAco h (by omega), show coef q t * coef dv (dv.length - 1) / coef dv (dv.length - 1) = coef q t by grind]
    simp_arith []
    have hlt : t < (qS5 q (t + 1)).length := by unfold qS5; rw [List.length_map, List.length_range]; omega
    refine ⟨t, qRg hlt, ?_⟩
    have e2 : (qS5 q (t + 1)).set t (.rat (coef q t)) = qS5 q t := by
      unfold qS5
      have := qRb (n := q.length) (i := t) (f := fun k => D.rat (if t + 1 ≤ k then coef q k else 0)) (g := fun k => D.rat (if t ≤ k then coef q k else 0)) fun k hk => by
        by_cases hh : k = t
        · rw [if_pos hh, hh]
        · rw [if_neg hh]
          by_cases h2 : t ≤ k
          · rw [if_pos h2, if_pos (by omega)]
          · rw [if_neg h2, if_neg (by omega)]
      rw [if_pos (Nat.le_refl t)] at this
      exact this
    rw [e2]
    simp_arith [qE7, qB3]
    refine ⟨by omega, by omega, ?_⟩
    rw [Int.toNat_natCast]
    have e0 : ((List.range one.length).map fun k => D.rat (qOf (coef dv) (coef q) (coef r) (t + 1) k)) = (List.range one.length).map fun k => D.rat (qFy (coef dv) (coef q) (coef r) t 0 k) := List.map_congr_left fun k _ => by
      unfold qFy
      rw [if_neg (by omega)]
    rw [e0]
    refine qAad h (by omega) (fun v8 => ?_) dv.length 0 v8 (by omega)
    exact ih _ _ _ (by omega)
end
theorem qSn (n : Nat) (f : Nat → Rat) : ((List.range n).map fun k => D.rat (f k)) = qCl ((List.range n).map f) := by
  unfold qCl
  rw [List.map_map]
  rfl
theorem qUp {cs : List Str} (hR : ("Ratio" : Str) ∈ cs) (hP : ("Poly" : Str) ∈ cs) (ds : List D) (P : D → Prop) (X : XP) (h : qC1 ds P X) : qIq cs (qHq P X) (qBu 11 ds) := by
  obtain ⟨d1, d2, one, dv, rfl, h1, h2, h⟩ := h
  have ol : ∀ {P : D → Prop} {X : XP}, qNk [d2] P X ↔ P (.lst (qCl dv)) := fun {P X} => by
    rcases qHy h2 with rfl | rfl <;> exact Iff.rfl
  simp only [qB7, qF1, fB, qRf, qAe, fC, fOp, fUn, fLs, qEi, qXz, qNa, qAj, qAc, qAn, qCg, fNev, qE1, qDr, fOwn, qX2, fAsg, fPar, qJi, fAnd, fOr, qSi, fOrV, qUn, fIf, qXs, qFx, fTup, qR5, qMq, qA1, qLp, qFc, fBr, fBor, fApp, qLf, fAug, qUf, qI4, fSl, qI2, qUr, qVh, fItT, fIt, qUv, fBrk, fCnt, qHq, qBu, toB, oI, oI0, qXu, oAbs, oMax, oMin, oInt, qJ0, qJ7, qMu, oCat, oIsB, qZa, oEq, oNe, eqD, oIsN, qYv, isN, qTw, qS2, qT9, qTm, qTa, qT3, qYq, qY6, qZc, qNv, qN1, qOt, qUa, qOq, qY9, qZs, qY5, qX5, qYg, qYa, qZm, qT5, qT2, qTf, qSz, qY2, qYs, qUe, qUb, qB6, oIxT, InsD, List.map_cons, List.map_nil, List.cons_append, List.nil_append, List.length_cons, List.length_nil, List.getElem?_cons_zero, List.getElem?_cons_succ, List.set_cons_zero, List.set_cons_succ, List.replicate_succ, List.replicate_zero, Option.some.injEq, exists_eq_left', qKa, qIb, if_true, if_false, List.append_nil, true_and, and_true, true_or, or_true, Bool.false_eq_true, Bool.true_eq_false, reduceCtorEq, Nat.add_one_sub_one, Nat.reduceSub, Nat.reduceAdd, Nat.sub_self, Nat.zero_add, Nat.add_sub_cancel, qIq, ol]
  refine ⟨dv, rfl, ?_⟩
  rcases h with ⟨e, x⟩ | ⟨za, zb, zc, q, r, h, p⟩
  · rw [e]
    simp_arith [show (qCl []).isEmpty = true from rfl, Bool.not_true, Bool.not_false]
    exact x
  · generalize strip dv = dv at *
    have l := h.l
    have lq := h.lq
    have l1 := h.l1
    have l2 := h.l2
    have hx : (qCl dv).isEmpty = false := by
      cases dv with
      | nil => exact absurd l (by simp)
      | cons a b => rfl
    simp_arith [hx, Bool.not_true, Bool.not_false, fLc, itEx h1]
    refine ⟨by decide, ?_⟩
    refine qJd id _ [] (fun e he Q k => ?_) (by rw [qDx]; exact qAo (by simp only [List.length_nil]; omega)) ?_
    · simp only [qFz]
      simp_arith []
      exact k
    rw [List.nil_append, List.map_id]
    simp_arith [qDx, fLc, qB3]
    refine ⟨by decide, qAdl rfl, rfl, by omega, by omega, ?_⟩
    refine qJd (fun _ => .rat 0) _ [] (fun d hd Q k => ?_) ?_ ?_
    · simp only [qFz]
      simp_arith [qWk, Rat.intCast_zero]
      exact k
    · simp only [qIl, List.length_map, List.length_range, List.length_nil]
      exact qAo (by omega)
    rw [List.nil_append]
    have e0 : ((qIl 0 (max (0 : Int) ((one.length : Int) - (dv.length : Int) + 1)).toNat).map fun _ => D.rat 0) = qS5 q q.length := by
      unfold qS5
      rw [qD0, show ((List.range q.length).map fun k => D.rat (if q.length ≤ k then coef q k else 0)) = (List.range q.length).map fun _ => D.rat 0 from List.map_congr_left fun k hk => by rw [if_neg (by have := List.mem_range.mp hk; omega)], qD0]
      congr 1
      simp only [qIl, List.length_map, List.length_range]
      omega
    rw [e0]
    simp_arith [qE7, qXb]
    refine ⟨qAdr rfl rfl, rfl, by omega, ?_, ?_⟩
    · unfold qS5
      rw [List.length_map, List.length_range]
      omega
    have e1 : (((qS5 q q.length).length : Nat) : Int).toNat = q.length := by
      unfold qS5
      rw [List.length_map, List.length_range, Int.toNat_natCast]
    rw [e1]
    have e2 : qCl one = (List.range one.length).map fun k => D.rat (qOf (coef dv) (coef q) (coef r) q.length k) := by
      rw [qSn, ← h.done]
    rw [e2]
    refine qWc h (fun v6 v7 v8 => ?_) q.length none none none (Nat.le_refl _)
    have e3 : qS5 q 0 = qCl q := by
      unfold qS5
      rw [qSn]
      congr 1
      refine qLw (by simp) fun k => ?_
      rw [qFg]
      split
      · rw [if_pos (Nat.zero_le _)]
      · exact (qAr (by omega)).symm
    have e4 : ((List.range one.length).map fun k => D.rat (qOf (coef dv) (coef q) (coef r) 0 k)) = qCl ((List.range one.length).map fun k => qOf (coef dv) (coef q) (coef r) 0 k) := qSn _ _
    rw [e3, e4]
    simp_arith []
    refine ⟨_, rfl, by decide, ?_⟩
    have e5 : strip ((List.range one.length).map fun k => qOf (coef dv) (coef q) (coef r) 0 k) = strip r := qGt fun k => by
      rw [qFg]
      have ez : qOf (coef dv) (coef q) (coef r) 0 k = coef r k := by
        show (0 : Rat) + coef r k = _
        grind
      split
      · exact ez
      · have := h.eq k
        have c0 : conv (coef q) (coef dv) q.length k = 0 := by
          by_cases hq0 : q.length = 0
          · rw [hq0]; rfl
          · exact qNp (m := dv.length) (fun k hk => qAr hk) _ _ (by omega)
        rw [qAr (by omega), c0] at this
        grind
    rw [e5]
    exact p
theorem qPk {K : PySem.W.Frag} {cs : List Str} (vs : List V) (H : Hp) (Q : VK) (E : XK) (h : (lift K qC1) vs H Q E) : vs.length = 2 := qBd (fun ds P X h => by unfold qC1 at h; first | ((repeat (first | (obtain ⟨rfl, _⟩ := h; exact rfl) | obtain ⟨_, h⟩ := h)); done) | (split at h <;> first | rfl | exact h.elim)) h
theorem qSl {K : PySem.W.Frag} {cs : List Str} (T : KF K cs) (hRatio : ("Ratio" : Str) ∈ cs) (hPoly : ("Poly" : Str) ∈ cs) (vs : List V) (H : Hp) (Q : VK) (E : XK) (h : (lift K qC1) vs H Q E) : qFu K cs E { nx := fun _ H' => Q .non H', rt := Q } (start ["one", "other", "divisor", "rest", "size", "quotient", "at", "times", "j", "c", "_"] vs) H :=
  qAcm (t := fun E => qFu K cs E) rfl (qU5 T hRatio hPoly) (qUp hRatio hPoly) vs H Q E h
end MR

set_option Elab.async false
set_option linter.all false
set_option maxRecDepth 100000
set_option maxHeartbeats 4000000
set_option exponentiation.threshold 20000
namespace MR
open PySem PySem.Spec PyProof.Rows L2
/-! ### roots: Euclid and Sturm's chain as the program walks them -/
def qAdp (a : List Rat) : List Rat := (List.range (a.length - 1)).map fun k => coef a (k + 1) * (((k + 1 : Nat) : Int) : Rat)
/-- sizes that may be divided by one another -/
structure OkL (a : List Rat) : Prop where
  l : a.length ≤ 1000
  z : ∃ n, SzL n a ∧ 0 < n ∧ n + n ≤ 900000
/-- Euclid from a and b ends with g -/
inductive Euc : List Rat → List Rat → List Rat → Prop
  | nil {a : List Rat} : OkL a → Euc a [] (qCd a)
  | step {a b q r g : List Rat} {za zb zc : Nat} : Nrm b → DivZ za zb zc a b q r → OkL b → OkL (strip r) → Euc (qCd b) (qCd (strip r)) g → Euc a b g
def qA8 : FSp := fun ds P _ => ∃ a b g, ds = [.poly a, .poly b] ∧ Euc a b g ∧ P (.poly (strip g))
/-- the squarefree part -/
structure SqF (a s : List Rat) : Prop where
  ex : ∃ g q r za zb zc, OkL a ∧ Euc a (strip (qAdp a)) g ∧ DivZ za zb zc a (strip g) q r ∧ OkL (strip q) ∧ s = strip (qCd (strip q))
def sdN (a : List Rat) : List Rat := if a = [] then a else if qAk a < 0 then strip (qOc (strip (qCd a))) else strip (qCd a)
/-- Sturm's chain behind a, beginning with b -/
inductive Stu : List Rat → List Rat → List (List Rat) → Prop
  | nil {a : List Rat} : Stu a [] []
  | step {a b q r : List Rat} {l : List (List Rat)} {za zb zc : Nat} : Nrm b → DivZ za zb zc a b q r → OkL (strip r) → OkL (strip (qCd (strip r))) → OkL (sdN (strip r)) → Stu b (strip (qOc (sdN (strip r)))) l → Stu a b (b :: l)
def sgN (q : Rat) : Int := if q < 0 then -1 else if 0 < q then 1 else 0
def chgA : List Int → Nat
  | a :: b :: l => (if b ≠ a then 1 else 0) + chgA (b :: l)
  | _ => 0
/-- how often the sign changes, zeros left out -/
def chg (l : List Int) : Nat := chgA (l.filter fun s => decide (s ≠ 0))
def sgAt (l : List (List Rat)) (x : Option Rat) (side : Int) : List Int := l.map fun p => match x with
  | some x => sgN (horner p x)
  | none => if side < 0 ∧ p.length % 2 = 0 then -sgN (qAk p) else sgN (qAk p)
/-- sizes of values at x -/
def qAa7 (l : List (List Rat)) (x : Option Rat) : Prop := ∀ p, p ∈ l → 0 < p.length ∧ ∀ y, x = some y → ∃ n m, SzL n p ∧ Sz m y ∧ 0 < n ∧ (p.length + 1) * (n + m + 1) ≤ 900000 ∧ p.length ≤ 1000
def cntA (l : List (List Rat)) (a b : Option Rat) : Int := ((chg (sgAt l a (-1)) : Nat) : Int) - ((chg (sgAt l b 1) : Nat) : Int)
def nnX (w : Str) : Exn := ⟨"NoNumber", [("word", .str w)]⟩
/-- what the two ends are -/
def EndsP (cs : List Str) (p : List Rat) (lo hi : D) (X : XP) (G : Option Rat → Option Rat → Prop) : Prop := (p = [] ∧ X ⟨"NoPoly", []⟩) ∨ (p ≠ [] ∧ ((lo ≠ .non ∧ qVg cs lo = some false ∧ X (nnX "low")) ∨ ∃ a, optV lo = some a ∧ ((hi ≠ .non ∧ qVg cs hi = some false ∧ X (nnX "high")) ∨ ∃ b, optV hi = some b ∧ G a b)))
/-- the chain of p -/
def ChOk (p : List Rat) (a b : Option Rat) (l : List (List Rat)) : Prop := ∃ s r, SqF p s ∧ OkL s ∧ Stu s (strip (qAdp s)) r ∧ r.length < 1000 ∧ l = s :: r ∧ qAa7 l a ∧ qAa7 l b
def LtO (a b : Option Rat) : Prop := ∀ x y, a = some x → b = some y → x < y
def LeO (a b : Option Rat) : Prop := ∀ x y, a = some x → b = some y → x ≤ y
def CmO (a b : Option Rat) : Prop := ∀ x y, a = some x → b = some y → qPv x y
def AftP (p : List Rat) (a b : Option Rat) (P : D → Prop) : Prop := CmO a b ∧ (¬ LtO a b → P (.int 0)) ∧ (LtO a b → ∃ l, ChOk p a b l ∧ P (.int (cntA l a b)))
def RinP (p : List Rat) (a b : Option Rat) (P : D → Prop) : Prop := CmO a b ∧ (¬ LeO a b → P (.int 0)) ∧ (LeO a b → (∀ x, a = some x → qAa7 [p] a ∧ qPv (horner p x) 0) ∧ AftP p a b fun d => ∃ k : Int, d = .int k ∧ P (.int (k + (match a with | some x => if horner p x = 0 then 1 else 0 | none => 0))))
def qK7 (K : PySem.W.Frag) (cs : List Str) : TS :=
  (tSeq (tAsg (tCB (qIe K) (tCons (tFld K (tVar 0) "coefficients") tNil)) (gName 2))
  (tSeq (tAsg (tCB (qIe K) (tCons (tFld K (tVar 1) "coefficients") tNil)) (gName 3))
  (tSeq (tWhile (qU6 K (tVar 3)) (tSeq (tAsg (tOp (rIxT K) (tCall (lift K qC1) [] E0 (tCons (tVar 2) (tCons (tVar 3) tNil))) (tC (.int 1))) (gName 4))
  (tSeq (tAsg (tCall (lift K qCs) [] E0 (tCons (tVar 3) tNil)) (gName 2))
  (tAsg (tCall (lift K qCs) [] E0 (tCons (tVar 4) tNil)) (gName 3)))))
  (tRet (tMake (He.ga K "Poly") (qLg K "Poly" (qCc cs)) [] E0 (tCons (tCall (lift K qCs) [] E0 (tCons (tVar 2) tNil)) tNil))))))
def qM6 (cs : List Str) : FS :=
  (qB7 (qDr 2 (fLs qNk (qAc (qE1 "Poly" "coefficients" (qAe 0)) qAn)))
  (qB7 (qDr 3 (fLs qNk (qAc (qE1 "Poly" "coefficients" (qAe 1)) qAn)))
  (qB7 (qMx (qXs (qAe 3)) (qB7 (qDr 4 (fOp oIxT (qAj qC1 [] (qAc (qAe 2) (qAc (qAe 3) qAn))) (fC (.int 1))))
  (qB7 (qDr 2 (qAj qCs [] (qAc (qAe 3) qAn)))
  (qDr 3 (qAj qCs [] (qAc (qAe 4) qAn))))))
  (qEi (qAj (qCc cs) [] (qAc (qAj qCs [] (qAc (qAe 2) qAn)) qAn))))))
theorem qZt {K : PySem.W.Frag} {cs : List Str} (T : KF K cs) (hRatio : ("Ratio" : Str) ∈ cs) (hPoly : ("Poly" : Str) ∈ cs) : SS K Ta [] [] [] [] (fun _ => E0) (qK7 K cs) (qM6 cs) :=
  (qAm (ow1 := []) (qBi (by decide) (by decide) (SF.se (qHv (qAa (qBh (T.fld _ hPoly _ (by decide)) (qAb (by decide))) qAd))))
  (qAm (ow1 := []) (qBi (by decide) (by decide) (SF.se (qHv (qAa (qBh (T.fld _ hPoly _ (by decide)) (qAb (by decide))) qAd))))
  (qAm (ow1 := []) (qTs (by decide) (qS1 (qAb (by decide))) (qAm (ow1 := []) (qBi (by decide) (by decide) (qAl (fun _ => qZu) (qAg Lift.refl qAh (qAa (qAb (by decide)) (qAa (qAb (by decide)) qAd))) qAi))
  (qAm (ow1 := []) (qBi (by decide) (by decide) (qAg Lift.refl qAh (qAa (qAb (by decide)) qAd)))
  (qBi (by decide) (by decide) (qAg Lift.refl qAh (qAa (qAb (by decide)) qAd))))))
  (qA5 (by decide) (qDj qJ8 qAh (qAa (qAg Lift.refl qAh (qAa (qAb (by decide)) qAd)) qAd))))))
theorem qAbi {n : Nat} {cs : List Rat} (h : ∀ k, Sz n (coef cs k)) : SzL n cs := fun c hc => by
  obtain ⟨i, hi⟩ := List.mem_iff_getElem?.mp hc
  have hl := (List.getElem?_eq_some_iff.mp hi).1
  have := qLl hl
  rw [hi] at this
  rw [Option.some.inj this]
  exact h i
theorem qE2 (a : List Rat) : (qCd a).length ≤ a.length := by
  unfold qCd
  rw [List.length_map, qC7]
  exact qHs _ _
theorem qGc (a : List Rat) : (strip a).length ≤ a.length := by rw [qC7]; exact qHs _ _
theorem qRk {d : D} {cs : List Rat} {P : D → Prop} {X : XP} (hd : itD d = some (qCl cs)) (h : OkL cs) (p : P (.lst (qCl (qCd cs)))) : qCs [d] P X := let ⟨n, z, n0, hn⟩ := h.z; ⟨d, cs, n, rfl, hd, z, n0, hn, h.l, p⟩
theorem qYc {a : List Rat} : (qCl a).isEmpty = decide (a = []) := by
  cases a with
  | nil => rfl
  | cons x y => exact (decide_eq_false (fun z => nomatch z)).symm
theorem Euc.len {a b g : List Rat} (h : Euc a b g) : g.length ≤ 1000 := by
  induction h with
  | nil h => exact Nat.le_trans (qE2 _) h.l
  | step _ _ _ _ _ ih => exact ih
/-- the loop of common -/
theorem qSa {cs : List Str} {v0 v1 : Option D} {FD : FEnds} {g : List Rat} (fin : ∀ a v4, OkL a → g = qCd a → FD.nx [v0, v1, some (.lst (qCl a)), some (.lst (qCl [])), v4]) {a b : List Rat} (h : Euc a b g) (v4 : Option D) :
    qMx (qXs (qAe 3)) (qB7 (qDr 4 (fOp oIxT (qAj qC1 [] (qAc (qAe 2) (qAc (qAe 3) qAn))) (fC (.int 1))))
  (qB7 (qDr 2 (qAj qCs [] (qAc (qAe 3) qAn)))
  (qDr 3 (qAj qCs [] (qAc (qAe 4) qAn))))) FD [v0, v1, some (.lst (qCl a)), some (.lst (qCl b)), v4] := by
  simp_arith [qMx]
  refine ⟨fun m ρ => ∃ a b v4, Euc a b g ∧ b.length = m ∧ ρ = [v0, v1, some (.lst (qCl a)), some (.lst (qCl b)), v4], ⟨b.length, a, b, v4, h, rfl, rfl⟩, ?_⟩
  rintro m ρ ⟨a, b, v4, h, rfl, rfl⟩
  simp_arith [qYc]
  cases h with
  | nil ho =>
    simp_arith [decide_true, Bool.not_true]
    exact fin a v4 ho rfl
  | @step a b q r g za zb zc hn hd ob or he =>
    have l := hd.l
    have hb : ¬ b = [] := fun z => by rw [z] at l; exact absurd l (by simp)
    have lr := hd.lr
    have l2 := qGc r
    have l3 := qE2 (strip r)
    simp_arith [decide_eq_false hb, Bool.not_false]
    refine ⟨.lst (qCl a), .lst (qCl b), a, b, rfl, rfl, rfl, .inr ⟨za, zb, zc, q, r, ?_, ?_⟩⟩
    · rw [hn]; exact hd
    · simp_arith []
      refine ⟨_, 1, _, .inr rfl, rfl, rfl, ?_⟩
      refine qRk rfl ob ?_
      refine qRk rfl or ?_
      exact ⟨(qCd (strip r)).length, by omega, _, _, _, he, rfl, rfl⟩
theorem qY7 {cs : List Str} (hR : ("Ratio" : Str) ∈ cs) (hP : ("Poly" : Str) ∈ cs) (ds : List D) (P : D → Prop) (X : XP) (h : qA8 ds P X) : qM6 cs (qHq P X0) (qBu 5 ds) := by
  obtain ⟨a, b, g, rfl, he, p⟩ := h
  have hg := he.len
  unfold qM6
  simp only [qB7, qF1, fB, qRf, qAe, fC, fOp, fUn, fLs, qEi, qXz, qNa, qAj, qAc, qAn, qCg, fNev, qE1, qDr, fOwn, qX2, fAsg, fPar, qJi, fAnd, fOr, qSi, fOrV, qUn, fIf, qXs, qFx, fTup, qR5, qMq, qA1, qLp, qFc, fBr, fBor, fApp, qLf, fAug, qUf, qI4, fSl, qI2, qUr, qVh, fItT, fIt, qUv, fBrk, fCnt, qHq, qBu, toB, oI, oI0, qXu, oAbs, oMax, oMin, oInt, qJ0, qJ7, qNk, qMu, oCat, oIsB, qZa, oEq, oNe, eqD, oIsN, qYv, isN, qTw, qS2, qT9, qTm, qTa, qT3, qYq, qY6, qZc, qNv, qN1, qOt, qUa, qOq, qY9, qZs, qY5, qX5, qYg, qYa, qZm, qT5, qT2, qTf, qSz, qY2, qYs, qUe, qUb, qB6, oIxT, InsD, List.map_cons, List.map_nil, List.cons_append, List.nil_append, List.length_cons, List.length_nil, List.getElem?_cons_zero, List.getElem?_cons_succ, List.set_cons_zero, List.set_cons_succ, List.replicate_succ, List.replicate_zero, Option.some.injEq, exists_eq_left', qKa, qIb, if_true, if_false, List.append_nil, true_and, and_true, true_or, or_true, Bool.false_eq_true, Bool.true_eq_false, reduceCtorEq, Nat.add_one_sub_one, Nat.reduceSub, Nat.reduceAdd, Nat.sub_self, Nat.zero_add, Nat.add_sub_cancel, qVn]
  refine qSa (cs := cs) (fun a v4 ho e => ?_) he none
  simp_arith []
  refine qRk rfl ho ?_
  rw [← e]
  exact qHe (by omega) p
theorem EndsP.mono {cs : List Str} {p : List Rat} {lo hi : D} {X : XP} {G G' : Option Rat → Option Rat → Prop} (h : EndsP cs p lo hi X G) (k : ∀ a b, p ≠ [] → optV lo = some a → optV hi = some b → G a b → G' a b) : EndsP cs p lo hi X G' := by
  rcases h with h | ⟨hp, h | ⟨a, ha, h | ⟨b, hb, h⟩⟩⟩
  · exact .inl h
  · exact .inr ⟨hp, .inl h⟩
  · exact .inr ⟨hp, .inr ⟨a, ha, .inl h⟩⟩
  · exact .inr ⟨hp, .inr ⟨a, ha, .inr ⟨b, hb, k a b hp ha hb h⟩⟩⟩
theorem qU0 {K : PySem.W.Frag} {cs : List Str} (vs : List V) (H : Hp) (Q : VK) (E : XK) (h : (lift K qA8) vs H Q E) : vs.length = 2 := qBd (fun ds P X h => by unfold qA8 at h; first | ((repeat (first | (obtain ⟨rfl, _⟩ := h; exact rfl) | obtain ⟨_, h⟩ := h)); done) | (split at h <;> first | rfl | exact h.elim)) h
theorem qWh {K : PySem.W.Frag} {cs : List Str} (T : KF K cs) (hRatio : ("Ratio" : Str) ∈ cs) (hPoly : ("Poly" : Str) ∈ cs) (vs : List V) (H : Hp) (Q : VK) (E : XK) (h : (lift K qA8) vs H Q E) : qK7 K cs { nx := fun _ H' => Q .non H', rt := Q } (start ["p", "q", "one", "other", "rest"] vs) H :=
  qDo rfl (qZt T hRatio hPoly) (qY7 hRatio hPoly) vs H Q E h
end MR

set_option Elab.async false
set_option linter.all false
set_option maxRecDepth 100000
set_option maxHeartbeats 1000000
/-! NPs: the ring of power series, for polynomials of any degree -/
namespace MR
open PySem PySem.Spec PyProof.Rows L2
/-- a power series -/
structure Ps where
  c : Nat → Rat
theorem Ps.ext' {f g : Ps} (h : ∀ k, f.c k = g.c k) : f = g := by
  cases f; cases g
  congr
  exact funext h
def tlF (f : Nat → Rat) : Nat → Rat := fun i => f (i + 1)
/-- the coefficient k of a product -/
def cvF : Nat → (Nat → Rat) → (Nat → Rat) → Rat
  | 0, f, g => f 0 * g 0
  | k + 1, f, g => f 0 * g (k + 1) + cvF k (tlF f) g
theorem qR4 (f g h : Nat → Rat) : ∀ k, cvF k (fun i => f i + g i) h = cvF k f h + cvF k g h
  | 0 => by show (f 0 + g 0) * h 0 = f 0 * h 0 + g 0 * h 0; grind
  | k + 1 => by
    show (f 0 + g 0) * h (k + 1) + cvF k (fun i => tlF f i + tlF g i) h = (f 0 * h (k + 1) + cvF k (tlF f) h) + (g 0 * h (k + 1) + cvF k (tlF g) h)
    rw [qR4 (tlF f) (tlF g) h k]
    grind
theorem qZj (h f g : Nat → Rat) : ∀ k, cvF k h (fun i => f i + g i) = cvF k h f + cvF k h g := by
  intro k
  induction k generalizing h with
  | zero => show h 0 * (f 0 + g 0) = h 0 * f 0 + h 0 * g 0; grind
  | succ k ih =>
    show h 0 * (f (k + 1) + g (k + 1)) + cvF k (tlF h) (fun i => f i + g i) = (h 0 * f (k + 1) + cvF k (tlF h) f) + (h 0 * g (k + 1) + cvF k (tlF h) g)
    rw [ih (tlF h)]
    grind
theorem qAce (a : Rat) (f g : Nat → Rat) : ∀ k, cvF k (fun i => a * f i) g = a * cvF k f g := by
  intro k
  induction k generalizing f with
  | zero => show a * f 0 * g 0 = a * (f 0 * g 0); grind
  | succ k ih =>
    show a * f 0 * g (k + 1) + cvF k (fun i => a * tlF f i) g = a * (f 0 * g (k + 1) + cvF k (tlF f) g)
    rw [ih (tlF f)]
    grind
theorem qJ6 (f g : Nat → Rat) (h : ∀ i, f i = 0) : ∀ k, cvF k f g = 0 := by
  intro k
  induction k generalizing f with
  | zero => show f 0 * g 0 = 0; rw [h 0, Rat.zero_mul]
  | succ k ih =>
    show f 0 * g (k + 1) + cvF k (tlF f) g = 0
    rw [ih (tlF f) (fun i => h (i + 1)), h 0, Rat.zero_mul, Rat.add_zero]
theorem qYh (f g : Nat → Rat) : ∀ k, cvF (k + 1) f g = cvF k f (tlF g) + f (k + 1) * g 0 := by
  intro k
  induction k generalizing f with
  | zero => rfl
  | succ k ih =>
    show f 0 * g (k + 2) + cvF (k + 1) (tlF f) g = (f 0 * g (k + 2) + cvF k (tlF f) (tlF g)) + f (k + 2) * g 0
    rw [ih (tlF f)]
    show f 0 * g (k + 2) + (cvF k (tlF f) (tlF g) + f (k + 2) * g 0) = _
    grind
theorem qNt (f g : Nat → Rat) : ∀ k, cvF k f g = cvF k g f := by
  intro k
  induction k generalizing f with
  | zero => show f 0 * g 0 = g 0 * f 0; grind
  | succ k ih =>
    rw [qYh g f k, ← ih (tlF f)]
    show f 0 * g (k + 1) + cvF k (tlF f) g = _
    grind
theorem qV9 (f g h : Nat → Rat) : ∀ k, cvF k (fun i => cvF i f g) h = cvF k f (fun i => cvF i g h) := by
  intro k
  induction k generalizing f with
  | zero => show f 0 * g 0 * h 0 = f 0 * (g 0 * h 0); grind
  | succ k ih =>
    have e : tlF (fun i => cvF i f g) = fun i => f 0 * tlF g i + cvF i (tlF f) g := funext fun i => rfl
    show cvF 0 f g * h (k + 1) + cvF k (tlF (fun i => cvF i f g)) h = f 0 * cvF (k + 1) g h + cvF k (tlF f) (fun i => cvF i g h)
    rw [e, qR4, qAce, ih (tlF f)]
    show f 0 * g 0 * h (k + 1) + _ = f 0 * (g 0 * h (k + 1) + cvF k (tlF g) h) + _
    grind
def cstF (a : Rat) : Nat → Rat := fun i => if i = 0 then a else 0
theorem qHb (a : Rat) (g : Nat → Rat) : ∀ k, cvF k (cstF a) g = a * g k
  | 0 => rfl
  | k + 1 => by
    show a * g (k + 1) + cvF k (tlF (cstF a)) g = _
    rw [qJ6 _ _ (fun i => by show (if i + 1 = 0 then a else 0) = 0; rw [if_neg (by omega)]), Rat.add_zero]
namespace Ps
def mul (f g : Ps) : Ps := ⟨fun k => cvF k f.c g.c⟩
def cst (a : Rat) : Ps := ⟨cstF a⟩
def npow (f : Ps) : Nat → Ps
  | 0 => cst 1
  | k + 1 => mul (npow f k) f
instance : Add Ps := ⟨fun f g => ⟨fun k => f.c k + g.c k⟩⟩
instance : Mul Ps := ⟨mul⟩
instance : Neg Ps := ⟨fun f => ⟨fun k => -f.c k⟩⟩
instance : _root_.Sub Ps := ⟨fun f g => ⟨fun k => f.c k - g.c k⟩⟩
instance : NatCast Ps := ⟨fun n => cst (n : Rat)⟩
instance : IntCast Ps := ⟨fun n => cst (n : Rat)⟩
instance (n : Nat) : OfNat Ps n := ⟨cst (n : Rat)⟩
instance : HPow Ps Nat Ps := ⟨npow⟩
instance : SMul Nat Ps := ⟨fun n f => ⟨fun k => (n : Rat) * f.c k⟩⟩
instance : SMul Int Ps := ⟨fun n f => ⟨fun k => (n : Rat) * f.c k⟩⟩
theorem cst_c (a : Rat) (k : Nat) : (cst a).c k = if k = 0 then a else 0 := rfl
theorem add_c (f g : Ps) (k : Nat) : (f + g).c k = f.c k + g.c k := rfl
theorem sub_c (f g : Ps) (k : Nat) : (f - g).c k = f.c k - g.c k := rfl
theorem qYf (f : Ps) (k : Nat) : (-f).c k = -f.c k := rfl
theorem cst_mul (a : Rat) (f : Ps) (k : Nat) : (cst a * f).c k = a * f.c k := qHb a f.c k
instance : Lean.Grind.CommRing Ps where
  nsmul := ⟨fun n f => n • f⟩
  npow := ⟨npow⟩
  zsmul := ⟨fun n f => n • f⟩
  natCast := ⟨fun n => cst (n : Rat)⟩
  intCast := ⟨fun n => cst (n : Rat)⟩
  ofNat := fun n => ⟨cst (n : Rat)⟩
  add_zero f := ext' fun k => by
    show f.c k + (if k = 0 then ((0 : Nat) : Rat) else 0) = f.c k
    split
    · exact Rat.add_zero _
    · rw [Rat.add_zero]
  add_comm f g := ext' fun k => Rat.add_comm _ _
  add_assoc f g h := ext' fun k => Rat.add_assoc _ _ _
  mul_assoc f g h := ext' fun k => qV9 f.c g.c h.c k
  mul_comm f g := ext' fun k => qNt f.c g.c k
  mul_one f := ext' fun k => by
    show cvF k f.c (cstF ((1 : Nat) : Rat)) = f.c k
    rw [qNt, qHb]
    simp
  one_mul f := ext' fun k => by
    show cvF k (cstF ((1 : Nat) : Rat)) f.c = f.c k
    rw [qHb]
    simp
  left_distrib f g h := ext' fun k => qZj f.c g.c h.c k
  right_distrib f g h := ext' fun k => qR4 f.c g.c h.c k
  zero_mul f := ext' fun k => by
    show cvF k (cstF ((0 : Nat) : Rat)) f.c = if k = 0 then ((0 : Nat) : Rat) else 0
    rw [qHb]
    simp
  mul_zero f := ext' fun k => by
    show cvF k f.c (cstF ((0 : Nat) : Rat)) = if k = 0 then ((0 : Nat) : Rat) else 0
    rw [qNt, qHb]
    simp
  pow_zero f := ext' fun k => by
    show (if k = 0 then (1 : Rat) else 0) = if k = 0 then ((1 : Nat) : Rat) else 0
    rfl
  pow_succ f n := rfl
  ofNat_succ n := ext' fun k => by
    show (if k = 0 then ((n + 1 : Nat) : Rat) else 0) = (if k = 0 then ((n : Nat) : Rat) else 0) + (if k = 0 then ((1 : Nat) : Rat) else 0)
    split
    · rw [Rat.natCast_add]
    · rw [Rat.add_zero]
  ofNat_eq_natCast n := rfl
  nsmul_eq_natCast_mul n f := ext' fun k => (qHb (n : Rat) f.c k).symm
  neg_add_cancel f := ext' fun k => by
    show -f.c k + f.c k = if k = 0 then ((0 : Nat) : Rat) else 0
    rw [Rat.neg_add_cancel]
    split <;> rfl
  sub_eq_add_neg f g := ext' fun k => Rat.sub_eq_add_neg _ _
  neg_zsmul n f := ext' fun k => by
    show ((-n : Int) : Rat) * f.c k = -((n : Rat) * f.c k)
    rw [Rat.intCast_neg, Rat.neg_mul]
  zsmul_natCast_eq_nsmul n f := ext' fun k => by
    show (((n : Nat) : Int) : Rat) * f.c k = (n : Rat) * f.c k
    rw [Rat.intCast_natCast]
  intCast_ofNat n := ext' fun k => by
    show (if k = 0 then (((n : Nat) : Int) : Rat) else 0) = if k = 0 then ((n : Nat) : Rat) else 0
    rw [Rat.intCast_natCast]
  intCast_neg n := ext' fun k => by
    show (if k = 0 then ((-n : Int) : Rat) else 0) = -(if k = 0 then ((n : Int) : Rat) else 0)
    split
    · rw [Rat.intCast_neg]
    · rw [Rat.neg_zero]
example (f g h : Ps) : (f - g) * (f + g) * h = h * f * f - g * g * h := by grind
end Ps
end MR

set_option Elab.async false
set_option linter.all false
set_option maxRecDepth 100000
set_option maxHeartbeats 1000000
/-! NPs2: degrees, functionals, division by a monic polynomial, sequences that go on -/
namespace MR
open PySem PySem.Spec PyProof.Rows L2
namespace Ps
/-! ### degrees -/
theorem qK6 {n m k : Nat} {f g : Ps} (hf : Dg n f.c) (hg : Dg m g.c) (h : n + m ≤ k + 1) : Dg k (f * g).c := by
  have go : ∀ (i : Nat) (f : Nat → Rat) (n : Nat), Dg n f → n + m ≤ i + 1 → cvF i f g.c = 0 := by
    intro i
    induction i with
    | zero =>
      intro f n hf hn
      show f 0 * g.c 0 = 0
      by_cases h0 : n = 0
      · rw [hf 0 (by omega), Rat.zero_mul]
      · rw [hg 0 (by omega), Rat.mul_zero]
    | succ i ih =>
      intro f n hf hn
      show f 0 * g.c (i + 1) + cvF i (tlF f) g.c = 0
      by_cases h0 : n = 0
      · rw [hf 0 (by omega), Rat.zero_mul, qJ6 (tlF f) _ (fun j => hf (j + 1) (by omega)), Rat.add_zero]
      · rw [hg (i + 1) (by omega), Rat.mul_zero, Rat.zero_add]
        exact ih (tlF f) (n - 1) (fun j hj => hf (j + 1) (by omega)) (by omega)
  exact fun i hi => go i f.c n hf (by omega)
theorem qOk {n m : Nat} {f g : Ps} (hf : Dg (n + 1) f.c) (hg : Dg (m + 1) g.c) : (f * g).c (n + m) = f.c n * g.c m := by
  have go : ∀ (n : Nat) (f : Nat → Rat), Dg (n + 1) f → cvF (n + m) f g.c = f n * g.c m := by
    intro n
    induction n with
    | zero =>
      intro f hf
      rw [Nat.zero_add]
      cases m with
      | zero => rfl
      | succ m =>
        show f 0 * g.c (m + 1) + cvF m (tlF f) g.c = _
        rw [qJ6 (tlF f) _ (fun j => hf (j + 1) (by omega)), Rat.add_zero]
    | succ n ih =>
      intro f hf
      rw [show n + 1 + m = (n + m) + 1 by omega]
      show f 0 * g.c (n + m + 1) + cvF (n + m) (tlF f) g.c = _
      rw [ih (tlF f) fun j hj => hf (j + 1) (by omega), hg (n + m + 1) (by omega), Rat.mul_zero, Rat.zero_add]
      rfl
  exact go n f.c hf
theorem qAd3 {n : Nat} {f g : Ps} (hf : Dg n f.c) (hg : Dg n g.c) : Dg n (f + g).c := fun i hi => by
  rw [add_c, hf i hi, hg i hi, Rat.add_zero]
theorem qZ9 {n : Nat} {f g : Ps} (hf : Dg n f.c) (hg : Dg n g.c) : Dg n (f - g).c := fun i hi => by
  rw [sub_c, hf i hi, hg i hi, Rat.sub_self]
theorem qAdk {n : Nat} {f : Ps} (hf : Dg n f.c) : Dg n (-f).c := fun i hi => by
  rw [qYf, hf i hi, Rat.neg_zero]
theorem qS4 (a : Rat) : Dg 1 (cst a).c := fun i hi => by
  rw [cst_c, if_neg (by omega)]
theorem qHg {n : Nat} {a : Rat} {f : Ps} (hf : Dg n f.c) : Dg n (cst a * f).c := fun i hi => by
  rw [cst_mul, hf i hi, Rat.mul_zero]
theorem qKt (k : Nat) : (0 : Ps).c k = 0 := by
  show (if k = 0 then ((0 : Nat) : Rat) else 0) = 0
  split <;> rfl
theorem qXa {f : Ps} (h : ∀ i, f.c i = 0) : f = 0 := ext' fun k => by rw [h, qKt]
/-- a x^k -/
def mo (a : Rat) (k : Nat) : Ps := ⟨fun i => if i = k then a else 0⟩
theorem mo_dg (a : Rat) (k : Nat) : Dg (k + 1) (mo a k).c := fun i hi => by
  show (if i = k then a else 0) = 0
  rw [if_neg (by omega)]
theorem qZx (a : Rat) (f : Ps) : ∀ k i, (mo a k * f).c i = if k ≤ i then a * f.c (i - k) else 0
  | 0, i => by
    rw [if_pos (Nat.zero_le _)]
    exact qHb a f.c i
  | k + 1, 0 => by
    show (if 0 = k + 1 then a else 0) * f.c 0 = _
    rw [if_neg (by omega), if_neg (by omega), Rat.zero_mul]
  | k + 1, i + 1 => by
    show (if 0 = k + 1 then a else 0) * f.c (i + 1) + cvF i (tlF (mo a (k + 1)).c) f.c = _
    have e : tlF (mo a (k + 1)).c = (mo a k).c := funext fun j => by
      show (if j + 1 = k + 1 then a else 0) = if j = k then a else 0
      by_cases h : j = k
      · rw [if_pos h, if_pos (by omega)]
      · rw [if_neg h, if_neg (by omega)]
    have ih := qZx a f k i
    rw [if_neg (by omega), Rat.zero_mul, Rat.zero_add, e]
    show (mo a k * f).c i = _
    rw [ih, show i + 1 - (k + 1) = i - k by omega]
    by_cases h : k ≤ i
    · rw [if_pos h, if_pos (by omega)]
    · rw [if_neg h, if_neg (by omega)]
/-- x -/
def X : Ps := mo 1 1
theorem qAf0 (f : Ps) (i : Nat) : (X * f).c i = xF f.c i := by
  rw [show X = mo 1 1 from rfl, qZx]
  cases i with
  | zero => rfl
  | succ i => rw [if_pos (by omega), Rat.one_mul]; rfl
end Ps
open Ps
/-! ### functionals -/
section
variable {m : Nat → Rat}
end
/-- monic of degree n -/
structure Mon (n : Nat) (p : Ps) : Prop where
  d : Dg (n + 1) p.c
  t : p.c n = 1
/-! ### sequences that go on by a polynomial -/
def winS (p : Nat → Rat) (n : Nat) (b : Nat → Rat) : Nat → Nat → Rat
  | 0, i => b i
  | k + 1, i => if i + 1 < n then winS p n b k (i + 1) else -sm n fun j => p j * winS p n b k j
def goS (p : Nat → Rat) (n : Nat) (b : Nat → Rat) (k : Nat) : Rat := winS p n b k 0
end MR

set_option Elab.async false
set_option linter.all false
set_option maxRecDepth 100000
set_option maxHeartbeats 1000000
/-! NPs3: positive functionals; the form of p and its derivative is positive -/
namespace MR
open PySem PySem.Spec PyProof.Rows L2
open Ps
abbrev Nz (f : Ps) : Prop := ∃ i, f.c i ≠ 0
section
variable {ms : List Rat} {n : Nat}
end
/-- the derivative -/
def dP (f : Ps) : Ps := ⟨fun i => ((i : Rat) + 1) * f.c (i + 1)⟩
/-- the sequence that picks out coefficient n - 1 -/
def eS (p : Ps) (n : Nat) : Nat → Rat := goS p.c n fun i => if i + 1 = n then 1 else 0
section
variable {m : Nat → Rat} {n : Nat} {p : Ps}
theorem qAba (i : Nat) : (1 : Ps).c i = if i = 0 then 1 else 0 := rfl
end
end MR

set_option Elab.async false
set_option linter.all false
set_option maxRecDepth 100000
set_option maxHeartbeats 1000000
/-! NPs4: Euclid's remainders of a positive pair; their small cofactors -/
namespace MR
open PySem PySem.Spec PyProof.Rows L2
open Ps
/-- the remainders u, v of p and c: v is number j -/
structure Sg (n : Nat) (p c : Ps) (j : Nat) (u v : Ps) : Prop where
  j1 : 1 ≤ j
  jn : j ≤ n
  du : Dg (n - j + 2) u.c
  tu : 0 < u.c (n - j + 1)
  dv : Dg (n - j + 1) v.c
  tv : 0 < v.c (n - j)
  cu : ∃ A B : Ps, Dg j A.c ∧ Dg j B.c ∧ u = A * p + B * c
  cv : ∃ A B : Ps, Dg (j - 1) A.c ∧ Dg j B.c ∧ 0 < B.c (j - 1) ∧ v = A * p + B * c
section
variable {n j : Nat} {p c u v : Ps}
end
end MR

set_option Elab.async false
set_option linter.all false
set_option maxRecDepth 100000
set_option maxHeartbeats 1000000
/-! NPs5: products as sums; the sizes of the remainders -/
namespace MR
open PySem PySem.Spec PyProof.Rows L2
open Ps
theorem qMz (f g : Nat → Rat) (k : Nat) : ∀ n, conv f g (n + 1) (k + 1) = f 0 * g (k + 1) + conv (tlF f) g n k
  | 0 => by
    show (0 : Rat) + (if 0 ≤ k + 1 then f 0 * g (k + 1 - 0) else 0) = f 0 * g (k + 1) + 0
    rw [if_pos (by omega), Rat.zero_add, Rat.add_zero]
    rfl
  | n + 1 => by
    show conv f g (n + 1) (k + 1) + (if n + 1 ≤ k + 1 then f (n + 1) * g (k + 1 - (n + 1)) else 0) = f 0 * g (k + 1) + (conv (tlF f) g n k + (if n ≤ k then tlF f n * g (k - n) else 0))
    rw [qMz f g k n]
    by_cases h : n ≤ k
    · rw [if_pos (by omega), if_pos h, show k + 1 - (n + 1) = k - n by omega, Rat.add_assoc]
      rfl
    · rw [if_neg (by omega), if_neg h, Rat.add_zero, Rat.add_zero]
theorem qMs (f g : Nat → Rat) : ∀ n, conv f g (n + 1) 0 = f 0 * g 0
  | 0 => by
    show (0 : Rat) + (if 0 ≤ 0 then f 0 * g 0 else 0) = _
    rw [if_pos (Nat.le_refl _), Rat.zero_add]
  | n + 1 => by
    show conv f g (n + 1) 0 + (if n + 1 ≤ 0 then _ else 0) = _
    rw [qMs f g n, if_neg (by omega), Rat.add_zero]
theorem qLu {f g : Nat → Rat} : ∀ (k n : Nat) (f : Nat → Rat), Dg n f → cvF k f g = conv f g n k
  | k, 0, f, h => by
    rw [qJ6 _ _ fun i => h i (by omega)]
    rfl
  | 0, n + 1, f, h => by rw [qMs]; rfl
  | k + 1, n + 1, f, h => by
    rw [qMz, ← qLu (f := f) k n (tlF f) fun i hi => h (i + 1) (by omega)]
    rfl
/-- a list as a polynomial -/
abbrev pl (cs : List Rat) : Ps := ⟨coef cs⟩
theorem qGy (cs : List Rat) : Dg cs.length (pl cs).c := fun i hi => qAr hi
theorem qAel (a b : List Rat) : pl (qIk a b) = pl a * pl b := ext' fun k => by
  show coef (qIk a b) k = cvF k (coef a) (coef b)
  rw [qE9, qLu (f := coef a) k a.length (coef a) (qGy a)]
theorem qSw (a : List Rat) : pl (strip a) = pl a := ext' fun k => qA7 a k
theorem Ov.castInt {N : Nat} {z : Int} (h : z.natAbs ≤ N) : Ov N 1 (z : Rat) := ⟨z, by rw [Rat.intCast_one, Rat.mul_one], h⟩
section
variable {n j b : Nat} {D : Int} {p c u v : Ps}
end
end MR

set_option Elab.async false
set_option linter.all false
set_option maxRecDepth 100000
set_option maxHeartbeats 4000000
set_option exponentiation.threshold 20000
namespace MR
open PySem PySem.Spec PyProof.Rows L2
/-! ### lots -/
structure ContOk (p b : List Rat) (size : Nat) : Prop where
  l : b.length + 1 = p.length
  l9 : p.length ≤ 20
  s : size ≤ 1000
  z : ∃ n m, SzL n p ∧ (∀ k, k < size → Sz m (goS (coef p) b.length (coef b) k)) ∧ 0 < n ∧ 0 < m ∧ 21 * (n + m + 1) ≤ 900000
end MR

set_option Elab.async false
set_option linter.all false
set_option maxRecDepth 100000
set_option maxHeartbeats 4000000
set_option exponentiation.threshold 20000
namespace MR
open PySem PySem.Spec PyProof.Rows L2
theorem AftP.mono {p : List Rat} {a b : Option Rat} {P P' : D → Prop} (h : AftP p a b P) (k : ∀ d, P d → P' d) : AftP p a b P' := ⟨h.1, fun z => k _ (h.2.1 z), fun z => let ⟨l, hl, q⟩ := h.2.2 z; ⟨l, hl, k _ q⟩⟩
theorem RinP.mono {p : List Rat} {a b : Option Rat} {P P' : D → Prop} (h : RinP p a b P) (k : ∀ d, P d → P' d) : RinP p a b P' := ⟨h.1, fun z => k _ (h.2.1 z), fun z => ⟨(h.2.2 z).1, (h.2.2 z).2.mono fun _ ⟨i, e, q⟩ => ⟨i, e, k _ q⟩⟩⟩
end MR

set_option Elab.async false
set_option linter.all false
set_option maxRecDepth 100000
set_option maxHeartbeats 1000000
set_option exponentiation.threshold 20000
/-! NPs6: Sturm's chain of a positive polynomial, as lists -/
namespace MR
open PySem PySem.Spec PyProof.Rows L2
open Ps
theorem Sz.inv {n : Nat} {a : Rat} (h : Sz n a) : Sz n a⁻¹ := by
  by_cases e : a = 0
  · rw [e, Rat.inv_zero]
    exact ⟨by show 0 < 2 ^ n; exact Nat.two_pow_pos n, by have := h.pos; exact Nat.one_lt_two_pow (by omega)⟩
  · rw [Rat.inv_def]
    refine qQg (fun z => e (Rat.num_eq_zero.mp z)) ?_ h.num
    rw [Int.natAbs_natCast]
    exact h.den
theorem Sz.div {n m : Nat} {a b : Rat} (h : Sz n a) (g : Sz m b) : Sz (n + m) (a / b) := by
  rw [Rat.div_def]
  exact h.mul g.inv
theorem qDm (a : List Rat) : qAk a = coef a (a.length - 1) := rfl
theorem qVq {n : Nat} {cs : List Rat} (h : ∀ k, Sz n (coef cs k)) : SzL n cs := qAbi h
theorem qLx {a : List Rat} (h : qAk a ≠ 0) (l : 0 < a.length) : strip a = a := qMv (n := a.length - 1) (by omega) h
theorem qXd {a : List Rat} (h : qAk a ≠ 0) (l : 0 < a.length) : qCd a = a.map fun c => c / qAk a := by
  unfold qCd
  rw [qLx h l]
theorem qDl {a : List Rat} (h : qAk a ≠ 0) (l : 0 < a.length) (k : Nat) : coef (qCd a) k = 1 / qAk a * coef a k := by
  rw [qXd h l]
  unfold coef
  rw [List.getElem?_map]
  cases a[k]? with
  | none => show (0 : Rat) = _ * 0; rw [Rat.mul_zero]
  | some c => show c / _ = 1 / _ * c; grind
theorem qD8 {a : List Rat} (h : qAk a ≠ 0) (l : 0 < a.length) : (qCd a).length = a.length := by rw [qXd h l, List.length_map]
theorem qC8 {a : List Rat} (h : qAk a ≠ 0) (l : 0 < a.length) : qAk (qCd a) = 1 := by
  rw [qDm, qD8 h l, qDl h l, ← qDm]
  grind
theorem qGf : (1 : Rat) ≠ 0 := by decide
theorem qWd {za zb zc : Nat} {u v q r : List Rat} (h : DivZ za zb zc u v q r) : pl u = pl q * pl v + pl r := ext' fun k => by
  show coef u k = cvF k (coef q) (coef v) + coef r k
  rw [h.eq k, qLu (f := coef q) k q.length (coef q) (qGy q)]
/-- degrees fall by one, all leads are above 0 -/
def ChP : Nat → List (List Rat) → Prop
  | 0, l => l = []
  | k + 1, l => ∃ v r, l = v :: r ∧ v.length = k + 1 ∧ 0 < qAk v ∧ ChP k r
theorem ChP.len : ∀ {k : Nat} {l : List (List Rat)}, ChP k l → l.length = k
  | 0, l, h => by rw [show l = [] from h]; rfl
  | k + 1, l, h => by
    obtain ⟨v, r, rfl, _, _, hr⟩ := h
    rw [List.length_cons, hr.len]
theorem ChP.pos : ∀ {k : Nat} {l : List (List Rat)}, ChP k l → ∀ v, v ∈ l → 0 < v.length ∧ 0 < qAk v
  | 0, l, h, v, hv => by rw [show l = [] from h] at hv; cases hv
  | k + 1, l, h, v, hv => by
    obtain ⟨w, r, rfl, h1, h2, hr⟩ := h
    rcases List.mem_cons.mp hv with rfl | hv
    · exact ⟨by omega, h2⟩
    · exact hr.pos v hv
/-- the sizes of all remainders -/
structure SgL (n : Nat) (p c : Ps) (j s : Nat) (u v : List Rat) : Prop where
  g : Sg n p c j (pl u) (pl v)
  lu : u.length = n - j + 2
  lv : v.length = n - j + 1
  zu : SzL s u
  zv : SzL s v
theorem SgL.tv {n j s : Nat} {p c : Ps} {u v : List Rat} (h : SgL n p c j s u v) : 0 < qAk v := by
  rw [qDm, h.lv]
  exact h.g.tv
theorem okl {s : Nat} {a : List Rat} (l : a.length ≤ 1000) (z : SzL s a) (s0 : 0 < s) (hs : s + s ≤ 900000) : OkL a := ⟨l, s, z, s0, hs⟩
section
variable {n b s : Nat} {D : Int} {p c : Ps}
end
/-! ### signs -/
end MR

set_option Elab.async false
set_option linter.all false
set_option maxRecDepth 100000
set_option maxHeartbeats 1000000
set_option exponentiation.threshold 20000
/-! N10: division with sizes, Euclid with jumps of degrees -/
namespace MR
open PySem PySem.Spec PyProof.Rows L2
open Ps
/-- Siegel's lemma, up to 30 equations -/
theorem qAcx {s mu : Nat} (hs : s ≤ 30) (a : Nat → Nat → Int) (ha : ∀ i j, (a i j).natAbs ≤ 2 ^ mu) : ∃ x : Nat → Int, (∀ j, (x j).natAbs ≤ 2 ^ ((mu + 7) * s + 1)) ∧ (∃ j, j < s + 1 ∧ x j ≠ 0) ∧ (∀ j, s + 1 ≤ j → x j = 0) ∧ ∀ i, i < s → smI (s + 1) (fun j => a i j * x j) = 0 := by
  obtain ⟨t, ht⟩ : ∃ t, t = (mu + 7) * s + 1 := ⟨_, rfl⟩
  rw [← ht]
  have pB : 0 < 2 ^ t := Nat.two_pow_pos t
  let v : Nat → Nat → Int := fun n i => smI (s + 1) (fun j => a i j * (dig (2 ^ t) j n : Int))
  have hv : ∀ n i, (v n i).natAbs ≤ 2 ^ (t + mu + 5) := fun n i => by
    refine Nat.le_trans (qSo (T := 2 ^ mu * 2 ^ t) (s + 1) fun j _ => ?_) ?_
    · rw [Int.natAbs_mul]
      exact Nat.mul_le_mul (ha i j) (Nat.le_of_lt (qLe pB j n))
    · rw [← Nat.pow_add, show t + mu + 5 = 5 + (mu + t) by omega, Nat.pow_add 2 5]
      exact Nat.mul_le_mul_right _ (by omega)
  obtain ⟨O, hO⟩ : ∃ O : Nat, O = 2 ^ (t + mu + 5) := ⟨_, rfl⟩
  have e5 : 2 ^ (t + mu + 6) = 2 * O := by rw [hO, show t + mu + 6 = (t + mu + 5) + 1 by omega, Nat.pow_succ, Nat.mul_comm]
  have e6 : 2 ^ (t + mu + 7) = 4 * O := by rw [show t + mu + 7 = (t + mu + 6) + 1 by omega, Nat.pow_succ, e5]; omega
  have pO : 0 < O := by rw [hO]; exact Nat.two_pow_pos _
  let w : Nat → Nat → Nat := fun n i => (v n i + (O : Int)).toNat
  have hv' : ∀ n i, (v n i).natAbs ≤ O := fun n i => by rw [hO]; exact hv n i
  have hw : ∀ n i, w n i < 2 ^ (t + mu + 7) := fun n i => by
    have := hv' n i
    rw [e6]
    show (v n i + (O : Int)).toNat < _
    omega
  have hexp : (t + mu + 7) * s < t * (s + 1) := by
    rw [Nat.mul_add t, Nat.mul_one, show t + mu + 7 = t + (mu + 7) by omega, Nat.add_mul]
    omega
  obtain ⟨n, n', h1, h2, h3⟩ := pig ((2 ^ (t + mu + 7)) ^ s) ((2 ^ t) ^ (s + 1)) (fun n => enc (2 ^ (t + mu + 7)) (w n) s) (by
    rw [← Nat.pow_mul, ← Nat.pow_mul]
    exact Nat.pow_lt_pow_right (by decide) hexp) (fun n _ => qWg fun i _ => hw n i)
  have hwe := qR8 (fun i _ => hw n i) (fun i _ => hw n' i) h3
  have hve : ∀ i, i < s → v n i = v n' i := fun i hi => by
    have e : (v n i + (O : Int)).toNat = (v n' i + (O : Int)).toNat := hwe i hi
    have b1 := hv' n i
    have b2 := hv' n' i
    omega
  refine ⟨fun j => if j < s + 1 then (dig (2 ^ t) j n : Int) - (dig (2 ^ t) j n' : Int) else 0, fun j => ?_, ?_, fun j hj => if_neg (by omega), fun i hi => ?_⟩
  · have d1 := qLe pB j n
    have d2 := qLe pB j n'
    show (if j < s + 1 then _ else _ : Int).natAbs ≤ _
    split
    · omega
    · simp
  · refine Classical.byContradiction fun z => ?_
    have : ∀ j, j < s + 1 → dig (2 ^ t) j n = dig (2 ^ t) j n' := fun j hj => by
      refine Classical.byContradiction fun y => z ⟨j, hj, ?_⟩
      show (if j < s + 1 then _ else _ : Int) ≠ 0
      rw [if_pos hj]
      omega
    have := qRc pB (s := s + 1) (by omega) h2 this
    omega
  · have e : ∀ j, j < s + 1 → a i j * (if j < s + 1 then (dig (2 ^ t) j n : Int) - (dig (2 ^ t) j n' : Int) else 0) = a i j * (dig (2 ^ t) j n : Int) - a i j * (dig (2 ^ t) j n' : Int) := fun j hj => by
      rw [if_pos hj, Int.mul_sub]
    rw [qKc e, qRh]
    have := hve i hi
    show v n i - v n' i = 0
    omega
/-! ### division with sizes -/
theorem qNo {q : List Rat} {c : Rat} {v : Nat → Rat} (k : Nat) : ∀ t, t ≤ q.length → conv (coef (q ++ [c])) v t k = conv (coef q) v t k
  | 0, _ => rfl
  | t + 1, h => by
    have ih := qNo (q := q) (c := c) (v := v) k t (by omega)
    show conv _ _ t k + (if t ≤ k then coef (q ++ [c]) t * _ else 0) = conv _ _ t k + (if t ≤ k then coef q t * _ else 0)
    rw [ih]
    have : coef (q ++ [c]) t = coef q t := by
      unfold coef
      rw [List.getElem?_append_left (by omega)]
    rw [this]
theorem qHu {q : List Rat} {c : Rat} : coef (q ++ [c]) q.length = c := by
  unfold coef
  rw [List.getElem?_append_right (Nat.le_refl _), Nat.sub_self]
  rfl
/-- all values of f over one bottom -/
def CdF (b : Nat) (D : Int) (f : Nat → Rat) : Prop := 0 < D ∧ D.natAbs ≤ 2 ^ b ∧ ∀ i, Ov (2 ^ b) D (f i)
theorem CdF.sz {b : Nat} {D : Int} {f : Nat → Rat} (h : CdF b D f) (i : Nat) : Sz (b + 1) (f i) := qMf (h.2.2 i) h.1 h.2.1
theorem CdF.mono {b c : Nat} {D : Int} {f : Nat → Rat} (h : CdF b D f) (hb : b ≤ c) : CdF c D f :=
  have p : 2 ^ b ≤ 2 ^ c := Nat.pow_le_pow_right (by decide) hb
  ⟨h.1, Nat.le_trans h.2.1 p, fun i => (h.2.2 i).mono p⟩
theorem CdF.congr {b : Nat} {D : Int} {f g : Nat → Rat} (h : CdF b D f) (e : ∀ i, g i = f i) : CdF b D g := ⟨h.1, h.2.1, fun i => by rw [e]; exact h.2.2 i⟩
/-- one step of the division -/
theorem qAcz {bu bv : Nat} {D1 D2 : Int} {u v : Nat → Rat} (zu : CdF bu D1 u) (zv : CdF bv D2 v) (s n : Nat) (t0 : v s ≠ 0) : ∃ D, CdF (bu + (bv + 1)) D fun k => u k - (if n ≤ k then u (s + n) / v s * v (k - n) else 0) := by
  obtain ⟨p1, l1, o1⟩ := zu
  obtain ⟨p2, l2, o2⟩ := zv
  obtain ⟨y, hy, by'⟩ := o2 s
  obtain ⟨x, hx, bx⟩ := o1 (s + n)
  have n2 := qC4 p2
  have y0 : y ≠ 0 := fun e => by
    rw [e, Rat.intCast_zero] at hy
    rcases Rat.mul_eq_zero.mp hy with w | w
    · exact t0 w
    · exact n2 w
  have pe : 2 ^ (bu + (bv + 1)) = 2 ^ bu * 2 ^ bv + 2 ^ bu * 2 ^ bv := by rw [Nat.pow_add, Nat.pow_succ, ← Nat.mul_assoc, Nat.mul_two]
  have e0 : ∀ k, ∃ a : Int, (u k - (if n ≤ k then u (s + n) / v s * v (k - n) else 0)) * ((D1 * y : Int) : Rat) = (a : Rat) ∧ a.natAbs ≤ 2 ^ (bu + (bv + 1)) := fun k => by
    obtain ⟨a, ha, ba⟩ := o1 k
    obtain ⟨c, hc, bc⟩ := o2 (k - n)
    have m1 : (a * y).natAbs ≤ 2 ^ bu * 2 ^ bv := by rw [Int.natAbs_mul]; exact Nat.mul_le_mul ba by'
    have m2 : (x * c).natAbs ≤ 2 ^ bu * 2 ^ bv := by rw [Int.natAbs_mul]; exact Nat.mul_le_mul bx bc
    by_cases h : n ≤ k
    · refine ⟨a * y - x * c, ?_, by rw [pe]; omega⟩
      rw [if_pos h, Rat.intCast_sub, Rat.intCast_mul, Rat.intCast_mul, Rat.intCast_mul, ← ha, ← hc, ← hx, ← hy]
      have : u (s + n) / v s * v s = u (s + n) := Rat.div_mul_cancel t0
      grind
    · refine ⟨a * y, ?_, by rw [pe]; omega⟩
      rw [if_neg h, Rat.intCast_mul, Rat.intCast_mul, ← ha]
      grind
  refine ⟨((D1 * y).natAbs : Int), ?_, ?_, fun k => ?_⟩
  · have : D1 * y ≠ 0 := Int.mul_ne_zero (by omega) y0
    omega
  · rw [Int.natAbs_natCast, Int.natAbs_mul, pe]
    have := Nat.mul_le_mul (show D1.natAbs ≤ 2 ^ bu from l1) by'
    omega
  · obtain ⟨a, ha, ba⟩ := e0 k
    rcases Int.natAbs_eq (D1 * y) with e | e
    · exact ⟨a, by rw [← e]; exact ha, ba⟩
    · refine ⟨-a, ?_, by rw [Int.natAbs_neg]; exact ba⟩
      have e2 : (((D1 * y).natAbs : Int) : Rat) = -((D1 * y : Int) : Rat) := by
        have : ((D1 * y).natAbs : Int) = -(D1 * y) := by omega
        rw [this, Rat.intCast_neg]
      rw [e2, Rat.intCast_neg, ← ha]
      grind
theorem qZ5 {bv s : Nat} {D2 : Int} {v : List Rat} (lv : v.length = s + 1) (tv : coef v s ≠ 0) (zv : CdF bv D2 (coef v)) : ∀ (n bu : Nat) (D1 : Int) (u : Nat → Rat), (∀ k, s + n ≤ k → u k = 0) → CdF bu D1 u →
    ∃ q r : List Rat, q.length = n ∧ r.length = s ∧ (∀ k, u k = conv (coef q) (coef v) n k + coef r k) ∧ (∀ t, t ≤ n → ∃ D, CdF (bu + n * (bv + 1)) D fun k => conv (coef q) (coef v) t k + coef r k) ∧ ∀ i, i < n → Sz (bu + n * (bv + 1) + (bv + 2)) (coef q i)
  | 0, bu, D1, u, hu, zu => by
    have e : ∀ k, coef ((List.range s).map u) k = u k := fun k => by
      rw [qFg]
      split
      · rfl
      · exact (hu k (by omega)).symm
    refine ⟨[], (List.range s).map u, rfl, by simp, fun k => ?_, fun t ht => ⟨D1, (zu.mono (by omega)).congr fun k => ?_⟩, fun i hi => absurd hi (by omega)⟩
    · rw [e]; show _ = (0 : Rat) + _; rw [Rat.zero_add]
    · rw [e, show t = 0 by omega]; show (0 : Rat) + _ = _; rw [Rat.zero_add]
  | n + 1, bu, D1, u, hu, zu => by
    obtain ⟨D', zu'⟩ := qAcz zu zv s n tv
    have hu' : ∀ k, s + n ≤ k → (u k - (if n ≤ k then u (s + n) / coef v s * coef v (k - n) else 0)) = 0 := fun k hk => by
      rw [if_pos (by omega)]
      by_cases e : k = s + n
      · subst e
        rw [show s + n - n = s by omega, Rat.div_mul_cancel tv, Rat.sub_self]
      · rw [hu k (by omega), qAr (cs := v) (k := k - n) (by omega), Rat.mul_zero, Rat.sub_self]
    obtain ⟨q, r, lq, lr, eq, zt, zq⟩ := qZ5 lv tv zv n _ D' _ hu' zu'
    have ex : bu + (bv + 1) + n * (bv + 1) = bu + (n + 1) * (bv + 1) := by rw [Nat.add_mul, Nat.one_mul]; omega
    rw [ex] at zt zq
    have el : ∀ k, u k = conv (coef (q ++ [u (s + n) / coef v s])) (coef v) (n + 1) k + coef r k := fun k => by
      show _ = conv _ _ n k + (if n ≤ k then coef (q ++ [u (s + n) / coef v s]) n * coef v (k - n) else 0) + _
      rw [qNo k n (by omega), show coef (q ++ [u (s + n) / coef v s]) n = u (s + n) / coef v s by rw [← lq]; exact qHu]
      have := eq k
      grind
    refine ⟨q ++ [u (s + n) / coef v s], r, by simp [lq], lr, el, fun t ht => ?_, fun i hi => ?_⟩
    · by_cases h : t ≤ n
      · obtain ⟨D, z⟩ := zt t h
        exact ⟨D, z.congr fun k => by rw [qNo k t (by omega)]⟩
      · rw [show t = n + 1 by omega]
        exact ⟨D1, (zu.mono (by omega)).congr fun k => (el k).symm⟩
    · by_cases h : i < n
      · have := zq i h
        have e : coef (q ++ [u (s + n) / coef v s]) i = coef q i := by
          unfold coef
          rw [List.getElem?_append_left (by omega)]
        rw [e]; exact this
      · have hi2 : i = q.length := by omega
        rw [hi2, qHu]
        refine ((zu.sz _).div (zv.sz s)).mono ?_
        rw [Nat.add_mul, Nat.one_mul]
        omega
theorem qZi {n : Nat} {cs : List Rat} (h : ∀ i, i < cs.length → Sz n (coef cs i)) : SzL n cs := fun c hc => by
  obtain ⟨i, hi, rfl⟩ := List.getElem_of_mem hc
  have := h i hi
  unfold coef at this
  rw [List.getElem?_eq_getElem hi] at this
  exact this
/-- the division of lists over one bottom each -/
theorem qOd {bu bv n : Nat} {D1 D2 : Int} {u v : List Rat} (lv : 0 < v.length) (tv : qAk v ≠ 0) (zu : CdF bu D1 (coef u)) (zv : CdF bv D2 (coef v)) (l1 : u.length ≤ 1000) (l2 : v.length ≤ 1000) (hn : n = u.length + 1 - v.length) (hb : 2 * (bu + n * (bv + 1)) + 2 * bv + 4 ≤ 900000) :
    ∃ q r, DivZ (bu + n * (bv + 1) + (bv + 2)) (bv + 1) (bu + n * (bv + 1) + 1) u v q r ∧ q.length = n ∧ r.length = v.length - 1 ∧ ∃ D, CdF (bu + n * (bv + 1)) D (coef r) := by
  obtain ⟨s, hs⟩ : ∃ s, v.length = s + 1 := ⟨v.length - 1, by omega⟩
  have tv' : coef v s ≠ 0 := by rw [qDm, hs] at tv; exact tv
  obtain ⟨q, r, lq, lr, eq, zt, zq⟩ := qZ5 hs tv' zv n bu D1 (coef u) (fun k hk => qAr (by omega)) zu
  refine ⟨q, r, ⟨qLx tv lv, lv, fun k => by rw [lq]; exact eq k, by omega, by omega, l1, l2, by omega, by omega, qZi fun i hi => zq i (by omega), qVq fun k => zv.sz k, fun t k ht => ?_, by omega⟩, lq, by omega, ?_⟩
  · obtain ⟨D, z⟩ := zt t (by omega)
    exact z.sz k
  · obtain ⟨D, z⟩ := zt 0 (Nat.zero_le _)
    exact ⟨D, z.congr fun k => by show _ = (0 : Rat) + _; rw [Rat.zero_add]⟩
end MR

set_option Elab.async false
set_option linter.all false
set_option maxRecDepth 100000
set_option maxHeartbeats 1000000
set_option exponentiation.threshold 20000
/-! N10b: Euclid's remainders of any two polynomials: cofactors, sizes, the divisor -/
namespace MR
open PySem PySem.Spec PyProof.Rows L2
open Ps
/-- a polynomial -/
def FdP (f : Ps) : Prop := ∃ n, Dg n f.c
theorem FdP.add {f g : Ps} (h : FdP f) (k : FdP g) : FdP (f + g) := by
  obtain ⟨n, hn⟩ := h
  obtain ⟨m, hm⟩ := k
  exact ⟨n + m, qAd3 (hn.mono (by omega)) (hm.mono (by omega))⟩
theorem FdP.sub {f g : Ps} (h : FdP f) (k : FdP g) : FdP (f - g) := by
  obtain ⟨n, hn⟩ := h
  obtain ⟨m, hm⟩ := k
  exact ⟨n + m, qZ9 (hn.mono (by omega)) (hm.mono (by omega))⟩
theorem FdP.mul {f g : Ps} (h : FdP f) (k : FdP g) : FdP (f * g) := by
  obtain ⟨n, hn⟩ := h
  obtain ⟨m, hm⟩ := k
  exact ⟨n + m, qK6 hn hm (by omega)⟩
theorem FdP.cst (a : Rat) : FdP (cst a) := ⟨1, qS4 a⟩
theorem FdP.one : FdP 1 := ⟨1, qS4 1⟩
theorem FdP.zero : FdP 0 := ⟨0, fun i _ => qKt i⟩
theorem FdP.pl (a : List Rat) : FdP (pl a) := ⟨_, qGy a⟩
theorem qPg {f : Ps} (h : FdP f) (z : Nz f) : ∃ n, Dg (n + 1) f.c ∧ f.c n ≠ 0 := by
  obtain ⟨n, hn⟩ := h
  induction n with
  | zero =>
    obtain ⟨i, hi⟩ := z
    exact absurd (hn i (Nat.zero_le _)) hi
  | succ n ih =>
    by_cases e : f.c n = 0
    · exact ih fun i hi => by
        by_cases w : i = n
        · rw [w]; exact e
        · exact hn i (by omega)
    · exact ⟨n, hn, e⟩
theorem qVr {f : Ps} (h : ¬ Nz f) : f = 0 := qXa fun i => Classical.byContradiction fun w => h ⟨i, w⟩
theorem qG6 {a b : Rat} (ha : a ≠ 0) (hb : b ≠ 0) : a * b ≠ 0 := fun e => by
  rcases Rat.mul_eq_zero.mp e with w | w
  · exact ha w
  · exact hb w
theorem qFs {n m : Nat} {f g : Ps} (hf : Dg (n + 1) f.c) (hg : Dg (m + 1) g.c) (f0 : f.c n ≠ 0) (g0 : g.c m ≠ 0) : (f * g).c (n + m) ≠ 0 := by
  rw [qOk hf hg]
  exact qG6 f0 g0
theorem csti {d : Rat} (h : d ≠ 0) : cst (1 / d) * cst d = 1 := ext' fun k => by
  rw [cst_mul, cst_c, qAba]
  split
  · grind
  · exact Rat.mul_zero _
/-- two remainders that follow one another -/
structure Eg (p q : Ps) (dp dq : Nat) (u v : List Rat) : Prop where
  lu : 0 < u.length
  tu : qAk u ≠ 0
  lv : v.length < u.length
  tv : 0 < v.length → qAk v ≠ 0
  mp : u.length - 1 ≤ dp
  mq : u.length - 1 ≤ dq
  co : ∃ A0 B0 A B : Ps, ∃ d : Rat, pl u = A0 * p + B0 * q ∧ pl v = A * p + B * q ∧ d ≠ 0 ∧ A0 * B - A * B0 = cst d ∧ FdP A0 ∧ FdP B0 ∧ FdP A ∧ FdP B ∧ Dg (dp - (u.length - 1)) B0.c ∧ Dg (dp - (u.length - 1) + 1) B.c ∧ B.c (dp - (u.length - 1)) ≠ 0
section
variable {p q : Ps} {dp dq : Nat} {u v : List Rat}
theorem qAb5 (s : Eg p q dp dq u v) {A' B' : Ps} (fA : FdP A') (dB : Dg (dp - (u.length - 1) + 1) B'.c) (dW : Dg (u.length - 1) (A' * p + B' * q).c) (nz : Nz A' ∨ Nz B') : ∃ g : Rat, g ≠ 0 ∧ A' * p + B' * q = cst g * pl v := by
  obtain ⟨A0, B0, A, B, d, eu, ev, d0, det, f1, f2, f3, f4, e1, e2, e3⟩ := s.co
  have fB : FdP B' := ⟨_, dB⟩
  have ci := csti d0
  obtain ⟨ic, hic⟩ : ∃ ic, ic = cst (1 / d) := ⟨_, rfl⟩
  obtain ⟨dc, hdc⟩ : ∃ dc, dc = cst d := ⟨_, rfl⟩
  rw [← hic, ← hdc] at ci
  rw [← hdc] at det
  obtain ⟨al, hal⟩ : ∃ al, al = ic * (A' * B - B' * A) := ⟨_, rfl⟩
  obtain ⟨be, hbe⟩ : ∃ be, be = ic * (A0 * B' - B0 * A') := ⟨_, rfl⟩
  have fal : FdP al := by rw [hal, hic]; exact (FdP.cst _).mul ((fA.mul f4).sub (fB.mul f3))
  have fbe : FdP be := by rw [hbe, hic]; exact (FdP.cst _).mul ((f1.mul fB).sub (f2.mul fA))
  have eA : A' = al * A0 + be * A := by
    have : al * A0 + be * A = ic * (A' * (A0 * B - A * B0)) := by rw [hal, hbe]; grind
    rw [this, det]; grind
  have eB : B' = al * B0 + be * B := by
    have : al * B0 + be * B = ic * (B' * (A0 * B - A * B0)) := by rw [hal, hbe]; grind
    rw [this, det]; grind
  have eW : A' * p + B' * q = al * pl u + be * pl v := by rw [eu, ev, eA, eB]; grind
  obtain ⟨m, hm⟩ : ∃ m, m = u.length - 1 := ⟨_, rfl⟩
  have lu := s.lu
  have lv := s.lv
  have du : Dg (m + 1) (pl u).c := (qGy u).mono (by omega)
  have tu : (pl u).c m ≠ 0 := by have := s.tu; rw [qDm, ← hm] at this; exact this
  have dv : Dg m (pl v).c := (qGy v).mono (by omega)
  rw [← hm] at dB dW e1 e2 e3
  have al0 : al = 0 := by
    refine Classical.byContradiction fun w => ?_
    have nal : Nz al := Classical.byContradiction fun y => w (qVr y)
    obtain ⟨a, da, ta⟩ := qPg fal nal
    have t1 := qFs da du ta tu
    have t2 := dW (a + m) (by omega)
    rw [eW, add_c] at t2
    have t3 : (be * pl v).c (a + m) ≠ 0 := fun y => by rw [y, Rat.add_zero] at t2; exact t1 t2
    have nbe : Nz be := Classical.byContradiction fun y => t3 (by rw [qVr y, show (0 : Ps) * pl v = 0 by grind, qKt])
    obtain ⟨e, de, te⟩ := qPg fbe nbe
    have ae : a < e := Classical.byContradiction fun y => t3 (qK6 (k := e + m) de dv (by omega) (a + m) (by omega))
    have t4 := qFs de e2 te e3
    have t5 : (al * B0).c (e + (dp - m)) = 0 := qK6 (k := a + (dp - m)) da e1 (by omega) _ (by omega)
    have t6 := dB (e + (dp - m)) (by omega)
    rw [eB, add_c, t5, Rat.zero_add] at t6
    exact t4 t6
  rw [al0] at eA eB eW
  have nbe : Nz be := Classical.byContradiction fun y => by
    rw [qVr y] at eA eB
    have a0 : A' = 0 := by rw [eA]; grind
    have b0 : B' = 0 := by rw [eB]; grind
    rcases nz with ⟨i, hi⟩ | ⟨i, hi⟩
    · exact hi (by rw [a0, qKt])
    · exact hi (by rw [b0, qKt])
  obtain ⟨e, de, te⟩ := qPg fbe nbe
  have t4 := qFs de e2 te e3
  have e0 : e = 0 := Classical.byContradiction fun y => by
    have t6 := dB (e + (dp - m)) (by omega)
    rw [eB, show (0 : Ps) * B0 + be * B = be * B by grind] at t6
    exact t4 t6
  subst e0
  refine ⟨be.c 0, te, ?_⟩
  have : be = cst (be.c 0) := ext' fun k => by
    rw [cst_c]
    split
    · rename_i h; rw [h]
    · exact de k (by omega)
  rw [eW, ← this]
  grind
theorem qPs {b : Nat} {D : Int} {f : Nat → Rat} (h : CdF b D f) {s : Nat} (t : f s ≠ 0) : ∃ W, CdF b W fun i => 1 / f s * f i := by
  obtain ⟨p0, p1, o⟩ := h
  obtain ⟨y, hy, by'⟩ := o s
  have n0 := qC4 p0
  have y0 : y ≠ 0 := fun e => by
    rw [e, Rat.intCast_zero] at hy
    exact qG6 t n0 hy
  refine ⟨(y.natAbs : Int), by omega, by rw [Int.natAbs_natCast]; exact by', fun i => ?_⟩
  obtain ⟨x, hx, bx⟩ := o i
  have key : 1 / f s * f i * (y : Rat) = (x : Rat) := by
    rw [← hy, ← hx]
    grind
  rcases Int.natAbs_eq y with e | e
  · exact ⟨x, by rw [← e]; exact key, bx⟩
  · refine ⟨-x, ?_, by rw [Int.natAbs_neg]; exact bx⟩
    have e2 : ((y.natAbs : Int) : Rat) = -(y : Rat) := by
      have : (y.natAbs : Int) = -y := by omega
      rw [this, Rat.intCast_neg]
    rw [e2, Rat.intCast_neg, ← key]
    grind
theorem qVz (F : Nat → Rat) (a : Nat) (d : Nat) : sm (a + d) F = sm a F + sm d (fun l => F (a + l)) := by
  induction d with
  | zero => show sm a F = sm a F + 0; rw [Rat.add_zero]
  | succ d ih =>
    show sm (a + d) F + F (a + d) = sm a F + (sm d _ + F (a + d))
    rw [ih, Rat.add_assoc]
theorem qOv (f : Nat → Rat) (g : Nat → Rat) (k : Nat) : ∀ N, conv f g N k = sm N fun l => if l ≤ k then f l * g (k - l) else 0
  | 0 => rfl
  | N + 1 => by
    show conv f g N k + _ = sm N _ + _
    rw [qOv f g k N]
/-- the remainder made monic is small -/
theorem qOb {b : Nat} {Dp Dq : Int} (hp : Dg (dp + 1) p.c) (hq : Dg (dq + 1) q.c) (zp : CdF b Dp p.c) (zq : CdF b Dq q.c) (l1 : dp ≤ 14) (l2 : dq ≤ 14) (s : Eg p q dp dq u v) (v0 : 0 < v.length) : ∃ W, CdF (30 * b + 220) W fun i => 1 / qAk v * coef v i := by
  obtain ⟨p0, pb, op⟩ := zp
  obtain ⟨q0, qb, oq⟩ := zq
  have np := qC4 p0
  have nq := qC4 q0
  have lu := s.lu
  have lv := s.lv
  obtain ⟨m, hm⟩ : ∃ m, m = u.length - 1 := ⟨_, rfl⟩
  have mp := s.mp
  have mq := s.mq
  rw [← hm] at mp mq
  obtain ⟨z, hz⟩ : ∃ z : Nat → Int, ∀ i, p.c i * (Dp : Rat) = (z i : Rat) ∧ (z i).natAbs ≤ 2 ^ b := ⟨fun i => (op i).choose, fun i => (op i).choose_spec⟩
  obtain ⟨y, hy⟩ : ∃ y : Nat → Int, ∀ i, q.c i * (Dq : Rat) = (y i : Rat) ∧ (y i).natAbs ≤ 2 ^ b := ⟨fun i => (oq i).choose, fun i => (oq i).choose_spec⟩
  obtain ⟨P, hP⟩ : ∃ P : Ps, P = cst (Dp : Rat) * p := ⟨_, rfl⟩
  obtain ⟨Q, hQ⟩ : ∃ Q : Ps, Q = cst (Dq : Rat) * q := ⟨_, rfl⟩
  have cP : ∀ i, P.c i = (z i : Rat) := fun i => by rw [hP, cst_mul, ← (hz i).1]; grind
  have cQ : ∀ i, Q.c i = (y i : Rat) := fun i => by rw [hQ, cst_mul, ← (hy i).1]; grind
  have dP : Dg (dp + 1) P.c := by rw [hP]; exact qHg hp
  have dQ : Dg (dq + 1) Q.c := by rw [hQ]; exact qHg hq
  obtain ⟨na, hna⟩ : ∃ na, na = dq - m + 1 := ⟨_, rfl⟩
  obtain ⟨nb, hnb⟩ : ∃ nb, nb = dp - m + 1 := ⟨_, rfl⟩
  obtain ⟨x, xb, ⟨i0, hi0, x0⟩, xd, xe⟩ := qAcx (s := na + nb - 1) (mu := b) (by omega)
    (fun i l => if l < na then (if l ≤ m + i then z (m + i - l) else 0) else (if l - na ≤ m + i then y (m + i - (l - na)) else 0))
    (fun i l => by
      show (if l < na then (if l ≤ m + i then z (m + i - l) else 0) else (if l - na ≤ m + i then y (m + i - (l - na)) else 0) : Int).natAbs ≤ _
      split
      · split
        · exact (hz _).2
        · exact Nat.zero_le _
      · split
        · exact (hy _).2
        · exact Nat.zero_le _)
  obtain ⟨t, ht⟩ : ∃ t, t = (b + 7) * (na + nb - 1) + 1 := ⟨_, rfl⟩
  rw [← ht] at xb
  have tb : t ≤ 29 * b + 204 := by
    have : (b + 7) * (na + nb - 1) ≤ (b + 7) * 29 := Nat.mul_le_mul_left _ (by omega)
    omega
  obtain ⟨A, hA⟩ : ∃ A : Ps, ∀ i, A.c i = if i < na then (x i : Rat) else 0 := ⟨⟨fun i => if i < na then (x i : Rat) else 0⟩, fun i => rfl⟩
  obtain ⟨B, hB⟩ : ∃ B : Ps, ∀ i, B.c i = if i < nb then (x (na + i) : Rat) else 0 := ⟨⟨fun i => if i < nb then (x (na + i) : Rat) else 0⟩, fun i => rfl⟩
  have dA : Dg na A.c := fun i hi => by rw [hA, if_neg (by omega)]
  have dB : Dg nb B.c := fun i hi => by rw [hB, if_neg (by omega)]
  have zA : ∀ i, Ov (2 ^ t) 1 (A.c i) := fun i => by
    rw [hA]
    split
    · exact Ov.castInt (xb _)
    · exact Ov.zero
  have zB : ∀ i, Ov (2 ^ t) 1 (B.c i) := fun i => by
    rw [hB]
    split
    · exact Ov.castInt (xb _)
    · exact Ov.zero
  have zP : ∀ i, Ov (2 ^ b) 1 (P.c i) := fun i => by rw [cP]; exact Ov.castInt (hz i).2
  have zQ : ∀ i, Ov (2 ^ b) 1 (Q.c i) := fun i => by rw [cQ]; exact Ov.castInt (hy i).2
  have eA : ∀ k, (A * P).c k = conv A.c P.c na k := fun k => qLu (f := A.c) k _ A.c dA
  have eB : ∀ k, (B * Q).c k = conv B.c Q.c nb k := fun k => qLu (f := B.c) k _ B.c dB
  have dW : Dg m (A * P + B * Q).c := fun k hk => by
    by_cases hk2 : k < m + (na + nb - 1)
    · obtain ⟨i, rfl⟩ : ∃ i, k = m + i := ⟨k - m, by omega⟩
      have e := congrArg (fun q : Int => (q : Rat)) (xe i (by omega))
      rw [qOh, Rat.intCast_zero] at e
      rw [add_c, eA, eB, qOv, qOv]
      rw [show na + nb - 1 + 1 = na + nb by omega, qVz] at e
      have m1 : sm na (fun l => if l ≤ m + i then A.c l * P.c (m + i - l) else 0) = sm na fun l => (((if l < na then (if l ≤ m + i then z (m + i - l) else 0) else (if l - na ≤ m + i then y (m + i - (l - na)) else 0)) * x l : Int) : Rat) := by
        refine qBy fun l hl => ?_
        rw [if_pos hl]
        split
        · rw [Rat.intCast_mul, ← cP, hA, if_pos hl]; grind
        · rw [Int.zero_mul]; rfl
      have m2 : sm nb (fun l => if l ≤ m + i then B.c l * Q.c (m + i - l) else 0) = sm nb fun l => (((if na + l < na then (if na + l ≤ m + i then z (m + i - (na + l)) else 0) else (if na + l - na ≤ m + i then y (m + i - (na + l - na)) else 0)) * x (na + l) : Int) : Rat) := by
        refine qBy fun l hl => ?_
        rw [if_neg (show ¬ (na + l < na) by omega), show na + l - na = l by omega]
        split
        · rw [Rat.intCast_mul, ← cQ, hB, if_pos hl]; grind
        · rw [Int.zero_mul]; rfl
      rw [← m1, ← m2] at e
      exact e
    · have d1 : Dg (na + dp) (A * P).c := qK6 dA dP (by omega)
      have d2 : Dg (nb + dq) (B * Q).c := qK6 dB dQ (by omega)
      rw [add_c, d1 k (by omega), d2 k (by omega), Rat.add_zero]
  have eW : A * P + B * Q = (cst (Dp : Rat) * A) * p + (cst (Dq : Rat) * B) * q := by rw [hP, hQ]; grind
  have nz : Nz (cst (Dp : Rat) * A) ∨ Nz (cst (Dq : Rat) * B) := by
    by_cases w : i0 < na
    · refine .inl ⟨i0, ?_⟩
      rw [cst_mul, hA, if_pos w]
      exact qG6 np fun y => x0 (by exact_mod_cast y)
    · refine .inr ⟨i0 - na, ?_⟩
      rw [cst_mul, hB, if_pos (by omega), show na + (i0 - na) = i0 by omega]
      exact qG6 nq fun y => x0 (by exact_mod_cast y)
  obtain ⟨g, g0, eg⟩ := qAb5 s (A' := cst (Dp : Rat) * A) (B' := cst (Dq : Rat) * B) ⟨_, qHg dA⟩ (by rw [← hm, ← hnb]; exact qHg dB) (by rw [← hm, ← eW]; exact dW) nz
  have ov : ∀ k, Ov (2 ^ (30 * b + 220)) 1 ((cst g * pl v).c k) := fun k => by
    rw [← eg, ← eW, add_c, eA, eB]
    have o1 := qJ4 (f := A.c) (g := P.c) zA zP k na
    have o2 := qJ4 (f := B.c) (g := Q.c) zB zQ k nb
    rw [Int.one_mul] at o1 o2
    refine (o1.add o2).mono ?_
    rw [← Nat.pow_add, ← Nat.add_mul]
    refine Nat.le_trans (Nat.mul_le_mul_right (m := 2 ^ 5) _ (by omega)) ?_
    rw [← Nat.pow_add]
    exact Nat.pow_le_pow_right (by decide) (by omega)
  have cd : CdF (30 * b + 220) 1 (cst g * pl v).c := ⟨by decide, Nat.one_le_two_pow, ov⟩
  have tv := s.tv v0
  obtain ⟨W, hW⟩ := qPs cd (s := v.length - 1) (by
    rw [cst_mul]
    exact qG6 g0 tv)
  refine ⟨W, hW.congr fun i => ?_⟩
  rw [cst_mul, cst_mul]
  show 1 / qAk v * coef v i = 1 / (g * qAk v) * (g * coef v i)
  have tv2 : qAk v ≠ 0 := tv
  grind
end
end MR

set_option Elab.async false
set_option linter.all false
set_option maxRecDepth 100000
set_option maxHeartbeats 1000000
set_option exponentiation.threshold 20000
/-! N10c: Euclid ends with the greatest common divisor -/
namespace MR
open PySem PySem.Spec PyProof.Rows L2
open Ps
/-- g divides p and q and is a sum of multiples of them -/
structure GcdF (p q g : Ps) : Prop where
  lin : ∃ U V, FdP U ∧ FdP V ∧ g = U * p + V * q
  dp : ∃ S, FdP S ∧ p = g * S
  dq : ∃ S, FdP S ∧ q = g * S
theorem qT0 : pl ([] : List Rat) = 0 := qXa fun i => by show coef [] i = 0; rfl
theorem qHa {a : List Rat} (h : qAk a ≠ 0) (l : 0 < a.length) : pl (qCd a) = cst (1 / qAk a) * pl a := ext' fun k => by
  rw [cst_mul]
  exact qDl h l k
theorem qIw {r : List Rat} (h : 0 < (strip r).length) : qAk (strip r) ≠ 0 := qOp (qLo r) h
theorem monS (r : List Rat) : ∃ c : Rat, c ≠ 0 ∧ pl (qCd (strip r)) = cst c * pl r := by
  by_cases h : 0 < (strip r).length
  · have t := qIw h
    exact ⟨1 / qAk (strip r), by grind, by rw [qHa t h, qSw]⟩
  · have e : strip r = [] := List.length_eq_zero_iff.mp (by omega)
    have z : pl r = 0 := by rw [← qSw, e, qT0]
    refine ⟨1, by decide, ?_⟩
    rw [e, z, show qCd ([] : List Rat) = [] from rfl, qT0]
    grind
theorem qP9 {r : List Rat} (h : 0 < (qCd (strip r)).length) : 0 < (strip r).length := by
  refine Classical.byContradiction fun w => ?_
  have e : strip r = [] := List.length_eq_zero_iff.mp (by omega)
  rw [e] at h
  exact absurd h (by decide)
theorem qGp {r : List Rat} (h : 0 < (qCd (strip r)).length) : qAk (qCd (strip r)) = 1 := qC8 (qIw (qP9 h)) (qP9 h)
section
variable {p q : Ps} {dp dq : Nat} {u v : List Rat}
theorem qAcw (s : Eg p q dp dq u v) (v0 : 0 < v.length) {Q r : List Rat} (e : pl u = pl Q * pl v + pl r) (lQ : Q.length = u.length + 1 - v.length) (lr : r.length < v.length) : Eg p q dp dq (qCd v) (qCd (strip r)) := by
  obtain ⟨A0, B0, A, B, d, eu, ev, d0, det, f1, f2, f3, f4, e1, e2, e3⟩ := s.co
  have lu := s.lu
  have lv := s.lv
  have tv := s.tv v0
  have mp := s.mp
  have mq := s.mq
  have lm := qD8 tv v0
  have l1 := qE2 (strip r)
  have l2 := qGc r
  obtain ⟨c', c0, er⟩ := monS r
  obtain ⟨n, hn⟩ : ∃ n, n = u.length - v.length := ⟨_, rfl⟩
  have dQ : Dg (n + 1) (pl Q).c := (qGy Q).mono (by omega)
  have tQ : (pl Q).c n ≠ 0 := fun y => by
    have := qOk (n := n) (m := v.length - 1) dQ (g := pl v) ((qGy v).mono (by omega))
    rw [y, Rat.zero_mul] at this
    have tu := s.tu
    rw [qDm] at tu
    refine tu ?_
    have h2 : (pl u).c (u.length - 1) = (pl Q * pl v).c (u.length - 1) + (pl r).c (u.length - 1) := by rw [e, add_c]
    rw [show n + (v.length - 1) = u.length - 1 by omega] at this
    rw [this, qGy r _ (by omega), Rat.add_zero] at h2
    exact h2
  have dm : dp - ((qCd v).length - 1) = n + (dp - (u.length - 1)) := by rw [lm]; omega
  refine ⟨by omega, by rw [qC8 tv v0]; exact qGf, by omega, fun h => by rw [qGp h]; exact qGf, by omega, by omega, cst (1 / qAk v) * A, cst (1 / qAk v) * B, cst c' * (A0 - pl Q * A), cst c' * (B0 - pl Q * B), -(1 / qAk v * c' * d), ?_, ?_, ?_, ?_, (FdP.cst _).mul f3, (FdP.cst _).mul f4, (FdP.cst _).mul (f1.sub ((FdP.pl _).mul f3)), (FdP.cst _).mul (f2.sub ((FdP.pl _).mul f4)), ?_, ?_, ?_⟩
  · rw [qHa tv v0, ev]; grind
  · rw [er]
    have : pl r = pl u - pl Q * pl v := by rw [e]; grind
    rw [this, eu, ev]; grind
  · have := qG6 (qG6 (show 1 / qAk v ≠ 0 by grind) c0) d0
    grind
  · have : cst (-(1 / qAk v * c' * d)) = -(cst (1 / qAk v) * cst c' * cst d) := ext' fun k => by
      rw [qYf, show cst (1 / qAk v) * cst c' * cst d = cst (1 / qAk v) * (cst c' * cst d) by grind, cst_mul, cst_mul, cst_c, cst_c]
      split
      · grind
      · grind
    rw [this, ← det]
    grind
  · rw [dm]
    by_cases n0 : 1 ≤ n
    · exact qHg (e2.mono (by omega))
    · omega
  · rw [dm]
    exact qHg (qZ9 (e1.mono (by omega)) (qK6 dQ e2 (by omega)))
  · rw [dm, cst_mul, sub_c, e1 _ (by omega)]
    have := qFs dQ e2 tQ e3
    refine qG6 c0 fun y => this ?_
    grind
theorem qAdm (s : Eg p q dp dq u []) : GcdF p q (pl (qCd u)) := by
  obtain ⟨A0, B0, A, B, d, eu, ev, d0, det, f1, f2, f3, f4, e1, e2, e3⟩ := s.co
  have ci := csti d0
  have cl : cst (qAk u) * cst (1 / qAk u) = 1 := by
    have := csti s.tu
    grind
  rw [qT0] at ev
  have em := qHa s.tu s.lu
  obtain ⟨ic, hic⟩ : ∃ ic, ic = cst (1 / d) := ⟨_, rfl⟩
  obtain ⟨dc, hdc⟩ : ∃ dc, dc = cst d := ⟨_, rfl⟩
  obtain ⟨cu, hcu⟩ : ∃ cu, cu = cst (qAk u) := ⟨_, rfl⟩
  obtain ⟨iu, hiu⟩ : ∃ iu, iu = cst (1 / qAk u) := ⟨_, rfl⟩
  rw [← hic, ← hdc] at ci
  rw [← hdc] at det
  rw [← hcu, ← hiu] at cl
  rw [← hiu] at em
  have fu : FdP iu := by rw [hiu]; exact FdP.cst _
  have fcu : FdP cu := by rw [hcu]; exact FdP.cst _
  have fic : FdP ic := by rw [hic]; exact FdP.cst _
  have ep : dc * p = B * pl u := by
    rw [← det, eu]
    have : (A0 * B - A * B0) * p = B * (A0 * p + B0 * q) - B0 * (A * p + B * q) := by grind
    rw [this, ← ev]; grind
  have eq : dc * q = -(A * pl u) := by
    rw [← det, eu]
    have : (A0 * B - A * B0) * q = A0 * (A * p + B * q) - A * (A0 * p + B0 * q) := by grind
    rw [this, ← ev]; grind
  refine ⟨⟨iu * A0, iu * B0, fu.mul f1, fu.mul f2, by rw [em, eu]; grind⟩, ⟨ic * B * cu, (fic.mul f4).mul fcu, ?_⟩, ⟨ic * (0 - A) * cu, (fic.mul (FdP.zero.sub f3)).mul fcu, ?_⟩⟩
  · rw [em]
    have h1 : p = ic * (B * pl u) := by rw [← ep]; grind
    have h2 : iu * pl u * (ic * B * cu) = (cu * iu) * (ic * (B * pl u)) := by grind
    rw [h2, cl, ← h1]; grind
  · rw [em]
    have h1 : q = ic * -(A * pl u) := by rw [← eq]; grind
    have h2 : iu * pl u * (ic * (0 - A) * cu) = (cu * iu) * (ic * -(A * pl u)) := by grind
    rw [h2, cl, ← h1]; grind
theorem okc {b : Nat} {D : Int} {a : List Rat} (l : a.length ≤ 1000) (z : CdF b D (coef a)) (h : 2 * b + 2 ≤ 900000) : OkL a := okl l (qVq fun k => z.sz k) (Nat.succ_pos b) (by omega)
theorem qHz {b : Nat} {D : Int} {a : List Rat} (z : CdF b D (coef a)) : CdF b D (coef (strip a)) := z.congr fun i => qA7 a i
theorem qI5 {b : Nat} : CdF b 1 (coef ([] : List Rat)) := ⟨by decide, Nat.one_le_two_pow, fun i => by show Ov _ _ (0 : Rat); exact Ov.zero⟩
theorem qYd {b : Nat} {D : Int} {r : List Rat} (z : CdF b D (coef r)) : ∃ W, CdF b W (coef (qCd (strip r))) := by
  by_cases h : 0 < (strip r).length
  · have t := qIw h
    obtain ⟨W, hW⟩ := qPs (qHz z) (s := (strip r).length - 1) t
    exact ⟨W, hW.congr fun i => qDl t h i⟩
  · have e : strip r = [] := List.length_eq_zero_iff.mp (by omega)
    rw [e]
    exact ⟨1, qI5⟩
theorem qAdz {b : Nat} {Dp Dq : Int} (hp : Dg (dp + 1) p.c) (hq : Dg (dq + 1) q.c) (zp : CdF b Dp p.c) (zq : CdF b Dq q.c) (l1 : dp ≤ 14) (l2 : dq ≤ 14) (hb : b ≤ 850) : ∀ (N : Nat) (u v : List Rat), v.length ≤ N → Eg p q dp dq u v → (∃ D, CdF (30 * b + 220) D (coef u)) → (∃ D, CdF (30 * b + 220) D (coef v)) → ∃ g, Euc u v g ∧ 0 < g.length ∧ qAk g = 1 ∧ GcdF p q (pl g) := by
  intro N
  induction N with
  | zero =>
    intro u v hv s ⟨Du, zu⟩ _
    have v0 : v = [] := List.length_eq_zero_iff.mp (by omega)
    subst v0
    have mp := s.mp
    refine ⟨qCd u, Euc.nil (okc (by omega) zu (by omega)), by rw [qD8 s.tu s.lu]; exact s.lu, qC8 s.tu s.lu, qAdm s⟩
  | succ N ih =>
    intro u v hv s ⟨Du, zu⟩ ⟨Dv, zv⟩
    have mp := s.mp
    have lv := s.lv
    by_cases v0 : 0 < v.length
    · have tv := s.tv v0
      obtain ⟨T, hT⟩ : ∃ T, T = 30 * b + 220 := ⟨_, rfl⟩
      rw [← hT] at zu zv ih
      obtain ⟨n, hn⟩ : ∃ n, n = u.length + 1 - v.length := ⟨_, rfl⟩
      have nb : n * (T + 1) ≤ 15 * (T + 1) := Nat.mul_le_mul_right _ (by omega)
      obtain ⟨Q, r, hd, lQ, lr, D, zr⟩ := qOd v0 tv zu zv (by omega) (by omega) hn (by omega)
      have s2 := qAcw s v0 (qWd hd) (by omega) (by omega)
      have zm : ∃ D, CdF T D (coef (qCd v)) := by
        obtain ⟨W, hW⟩ := qOb hp hq zp zq l1 l2 s v0
        rw [hT]
        exact ⟨W, hW.congr fun i => qDl tv v0 i⟩
      have zm2 : ∃ D, CdF T D (coef (qCd (strip r))) := by
        by_cases h : 0 < (qCd (strip r)).length
        · obtain ⟨W, hW⟩ := qOb hp hq zp zq l1 l2 s2 h
          rw [hT]
          refine ⟨W, hW.congr fun i => ?_⟩
          rw [qGp h]
          grind
        · rw [List.length_eq_zero_iff.mp (show (qCd (strip r)).length = 0 by omega)]
          exact ⟨1, qI5⟩
      have l3 := qE2 (strip r)
      have l4 := qGc r
      obtain ⟨g, hg, g0, g1, gf⟩ := ih (qCd v) (qCd (strip r)) (by omega) s2 zm zm2
      exact ⟨g, Euc.step (qLx tv v0) hd (okc (by omega) zv (by omega)) (okc (by omega) (qHz zr) (by omega)) hg, g0, g1, gf⟩
    · exact ih u v (by omega) s ⟨Du, zu⟩ ⟨Dv, zv⟩
end
/-- a longer one and a shorter one -/
theorem qZ7 {b : Nat} {Dp Dq : Int} {p q : List Rat} (tp : qAk p ≠ 0) (q0 : 0 < q.length) (tq : qAk q ≠ 0) (l : q.length < p.length) (l15 : p.length ≤ 15) (zp : CdF b Dp (coef p)) (zq : CdF b Dq (coef q)) (hb : b ≤ 850) : ∃ g, Euc p q g ∧ 0 < g.length ∧ qAk g = 1 ∧ GcdF (pl p) (pl q) (pl g) := by
  obtain ⟨n, hn⟩ : ∃ n, n = p.length + 1 - q.length := ⟨_, rfl⟩
  have nb : n * (b + 1) ≤ 15 * (b + 1) := Nat.mul_le_mul_right _ (by omega)
  obtain ⟨Q, r, hd, lQ, lr, D, zr⟩ := qOd q0 tq zp zq (by omega) (by omega) hn (by omega)
  obtain ⟨c', c0, er⟩ := monS r
  have e := qWd hd
  have lm := qD8 tq q0
  have l1 := qE2 (strip r)
  have l2 := qGc r
  have dQ : Dg (p.length - q.length + 1) (pl Q).c := (qGy Q).mono (by omega)
  have tQ : (pl Q).c (p.length - q.length) ≠ 0 := fun y => by
    have := qOk (n := p.length - q.length) (m := q.length - 1) dQ (g := pl q) ((qGy q).mono (by omega))
    rw [y, Rat.zero_mul] at this
    rw [qDm] at tp
    refine tp ?_
    have h2 : (pl p).c (p.length - 1) = (pl Q * pl q).c (p.length - 1) + (pl r).c (p.length - 1) := by rw [e, add_c]
    rw [show p.length - q.length + (q.length - 1) = p.length - 1 by omega] at this
    rw [this, qGy r _ (by omega), Rat.add_zero] at h2
    exact h2
  have dm : p.length - 1 - ((qCd q).length - 1) = p.length - q.length := by rw [lm]; omega
  have s : Eg (pl p) (pl q) (p.length - 1) (q.length - 1) (qCd q) (qCd (strip r)) := by
    refine ⟨by omega, by rw [qC8 tq q0]; exact qGf, by omega, fun h => by rw [qGp h]; exact qGf, by omega, by omega, 0, cst (1 / qAk q), cst c', -(cst c' * pl Q), -(c' * (1 / qAk q)), ?_, ?_, ?_, ?_, FdP.zero, FdP.cst _, FdP.cst _, ?_, ?_, ?_, ?_⟩
    · rw [qHa tq q0]; grind
    · rw [er]
      have : pl r = pl p - pl Q * pl q := by rw [e]; grind
      rw [this]; grind
    · have := qG6 c0 (show 1 / qAk q ≠ 0 by grind)
      grind
    · have : cst (-(c' * (1 / qAk q))) = -(cst c' * cst (1 / qAk q)) := ext' fun k => by
        rw [qYf, cst_mul, cst_c, cst_c]
        split
        · rfl
        · grind
      rw [this]; grind
    · have := FdP.zero.sub ((FdP.cst c').mul (FdP.pl Q))
      rw [show (0 : Ps) - cst c' * pl Q = -(cst c' * pl Q) by grind] at this
      exact this
    · rw [dm]; exact (qS4 _).mono (by omega)
    · rw [dm]; exact qAdk (qHg dQ)
    · rw [dm, qYf, cst_mul]
      have := qG6 c0 tQ
      grind
  have zm : ∃ D, CdF (30 * b + 220) D (coef (qCd q)) := by
    obtain ⟨W, hW⟩ := qPs zq (s := q.length - 1) tq
    exact ⟨W, (hW.mono (by omega)).congr fun i => qDl tq q0 i⟩
  have hp : Dg (p.length - 1 + 1) (pl p).c := (qGy p).mono (by omega)
  have hq : Dg (q.length - 1 + 1) (pl q).c := (qGy q).mono (by omega)
  have zm2 : ∃ D, CdF (30 * b + 220) D (coef (qCd (strip r))) := by
    by_cases h : 0 < (qCd (strip r)).length
    · obtain ⟨W, hW⟩ := qOb hp hq zp zq (by omega) (by omega) s h
      refine ⟨W, hW.congr fun i => ?_⟩
      rw [qGp h]
      grind
    · rw [List.length_eq_zero_iff.mp (show (qCd (strip r)).length = 0 by omega)]
      exact ⟨1, qI5⟩
  obtain ⟨g, hg, g0, g1, gf⟩ := qAdz hp hq zp zq (by omega) (by omega) hb _ _ _ (Nat.le_refl _) s zm zm2
  exact ⟨g, Euc.step (qLx tq q0) hd (okc (by omega) zq (by omega)) (okc (by omega) (qHz zr) (by omega)) hg, g0, g1, gf⟩
/-- Euclid of any two -/
theorem qAed {b : Nat} {Dp Dq : Int} {p q : List Rat} (p0 : 0 < p.length) (tp : qAk p ≠ 0) (q0 : 0 < q.length) (tq : qAk q ≠ 0) (lp : p.length ≤ 15) (lq : q.length ≤ 15) (zp : CdF b Dp (coef p)) (zq : CdF b Dq (coef q)) (hb : b ≤ 400) : ∃ g, Euc p q g ∧ 0 < g.length ∧ qAk g = 1 ∧ GcdF (pl p) (pl q) (pl g) := by
  by_cases l : q.length < p.length
  · exact qZ7 tp q0 tq l lp zp zq (by omega)
  · obtain ⟨n, hn⟩ : ∃ n, n = p.length + 1 - q.length := ⟨_, rfl⟩
    have nb : n * (b + 1) ≤ 1 * (b + 1) := Nat.mul_le_mul_right _ (by omega)
    obtain ⟨Q, r, hd, lQ, lr, D, zr⟩ := qOd q0 tq zp zq (by omega) (by omega) hn (by omega)
    obtain ⟨c', c0, er⟩ := monS r
    have e := qWd hd
    have lm := qD8 tq q0
    have l1 := qE2 (strip r)
    have l2 := qGc r
    obtain ⟨W1, z1⟩ : ∃ W, CdF b W (coef (qCd q)) := by
      obtain ⟨W, hW⟩ := qPs zq (s := q.length - 1) tq
      exact ⟨W, hW.congr fun i => qDl tq q0 i⟩
    obtain ⟨W2, z2⟩ := qYd (zr.mono (show b + n * (b + 1) ≤ 2 * b + 1 by omega))
    have ic := csti c0
    have il := csti tq
    have st : ∀ {g}, Euc (qCd q) (qCd (strip r)) g → Euc p q g := fun hg => Euc.step (qLx tq q0) hd (okc (by omega) zq (by omega)) (okc (by omega) (qHz zr) (by omega)) hg
    have tr : ∀ {g : Ps}, GcdF (pl (qCd q)) (pl (qCd (strip r))) g → GcdF (pl p) (pl q) g := by
      rintro g ⟨⟨U, V, fU, fV, eg⟩, ⟨S, fS, eS⟩, ⟨S2, fS2, eS2⟩⟩
      rw [qHa tq q0] at eg eS
      rw [er] at eg eS2
      have rr : pl r = pl p - pl Q * pl q := by rw [e]; grind
      obtain ⟨a, ha⟩ : ∃ a, a = cst (1 / qAk q) := ⟨_, rfl⟩
      obtain ⟨ai, hai⟩ : ∃ ai, ai = cst (qAk q) := ⟨_, rfl⟩
      obtain ⟨k, hk⟩ : ∃ k, k = cst c' := ⟨_, rfl⟩
      obtain ⟨ki, hki⟩ : ∃ ki, ki = cst (1 / c') := ⟨_, rfl⟩
      have fa : FdP a := by rw [ha]; exact FdP.cst _
      have fai : FdP ai := by rw [hai]; exact FdP.cst _
      have fk : FdP k := by rw [hk]; exact FdP.cst _
      have fki : FdP ki := by rw [hki]; exact FdP.cst _
      rw [← ha] at eg eS
      rw [← hk] at eg eS2
      rw [← ha, ← hai] at il
      rw [← hk, ← hki] at ic
      have eq : pl q = g * (S * ai) := by
        have : pl q = (a * ai) * pl q := by rw [il]; grind
        rw [this, show a * ai * pl q = a * pl q * ai by grind, eS]; grind
      have er2 : pl r = g * (S2 * ki) := by
        have : pl r = (ki * k) * pl r := by rw [ic]; grind
        rw [this, show ki * k * pl r = k * pl r * ki by grind, eS2]; grind
      refine ⟨⟨V * k, U * a - V * k * pl Q, fV.mul fk, (fU.mul fa).sub ((fV.mul fk).mul (FdP.pl Q)), by rw [eg, rr]; grind⟩, ⟨pl Q * (S * ai) + S2 * ki, ((FdP.pl Q).mul (fS.mul fai)).add (fS2.mul fki), ?_⟩, ⟨S * ai, fS.mul fai, eq⟩⟩
      rw [e, er2, eq]
      grind
    by_cases h : 0 < (qCd (strip r)).length
    · obtain ⟨g, hg, g0, g1, gf⟩ := qZ7 (p := qCd q) (q := qCd (strip r)) (b := 2 * b + 1) (by rw [qC8 tq q0]; exact qGf) h (by rw [qGp h]; exact qGf) (by omega) (by omega) (z1.mono (by omega)) z2 (by omega)
      exact ⟨g, st hg, g0, g1, tr gf⟩
    · have h0 : qCd (strip r) = [] := List.length_eq_zero_iff.mp (by omega)
      rw [h0] at st tr
      have t1 : qAk (qCd q) ≠ 0 := by rw [qC8 tq q0]; exact qGf
      refine ⟨qCd (qCd q), st (Euc.nil (okc (by omega) z1 (by omega))), by rw [qD8 t1 (by omega)]; omega, qC8 t1 (by omega), tr ?_⟩
      have em := qHa t1 (by omega : 0 < (qCd q).length)
      have l1 : qAk (qCd q) = 1 := qC8 tq q0
      have e1 : cst (1 / qAk (qCd q)) = 1 := by
        rw [l1, show (1 : Rat) / 1 = 1 by grind]; rfl
      rw [e1] at em
      rw [em, qT0]
      exact ⟨⟨1, 0, FdP.one, FdP.zero, by grind⟩, ⟨1, FdP.one, by grind⟩, ⟨0, FdP.zero, by grind⟩⟩
/-! ### the only one -/
/-- two monic divisors of one another are equal -/
theorem qAai {f g S R : Ps} {n m : Nat} (hf : Mon n f) (hg : Mon m g) (fS : FdP S) (fR : FdP R) (e1 : f = g * S) (e2 : g = f * R) : f = g := by
  have nS : Nz S := Classical.byContradiction fun y => by
    have := hf.t
    rw [e1, qVr y, show g * (0 : Ps) = 0 by grind, qKt] at this
    exact absurd this (by decide)
  have nR : Nz R := Classical.byContradiction fun y => by
    have := hg.t
    rw [e2, qVr y, show f * (0 : Ps) = 0 by grind, qKt] at this
    exact absurd this (by decide)
  obtain ⟨a, da, ta⟩ := qPg fS nS
  obtain ⟨c, dc, tc⟩ := qPg fR nR
  have k1 : m + a ≤ n := Classical.byContradiction fun y => by
    have := qFs hg.d da (by rw [hg.t]; exact qGf) ta
    rw [← e1] at this
    exact this (hf.d _ (by omega))
  have k2 : n + c ≤ m := Classical.byContradiction fun y => by
    have := qFs hf.d dc (by rw [hf.t]; exact qGf) tc
    rw [← e2] at this
    exact this (hg.d _ (by omega))
  have a0 : a = 0 := by omega
  have nm : n = m := by omega
  subst a0 nm
  have eS : S = cst (S.c 0) := ext' fun k => by
    rw [cst_c]
    split
    · rename_i h; rw [h]
    · exact da k (by omega)
  have t : S.c 0 = 1 := by
    have h := hf.t
    rw [e1, eS, show g * cst (S.c 0) = cst (S.c 0) * g by grind, cst_mul, hg.t, Rat.mul_one] at h
    exact h
  rw [e1, eS, t]
  show g * 1 = g
  grind
theorem qX8 {p q g h a c u v : Ps} {n m : Nat} (G : GcdF p q g) (hg : Mon n g) (hh : Mon m h) (ep : p = h * a) (eq : q = h * c) (fa : FdP a) (fc : FdP c) (fu : FdP u) (fv : FdP v) (cop : u * a + v * c = 1) : g = h := by
  obtain ⟨⟨U, V, fU, fV, eg⟩, ⟨S, fS, eS⟩, ⟨R, fR, eR⟩⟩ := G
  refine qAai hg hh (S := U * a + V * c) (R := u * S + v * R) ((fU.mul fa).add (fV.mul fc)) ((fu.mul fS).add (fv.mul fR)) (by rw [eg, ep, eq]; grind) ?_
  have : h = u * (h * a) + v * (h * c) := by
    have e : u * (h * a) + v * (h * c) = h * (u * a + v * c) := by grind
    rw [e, cop]; grind
  rw [this, ← ep, ← eq]
  rw [show g * (u * S + v * R) = u * (g * S) + v * (g * R) by grind, ← eS, ← eR]
end MR

set_option Elab.async false
set_option linter.all false
set_option maxRecDepth 100000
set_option maxHeartbeats 1000000
set_option exponentiation.threshold 20000
/-! N10d: products of coprime factors; the law's rows of pairs -/
namespace MR
open PySem PySem.Spec PyProof.Rows L2
open Ps
/-! ### coprime -/
def CopF (f g : Ps) : Prop := ∃ u v, FdP u ∧ FdP v ∧ u * f + v * g = 1
theorem CopF.symm {f g : Ps} (h : CopF f g) : CopF g f := by
  obtain ⟨u, v, hu, hv, e⟩ := h
  exact ⟨v, u, hv, hu, by rw [← e]; grind⟩
theorem CopF.mul {f g h : Ps} (fg : FdP g) (fh : FdP h) (ff : FdP f) (a : CopF f g) (b : CopF f h) : CopF f (g * h) := by
  obtain ⟨u, v, hu, hv, e⟩ := a
  obtain ⟨u2, v2, hu2, hv2, e2⟩ := b
  refine ⟨u * u2 * f + u * v2 * h + v * g * u2, v * v2, (((hu.mul hu2).mul ff).add ((hu.mul hv2).mul fh)).add ((hv.mul fg).mul hu2), hv.mul hv2, ?_⟩
  have : (u * u2 * f + u * v2 * h + v * g * u2) * f + v * v2 * (g * h) = (u * f + v * g) * (u2 * f + v2 * h) := by grind
  rw [this, e, e2]; grind
theorem CopF.one (f : Ps) : CopF f 1 := ⟨0, 1, FdP.zero, FdP.one, by grind⟩
theorem CopF.cst {f : Ps} {c : Rat} (h : c ≠ 0) : CopF f (Ps.cst c) := ⟨0, Ps.cst (1 / c), FdP.zero, FdP.cst _, by have := csti h; grind⟩
def pwP (f : Ps) : Nat → Ps
  | 0 => 1
  | n + 1 => f * pwP f n
theorem qI9 {f : Ps} (h : FdP f) : ∀ n, FdP (pwP f n)
  | 0 => FdP.one
  | n + 1 => h.mul (qI9 h n)
theorem qRm (f : Ps) (m : Nat) : ∀ n, pwP f (n + m) = pwP f n * pwP f m
  | 0 => by rw [Nat.zero_add]; show _ = 1 * pwP f m; grind
  | n + 1 => by
    rw [show n + 1 + m = (n + m) + 1 by omega]
    show f * pwP f (n + m) = f * pwP f n * pwP f m
    rw [qRm f m n]; grind
theorem CopF.pw {f g : Ps} (ff : FdP f) (fg : FdP g) (h : CopF f g) : ∀ n, CopF f (pwP g n)
  | 0 => CopF.one f
  | n + 1 => CopF.mul fg (qI9 fg n) ff h (CopF.pw ff fg h n)
/-- a product of powers -/
def prP : List (Ps × Nat) → Ps
  | [] => 1
  | z :: l => pwP z.1 z.2 * prP l
theorem qPm : ∀ (l : List (Ps × Nat × Nat)), (∀ z, z ∈ l → FdP z.1) → l.Pairwise (fun y z => CopF y.1 z.1) → ∃ a c, FdP a ∧ FdP c ∧ prP (l.map fun z => (z.1, z.2.1)) = prP (l.map fun z => (z.1, min z.2.1 z.2.2)) * a ∧ prP (l.map fun z => (z.1, z.2.2)) = prP (l.map fun z => (z.1, min z.2.1 z.2.2)) * c ∧ CopF a c ∧ ∀ G, FdP G → (∀ z, z ∈ l → CopF G z.1) → CopF G a ∧ CopF G c
  | [], _, _ => ⟨1, 1, FdP.one, FdP.one, by show (1 : Ps) = 1 * 1; grind, by show (1 : Ps) = 1 * 1; grind, CopF.one 1, fun G _ _ => ⟨CopF.one G, CopF.one G⟩⟩
  | (F, e, d) :: l, hf, hp => by
    have hF : FdP F := hf _ (.head _)
    rw [List.pairwise_cons] at hp
    obtain ⟨a, c, fa, fc, e1, e2, cp, ex⟩ := qPm l (fun z hz => hf z (.tail _ hz)) hp.2
    obtain ⟨xa, xc⟩ := ex F hF fun z hz => hp.1 z hz
    rcases Nat.le_total e d with h | h
    · refine ⟨a, pwP F (d - e) * c, fa, (qI9 hF _).mul fc, ?_, ?_, ?_, fun G fG hG => ?_⟩
      · show pwP F e * prP (l.map _) = pwP F (min e d) * prP (l.map _) * a
        rw [Nat.min_eq_left h, e1]; grind
      · show pwP F d * prP (l.map _) = pwP F (min e d) * prP (l.map _) * (pwP F (d - e) * c)
        rw [Nat.min_eq_left h, e2]
        have := qRm F (d - e) e
        rw [show e + (d - e) = d by omega] at this
        rw [this]; grind
      · exact CopF.mul (qI9 hF _) fc fa (CopF.pw fa hF xa.symm _) cp
      · obtain ⟨ya, yc⟩ := ex G fG fun z hz => hG z (.tail _ hz)
        exact ⟨ya, CopF.mul (qI9 hF _) fc fG (CopF.pw fG hF (hG _ (.head _)) _) yc⟩
    · refine ⟨pwP F (e - d) * a, c, (qI9 hF _).mul fa, fc, ?_, ?_, ?_, fun G fG hG => ?_⟩
      · show pwP F e * prP (l.map _) = pwP F (min e d) * prP (l.map _) * (pwP F (e - d) * a)
        rw [Nat.min_eq_right h, e1]
        have := qRm F (e - d) d
        rw [show d + (e - d) = e by omega] at this
        rw [this]; grind
      · show pwP F d * prP (l.map _) = pwP F (min e d) * prP (l.map _) * c
        rw [Nat.min_eq_right h, e2]; grind
      · exact (CopF.mul (qI9 hF _) fa fc (CopF.pw fc hF xc.symm _) cp.symm).symm
      · obtain ⟨ya, yc⟩ := ex G fG fun z hz => hG z (.tail _ hz)
        exact ⟨CopF.mul (qI9 hF _) fa fG (CopF.pw fG hF (hG _ (.head _)) _) ya, yc⟩
theorem qVp {f g : Ps} {n m : Nat} (hf : Mon n f) (hg : Mon m g) : Mon (n + m) (f * g) := ⟨qK6 hf.d hg.d (by omega), by rw [qOk hf.d hg.d, hf.t, hg.t, Rat.mul_one]⟩
theorem qSy : Mon 0 (1 : Ps) := ⟨qS4 1, rfl⟩
theorem qAao {f : Ps} {n : Nat} (hf : Mon n f) : ∀ k, ∃ m, Mon m (pwP f k)
  | 0 => ⟨0, qSy⟩
  | k + 1 => by
    obtain ⟨m, h⟩ := qAao hf k
    exact ⟨_, qVp hf h⟩
theorem qRd : ∀ (l : List (Ps × Nat)), (∀ z, z ∈ l → ∃ n, Mon n z.1) → ∃ m, Mon m (prP l)
  | [], _ => ⟨0, qSy⟩
  | z :: l, h => by
    obtain ⟨n, hn⟩ := h z (.head _)
    obtain ⟨a, ha⟩ := qAao hn z.2
    obtain ⟨b, hb⟩ := qRd l fun y hy => h y (.tail _ hy)
    exact ⟨_, qVp ha hb⟩
/-! ### rows of pairs over one bottom -/
abbrev plV (ps : List (Int × Int)) : Ps := pl (ps.map qB0)
structure Cell10 (n e : Nat) (D : Int) (p : Int × Int) : Prop where
  pos : 0 < p.2
  b : p.2.natAbs ≤ 2 ^ e
  z : p.1 = 0 ∨ p.2 = D
  a : p.1.natAbs ≤ 2 ^ n
structure Row10 (n e : Nat) (row : List (Int × Int)) : Prop where
  ex : ∃ D : Int, 0 < D ∧ D.natAbs ≤ 2 ^ e ∧ ∀ p, p ∈ row → Cell10 n e D p
  l : 0 < row.length
  t : (plV row).c (row.length - 1) ≠ 0
/-- a factor: all over one small bottom, monic -/
structure Fac10 (q : List (Int × Int)) : Prop where
  ex : ∃ d : Int, 0 < d ∧ d.natAbs ≤ 2 ^ 3 ∧ ∀ p, p ∈ q → p.2 = d ∧ p.1.natAbs ≤ 2 ^ 34
  l : 2 ≤ q.length ∧ q.length ≤ 3
  m : Mon (q.length - 1) (plV q)
theorem Cell10.szP {n e : Nat} {D : Int} {p : Int × Int} (h : Cell10 n e D p) : SzP (n + e + 1) p := by
  have e1 : 2 ^ n < 2 ^ (n + e + 1) := Nat.pow_lt_pow_right (by decide) (by omega)
  have e2 : 2 ^ e < 2 ^ (n + e + 1) := Nat.pow_lt_pow_right (by decide) (by omega)
  exact ⟨by have := h.a; omega, by have := h.b; omega, h.pos⟩
theorem Row10.sz {n e : Nat} {row : List (Int × Int)} (h : Row10 n e row) : ∀ p, p ∈ row → SzP (n + e + 1) p := fun p hp => by
  obtain ⟨D, _, _, c⟩ := h.ex
  exact (c p hp).szP
theorem Fac10.sz {q : List (Int × Int)} (h : Fac10 q) : ∀ p, p ∈ q → SzP 35 p := fun p hp => by
  obtain ⟨d, d0, d1, c⟩ := h.ex
  obtain ⟨e, a⟩ := c p hp
  refine ⟨?_, by rw [e]; exact Nat.lt_of_le_of_lt d1 (by decide), by rw [e]; exact d0⟩
  exact Nat.lt_of_le_of_lt a (by decide)
section
variable {n e : Nat} {row q : List (Int × Int)}
theorem qLm (h : Row10 n e row) (hq : Fac10 q) (hb : n + e ≤ 1000) : ∃ D : Int, 0 < D ∧ D.natAbs ≤ 2 ^ (e + 3) ∧ SumS row q fun c r => 0 < r.2 ∧ r.2.natAbs ≤ 2 ^ (e + 3) ∧ (r.1 = 0 ∨ r.2 = D) ∧ r.1.natAbs ≤ c * (2 ^ n * 2 ^ 34) := by
  obtain ⟨D, D0, D1, c⟩ := h.ex
  obtain ⟨d, d0, d1, cq⟩ := hq.ex
  have pe : 2 ^ (e + 3) = 2 ^ e * 2 ^ 3 := Nat.pow_add ..
  refine ⟨D * d, Int.mul_pos D0 d0, by rw [Int.natAbs_mul, pe]; exact Nat.mul_le_mul D1 d1, ⟨by decide, Nat.one_le_two_pow, .inl rfl, Nat.zero_le _⟩, fun k r hr => ⟨hr.1, hr.2.1, hr.2.2.1, Nat.le_trans hr.2.2.2 (Nat.mul_le_mul_right _ (by omega))⟩, fun k r p z hk hr hp hz => ?_⟩
  have zp := c p hp
  have zz := cq z hz
  have sp := zp.szP
  have sz := hq.sz z hz
  have sm := qAbw sp sz
  have k3 : k < 3 := by have := hq.l; omega
  have r2 := hr.2.1
  have sr : SzP (n + e + 60) r := by
    refine ⟨?_, ?_, hr.1⟩
    · refine Nat.lt_of_le_of_lt hr.2.2.2 ?_
      refine Nat.lt_of_le_of_lt (Nat.mul_le_mul_right _ (show k ≤ 2 ^ 2 by omega)) ?_
      rw [← Nat.pow_add, ← Nat.pow_add]
      exact Nat.pow_lt_pow_right (by decide) (by omega)
    · exact Nat.lt_of_le_of_lt r2 (Nat.pow_lt_pow_right (by decide) (by omega))
  have mb : (qOz p z).2.natAbs ≤ 2 ^ (e + 3) := by
    show (p.2 * z.2).natAbs ≤ _
    rw [Int.natAbs_mul, pe, zz.1]
    exact Nat.mul_le_mul zp.b d1
  have ma : (qOz p z).1.natAbs ≤ 2 ^ n * 2 ^ 34 := by
    show (p.1 * z.1).natAbs ≤ _
    rw [Int.natAbs_mul]
    exact Nat.mul_le_mul zp.a zz.2
  have mz : (qOz p z).1 = 0 ∨ (qOz p z).2 = D * d := by
    rcases zp.z with h0 | h0
    · left; show p.1 * z.1 = 0; rw [h0, Int.zero_mul]
    · right; show p.2 * z.2 = D * d; rw [h0, zz.1]
  have es : (k + 1) * (2 ^ n * 2 ^ 34) = k * (2 ^ n * 2 ^ 34) + 2 ^ n * 2 ^ 34 := by rw [Nat.add_mul, Nat.one_mul]
  refine ⟨⟨_, _, sp, sz, by omega⟩, ⟨_, _, sr, sm, by omega⟩, ?_⟩
  show 0 < (qVi r (qOz p z)).2 ∧ _
  unfold qVi
  split
  · exact ⟨sm.pos, mb, mz, by omega⟩
  · rename_i r0
    split
    · exact ⟨hr.1, hr.2.1, hr.2.2.1, by have := hr.2.2.2; omega⟩
    · rename_i m0
      have e1 : r.2 = D * d := hr.2.2.1.resolve_left r0
      have e2 : (qOz p z).2 = D * d := mz.resolve_left m0
      rw [if_pos (by rw [e1, e2])]
      refine ⟨hr.1, hr.2.1, .inr e1, ?_⟩
      show (r.1 + (qOz p z).1).natAbs ≤ _
      have := hr.2.2.2
      omega
theorem qTn (h : Row10 n e row) (hq : Fac10 q) (hb : n + e ≤ 1000) : plV (qDp row q) = plV row * plV q := by
  obtain ⟨D, _, _, s⟩ := qLm h hq hb
  show pl ((qDp row q).map qB0) = _
  rw [qXw s, qAel]
theorem qDg (h : 0 < row.length) (h2 : 0 < q.length) : (qDp row q).length = row.length + q.length - 1 := by
  unfold qDp
  rw [if_neg (by omega)]
  simp
theorem qWx (row : List (Int × Int)) : Dg row.length (plV row).c := by
  have := qGy (row.map qB0)
  rw [List.length_map] at this
  exact this
theorem qHr (h : Row10 n e row) (hq : Fac10 q) (hb : n + e ≤ 1000) : Row10 (n + 36) (e + 3) (qDp row q) := by
  obtain ⟨D, D0, D1, s⟩ := qLm h hq hb
  have lq := hq.l
  have lr := h.l
  have lp := qDg (row := row) (q := q) h.l (by omega)
  refine ⟨⟨D, D0, D1, fun r hr => ?_⟩, by omega, ?_⟩
  · obtain ⟨a, b, c, d⟩ := qY0 s hr
    refine ⟨a, b, c, Nat.le_trans d ?_⟩
    refine Nat.le_trans (Nat.mul_le_mul_right _ (show q.length ≤ 2 ^ 2 by omega)) ?_
    rw [← Nat.pow_add, ← Nat.pow_add]
    exact Nat.pow_le_pow_right (by decide) (by omega)
  · rw [qTn h hq hb, lp, show row.length + q.length - 1 - 1 = (row.length - 1) + (q.length - 1) by omega]
    exact qFs ((qWx row).mono (by omega)) hq.m.d h.t (by rw [hq.m.t]; exact qGf)
theorem Row10.mono (h : Row10 n e row) {n' e' : Nat} (hn : n ≤ n') (he : e ≤ e') : Row10 n' e' row := by
  obtain ⟨D, D0, D1, c⟩ := h.ex
  have e1 : 2 ^ n ≤ 2 ^ n' := Nat.pow_le_pow_right (by decide) hn
  have e2 : 2 ^ e ≤ 2 ^ e' := Nat.pow_le_pow_right (by decide) he
  exact ⟨⟨D, D0, Nat.le_trans D1 e2, fun p hp => ⟨(c p hp).pos, Nat.le_trans (c p hp).b e2, (c p hp).z, Nat.le_trans (c p hp).a e1⟩⟩, h.l, h.t⟩
theorem Row10.cdf (h : Row10 n e row) (he : e ≤ n) : ∃ D, CdF n D (coef (row.map qB0)) := by
  obtain ⟨D, D0, D1, c⟩ := h.ex
  refine ⟨D, D0, Nat.le_trans D1 (Nat.pow_le_pow_right (by decide) he), fun i => ?_⟩
  by_cases hi : i < row.length
  · rw [qF2 hi]
    have z := c _ (qDh hi)
    rcases z.z with h0 | h0
    · have : qB0 (qOy row i) = 0 := by unfold qB0; rw [h0]; exact Rat.zero_divInt _
      rw [this]; exact Ov.zero
    · refine ⟨(qOy row i).1, ?_, z.a⟩
      have n0 := qC4 D0
      unfold qB0
      rw [h0, Rat.divInt_eq_div]
      grind
  · rw [qAr (by rw [List.length_map]; omega)]; exact Ov.zero
theorem Row10.lead (h : Row10 n e row) : qAk (row.map qB0) ≠ 0 := by
  rw [qDm, List.length_map]
  exact h.t
theorem Row10.nrm (h : Row10 n e row) : strip (row.map qB0) = row.map qB0 := qLx h.lead (by rw [List.length_map]; exact h.l)
end
/-! ### the law's products -/
def qH8 (row q : List (Int × Int)) : Nat → List (Int × Int)
  | 0 => row
  | n + 1 => qDp (qH8 row q n) q
def qA0 (row : List (Int × Int)) : List (List (Int × Int) × Nat) → List (Int × Int)
  | [] => row
  | z :: l => qA0 (qH8 row z.1 z.2) l
def vPs (l : List (List (Int × Int) × Nat)) : List (Ps × Nat) := l.map fun z => (plV z.1, z.2)
theorem qLj {n e : Nat} {row q : List (Int × Int)} (h : Row10 n e row) (hq : Fac10 q) : ∀ k, n + 36 * k + (e + 3 * k) ≤ 1000 → Row10 (n + 36 * k) (e + 3 * k) (qH8 row q k) ∧ plV (qH8 row q k) = plV row * pwP (plV q) k ∧ (qH8 row q k).length ≤ row.length + 2 * k
  | 0, _ => ⟨h, by show plV row = plV row * 1; grind, Nat.le_refl _⟩
  | k + 1, hb => by
    obtain ⟨a, b, c⟩ := qLj h hq k (by omega)
    refine ⟨(qHr a hq (by omega)).mono (by omega) (by omega), ?_, ?_⟩
    · show plV (qDp (qH8 row q k) q) = plV row * (plV q * pwP (plV q) k)
      rw [qTn a hq (by omega), b]; grind
    · show (qDp (qH8 row q k) q).length ≤ _
      have lq := hq.l
      rw [qDg a.l (by omega)]
      omega
def qJu : List (List (Int × Int) × Nat) → Nat
  | [] => 0
  | z :: l => z.2 + qJu l
theorem qV4 : ∀ (l : List (List (Int × Int) × Nat)) {n e : Nat} {row : List (Int × Int)}, Row10 n e row → (∀ z, z ∈ l → Fac10 z.1) → n + 36 * qJu l + (e + 3 * qJu l) ≤ 1000 → Row10 (n + 36 * qJu l) (e + 3 * qJu l) (qA0 row l) ∧ plV (qA0 row l) = plV row * prP (vPs l) ∧ (qA0 row l).length ≤ row.length + 2 * qJu l
  | [], n, e, row, h, _, _ => ⟨h, by show plV row = plV row * 1; grind, Nat.le_refl _⟩
  | z :: l, n, e, row, h, hf, hb => by
    have hc : qJu (z :: l) = z.2 + qJu l := rfl
    rw [hc] at hb ⊢
    obtain ⟨a, b, c⟩ := qLj h (hf z (.head _)) z.2 (by omega)
    obtain ⟨a2, b2, c2⟩ := qV4 l a (fun y hy => hf y (.tail _ hy)) (by omega)
    refine ⟨?_, ?_, ?_⟩
    · have : Row10 _ _ (qA0 (qH8 row z.1 z.2) l) := a2
      exact this.mono (by omega) (by omega)
    · show plV (qA0 (qH8 row z.1 z.2) l) = plV row * (pwP (plV z.1) z.2 * prP (vPs l))
      rw [b2, b]; grind
    · show (qA0 (qH8 row z.1 z.2) l).length ≤ _
      omega
theorem qEb {c d : Int} (c0 : c ≠ 0) (c9 : c.natAbs ≤ 9) (d0 : 0 < d) (d9 : d ≤ 9) : Row10 4 4 [(c, d)] := by
  refine ⟨⟨d, d0, by have : (2 : Nat) ^ 4 = 16 := by decide
                     omega, fun p hp => ?_⟩, Nat.one_pos, ?_⟩
  · rw [List.mem_singleton.mp hp]
    have : (2 : Nat) ^ 4 = 16 := by decide
    exact ⟨d0, by show d.natAbs ≤ _; omega, .inr rfl, by show c.natAbs ≤ _; omega⟩
  · show Rat.divInt c d ≠ 0
    have n0 := qC4 d0
    rw [Rat.divInt_eq_div]
    intro z
    have : (c : Rat) = 0 := by grind
    exact c0 (by exact_mod_cast this)
theorem qAcf (c d : Int) : plV [(c, d)] = cst (qB0 (c, d)) := ext' fun i => by
  rw [cst_c]
  cases i with
  | zero => rfl
  | succ i => rw [if_neg (by omega)]; rfl
/-- what common tells of two products -/
theorem qAfw {n e : Nat} {ps qs hs : List (Int × Int)} (hp : Row10 n e ps) (hq : Row10 n e qs) (he : e ≤ n) (hn : n ≤ 400) (lp : ps.length ≤ 15) (lq : qs.length ≤ 15) {a c u v : Ps} {m : Nat} (mh : Mon m (plV hs)) (ep : plV ps = plV hs * a) (eq : plV qs = plV hs * c) (fa : FdP a) (fc : FdP c) (cp : CopF a c) : ∃ g, Euc (ps.map qB0) (qs.map qB0) g ∧ strip g = strip (hs.map qB0) := by
  obtain ⟨D1, z1⟩ := hp.cdf he
  obtain ⟨D2, z2⟩ := hq.cdf he
  obtain ⟨g, hg, g0, g1, G⟩ := qAed (b := n) (p := ps.map qB0) (q := qs.map qB0) (by rw [List.length_map]; exact hp.l) hp.lead (by rw [List.length_map]; exact hq.l) hq.lead (by rw [List.length_map]; exact lp) (by rw [List.length_map]; exact lq) z1 z2 hn
  refine ⟨g, hg, qGt fun k => ?_⟩
  have mg : Mon (g.length - 1) (pl g) := ⟨(qGy g).mono (by omega), g1⟩
  obtain ⟨u, v, fu, fv, cop⟩ := cp
  have := qX8 G mg mh ep eq fa fc fu fv cop
  show (pl g).c k = (plV hs).c k
  rw [this]
end MR

set_option Elab.async false
set_option linter.all false
set_option maxRecDepth 100000
set_option maxHeartbeats 4000000
set_option exponentiation.threshold 20000
namespace MR
open PySem PySem.Spec PyProof.Rows L2
def qE5 (b : Int) (ts : List Int) : List (List (Int × Int)) := [(1, 1), (0, 1), (1, 1)] :: ts.map fun t => [(-t, b), (b, b)]
def qBv (l : List (List (Int × Int))) : List D := l.map fun q => .lst (prL q)
def qFb : FSp := fun ds P _ => ds = [.feed] ∧ ∀ (b : Int) (ts : List Int), 1 ≤ b → b ≤ 5 → ts.length ≤ 4 → ts.Pairwise (· < ·) → (∀ t, t ∈ ts → t.natAbs ≤ 2 ^ 34) → P (.lst (qBv (qE5 b ts)))
def qF9 (l : List (List (Int × Int) × Nat)) : List D := l.map fun z => .lst [.lst (prL z.1), .int (z.2 : Int)]
def qCo : FSp := fun ds P _ => ∃ l, ds = [.feed, .lst (qF9 l)] ∧ l.length ≤ 5 ∧ (∀ z, z ∈ l → Fac10 z.1 ∧ z.2 ≤ 2) ∧ ∀ c d : Int, c ≠ 0 → c.natAbs ≤ 9 → 1 ≤ d → d ≤ 9 → P (.lst (prL (qA0 [(c, d)] l)))
def qGl (K : PySem.W.Frag) (cs : List Str) : TS :=
  (tSeq (tAsg (tLst (tCons (tLst (tCons (tOp qEg (tC (.int 1)) (tCall (lift K qCj) [] E0 (tCons (tVar 0) (tCons (tC (.int 9)) tNil)))) (tCons (tOp qEg (tC (.int 1)) (tCall (lift K qCj) [] E0 (tCons (tVar 0) (tCons (tC (.int 9)) tNil)))) tNil))) tNil)) (gName 2))
  (tSeq (tIfS (tTest (tOp rEq (tCall (lift K qCj) [] E0 (tCons (tVar 0) (tCons (tC (.int 2)) tNil))) (tC (.int 0)))) (tAsg (tCall (lift K qGh) [] E0 (tCons (tVar 2) tNil)) (gName 2)) tNext)
  (tSeq (tFor (iList K (tVar 1)) (gName 3) (tFor (iRng1 (tCons (tOp (rIxL K) (tVar 3) (tC (.int 1))) tNil)) (gName 4) (tAsg (tCall (lift K qCy) [] E0 (tCons (tVar 2) (tCons (tOp (rIxL K) (tVar 3) (tC (.int 0))) tNil))) (gName 2))))
  (tRet (tVar 2)))))
def qHh (cs : List Str) : FS :=
  (qB7 (qDr 2 (qFx (qAc (qFx (qAc (fOp qLq (fC (.int 1)) (qAj qCj [] (qAc (qAe 0) (qAc (fC (.int 9)) qAn)))) (qAc (fOp qLq (fC (.int 1)) (qAj qCj [] (qAc (qAe 0) (qAc (fC (.int 9)) qAn)))) qAn))) qAn)))
  (qB7 (qF1 (fB (fOp oEq (qAj qCj [] (qAc (qAe 0) (qAc (fC (.int 2)) qAn))) (fC (.int 0)))) (qDr 2 (qAj qGh [] (qAc (qAe 2) qAn))) qCg)
  (qB7 (qE7 (qVh (qAe 1)) (qA1 3) (qE7 (qB3 (qAc (fOp qB6 (qAe 3) (fC (.int 1))) qAn)) (qA1 4) (qDr 2 (qAj qCy [] (qAc (qAe 2) (qAc (fOp qB6 (qAe 3) (fC (.int 0))) qAn))))))
  (qEi (qAe 2)))))
theorem qRs {K : PySem.W.Frag} {cs : List Str} (T : KF K cs) (hRatio : ("Ratio" : Str) ∈ cs) : SS K Ta [] [] [] [] (fun _ => E0) (qGl K cs) (qHh cs) :=
  (qAm (ow1 := []) (qBi (by decide) (by decide) (qB8 (qAa (qB8 (qAa (qAl (fun _ => qEe) qAi (qAg Lift.refl qAh (qAa (qAb (by decide)) (qAa qAi qAd)))) (qAa (qAl (fun _ => qEe) qAi (qAg Lift.refl qAh (qAa (qAb (by decide)) (qAa qAi qAd)))) qAd))) qAd)))
  (qAm (ow1 := []) (qDd (by decide) (qCr (qAl (fun _ => qLd) (qAg Lift.refl qAh (qAa (qAb (by decide)) (qAa qAi qAd))) qAi)) (qBi (by decide) (by decide) (qAg Lift.refl qAh (qAa (qAb (by decide)) qAd))) (qA6 (by decide)))
  (qAm (ow1 := []) (qD7 (by decide) (qIx (qAb (by decide))) (qBf (by decide)) (qD7 (by decide) (qCm (qAa (qAl (fun _ => qAq) (qAb (by decide)) qAi) qAd)) (qBf (by decide)) (qBi (by decide) (by decide) (qAg Lift.refl qAh (qAa (qAb (by decide)) (qAa (qAl (fun _ => qAq) (qAb (by decide)) qAi) qAd))))))
  (qA5 (by decide) (qAb (by decide))))))
def qD3 (K : PySem.W.Frag) (cs : List Str) : TS :=
  (tSeq (tAsg (tOp (rIxL K) (tLst (tCons (tC (.int 3)) (tCons (tC (.int 1000)) (tCons (tOp qAbt (tC (.int 10)) (tC (.int 9))) tNil)))) (tCall (lift K qCj) [] E0 (tCons (tVar 0) (tCons (tC (.int 3)) tNil)))) (gName 1))
  (tSeq (tAsg (tOp qEg (tC (.int 1)) (tCall (lift K qCj) [] E0 (tCons (tVar 0) (tCons (tC (.int 5)) tNil)))) (gName 2))
  (tSeq (tAsg (tCall (lift K qFt) [] E0 (tCons (tVar 0) (tCons (tVar 1) tNil))) (gName 3))
  (tSeq (tAsg (tLst (tCons (tLst (tCons (tLst (tCons (tC (.int 1)) (tCons (tC (.int 1)) tNil))) (tCons (tLst (tCons (tC (.int 0)) (tCons (tC (.int 1)) tNil))) (tCons (tLst (tCons (tC (.int 1)) (tCons (tC (.int 1)) tNil))) tNil)))) tNil)) (gName 4))
  (tSeq (tFor (iRng1 (tCons (tCall (lift K qCj) [] E0 (tCons (tVar 0) (tCons (tC (.int 5)) tNil))) tNil)) (gName 5) (tSeq (tDrop (tBM K "list" rAppend (tVar 4) (tCons (tLst (tCons (tLst (tCons (tUn qSh (tVar 3)) (tCons (tVar 2) tNil))) (tCons (tLst (tCons (tVar 2) (tCons (tVar 2) tNil))) tNil))) tNil)))
  (tAsg (tOp qEg (tOp qEg (tVar 3) (tC (.int 1))) (tCall (lift K qCj) [] E0 (tCons (tVar 0) (tCons (tVar 1) tNil)))) (gName 3))))
  (tRet (tVar 4)))))))
def qEz (cs : List Str) : FS :=
  (qB7 (qDr 1 (fOp qB6 (qFx (qAc (fC (.int 3)) (qAc (fC (.int 1000)) (qAc (fOp oPow (fC (.int 10)) (fC (.int 9))) qAn)))) (qAj qCj [] (qAc (qAe 0) (qAc (fC (.int 3)) qAn)))))
  (qB7 (qDr 2 (fOp qLq (fC (.int 1)) (qAj qCj [] (qAc (qAe 0) (qAc (fC (.int 5)) qAn)))))
  (qB7 (qDr 3 (qAj qFt [] (qAc (qAe 0) (qAc (qAe 1) qAn))))
  (qB7 (fOwn 4 (qFx (qAc (qFx (qAc (qFx (qAc (fC (.int 1)) (qAc (fC (.int 1)) qAn))) (qAc (qFx (qAc (fC (.int 0)) (qAc (fC (.int 1)) qAn))) (qAc (qFx (qAc (fC (.int 1)) (qAc (fC (.int 1)) qAn))) qAn)))) qAn)))
  (qB7 (qE7 (qB3 (qAc (qAj qCj [] (qAc (qAe 0) (qAc (fC (.int 5)) qAn))) qAn)) (qA1 5) (qB7 (fApp 4 (qFx (qAc (qFx (qAc (fUn qXu (qAe 3)) (qAc (qAe 2) qAn))) (qAc (qFx (qAc (qAe 2) (qAc (qAe 2) qAn))) qAn))))
  (qDr 3 (fOp qLq (fOp qLq (qAe 3) (fC (.int 1))) (qAj qCj [] (qAc (qAe 0) (qAc (qAe 1) qAn)))))))
  (qEi (qAe 4)))))))
theorem qL7 {K : PySem.W.Frag} {cs : List Str} (T : KF K cs) (hRatio : ("Ratio" : Str) ∈ cs) : SS K Ta [] [] [] [] (fun _ => E0) (qD3 K cs) (qEz cs) :=
  (qAm (ow1 := []) (qBi (by decide) (by decide) (qAl (fun _ => qAq) (qB8 (qAa qAi (qAa qAi (qAa (qAl (fun _ => qAep) qAi qAi) qAd)))) (qAg Lift.refl qAh (qAa (qAb (by decide)) (qAa qAi qAd)))))
  (qAm (ow1 := []) (qBi (by decide) (by decide) (qAl (fun _ => qEe) qAi (qAg Lift.refl qAh (qAa (qAb (by decide)) (qAa qAi qAd)))))
  (qAm (ow1 := []) (qBi (by decide) (by decide) (qAg Lift.refl qAh (qAa (qAb (by decide)) (qAa (qAb (by decide)) qAd))))
  (qAm (ow1 := [4]) (qTo (by decide) (by decide) (qAet (qAa (qB8 (qAa (qB8 (qAa qAi (qAa qAi qAd))) (qAa (qB8 (qAa qAi (qAa qAi qAd))) (qAa (qB8 (qAa qAi (qAa qAi qAd))) qAd)))) qAd)))
  (qAm (ow1 := [4]) (qD7 (by decide) (qCm (qAa (qAg Lift.refl qAh (qAa (qAb (by decide)) (qAa qAi qAd))) qAd)) (qBf (by decide)) (qAm (ow1 := [4]) (qAeb (by decide) (by decide) (qB8 (qAa (qB8 (qAa (qYj (fun _ => qS9) (qAb (by decide))) (qAa (qAb (by decide)) qAd))) (qAa (qB8 (qAa (qAb (by decide)) (qAa (qAb (by decide)) qAd))) qAd))))
  (qBi (by decide) (by decide) (qAl (fun _ => qEe) (qAl (fun _ => qEe) (qAb (by decide)) qAi) (qAg Lift.refl qAh (qAa (qAb (by decide)) (qAa (qAb (by decide)) qAd)))))))
  (qRv (ow1 := []) (by decide) (qA5 (by decide) (qAb (by decide)))))))))
def qQb (cs : List Str) : FS :=
  (qF1 (fOr (qJi (fB (qAj qAv [] (qAc (qAe 10) (qAc (qAe 6) qAn))))) (qJi (fB (qAj qAv [] (qAc (qAe 11) (qAc (qAe 7) qAn)))))) (qEi (fC (.bl false))) qCg)
def qLb (cs : List Str) : FS :=
  qB7 (qF1 (fOr (qJi (fB (qAj qAv [] (qAc (qSk qA8 0 2 qAn (qAc (qAe 10) (qAc (qAe 10) qAn))) (qAc (qAe 12) qAn))))) (qJi (fB (qAj qAv [] (qAc (qAj qA8 [] (qAc (qAe 13) (qAc (qAe 13) qAn))) (qAc (qFx qAn) qAn)))))) (qEi (fC (.bl false))) qCg) (qQb cs)
def qQz (cs : List Str) : FS :=
  qB7 (qF1 (fOr (qJi (fB (qAj qAv [] (qAc (qAj qA8 [] (qAc (qAe 10) (qAc (qAe 13) qAn))) (qAc (qAe 12) qAn))))) (qJi (fB (qAj qAv [] (qAc (qAj qA8 [] (qAc (qAe 13) (qAc (qAe 10) qAn))) (qAc (qAe 12) qAn)))))) (qEi (fC (.bl false))) qCg) (qLb cs)
def qPc (cs : List Str) : FS :=
  qB7 (qDr 13 (qAj (qCc cs) [] (qAc (qFx qAn) qAn))) (qQz cs)
def qK3 (cs : List Str) : FS :=
  qB7 (qE7 (qB3 (qAc (fLs qJ5 (qAc (qAe 3) qAn)) qAn)) (qA1 9) (qE7 (qB3 (qAc (fOp qB6 (qAe 4) (qAe 9)) qAn)) (qA1 14) (qDr 12 (qAj qCy [] (qAc (qAe 12) (qAc (fOp qB6 (qAe 3) (qAe 9)) qAn)))))) (qPc cs)
def qO8 (cs : List Str) : FS :=
  qB7 (qDr 12 (qFx (qAc (qFx (qAc (fC (.int 1)) (qAc (fC (.int 1)) qAn))) qAn))) (qK3 cs)
def qSu (cs : List Str) : FS :=
  qB7 (qF1 (fOr (qJi (fB (qAj qAv [] (qAc (qAj qA8 [] (qAc (qAe 10) (qAc (qAe 11) qAn))) (qAc (qAe 8) qAn))))) (qJi (fB (qAj qAv [] (qAc (qAj qA8 [] (qAc (qAe 11) (qAc (qAe 10) qAn))) (qAc (qAe 8) qAn)))))) (qEi (fC (.bl false))) qCg) (qO8 cs)
def qTy (cs : List Str) : FS :=
  qB7 (qDr 11 (qAj (qCc cs) [] (qAc (qAj qCk [] (qAc (qAe 7) qAn)) qAn))) (qSu cs)
def qS6 (cs : List Str) : FS :=
  qB7 (qDr 10 (qAj (qCc cs) [] (qAc (qAj qCk [] (qAc (qAe 6) qAn)) qAn))) (qTy cs)
def qN5 (cs : List Str) : FS :=
  qB7 (qE7 (qB3 (qAc (fLs qJ5 (qAc (qAe 3) qAn)) qAn)) (qA1 9) (qE7 (qB3 (qAc (fOp qB6 (qAe 4) (qAe 9)) qAn)) (qA1 14) (qF1 (fB (fOp oLt (qAe 14) (fOp qB6 (qAe 5) (qAe 9)))) (qDr 8 (qAj qCy [] (qAc (qAe 8) (qAc (fOp qB6 (qAe 3) (qAe 9)) qAn)))) qCg))) (qS6 cs)
def qSt (cs : List Str) : FS :=
  qB7 (qDr 8 (qFx (qAc (qFx (qAc (fC (.int 1)) (qAc (fC (.int 1)) qAn))) qAn))) (qN5 cs)
def qTb (cs : List Str) : FS :=
  qB7 (qDr 7 (qAj qCo [] (qAc (qAe 1) (qAc (fLc (qB3 (qAc (fLs qJ5 (qAc (qAe 3) qAn)) qAn)) (qA1 9) qI4 (qFx (qAc (fOp qB6 (qAe 3) (qAe 9)) (qAc (fOp qB6 (qAe 5) (qAe 9)) qAn))) [9]) qAn)))) (qSt cs)
def qTx (cs : List Str) : FS :=
  qB7 (qDr 6 (qAj qCo [] (qAc (qAe 1) (qAc (fLc (qB3 (qAc (fLs qJ5 (qAc (qAe 3) qAn)) qAn)) (qA1 9) qI4 (qFx (qAc (fOp qB6 (qAe 3) (qAe 9)) (qAc (fOp qB6 (qAe 4) (qAe 9)) qAn))) [9]) qAn)))) (qTb cs)
def qTc (cs : List Str) : FS :=
  qB7 (qDr 5 (fLc (qVh (qAe 3)) (qA1 15) qI4 (qAj qCj [] (qAc (qAe 1) (qAc (fC (.int 3)) qAn))) [15])) (qTx cs)
def qTl (cs : List Str) : FS :=
  qB7 (qDr 4 (fLc (qVh (qAe 3)) (qA1 15) qI4 (qAj qCj [] (qAc (qAe 1) (qAc (fC (.int 3)) qAn))) [15])) (qTc cs)
def qJy (cs : List Str) : FS :=
  qB7 (qDr 3 (qAj qFb [] (qAc (qAe 1) qAn))) (qTl cs)
def qQ5 (K : PySem.W.Frag) (cs : List Str) : TS :=
  (tSeq (tFor (iRng1 (tCons (tOp qEg (tC (.int 1)) (tCall (lift K qCj) [] E0 (tCons (tVar 1) (tCons (tC (.int 3)) tNil)))) tNil)) (gName 2) (tSeq (tAsg (tCall (lift K qFb) [] E0 (tCons (tVar 1) tNil)) (gName 3))
  (tSeq (tAsg (tLc (iList K (tVar 3)) (gName 15) tYes (tCall (lift K qCj) [] E0 (tCons (tVar 1) (tCons (tC (.int 3)) tNil))) [15]) (gName 4))
  (tSeq (tAsg (tLc (iList K (tVar 3)) (gName 15) tYes (tCall (lift K qCj) [] E0 (tCons (tVar 1) (tCons (tC (.int 3)) tNil))) [15]) (gName 5))
  (tSeq (tAsg (tCall (lift K qCo) [] E0 (tCons (tVar 1) (tCons (tLc (iRng1 (tCons (tCB (qDu K) (tCons (tVar 3) tNil)) tNil)) (gName 9) tYes (tLst (tCons (tOp (rIxL K) (tVar 3) (tVar 9)) (tCons (tOp (rIxL K) (tVar 4) (tVar 9)) tNil))) [9]) tNil))) (gName 6))
  (tSeq (tAsg (tCall (lift K qCo) [] E0 (tCons (tVar 1) (tCons (tLc (iRng1 (tCons (tCB (qDu K) (tCons (tVar 3) tNil)) tNil)) (gName 9) tYes (tLst (tCons (tOp (rIxL K) (tVar 3) (tVar 9)) (tCons (tOp (rIxL K) (tVar 5) (tVar 9)) tNil))) [9]) tNil))) (gName 7))
  (tSeq (tAsg (tLst (tCons (tLst (tCons (tC (.int 1)) (tCons (tC (.int 1)) tNil))) tNil)) (gName 8))
  (tSeq (tFor (iRng1 (tCons (tCB (qDu K) (tCons (tVar 3) tNil)) tNil)) (gName 9) (tFor (iRng1 (tCons (tOp (rIxL K) (tVar 4) (tVar 9)) tNil)) (gName 14) (tIfS (tTest (tOp rLt0 (tVar 14) (tOp (rIxL K) (tVar 5) (tVar 9)))) (tAsg (tCall (lift K qCy) [] E0 (tCons (tVar 8) (tCons (tOp (rIxL K) (tVar 3) (tVar 9)) tNil))) (gName 8)) tNext)))
  (tSeq (tAsg (tMake (He.ga K "Poly") (qLg K "Poly" (qCc cs)) [] E0 (tCons (tCall (lift K qCk) [] E0 (tCons (tVar 6) tNil)) tNil)) (gName 10))
  (tSeq (tAsg (tMake (He.ga K "Poly") (qLg K "Poly" (qCc cs)) [] E0 (tCons (tCall (lift K qCk) [] E0 (tCons (tVar 7) tNil)) tNil)) (gName 11))
  (tSeq (tIfS (tOr (tNot (tB (tCall (lift K qAv) [] E0 (tCons (tCall (lift K qA8) [] E0 (tCons (tVar 10) (tCons (tVar 11) tNil))) (tCons (tVar 8) tNil))))) (tNot (tB (tCall (lift K qAv) [] E0 (tCons (tCall (lift K qA8) [] E0 (tCons (tVar 11) (tCons (tVar 10) tNil))) (tCons (tVar 8) tNil)))))) (tRet (tC (.bl false))) tNext)
  (tSeq (tAsg (tLst (tCons (tLst (tCons (tC (.int 1)) (tCons (tC (.int 1)) tNil))) tNil)) (gName 12))
  (tSeq (tFor (iRng1 (tCons (tCB (qDu K) (tCons (tVar 3) tNil)) tNil)) (gName 9) (tFor (iRng1 (tCons (tOp (rIxL K) (tVar 4) (tVar 9)) tNil)) (gName 14) (tAsg (tCall (lift K qCy) [] E0 (tCons (tVar 12) (tCons (tOp (rIxL K) (tVar 3) (tVar 9)) tNil))) (gName 12))))
  (tSeq (tAsg (tMake (He.ga K "Poly") (qLg K "Poly" (qCc cs)) [] E0 (tCons (tLst tNil) tNil)) (gName 13))
  (tSeq (tIfS (tOr (tNot (tB (tCall (lift K qAv) [] E0 (tCons (tCall (lift K qA8) [] E0 (tCons (tVar 10) (tCons (tVar 13) tNil))) (tCons (tVar 12) tNil))))) (tNot (tB (tCall (lift K qAv) [] E0 (tCons (tCall (lift K qA8) [] E0 (tCons (tVar 13) (tCons (tVar 10) tNil))) (tCons (tVar 12) tNil)))))) (tRet (tC (.bl false))) tNext)
  (tSeq (tIfS (tOr (tNot (tB (tCall (lift K qAv) [] E0 (tCons (tCallN 0 2 (lift K qA8) gApp E0 tNil (tCons (tVar 10) (tCons (tVar 10) tNil))) (tCons (tVar 12) tNil))))) (tNot (tB (tCall (lift K qAv) [] E0 (tCons (tCall (lift K qA8) [] E0 (tCons (tVar 13) (tCons (tVar 13) tNil))) (tCons (tLst tNil) tNil)))))) (tRet (tC (.bl false))) tNext)
  (tIfS (tOr (tNot (tB (tCall (lift K qAv) [] E0 (tCons (tVar 10) (tCons (tVar 6) tNil))))) (tNot (tB (tCall (lift K qAv) [] E0 (tCons (tVar 11) (tCons (tVar 7) tNil)))))) (tRet (tC (.bl false))) tNext)))))))))))))))))
  (tRet (tC (.bl true))))
def qIm (cs : List Str) : FS :=
  (qB7 (qE7 (qB3 (qAc (fOp qLq (fC (.int 1)) (qAj qCj [] (qAc (qAe 1) (qAc (fC (.int 3)) qAn)))) qAn)) (qA1 2) (qJy cs))
  (qEi (fC (.bl true))))
theorem qUm {K : PySem.W.Frag} {cs : List Str} (T : KF K cs) (hRatio : ("Ratio" : Str) ∈ cs) (hPoly : ("Poly" : Str) ∈ cs) : SS K Ta [] [] [] [] (fun _ => E0) (qQ5 K cs) (qIm cs) :=
  (qAm (ow1 := []) (qD7 (by decide) (qCm (qAa (qAl (fun _ => qEe) qAi (qAg Lift.refl qAh (qAa (qAb (by decide)) (qAa qAi qAd)))) qAd)) (qBf (by decide)) (qAm (ow1 := []) (qBi (by decide) (by decide) (qAg Lift.refl qAh (qAa (qAb (by decide)) qAd)))
  (qAm (ow1 := []) (qBi (by decide) (by decide) (SF.se (qKu (by decide) (by decide) (qIx (qAb (by decide))) (qBf (by decide)) qF5 (qAg Lift.refl qAh (qAa (qAb (by decide)) (qAa qAi qAd))))))
  (qAm (ow1 := []) (qBi (by decide) (by decide) (SF.se (qKu (by decide) (by decide) (qIx (qAb (by decide))) (qBf (by decide)) qF5 (qAg Lift.refl qAh (qAa (qAb (by decide)) (qAa qAi qAd))))))
  (qAm (ow1 := []) (qBi (by decide) (by decide) (qAg Lift.refl qAh (qAa (qAb (by decide)) (qAa (SF.se (qKu (by decide) (by decide) (qCm (qAa (qE4 (fun _ => qDc) (qAa (qAb (by decide)) qAd)) qAd)) (qBf (by decide)) qF5 (qB8 (qAa (qAl (fun _ => qAq) (qAb (by decide)) (qAb (by decide))) (qAa (qAl (fun _ => qAq) (qAb (by decide)) (qAb (by decide))) qAd))))) qAd))))
  (qAm (ow1 := []) (qBi (by decide) (by decide) (qAg Lift.refl qAh (qAa (qAb (by decide)) (qAa (SF.se (qKu (by decide) (by decide) (qCm (qAa (qE4 (fun _ => qDc) (qAa (qAb (by decide)) qAd)) qAd)) (qBf (by decide)) qF5 (qB8 (qAa (qAl (fun _ => qAq) (qAb (by decide)) (qAb (by decide))) (qAa (qAl (fun _ => qAq) (qAb (by decide)) (qAb (by decide))) qAd))))) qAd))))
  (qAm (ow1 := []) (qBi (by decide) (by decide) (qB8 (qAa (qB8 (qAa qAi (qAa qAi qAd))) qAd)))
  (qAm (ow1 := []) (qD7 (by decide) (qCm (qAa (qE4 (fun _ => qDc) (qAa (qAb (by decide)) qAd)) qAd)) (qBf (by decide)) (qD7 (by decide) (qCm (qAa (qAl (fun _ => qAq) (qAb (by decide)) (qAb (by decide))) qAd)) (qBf (by decide)) (qDd (by decide) (qCr (qAl (fun _ => qAf8) (qAb (by decide)) (qAl (fun _ => qAq) (qAb (by decide)) (qAb (by decide))))) (qBi (by decide) (by decide) (qAg Lift.refl qAh (qAa (qAb (by decide)) (qAa (qAl (fun _ => qAq) (qAb (by decide)) (qAb (by decide))) qAd)))) (qA6 (by decide)))))
  (qAm (ow1 := []) (qBi (by decide) (by decide) (qDj qJ8 qAh (qAa (qAg Lift.refl qAh (qAa (qAb (by decide)) qAd)) qAd)))
  (qAm (ow1 := []) (qBi (by decide) (by decide) (qDj qJ8 qAh (qAa (qAg Lift.refl qAh (qAa (qAb (by decide)) qAd)) qAd)))
  (qAm (ow1 := []) (qDd (by decide) (qL9 (qC3 (qJ2 (qAg Lift.refl qAh (qAa (qAg Lift.refl qAh (qAa (qAb (by decide)) (qAa (qAb (by decide)) qAd))) (qAa (qAb (by decide)) qAd))))) (qC3 (qJ2 (qAg Lift.refl qAh (qAa (qAg Lift.refl qAh (qAa (qAb (by decide)) (qAa (qAb (by decide)) qAd))) (qAa (qAb (by decide)) qAd)))))) (qA5 (by decide) qM2) (qA6 (by decide)))
  (qAm (ow1 := []) (qBi (by decide) (by decide) (qB8 (qAa (qB8 (qAa qAi (qAa qAi qAd))) qAd)))
  (qAm (ow1 := []) (qD7 (by decide) (qCm (qAa (qE4 (fun _ => qDc) (qAa (qAb (by decide)) qAd)) qAd)) (qBf (by decide)) (qD7 (by decide) (qCm (qAa (qAl (fun _ => qAq) (qAb (by decide)) (qAb (by decide))) qAd)) (qBf (by decide)) (qBi (by decide) (by decide) (qAg Lift.refl qAh (qAa (qAb (by decide)) (qAa (qAl (fun _ => qAq) (qAb (by decide)) (qAb (by decide))) qAd))))))
  (qAm (ow1 := []) (qBi (by decide) (by decide) (qDj qJ8 qAh (qAa (qB8 qAd) qAd)))
  (qAm (ow1 := []) (qDd (by decide) (qL9 (qC3 (qJ2 (qAg Lift.refl qAh (qAa (qAg Lift.refl qAh (qAa (qAb (by decide)) (qAa (qAb (by decide)) qAd))) (qAa (qAb (by decide)) qAd))))) (qC3 (qJ2 (qAg Lift.refl qAh (qAa (qAg Lift.refl qAh (qAa (qAb (by decide)) (qAa (qAb (by decide)) qAd))) (qAa (qAb (by decide)) qAd)))))) (qA5 (by decide) qM2) (qA6 (by decide)))
  (qAm (ow1 := []) (qDd (by decide) (qL9 (qC3 (qJ2 (qAg Lift.refl qAh (qAa (qXi Lift.refl qAd (qAa (qAb (by decide)) (qAa (qAb (by decide)) qAd))) (qAa (qAb (by decide)) qAd))))) (qC3 (qJ2 (qAg Lift.refl qAh (qAa (qAg Lift.refl qAh (qAa (qAb (by decide)) (qAa (qAb (by decide)) qAd))) (qAa (qB8 qAd) qAd)))))) (qA5 (by decide) qM2) (qA6 (by decide)))
  (qDd (by decide) (qL9 (qC3 (qJ2 (qAg Lift.refl qAh (qAa (qAb (by decide)) (qAa (qAb (by decide)) qAd))))) (qC3 (qJ2 (qAg Lift.refl qAh (qAa (qAb (by decide)) (qAa (qAb (by decide)) qAd)))))) (qA5 (by decide) qM2) (qA6 (by decide)))))))))))))))))))
  (qA5 (by decide) qM2))
def qZ2 (K : PySem.W.Frag) (cs : List Str) : TS :=
  (tSeq (tAsg (tCall (qIy K) [] E0 (tCons (tVar 0) tNil)) (gName 1))
  (tSeq (tFor (iRng1 (tCons (tOp qEg (tC (.int 1)) (tCall (lift K qCj) [] E0 (tCons (tVar 1) (tCons (tC (.int 3)) tNil)))) tNil)) (gName 2) (tSeq (tAsg (tCall (lift K qFb) [] E0 (tCons (tVar 1) tNil)) (gName 3))
  (tSeq (tAsg (tLc (iList K (tVar 3)) (gName 15) tYes (tCall (lift K qCj) [] E0 (tCons (tVar 1) (tCons (tC (.int 3)) tNil))) [15]) (gName 4))
  (tSeq (tAsg (tLc (iList K (tVar 3)) (gName 15) tYes (tCall (lift K qCj) [] E0 (tCons (tVar 1) (tCons (tC (.int 3)) tNil))) [15]) (gName 5))
  (tSeq (tAsg (tCall (lift K qCo) [] E0 (tCons (tVar 1) (tCons (tLc (iRng1 (tCons (tCB (qDu K) (tCons (tVar 3) tNil)) tNil)) (gName 9) tYes (tLst (tCons (tOp (rIxL K) (tVar 3) (tVar 9)) (tCons (tOp (rIxL K) (tVar 4) (tVar 9)) tNil))) [9]) tNil))) (gName 6))
  (tSeq (tAsg (tCall (lift K qCo) [] E0 (tCons (tVar 1) (tCons (tLc (iRng1 (tCons (tCB (qDu K) (tCons (tVar 3) tNil)) tNil)) (gName 9) tYes (tLst (tCons (tOp (rIxL K) (tVar 3) (tVar 9)) (tCons (tOp (rIxL K) (tVar 5) (tVar 9)) tNil))) [9]) tNil))) (gName 7))
  (tSeq (tAsg (tLst (tCons (tLst (tCons (tC (.int 1)) (tCons (tC (.int 1)) tNil))) tNil)) (gName 8))
  (tSeq (tFor (iRng1 (tCons (tCB (qDu K) (tCons (tVar 3) tNil)) tNil)) (gName 9) (tFor (iRng1 (tCons (tOp (rIxL K) (tVar 4) (tVar 9)) tNil)) (gName 14) (tIfS (tTest (tOp rLt0 (tVar 14) (tOp (rIxL K) (tVar 5) (tVar 9)))) (tAsg (tCall (lift K qCy) [] E0 (tCons (tVar 8) (tCons (tOp (rIxL K) (tVar 3) (tVar 9)) tNil))) (gName 8)) tNext)))
  (tSeq (tAsg (tMake (He.ga K "Poly") (qLg K "Poly" (qCc cs)) [] E0 (tCons (tCall (lift K qCk) [] E0 (tCons (tVar 6) tNil)) tNil)) (gName 10))
  (tSeq (tAsg (tMake (He.ga K "Poly") (qLg K "Poly" (qCc cs)) [] E0 (tCons (tCall (lift K qCk) [] E0 (tCons (tVar 7) tNil)) tNil)) (gName 11))
  (tSeq (tIfS (tOr (tNot (tB (tCall (lift K qAv) [] E0 (tCons (tCall (lift K qA8) [] E0 (tCons (tVar 10) (tCons (tVar 11) tNil))) (tCons (tVar 8) tNil))))) (tNot (tB (tCall (lift K qAv) [] E0 (tCons (tCall (lift K qA8) [] E0 (tCons (tVar 11) (tCons (tVar 10) tNil))) (tCons (tVar 8) tNil)))))) (tRet (tC (.bl false))) tNext)
  (tSeq (tAsg (tLst (tCons (tLst (tCons (tC (.int 1)) (tCons (tC (.int 1)) tNil))) tNil)) (gName 12))
  (tSeq (tFor (iRng1 (tCons (tCB (qDu K) (tCons (tVar 3) tNil)) tNil)) (gName 9) (tFor (iRng1 (tCons (tOp (rIxL K) (tVar 4) (tVar 9)) tNil)) (gName 14) (tAsg (tCall (lift K qCy) [] E0 (tCons (tVar 12) (tCons (tOp (rIxL K) (tVar 3) (tVar 9)) tNil))) (gName 12))))
  (tSeq (tAsg (tMake (He.ga K "Poly") (qLg K "Poly" (qCc cs)) [] E0 (tCons (tLst tNil) tNil)) (gName 13))
  (tSeq (tIfS (tOr (tNot (tB (tCall (lift K qAv) [] E0 (tCons (tCall (lift K qA8) [] E0 (tCons (tVar 10) (tCons (tVar 13) tNil))) (tCons (tVar 12) tNil))))) (tNot (tB (tCall (lift K qAv) [] E0 (tCons (tCall (lift K qA8) [] E0 (tCons (tVar 13) (tCons (tVar 10) tNil))) (tCons (tVar 12) tNil)))))) (tRet (tC (.bl false))) tNext)
  (tSeq (tIfS (tOr (tNot (tB (tCall (lift K qAv) [] E0 (tCons (tCallN 0 2 (lift K qA8) gApp E0 tNil (tCons (tVar 10) (tCons (tVar 10) tNil))) (tCons (tVar 12) tNil))))) (tNot (tB (tCall (lift K qAv) [] E0 (tCons (tCall (lift K qA8) [] E0 (tCons (tVar 13) (tCons (tVar 13) tNil))) (tCons (tLst tNil) tNil)))))) (tRet (tC (.bl false))) tNext)
  (tIfS (tOr (tNot (tB (tCall (lift K qAv) [] E0 (tCons (tVar 10) (tCons (tVar 6) tNil))))) (tNot (tB (tCall (lift K qAv) [] E0 (tCons (tVar 11) (tCons (tVar 7) tNil)))))) (tRet (tC (.bl false))) tNext)))))))))))))))))
  (tRet (tC (.bl true)))))
open Ps in
theorem qAe1 : plV [(1, 1), (0, 1), (1, 1)] = X * X + 1 := ext' fun i => by
  rw [add_c, qAf0, qAba]
  have e1 : Rat.divInt 1 1 = 1 := by decide
  have e0 : Rat.divInt 0 1 = 0 := by decide
  match i with
  | 0 => show Rat.divInt 1 1 = 0 + _; rw [e1, if_pos rfl, Rat.zero_add]
  | 1 => show Rat.divInt 0 1 = X.c 0 + _; rw [e0, if_neg (by decide), Rat.add_zero]; rfl
  | 2 => show Rat.divInt 1 1 = X.c 1 + _; rw [e1, if_neg (by decide), Rat.add_zero]; rfl
  | i + 3 => show (0 : Rat) = X.c (i + 2) + _; rw [if_neg (by omega), Rat.add_zero]; show (0 : Rat) = if i + 2 = 1 then (1 : Rat) else 0; rw [if_neg (by omega)]
open Ps in
theorem qRj {t b : Int} (hb : 0 < b) : plV [(-t, b), (b, b)] = X - cst (Rat.divInt t b) := ext' fun i => by
  have n0 := qC4 hb
  rw [sub_c, cst_c]
  match i with
  | 0 =>
    show Rat.divInt (-t) b = 0 - _
    rw [if_pos rfl, Rat.divInt_eq_div, Rat.divInt_eq_div, Rat.intCast_neg]; grind
  | 1 =>
    show Rat.divInt b b = 1 - _
    rw [if_neg (by decide), Rat.divInt_eq_div]; grind
  | i + 2 => show (0 : Rat) = (if i + 2 = 1 then (1 : Rat) else 0) - _; rw [if_neg (by omega), if_neg (by omega), Rat.sub_self]
theorem qZd : Fac10 [(1, 1), (0, 1), (1, 1)] := by
  refine ⟨⟨1, by decide, by decide, fun p hp => ?_⟩, ⟨by decide, by decide⟩, ⟨qWx [(1, 1), (0, 1), (1, 1)], by show Rat.divInt 1 1 = 1; decide⟩⟩
  rcases List.mem_cons.mp hp with rfl | hp
  · exact ⟨rfl, by decide⟩
  · rcases List.mem_cons.mp hp with rfl | hp
    · exact ⟨rfl, by decide⟩
    · rw [List.mem_singleton.mp hp]; exact ⟨rfl, by decide⟩
theorem qXe {t b : Int} (b0 : 1 ≤ b) (b5 : b ≤ 5) (ht : t.natAbs ≤ 2 ^ 34) : Fac10 [(-t, b), (b, b)] := by
  have e : (2 : Nat) ^ 3 = 8 := by decide
  have e2 : (2 : Nat) ^ 34 = 17179869184 := by decide
  refine ⟨⟨b, by omega, by omega, fun p hp => ?_⟩, ⟨by show 2 ≤ 2; decide, by show 2 ≤ 3; decide⟩, ⟨qWx [(-t, b), (b, b)], ?_⟩⟩
  · rcases List.mem_cons.mp hp with rfl | hp
    · exact ⟨rfl, by show (-t).natAbs ≤ _; omega⟩
    · rw [List.mem_singleton.mp hp]; exact ⟨rfl, by show b.natAbs ≤ _; omega⟩
  · show Rat.divInt b b = 1
    have n0 := qC4 (show 0 < b by omega)
    rw [Rat.divInt_eq_div]; grind
structure FL10 (b : Int) (ts : List Int) : Prop where
  b0 : 1 ≤ b
  b5 : b ≤ 5
  l : ts.length ≤ 4
  p : ts.Pairwise (· < ·)
  a : ∀ t, t ∈ ts → t.natAbs ≤ 2 ^ 34
section
variable {b : Int} {ts : List Int}
theorem FL10.len (h : FL10 b ts) : (qE5 b ts).length ≤ 5 := by
  have := h.l
  show (ts.map _).length + 1 ≤ 5
  rw [List.length_map]; omega
theorem FL10.fac (h : FL10 b ts) : ∀ q, q ∈ qE5 b ts → Fac10 q := fun q hq => by
  rcases List.mem_cons.mp hq with rfl | hq
  · exact qZd
  · obtain ⟨t, ht, rfl⟩ := List.mem_map.mp hq
    exact qXe h.b0 h.b5 (h.a t ht)
theorem FL10.cop (h : FL10 b ts) : (qE5 b ts).Pairwise (fun y z => CopF (plV y) (plV z)) := by
  have b0 : 0 < b := by have := h.b0; omega
  have nb := qC4 b0
  refine List.pairwise_cons.mpr ⟨fun q hq => ?_, ?_⟩
  · obtain ⟨t, ht, rfl⟩ := List.mem_map.mp hq
    rw [qAe1, qRj b0]
    obtain ⟨a, ha⟩ : ∃ a, a = Rat.divInt t b := ⟨_, rfl⟩
    rw [← ha]
    have n0 : 1 + a * a ≠ 0 := fun z => by
      have : 0 ≤ a * a := by
        rcases Rat.le_total (a := 0) (b := a) with w | w
        · exact Rat.mul_nonneg w w
        · have := Rat.mul_nonneg (show 0 ≤ -a by grind) (show 0 ≤ -a by grind)
          grind
      grind
    have ci := csti n0
    obtain ⟨k, hk⟩ : ∃ k, k = Ps.cst (1 / (1 + a * a)) := ⟨_, rfl⟩
    obtain ⟨A, hA⟩ : ∃ A, A = Ps.cst a := ⟨_, rfl⟩
    have e1 : Ps.cst (1 + a * a) = 1 + A * A := Ps.ext' fun i => by
      rw [hA, Ps.add_c, Ps.cst_mul, qAba, Ps.cst_c, Ps.cst_c]
      split
      · rfl
      · grind
    rw [e1, ← hk] at ci
    rw [← hA]
    have fX : FdP Ps.X := ⟨2, Ps.mo_dg 1 1⟩
    have fA : FdP A := by rw [hA]; exact FdP.cst _
    have fk : FdP k := by rw [hk]; exact FdP.cst _
    exact ⟨k, 0 - k * (Ps.X + A), fk, FdP.zero.sub (fk.mul (fX.add fA)), by rw [← ci]; grind⟩
  · refine List.pairwise_map.mpr (h.p.imp_of_mem fun {s t} hs ht hst => ?_)
    rw [qRj b0, qRj b0]
    obtain ⟨x, hx⟩ : ∃ x, x = Rat.divInt s b := ⟨_, rfl⟩
    obtain ⟨y, hy⟩ : ∃ y, y = Rat.divInt t b := ⟨_, rfl⟩
    rw [← hx, ← hy]
    have n0 : y - x ≠ 0 := fun z => by
      rw [hx, hy, Rat.divInt_eq_div, Rat.divInt_eq_div] at z
      have z2 : ((t - s : Int) : Rat) = 0 := by rw [Rat.intCast_sub]; grind
      have z3 : t - s = 0 := by exact_mod_cast z2
      omega
    have ci := csti n0
    obtain ⟨k, hk⟩ : ∃ k, k = Ps.cst (1 / (y - x)) := ⟨_, rfl⟩
    have e1 : Ps.cst (y - x) = Ps.cst y - Ps.cst x := Ps.ext' fun i => by
      rw [Ps.sub_c, Ps.cst_c, Ps.cst_c, Ps.cst_c]
      split
      · rfl
      · grind
    rw [e1, ← hk] at ci
    have fk : FdP k := by rw [hk]; exact FdP.cst _
    exact ⟨k, 0 - k, fk, FdP.zero.sub fk, by rw [← ci]; grind⟩
end
/-! ### the law's factors -/
theorem qUi {FD : FEnds} {z b : Int} (z0 : 0 < z) (z9 : z ≤ 1000000000) : ∀ (items : List D) (ts : List Int) (top : Int) (v5 : Option D), ts.length + items.length ≤ 4 → ts.Pairwise (· < ·) → (∀ t, t ∈ ts → t < top ∧ t.natAbs ≤ 2 ^ 34) → -1000000000 ≤ top → top ≤ 1000000000 * (1 + (ts.length : Int)) →
    (∀ ts' top' v5, ts'.length ≤ 4 → ts'.Pairwise (· < ·) → (∀ t, t ∈ ts' → t.natAbs ≤ 2 ^ 34) → FD.nx [some .feed, some (.int z), some (.int b), some (.int top'), some (.lst (qBv (qE5 b ts'))), v5]) →
    qB9 (qA1 5) (qB7 (fApp 4 (qFx (qAc (qFx (qAc (fUn qXu (qAe 3)) (qAc (qAe 2) qAn))) (qAc (qFx (qAc (qAe 2) (qAc (qAe 2) qAn))) qAn))))
  (qDr 3 (fOp qLq (fOp qLq (qAe 3) (fC (.int 1))) (qAj qCj [] (qAc (qAe 0) (qAc (qAe 1) qAn)))))) FD items [some .feed, some (.int z), some (.int b), some (.int top), some (.lst (qBv (qE5 b ts))), v5]
  | [], ts, top, v5, hl, hp, ha, _, _, fin => fin ts top v5 (by simpa using hl) hp fun t ht => (ha t ht).2
  | d :: items, ts, top, v5, hl, hp, ha, h1, h2, fin => by
    rw [List.length_cons] at hl
    have e34 : (2 : Nat) ^ 34 = 17179869184 := by decide
    have s2 : 2 ≤ sizeLine := Nat.le_of_lt (qAo (by decide))
    unfold qB9
    simp_arith []
    refine ⟨s2, s2, s2, by show (qBv (qE5 b ts)).length < _; unfold qBv qE5; rw [List.length_map]; show (ts.map _).length + 1 < _; rw [List.length_map]; exact qAo (by omega), ?_⟩
    refine qD5 z0 trivial fun k k0 k1 => ?_
    simp_arith []
    have e : qBv (qE5 b ts) ++ [D.lst [.lst [.int (-top), .int b], .lst [.int b, .int b]]] = qBv (qE5 b (ts ++ [top])) := by
      unfold qBv qE5
      rw [List.map_append]
      simp [prL, prD]
    rw [e]
    refine qUi z0 z9 items (ts ++ [top]) _ _ (by rw [List.length_append, List.length_singleton]; omega) ?_ (fun t ht => ?_) (by omega) (by rw [List.length_append, List.length_singleton]; omega) fin
    · refine List.pairwise_append.mpr ⟨hp, List.pairwise_singleton _ _, fun x hx y hy => ?_⟩
      rw [List.mem_singleton.mp hy]; exact (ha x hx).1
    · rcases List.mem_append.mp ht with ht | ht
      · have := ha t ht; exact ⟨by omega, this.2⟩
      · rw [List.mem_singleton.mp ht]; exact ⟨by omega, by omega⟩
theorem qL4 {cs : List Str} (hRatio : ("Ratio" : Str) ∈ cs) (ds : List D) (P : D → Prop) (X : XP) (h : qFb ds P X) : qEz cs (qHq P X0) (qBu 6 ds) := by
  obtain ⟨rfl, p⟩ := h
  simp_arith [qEz, qE7, qB3]
  refine ⟨⟨by decide, by decide, by decide⟩, by decide, ?_⟩
  refine qD5 (by decide) (by decide) fun d d0 d1 => ?_
  refine ix3 d0 d1 fun z hz => ?_
  have z1 : 0 < z ∧ z ≤ 1000000000 := by rcases hz with rfl | rfl | rfl <;> decide
  refine qD5 (by decide) (by decide) fun b b0 b1 => ?_
  simp_arith []
  refine qV8 z1.1 trivial fun t t0 t1 => ?_
  have s2 : 2 ≤ sizeLine := Nat.le_of_lt (qAo (by decide))
  refine ⟨by decide, s2, s2, s2, Nat.le_of_lt (qAo (by decide)), Nat.le_of_lt (qAo (by decide)), ?_⟩
  refine qD5 (by decide) (by decide) fun n n0 n1 => ?_
  simp_arith []
  refine ⟨by omega, by omega, ?_⟩
  refine qUi (b := 1 + b) z1.1 z1.2 _ [] t none (by simp [qIl]; omega) List.Pairwise.nil (fun _ h => nomatch h) (by omega) (by simp; omega) fun ts top v5 hl hp ha => ?_
  simp_arith []
  exact p (1 + b) ts (by omega) (by omega) hl hp ha
/-! ### the law's Polys -/
theorem qLt {n e : Nat} {row q : List (Int × Int)} (h : Row10 n e row) (hq : Fac10 q) (hb : n + e ≤ 1000) (l : row.length ≤ 1000) {P : D → Prop} {X : XP} (p : P (.lst (prL (qDp row q)))) : qCy [.lst (prL row), .lst (prL q)] P X := by
  obtain ⟨D, _, _, s⟩ := qLm h hq hb
  exact ⟨row, q, _, rfl, l, by have := hq.l; omega, s, p⟩
theorem qAe0 {FD : FEnds} {L q : List (Int × Int)} {ρ : Env} (hq : Fac10 q) {v0 v1 : Option D} {k : D} {e : Int} :
    ∀ (r : Nat) {n f : Nat} {row : List (Int × Int)} (lo : Int) (v4 : Option D), Row10 n f row → n + 36 * r + (f + 3 * r) ≤ 1000 → row.length + 2 * r ≤ 100 → (∀ v4, FD.nx [v0, v1, some (.lst (prL (qH8 row q r))), some (.lst [.lst (prL q), .int e]), v4]) →
    qB9 (qA1 4) (qDr 2 (qAj qCy [] (qAc (qAe 2) (qAc (fOp qB6 (qAe 3) (fC (.int 0))) qAn)))) FD (qIl lo r) [v0, v1, some (.lst (prL row)), some (.lst [.lst (prL q), .int e]), v4] := by
  intro r
  induction r with
  | zero =>
    intro n f row lo v4 h hb hl fin
    exact fin v4
  | succ r ih =>
    intro n f row lo v4 h hb hl fin
    rw [qCp]
    unfold qB9
    simp_arith []
    refine ⟨_, _, _, .inl rfl, rfl, rfl, ?_⟩
    refine qLt h hq (by omega) (by omega) ?_
    have lp := qDg (row := row) (q := q) h.l (by have := hq.l; omega)
    have e2 : ∀ k, qH8 (qDp row q) q k = qH8 row q (k + 1) := fun k => by
      induction k with
      | zero => rfl
      | succ k ihk => show qDp (qH8 (qDp row q) q k) q = qDp (qH8 row q (k + 1)) q; rw [ihk]
    refine ih (n := n + 36) (f := f + 3) (lo + 1) _ (qHr h hq (by omega)) (by omega) (by have := hq.l; omega) fun v4 => ?_
    rw [e2 r]
    exact fin v4
theorem qJ9 {row q : List (Int × Int)} (h : 0 < row.length) (hq : Fac10 q) : ∀ k, 0 < (qH8 row q k).length ∧ (qH8 row q k).length ≤ row.length + 2 * k
  | 0 => ⟨h, Nat.le_refl _⟩
  | k + 1 => by
    obtain ⟨a, b⟩ := qJ9 h hq k
    have lq := hq.l
    have := qDg (row := qH8 row q k) (q := q) a (by omega)
    refine ⟨?_, ?_⟩
    · show 0 < (qDp (qH8 row q k) q).length
      omega
    · show (qDp (qH8 row q k) q).length ≤ _
      omega
theorem qW8 {FD : FEnds} {v0 v1 : Option D} :
    ∀ (l : List (List (Int × Int) × Nat)) {n f : Nat} {row : List (Int × Int)} (v3 v4 : Option D), Row10 n f row → (∀ z, z ∈ l → Fac10 z.1 ∧ z.2 ≤ 2) → n + 72 * l.length + (f + 6 * l.length) ≤ 1000 → row.length + 4 * l.length ≤ 100 → (∀ v3 v4, FD.nx [v0, v1, some (.lst (prL (qA0 row l))), v3, v4]) →
    qB9 (qA1 3) (qE7 (qB3 (qAc (fOp qB6 (qAe 3) (fC (.int 1))) qAn)) (qA1 4) (qDr 2 (qAj qCy [] (qAc (qAe 2) (qAc (fOp qB6 (qAe 3) (fC (.int 0))) qAn))))) FD (qF9 l) [v0, v1, some (.lst (prL row)), v3, v4]
  | [], n, f, row, v3, v4, h, hf, hb, hl, fin => fin v3 v4
  | z :: l, n, f, row, v3, v4, h, hf, hb, hl, fin => by
    rw [List.length_cons] at hb hl
    obtain ⟨hq, z2⟩ := hf z (.head _)
    show qB9 _ _ FD (D.lst [.lst (prL z.1), .int (z.2 : Int)] :: qF9 l) _
    unfold qB9
    simp_arith [qE7, qB3]
    refine ⟨_, _, _, .inl rfl, rfl, rfl, ?_⟩
    simp_arith []
    refine ⟨by omega, by omega, ?_⟩
    rw [show ((z.2 : Nat) : Int).toNat = z.2 from rfl]
    refine qAe0 (ρ := []) (k := .non) (L := []) hq z.2 0 _ h (by omega) (by omega) fun v4 => ?_
    have ln := qJ9 h.l hq z.2
    exact qW8 l _ _ (qLj h hq z.2 (by omega)).1 (fun y hy => hf y (.tail _ hy)) (by omega) (by omega) fin
theorem qAax {l : List (List (Int × Int) × Nat)} {c d : Int} (l5 : l.length ≤ 5) (hf : ∀ z, z ∈ l → Fac10 z.1 ∧ z.2 ≤ 2) (n0 : c ≠ 0) (n9 : c.natAbs ≤ 9) (d0 : 1 ≤ d) (d9 : d ≤ 9) {P : D → Prop} (p : P (.lst (prL (qA0 [(c, d)] l)))) :
    (qB7 (qE7 (qVh (qAe 1)) (qA1 3) (qE7 (qB3 (qAc (fOp qB6 (qAe 3) (fC (.int 1))) qAn)) (qA1 4) (qDr 2 (qAj qCy [] (qAc (qAe 2) (qAc (fOp qB6 (qAe 3) (fC (.int 0))) qAn)))))) (qEi (qAe 2))) (qHq P X0) [some .feed, some (.lst (qF9 l)), some (.lst [.lst [.int c, .int d]]), none, none] := by
  simp_arith [qE7]
  refine qW8 l (row := [(c, d)]) _ _ (qEb n0 n9 (show 0 < d by omega) d9) hf (by omega) (by show 1 + 4 * l.length ≤ 100; omega) fun v3 v4 => ?_
  simp_arith []
  exact p
theorem qQ8 {cs : List Str} (hRatio : ("Ratio" : Str) ∈ cs) (ds : List D) (P : D → Prop) (X : XP) (h : qCo ds P X) : qHh cs (qHq P X0) (qBu 5 ds) := by
  obtain ⟨l, rfl, l5, hf, p⟩ := h
  have s1 : 1 ≤ sizeLine := Nat.le_of_lt (qAo (by decide))
  have s2 : 2 ≤ sizeLine := Nat.le_of_lt (qAo (by decide))
  simp_arith [qHh]
  refine qD5 (by decide) trivial fun c c0 c1 => ?_
  simp_arith []
  refine qD5 (by decide) trivial fun d d0 d1 => ?_
  simp_arith []
  refine ⟨s2, s1, ?_⟩
  refine qD5 (by decide) trivial fun s s0 s1 => ?_
  simp_arith []
  by_cases e : s = 0
  · rw [decide_eq_true e, if_pos rfl]
    refine ⟨[(1 + c, 1 + d)], rfl, by show 1 ≤ 1000; decide, ?_⟩
    exact qAax l5 hf (c := -(1 + c)) (d := 1 + d) (by omega) (by omega) (by omega) (by omega) (p _ _ (by omega) (by omega) (by omega) (by omega))
  · rw [decide_eq_false e, if_neg (by decide)]
    exact qAax l5 hf (by omega) (by omega) (by omega) (by omega) (p _ _ (by omega) (by omega) (by omega) (by omega))
/-! ### the law -/
abbrev Tr := List (Int × Int) × Nat × Nat
def qLy (es : List Nat) : List D := es.map fun (e : Nat) => D.int (e : Int)
def qGz (T : List Tr) := T.map fun z => (z.1, z.2.1)
def qQ6 (T : List Tr) := T.map fun z => (z.1, z.2.2)
def qUt (T : List Tr) := T.map fun z => (z.1, min z.2.1 z.2.2)
def fsT (T : List Tr) := T.map fun z => z.1
def esT (T : List Tr) := T.map fun z => z.2.1
def dsT (T : List Tr) := T.map fun z => z.2.2
theorem qAdw : ∀ (fs : List (List (Int × Int))) (es ds : List Nat), es.length = fs.length → ds.length = fs.length → ∃ T : List Tr, fsT T = fs ∧ esT T = es ∧ dsT T = ds
  | [], [], [], _, _ => ⟨[], rfl, rfl, rfl⟩
  | f :: fs, e :: es, d :: ds, h1, h2 => by
    obtain ⟨T, a, b, c⟩ := qAdw fs es ds (by simpa using h1) (by simpa using h2)
    exact ⟨(f, e, d) :: T, by rw [← a]; rfl, by rw [← b]; rfl, by rw [← c]; rfl⟩
theorem qN8 {ρ0 : Env} {P : D → Prop} : ∀ (items : List (List (Int × Int))) (es : List Nat) {v0 : Option D} {v : Env}, es.length + items.length ≤ 1000 → (∀ e, e ∈ es → e ≤ 2) → (∀ es' : List Nat, es'.length = es.length + items.length → (∀ e, e ∈ es' → e ≤ 2) → P (.lst (qLy es'))) →
    ∀ (v2 v3 v4 v5 v6 v7 v8 v9 v10 v11 v12 v13 v14 v15 : Option D), qMw (qA1 15) qI4 (qAj qCj [] (qAc (qAe 1) (qAc (fC (.int 3)) qAn))) [v0, some .feed, v2, v3, v4, v5, v6, v7, v8, v9, v10, v11, v12, v13, v14, v15] P (qBv items) (qLy es)
  | [], es, v0, v, hl, he, fin, _, _, _, _, _, _, _, _, _, _, _, _, _, _ => fin es (by simp) he
  | q :: items, es, v0, v, hl, he, fin, v2, v3, v4, v5, v6, v7, v8, v9, v10, v11, v12, v13, v14, v15 => by
    rw [List.length_cons] at hl
    show qMw _ _ _ _ _ (D.lst (prL q) :: qBv items) _
    unfold qMw
    simp_arith []
    refine qD5 (by decide) trivial fun k k0 k1 => ?_
    refine ⟨by show (es.map _).length < _; rw [List.length_map]; exact qAo (by omega), ?_⟩
    obtain ⟨e, rfl⟩ : ∃ e : Nat, k = (e : Int) := ⟨k.toNat, by omega⟩
    have e2 : qLy es ++ [D.int (e : Int)] = qLy (es ++ [e]) := by unfold qLy; rw [List.map_append]; rfl
    rw [e2]
    refine qN8 (v := v) (ρ0 := ρ0) items (es ++ [e]) (by rw [List.length_append, List.length_singleton]; omega) (fun x hx => ?_) (fun es' h1 h2 => fin es' (by rw [h1, List.length_append, List.length_singleton, List.length_cons]; omega) h2) _ _ _ _ _ _ _ _ _ _ _ _ _ _
    rcases List.mem_append.mp hx with hx | hx
    · exact he x hx
    · rw [List.mem_singleton.mp hx]; omega
theorem qR6 {α β : Type} (f : α → β) (pre : List α) (z : α) (S : List α) : ((pre ++ z :: S).map f)[pre.length]? = some (f z) := by
  rw [List.getElem?_map, List.getElem?_append_right (Nat.le_refl _), Nat.sub_self]
  rfl
theorem qKb {T pre S : List Tr} {z : Tr} (hT : T = pre ++ z :: S) : (qBv (fsT T))[pre.length]? = some (.lst (prL z.1)) := by
  unfold qBv fsT
  rw [List.map_map, hT]
  exact qR6 _ pre z S
theorem qSe {T pre S : List Tr} {z : Tr} (hT : T = pre ++ z :: S) : (qLy (esT T))[pre.length]? = some (.int (z.2.1 : Int)) := by
  unfold qLy esT
  rw [List.map_map, hT]
  exact qR6 _ pre z S
theorem qVo {T pre S : List Tr} {z : Tr} (hT : T = pre ++ z :: S) : (qLy (dsT T))[pre.length]? = some (.int (z.2.2 : Int)) := by
  unfold qLy dsT
  rw [List.map_map, hT]
  exact qR6 _ pre z S
theorem qUc (l : List (List (Int × Int) × Nat)) (q : List (Int × Int)) (e : Nat) : qF9 l ++ [.lst [.lst (prL q), .int (e : Int)]] = qF9 (l ++ [(q, e)]) := by unfold qF9; rw [List.map_append]; rfl
theorem qTk {T : List Tr} {P : D → Prop} {v0 v1 v2 v5 v6 v7 v8 v10 v11 v12 v13 v14 v15 : Option D} (p : P (.lst (qF9 (qGz T)))) (hl : T.length ≤ 1000) : ∀ (S pre : List Tr) (v9 : Option D), T = pre ++ S →
    qMw (qA1 9) qI4 (qFx (qAc (fOp qB6 (qAe 3) (qAe 9)) (qAc (fOp qB6 (qAe 4) (qAe 9)) qAn))) [v0, v1, v2, some (.lst (qBv (fsT T))), some (.lst (qLy (esT T))), v5, v6, v7, v8, v9, v10, v11, v12, v13, v14, v15] P (qIl (pre.length : Nat) S.length) (qF9 (qGz pre))
  | [], pre, v9, hT => by
    rw [List.append_nil] at hT
    rw [← hT]
    exact p
  | z :: S, pre, v9, hT => by
    rw [List.length_cons, qCp]
    unfold qMw
    simp_arith []
    refine qD9 rfl (qKb hT) ?_
    refine qD9 rfl (qSe hT) ?_
    have lp : pre.length ≤ 1000 := by rw [hT, List.length_append] at hl; omega
    refine ⟨Nat.le_of_lt (qAo (by decide)), ?_, ?_⟩
    · show ((pre.map _).map _).length < _
      rw [List.length_map, List.length_map]; exact qAo (by omega)
    · rw [qUc, show qGz pre ++ [(z.1, z.2.1)] = qGz (pre ++ [z]) by unfold qGz; rw [List.map_append]; rfl, show ((pre.length : Nat) : Int) + 1 = (((pre ++ [z]).length : Nat) : Int) by simp]
      exact qTk p hl S (pre ++ [z]) _ (by rw [hT]; simp)
theorem qSx {T : List Tr} {P : D → Prop} {v0 v1 v2 v4 v6 v7 v8 v10 v11 v12 v13 v14 v15 : Option D} (p : P (.lst (qF9 (qQ6 T)))) (hl : T.length ≤ 1000) : ∀ (S pre : List Tr) (v9 : Option D), T = pre ++ S →
    qMw (qA1 9) qI4 (qFx (qAc (fOp qB6 (qAe 3) (qAe 9)) (qAc (fOp qB6 (qAe 5) (qAe 9)) qAn))) [v0, v1, v2, some (.lst (qBv (fsT T))), v4, some (.lst (qLy (dsT T))), v6, v7, v8, v9, v10, v11, v12, v13, v14, v15] P (qIl (pre.length : Nat) S.length) (qF9 (qQ6 pre))
  | [], pre, v9, hT => by
    rw [List.append_nil] at hT
    rw [← hT]
    exact p
  | z :: S, pre, v9, hT => by
    rw [List.length_cons, qCp]
    unfold qMw
    simp_arith []
    refine qD9 rfl (qKb hT) ?_
    refine qD9 rfl (qVo hT) ?_
    have lp : pre.length ≤ 1000 := by rw [hT, List.length_append] at hl; omega
    refine ⟨Nat.le_of_lt (qAo (by decide)), ?_, ?_⟩
    · show ((pre.map _).map _).length < _
      rw [List.length_map, List.length_map]; exact qAo (by omega)
    · rw [qUc, show qQ6 pre ++ [(z.1, z.2.2)] = qQ6 (pre ++ [z]) by unfold qQ6; rw [List.map_append]; rfl, show ((pre.length : Nat) : Int) + 1 = (((pre ++ [z]).length : Nat) : Int) by simp]
      exact qSx p hl S (pre ++ [z]) _ (by rw [hT]; simp)
theorem qI1 (row q : List (Int × Int)) : ∀ k, qH8 (qDp row q) q k = qH8 row q (k + 1)
  | 0 => rfl
  | k + 1 => by show qDp (qH8 (qDp row q) q k) q = qDp (qH8 row q (k + 1)) q; rw [qI1 row q k]
section
variable {T : List Tr} {v0 v1 v2 v5 v6 v7 v8 v10 v11 v12 v13 v14 v15 : Option D} {FD : FEnds}
abbrev dueB : FS := qF1 (fB (fOp oLt (qAe 14) (fOp qB6 (qAe 5) (qAe 9)))) (qDr 8 (qAj qCy [] (qAc (qAe 8) (qAc (fOp qB6 (qAe 3) (qAe 9)) qAn)))) qCg
theorem qAd0 {pre S : List Tr} {z : Tr} (hT : T = pre ++ z :: S) (hq : Fac10 z.1) {v4 : Option D} : ∀ (r i : Nat) {n f : Nat} {row : List (Int × Int)} (v14 : Option D), Row10 n f row → n + 36 * r + (f + 3 * r) ≤ 1000 → row.length + 2 * r ≤ 100 → (∀ v14, FD.nx [v0, v1, v2, some (.lst (qBv (fsT T))), v4, some (.lst (qLy (dsT T))), v6, v7, some (.lst (prL (qH8 row z.1 (min (i + r) z.2.2 - min i z.2.2)))), some (.int (pre.length : Nat)), v10, v11, v12, v13, v14, v15]) →
    qB9 (qA1 14) dueB FD (qIl (i : Nat) r) [v0, v1, v2, some (.lst (qBv (fsT T))), v4, some (.lst (qLy (dsT T))), v6, v7, some (.lst (prL row)), some (.int (pre.length : Nat)), v10, v11, v12, v13, v14, v15] := by
  intro r
  induction r with
  | zero =>
    intro i n f row v14 h hb hl fin
    have := fin v14
    rw [Nat.add_zero, Nat.sub_self] at this
    exact this
  | succ r ih =>
    intro i n f row v14 h hb hl fin
    rw [qCp]
    unfold qB9 dueB
    simp_arith []
    refine qD9 rfl (qVo hT) ?_
    simp_arith []
    rw [show ((i : Nat) : Int) + 1 = ((i + 1 : Nat) : Int) by omega]
    by_cases c : i < z.2.2
    · rw [decide_eq_true (show ((i : Nat) : Int) < (z.2.2 : Int) by omega), if_pos rfl]
      refine qD9 rfl (qKb hT) ?_
      refine qLt h hq (by omega) (by omega) ?_
      have lp := qDg (row := row) (q := z.1) h.l (by have := hq.l; omega)
      refine ih (i + 1) (n := n + 36) (f := f + 3) _ (qHr h hq (by omega)) (by omega) (by have := hq.l; omega) fun v14 => ?_
      rw [qI1]
      have := fin v14
      rw [show min (i + (r + 1)) z.2.2 - min i z.2.2 = min (i + 1 + r) z.2.2 - min (i + 1) z.2.2 + 1 by omega] at this
      exact this
    · rw [decide_eq_false (show ¬ ((i : Nat) : Int) < (z.2.2 : Int) by omega), if_neg (by decide)]
      refine ih (i + 1) _ h (by omega) (by omega) fun v14 => ?_
      have := fin v14
      rw [show min (i + (r + 1)) z.2.2 - min i z.2.2 = min (i + 1 + r) z.2.2 - min (i + 1) z.2.2 by omega] at this
      exact this
theorem qW1 (hf : ∀ z, z ∈ T → Fac10 z.1 ∧ z.2.1 ≤ 2) : ∀ (S pre : List Tr) {n f : Nat} {row : List (Int × Int)} (v9 v14 : Option D), T = pre ++ S → Row10 n f row → n + 72 * S.length + (f + 6 * S.length) ≤ 1000 → row.length + 4 * S.length ≤ 100 →
    (∀ v9 v14, FD.nx [v0, v1, v2, some (.lst (qBv (fsT T))), some (.lst (qLy (esT T))), some (.lst (qLy (dsT T))), v6, v7, some (.lst (prL (qA0 row (qUt S)))), v9, v10, v11, v12, v13, v14, v15]) →
    qB9 (qA1 9) (qE7 (qB3 (qAc (fOp qB6 (qAe 4) (qAe 9)) qAn)) (qA1 14) dueB) FD (qIl (pre.length : Nat) S.length) [v0, v1, v2, some (.lst (qBv (fsT T))), some (.lst (qLy (esT T))), some (.lst (qLy (dsT T))), v6, v7, some (.lst (prL row)), v9, v10, v11, v12, v13, v14, v15]
  | [], pre, n, f, row, v9, v14, hT, h, hb, hl, fin => fin v9 v14
  | z :: S, pre, n, f, row, v9, v14, hT, h, hb, hl, fin => by
    rw [List.length_cons] at hb hl
    obtain ⟨hq, z2⟩ := hf z (by rw [hT]; simp)
    rw [List.length_cons, qCp]
    unfold qB9
    simp_arith [qE7, qB3]
    refine qD9 rfl (qSe hT) ?_
    simp_arith []
    refine ⟨by omega, by omega, ?_⟩
    rw [show ((z.2.1 : Nat) : Int).toNat = z.2.1 from rfl]
    refine qAd0 hT hq z.2.1 0 _ h (by omega) (by omega) fun v14 => ?_
    have e : min (0 + z.2.1) z.2.2 - min 0 z.2.2 = min z.2.1 z.2.2 := by omega
    rw [e]
    have m2 : min z.2.1 z.2.2 ≤ 2 := by omega
    have ln := qJ9 h.l hq (min z.2.1 z.2.2)
    have hr := (qLj h hq (min z.2.1 z.2.2) (by omega)).1
    rw [show ((pre.length : Nat) : Int) + 1 = (((pre ++ [z]).length : Nat) : Int) by simp]
    exact qW1 hf S (pre ++ [z]) _ _ (by rw [hT]; simp) hr (by omega) (by omega) fin
abbrev whoB : FS := qDr 12 (qAj qCy [] (qAc (qAe 12) (qAc (fOp qB6 (qAe 3) (qAe 9)) qAn)))
theorem qAdi {pre S : List Tr} {z : Tr} (hT : T = pre ++ z :: S) (hq : Fac10 z.1) {v4 : Option D} : ∀ (r : Nat) {n f : Nat} {row : List (Int × Int)} (lo : Int) (v14 : Option D), Row10 n f row → n + 36 * r + (f + 3 * r) ≤ 1000 → row.length + 2 * r ≤ 100 → (∀ v14, FD.nx [v0, v1, v2, some (.lst (qBv (fsT T))), v4, v5, v6, v7, v8, some (.int (pre.length : Nat)), v10, v11, some (.lst (prL (qH8 row z.1 r))), v13, v14, v15]) →
    qB9 (qA1 14) whoB FD (qIl lo r) [v0, v1, v2, some (.lst (qBv (fsT T))), v4, v5, v6, v7, v8, some (.int (pre.length : Nat)), v10, v11, some (.lst (prL row)), v13, v14, v15] := by
  intro r
  induction r with
  | zero =>
    intro n f row lo v14 h hb hl fin
    exact fin v14
  | succ r ih =>
    intro n f row lo v14 h hb hl fin
    rw [qCp]
    unfold qB9 whoB
    simp_arith []
    refine qD9 rfl (qKb hT) ?_
    refine qLt h hq (by omega) (by omega) ?_
    have lp := qDg (row := row) (q := z.1) h.l (by have := hq.l; omega)
    refine ih (n := n + 36) (f := f + 3) _ _ (qHr h hq (by omega)) (by omega) (by have := hq.l; omega) fun v14 => ?_
    rw [qI1]
    exact fin v14
theorem qWb (hf : ∀ z, z ∈ T → Fac10 z.1 ∧ z.2.1 ≤ 2) : ∀ (S pre : List Tr) {n f : Nat} {row : List (Int × Int)} (v9 v14 : Option D), T = pre ++ S → Row10 n f row → n + 72 * S.length + (f + 6 * S.length) ≤ 1000 → row.length + 4 * S.length ≤ 100 →
    (∀ v9 v14, FD.nx [v0, v1, v2, some (.lst (qBv (fsT T))), some (.lst (qLy (esT T))), v5, v6, v7, v8, v9, v10, v11, some (.lst (prL (qA0 row (qGz S)))), v13, v14, v15]) →
    qB9 (qA1 9) (qE7 (qB3 (qAc (fOp qB6 (qAe 4) (qAe 9)) qAn)) (qA1 14) whoB) FD (qIl (pre.length : Nat) S.length) [v0, v1, v2, some (.lst (qBv (fsT T))), some (.lst (qLy (esT T))), v5, v6, v7, v8, v9, v10, v11, some (.lst (prL row)), v13, v14, v15]
  | [], pre, n, f, row, v9, v14, hT, h, hb, hl, fin => fin v9 v14
  | z :: S, pre, n, f, row, v9, v14, hT, h, hb, hl, fin => by
    rw [List.length_cons] at hb hl
    obtain ⟨hq, z2⟩ := hf z (by rw [hT]; simp)
    rw [List.length_cons, qCp]
    unfold qB9
    simp_arith [qE7, qB3]
    refine qD9 rfl (qSe hT) ?_
    simp_arith []
    refine ⟨by omega, by omega, ?_⟩
    rw [show ((z.2.1 : Nat) : Int).toNat = z.2.1 from rfl]
    refine qAdi hT hq z.2.1 0 _ h (by omega) (by omega) fun v14 => ?_
    have ln := qJ9 h.l hq z.2.1
    have hr := (qLj h hq z.2.1 (by omega)).1
    rw [show ((pre.length : Nat) : Int) + 1 = (((pre ++ [z]).length : Nat) : Int) by simp]
    exact qWb hf S (pre ++ [z]) _ _ (by rw [hT]; simp) hr (by omega) (by omega) fin
end
/-! ### what the products are -/
def degL : List (List (Int × Int) × Nat) → Nat
  | [] => 0
  | z :: l => (z.1.length - 1) * z.2 + degL l
theorem qQm {row q : List (Int × Int)} (h : 0 < row.length) (hq : Fac10 q) : ∀ k, (qH8 row q k).length = row.length + (q.length - 1) * k
  | 0 => by rw [Nat.mul_zero]; rfl
  | k + 1 => by
    show (qDp (qH8 row q k) q).length = _
    have := qQm h hq k
    have lq := hq.l
    rw [qDg (by omega) (by omega), this, Nat.mul_succ]
    omega
theorem qPz : ∀ (l : List (List (Int × Int) × Nat)) {row : List (Int × Int)}, 0 < row.length → (∀ z, z ∈ l → Fac10 z.1) → (qA0 row l).length = row.length + degL l
  | [], row, h, _ => rfl
  | z :: l, row, h, hf => by
    have e := qQm h (hf z (.head _)) z.2
    show (qA0 (qH8 row z.1 z.2) l).length = row.length + ((z.1.length - 1) * z.2 + degL l)
    rw [qPz l (by omega) fun y hy => hf y (.tail _ hy), e]
    omega
/-- the law's factors with two lists of powers -/
structure T10 (T : List Tr) : Prop where
  f : ∀ z, z ∈ T → Fac10 z.1 ∧ z.2.1 ≤ 2 ∧ z.2.2 ≤ 2
  l : T.length ≤ 5
  d : ∃ z S, T = z :: S ∧ ∀ y, y ∈ S → y.1.length = 2
  p : T.Pairwise fun y z => CopF (plV y.1) (plV z.1)
section
variable {T : List Tr}
theorem qWm {g : Tr → List (Int × Int) × Nat} : ∀ (S : List Tr), (∀ y, y ∈ S → (g y).1.length = 2 ∧ (g y).2 ≤ 2) → degL (S.map g) ≤ 2 * S.length ∧ qJu (S.map g) ≤ 2 * S.length
  | [], _ => ⟨Nat.le_refl _, Nat.le_refl _⟩
  | y :: S, h => by
    obtain ⟨a, b⟩ := qWm S fun x hx => h x (.tail _ hx)
    obtain ⟨c, d⟩ := h y (.head _)
    rw [List.length_cons]
    refine ⟨?_, ?_⟩
    · show ((g y).1.length - 1) * (g y).2 + degL (S.map g) ≤ _
      rw [c, show (2 - 1) * (g y).2 = (g y).2 by omega]
      omega
    · show (g y).2 + qJu (S.map g) ≤ _
      omega
theorem T10.bnd (h : T10 T) (g : Tr → List (Int × Int) × Nat) (g1 : ∀ y, (g y).1 = y.1) (g2 : ∀ y, y ∈ T → (g y).2 ≤ 2) : degL (T.map g) ≤ 12 ∧ qJu (T.map g) ≤ 10 ∧ ∀ z, z ∈ T.map g → Fac10 z.1 := by
  obtain ⟨z, S, rfl, hs⟩ := h.d
  have l5 := h.l
  rw [List.length_cons] at l5
  obtain ⟨a, b⟩ := qWm (g := g) S fun y hy => ⟨by rw [g1]; exact hs y hy, g2 y (.tail _ hy)⟩
  have z2 := g2 z (.head _)
  have zl := (h.f z (.head _)).1.l
  refine ⟨?_, ?_, fun w hw => ?_⟩
  · show ((g z).1.length - 1) * (g z).2 + degL (S.map g) ≤ 12
    have : ((g z).1.length - 1) * (g z).2 ≤ 2 * 2 := Nat.mul_le_mul (by rw [g1]; omega) z2
    omega
  · show (g z).2 + qJu (S.map g) ≤ 10
    omega
  · obtain ⟨y, hy, rfl⟩ := List.mem_map.mp hw
    rw [g1]; exact (h.f y hy).1
theorem T10.row (h : T10 T) (g : Tr → List (Int × Int) × Nat) (g1 : ∀ y, (g y).1 = y.1) (g2 : ∀ y, y ∈ T → (g y).2 ≤ 2) {c d : Int} (c0 : c ≠ 0) (c9 : c.natAbs ≤ 9) (d0 : 0 < d) (d9 : d ≤ 9) : Row10 364 34 (qA0 [(c, d)] (T.map g)) ∧ (qA0 [(c, d)] (T.map g)).length ≤ 15 ∧ plV (qA0 [(c, d)] (T.map g)) = Ps.cst (qB0 (c, d)) * prP (vPs (T.map g)) := by
  obtain ⟨a, b, f⟩ := h.bnd g g1 g2
  obtain ⟨r, v, _⟩ := qV4 (T.map g) (qEb c0 c9 d0 d9) f (by omega)
  refine ⟨r.mono (by omega) (by omega), ?_, by rw [v, qAcf]⟩
  rw [qPz (T.map g) (by show 0 < 1; decide) f]
  show 1 + _ ≤ 15
  omega
theorem T10.gcd (h : T10 T) {c d c' d' : Int} (c0 : c ≠ 0) (c9 : c.natAbs ≤ 9) (d0 : 0 < d) (d9 : d ≤ 9) (c0' : c' ≠ 0) (c9' : c'.natAbs ≤ 9) (d0' : 0 < d') (d9' : d' ≤ 9) : ∃ g, Euc ((qA0 [(c, d)] (qGz T)).map qB0) ((qA0 [(c', d')] (qQ6 T)).map qB0) g ∧ strip g = strip ((qA0 [(1, 1)] (qUt T)).map qB0) := by
  obtain ⟨r1, l1, v1⟩ := h.row (fun z => (z.1, z.2.1)) (fun _ => rfl) (fun y hy => (h.f y hy).2.1) c0 c9 d0 d9
  obtain ⟨r2, l2, v2⟩ := h.row (fun z => (z.1, z.2.2)) (fun _ => rfl) (fun y hy => (h.f y hy).2.2) c0' c9' d0' d9'
  obtain ⟨r3, l3, v3⟩ := h.row (fun z => (z.1, min z.2.1 z.2.2)) (fun _ => rfl) (fun y hy => by have := h.f y hy; show min _ _ ≤ 2; omega) (c := 1) (d := 1) (by decide) (by decide) (by decide) (by decide)
  obtain ⟨a, b, fa, fb, e1, e2, cp, _⟩ := qPm (T.map fun z => (plV z.1, z.2)) (fun z hz => by
    obtain ⟨y, _, rfl⟩ := List.mem_map.mp hz
    exact FdP.pl _) (List.pairwise_map.mpr h.p)
  rw [List.map_map, List.map_map] at e1 e2
  have w1 : vPs (T.map fun z => (z.1, z.2.1)) = T.map ((fun z : Ps × Nat × Nat => (z.1, z.2.1)) ∘ fun z => (plV z.1, z.2)) := by unfold vPs; rw [List.map_map]; rfl
  have w2 : vPs (T.map fun z => (z.1, z.2.2)) = T.map ((fun z : Ps × Nat × Nat => (z.1, z.2.2)) ∘ fun z => (plV z.1, z.2)) := by unfold vPs; rw [List.map_map]; rfl
  have w3 : vPs (T.map fun z => (z.1, min z.2.1 z.2.2)) = T.map ((fun z : Ps × Nat × Nat => (z.1, min z.2.1 z.2.2)) ∘ fun z => (plV z.1, z.2)) := by unfold vPs; rw [List.map_map]; rfl
  rw [← w1, ← w3] at e1
  rw [← w2, ← w3] at e2
  obtain ⟨m, hm⟩ := qRd (vPs (T.map fun z => (z.1, min z.2.1 z.2.2))) fun z hz => by
    unfold vPs at hz
    rw [List.map_map] at hz
    obtain ⟨y, hy, rfl⟩ := List.mem_map.mp hz
    exact ⟨_, (h.f y hy).1.m⟩
  have o1 : Ps.cst (qB0 (1, 1)) = 1 := by
    rw [show qB0 (1, 1) = 1 by decide]; rfl
  rw [o1] at v3
  have v3' : plV (qA0 [(1, 1)] (T.map fun z => (z.1, min z.2.1 z.2.2))) = prP (vPs (T.map fun z => (z.1, min z.2.1 z.2.2))) := by rw [v3]; grind
  have k1 : qB0 (c, d) ≠ 0 := by
    have := (qEb c0 c9 d0 d9).t
    exact this
  have k2 : qB0 (c', d') ≠ 0 := by
    have := (qEb c0' c9' d0' d9').t
    exact this
  refine qAfw (n := 364) (e := 34) (hs := qA0 [(1, 1)] (T.map fun z => (z.1, min z.2.1 z.2.2))) (a := Ps.cst (qB0 (c, d)) * a) (c := Ps.cst (qB0 (c', d')) * b) (u := 0) (v := 0) r1 r2 (by decide) (by decide) l1 l2 (by rw [v3']; exact hm) ?_ ?_ ((FdP.cst _).mul fa) ((FdP.cst _).mul fb) ?_
  · rw [v1, v3', e1]; grind
  · rw [v2, v3', e2]; grind
  · have s1 : CopF b (Ps.cst (qB0 (c, d)) * a) := CopF.mul (FdP.cst _) fa fb (CopF.cst k1) cp.symm
    exact CopF.mul (FdP.cst _) fb ((FdP.cst _).mul fa) (CopF.cst k2) s1.symm
end
/-! ### the law, step by step -/
section
variable {cs : List Str} {FD : FEnds} {T : List Tr}
abbrev A10 (v2 v3 v4 v5 v6 v7 v8 v9 v10 v11 v12 v13 v14 v15 : Option D) : Env := [some .exc, some .feed, v2, v3, v4, v5, v6, v7, v8, v9, v10, v11, v12, v13, v14, v15]
abbrev vR (ps : List (Int × Int)) : List Rat := ps.map qB0
theorem qT8 {hs : List (Int × Int)} (h : Row10 364 34 hs) (l : hs.length ≤ 1000) {P : D → Prop} {X : XP} {g : List Rat} (e : strip g = strip (vR hs)) (p : P (.bl true)) : qAv [.poly (strip g), .lst (prL hs)] P X := by
  refine ⟨_, _, 400, 400, rfl, e, ?_, by decide, fun r hr => ((h.sz r hr).mono (by decide)).q, by decide, l, p⟩
  rw [e]
  exact qWq (qAbn fun r hr => (h.sz r hr).mono (by decide))
theorem qX4 {v : List Rat} {b : Nat} {D : Int} (v0 : 0 < v.length) (tv : qAk v ≠ 0) (lv : v.length ≤ 100) (zv : CdF b D (coef v)) (hb : b ≤ 1000) : ∃ za zb zc q r, DivZ za zb zc [] v q r ∧ strip r = [] := by
  obtain ⟨q, r, hd, lq, lr, _⟩ := qOd (n := 0) v0 tv (qI5 (b := 0)) zv (by simp) (by omega) (by simp; omega) (by omega)
  refine ⟨_, _, _, q, r, hd, ?_⟩
  have : strip r = strip [] := qGt fun k => by
    have e := hd.eq k
    have q0 : q.length = 0 := by omega
    rw [q0] at e
    have : coef ([] : List Rat) k = 0 + coef r k := e
    rw [this, Rat.zero_add]
  rw [this]; rfl
theorem qWs (H : T10 T) {c d : Int} (c0 : c ≠ 0) (c9 : c.natAbs ≤ 9) (d0 : 0 < d) (d9 : d ≤ 9) : (∃ g, Euc (vR (qA0 [(c, d)] (qGz T))) [] g ∧ strip g = strip (vR (qA0 [(1, 1)] (qGz T)))) ∧ (∃ g, Euc [] (vR (qA0 [(c, d)] (qGz T))) g ∧ strip g = strip (vR (qA0 [(1, 1)] (qGz T)))) := by
  obtain ⟨r1, l1, v1⟩ := H.row (fun z => (z.1, z.2.1)) (fun _ => rfl) (fun y hy => (H.f y hy).2.1) c0 c9 d0 d9
  obtain ⟨r3, l3, v3⟩ := H.row (fun z => (z.1, z.2.1)) (fun _ => rfl) (fun y hy => (H.f y hy).2.1) (c := 1) (d := 1) (by decide) (by decide) (by decide) (by decide)
  obtain ⟨m, hm⟩ := qRd (vPs (T.map fun z => (z.1, z.2.1))) fun z hz => by
    unfold vPs at hz
    rw [List.map_map] at hz
    obtain ⟨y, hy, rfl⟩ := List.mem_map.mp hz
    exact ⟨_, (H.f y hy).1.m⟩
  have k1 : qB0 (c, d) ≠ 0 := (qEb c0 c9 d0 d9).t
  have o1 : Ps.cst (qB0 (1, 1)) = 1 := by rw [show qB0 (1, 1) = 1 by decide]; rfl
  rw [o1] at v3
  obtain ⟨ps, hps⟩ : ∃ ps, ps = qA0 [(c, d)] (qGz T) := ⟨_, rfl⟩
  obtain ⟨ws, hws⟩ : ∃ ws, ws = qA0 [(1, 1)] (qGz T) := ⟨_, rfl⟩
  rw [← hps, ← hws]
  replace r1 : Row10 364 34 ps := by rw [hps]; exact r1
  replace l1 : ps.length ≤ 15 := by rw [hps]; exact l1
  replace v1 : plV ps = Ps.cst (qB0 (c, d)) * prP (vPs (T.map fun z => (z.1, z.2.1))) := by rw [hps]; exact v1
  replace v3 : plV ws = prP (vPs (T.map fun z => (z.1, z.2.1))) := by
    have : plV ws = 1 * prP (vPs (T.map fun z => (z.1, z.2.1))) := by rw [hws]; exact v3
    rw [this]; grind
  rw [← v3] at v1 hm
  obtain ⟨D, zv⟩ := r1.cdf (by decide)
  have p0 : 0 < (vR ps).length := by rw [List.length_map]; exact r1.l
  have pl15 : (vR ps).length ≤ 15 := by rw [List.length_map]; exact l1
  have tp := r1.lead
  have okp : OkL (vR ps) := okc (by omega) zv (by decide)
  have lm := qD8 tp p0
  have em := qHa tp p0
  have tm := qC8 tp p0
  have l16 : (qCd (vR ps)).length ≤ 15 := by rw [lm]; exact pl15
  have m0 : 0 < (qCd (vR ps)).length := by rw [lm]; exact p0
  have ci := csti k1
  have mm : Mon ((qCd (vR ps)).length - 1) (pl (qCd (vR ps))) := ⟨(qGy _).mono (by omega), tm⟩
  have ck := csti tp
  have eqm : pl (qCd (vR ps)) = plV ws := by
    have e1 : pl (qCd (vR ps)) = plV ws * (Ps.cst (1 / qAk (vR ps)) * Ps.cst (qB0 (c, d))) := by
      rw [em, show pl (vR ps) = plV ps from rfl, v1]; grind
    refine qAai mm hm (S := Ps.cst (1 / qAk (vR ps)) * Ps.cst (qB0 (c, d))) (R := Ps.cst (1 / qB0 (c, d)) * Ps.cst (qAk (vR ps))) ((FdP.cst _).mul (FdP.cst _)) ((FdP.cst _).mul (FdP.cst _)) e1 ?_
    rw [e1]
    have : plV ws * (Ps.cst (1 / qAk (vR ps)) * Ps.cst (qB0 (c, d))) * (Ps.cst (1 / qB0 (c, d)) * Ps.cst (qAk (vR ps))) = plV ws * (Ps.cst (1 / qAk (vR ps)) * Ps.cst (qAk (vR ps))) * (Ps.cst (1 / qB0 (c, d)) * Ps.cst (qB0 (c, d))) := by grind
    rw [this, ci, ck]; grind
  have s1 : strip (qCd (vR ps)) = strip (vR ws) := qGt fun k => by
    show (pl (qCd (vR ps))).c k = (plV ws).c k
    rw [eqm]
  have tm1 : qAk (qCd (vR ps)) ≠ 0 := by rw [tm]; exact qGf
  have s2 : strip (qCd (qCd (vR ps))) = strip (vR ws) := by
    rw [← s1]
    refine qGt fun k => ?_
    rw [qDl tm1 m0, tm]
    grind
  obtain ⟨W, zw⟩ : ∃ W, CdF 364 W (coef (qCd (vR ps))) := by
    obtain ⟨W, hW⟩ := qPs zv (s := (vR ps).length - 1) tp
    exact ⟨W, hW.congr fun i => qDl tp p0 i⟩
  obtain ⟨za, zb, zc, q, r, hd, er⟩ := qX4 p0 tp (by omega) zv (by decide)
  refine ⟨⟨_, Euc.nil okp, s1⟩, ⟨qCd (qCd (vR ps)), Euc.step (qLx tp p0) hd okp (by rw [er]; exact okc (by decide) (qI5 (b := 0)) (by decide)) ?_, s2⟩⟩
  rw [er]
  exact Euc.nil (okc (by omega) zw (by decide))
theorem T10.swap (H : T10 T) (f : Tr → Nat × Nat) (hf : ∀ z, z ∈ T → (f z).1 ≤ 2 ∧ (f z).2 ≤ 2) : T10 (T.map fun z => (z.1, f z)) := by
  refine ⟨fun z hz => ?_, by rw [List.length_map]; exact H.l, ?_, ?_⟩
  · obtain ⟨y, hy, rfl⟩ := List.mem_map.mp hz
    exact ⟨(H.f y hy).1, hf y hy⟩
  · obtain ⟨z, S, rfl, hs⟩ := H.d
    refine ⟨_, _, rfl, fun y hy => ?_⟩
    obtain ⟨x, hx, rfl⟩ := List.mem_map.mp hy
    exact hs x hx
  · exact List.pairwise_map.mpr H.p
structure Q10 (T : List Tr) (ps qs : List (Int × Int)) : Prop where
  rp : Row10 364 34 ps
  lp : ps.length ≤ 15
  rq : Row10 364 34 qs
  lq : qs.length ≤ 15
  rh : Row10 364 34 (qA0 [(1, 1)] (qUt T))
  lh : (qA0 [(1, 1)] (qUt T)).length ≤ 15
  rw' : Row10 364 34 (qA0 [(1, 1)] (qGz T))
  lw : (qA0 [(1, 1)] (qGz T)).length ≤ 15
  g1 : ∃ g, Euc (vR ps) (vR qs) g ∧ strip g = strip (vR (qA0 [(1, 1)] (qUt T)))
  g2 : ∃ g, Euc (vR qs) (vR ps) g ∧ strip g = strip (vR (qA0 [(1, 1)] (qUt T)))
  g3 : ∃ g, Euc (vR ps) (vR ps) g ∧ strip g = strip (vR (qA0 [(1, 1)] (qGz T)))
  g4 : ∃ g, Euc (vR ps) [] g ∧ strip g = strip (vR (qA0 [(1, 1)] (qGz T)))
  g5 : ∃ g, Euc [] (vR ps) g ∧ strip g = strip (vR (qA0 [(1, 1)] (qGz T)))
theorem qAef (H : T10 T) {c d c' d' : Int} (c0 : c ≠ 0) (c9 : c.natAbs ≤ 9) (d0 : 0 < d) (d9 : d ≤ 9) (c0' : c' ≠ 0) (c9' : c'.natAbs ≤ 9) (d0' : 0 < d') (d9' : d' ≤ 9) : Q10 T (qA0 [(c, d)] (qGz T)) (qA0 [(c', d')] (qQ6 T)) := by
  obtain ⟨r1, l1, v1⟩ := H.row (fun z => (z.1, z.2.1)) (fun _ => rfl) (fun y hy => (H.f y hy).2.1) c0 c9 d0 d9
  obtain ⟨r2, l2, v2⟩ := H.row (fun z => (z.1, z.2.2)) (fun _ => rfl) (fun y hy => (H.f y hy).2.2) c0' c9' d0' d9'
  obtain ⟨r3, l3, v3⟩ := H.row (fun z => (z.1, min z.2.1 z.2.2)) (fun _ => rfl) (fun y hy => by have := H.f y hy; show min _ _ ≤ 2; omega) (c := 1) (d := 1) (by decide) (by decide) (by decide) (by decide)
  obtain ⟨r4, l4, v4⟩ := H.row (fun z => (z.1, z.2.1)) (fun _ => rfl) (fun y hy => (H.f y hy).2.1) (c := 1) (d := 1) (by decide) (by decide) (by decide) (by decide)
  have h2 := (H.swap (fun z => (z.2.2, z.2.1)) (fun z hz => ⟨(H.f z hz).2.2, (H.f z hz).2.1⟩)).gcd c0' c9' d0' d9' c0 c9 d0 d9
  have h3 := (H.swap (fun z => (z.2.1, z.2.1)) (fun z hz => ⟨(H.f z hz).2.1, (H.f z hz).2.1⟩)).gcd c0 c9 d0 d9 c0 c9 d0 d9
  have o := qWs H c0 c9 d0 d9
  have e1 : qGz (T.map fun z => (z.1, z.2.2, z.2.1)) = qQ6 T := by unfold qGz qQ6; rw [List.map_map]; rfl
  have e2 : qQ6 (T.map fun z => (z.1, z.2.2, z.2.1)) = qGz T := by unfold qGz qQ6; rw [List.map_map]; rfl
  have e3 : qUt (T.map fun z => (z.1, z.2.2, z.2.1)) = qUt T := by
    unfold qUt; rw [List.map_map]
    refine List.map_congr_left fun z _ => ?_
    show (z.1, min z.2.2 z.2.1) = (z.1, min z.2.1 z.2.2)
    rw [Nat.min_comm]
  have e4 : qGz (T.map fun z => (z.1, z.2.1, z.2.1)) = qGz T := by unfold qGz; rw [List.map_map]; rfl
  have e5 : qQ6 (T.map fun z => (z.1, z.2.1, z.2.1)) = qGz T := by unfold qGz qQ6; rw [List.map_map]; rfl
  have e6 : qUt (T.map fun z => (z.1, z.2.1, z.2.1)) = qGz T := by
    unfold qUt qGz; rw [List.map_map]
    refine List.map_congr_left fun z _ => ?_
    show (z.1, min z.2.1 z.2.1) = (z.1, z.2.1)
    rw [Nat.min_self]
  rw [e1, e2, e3] at h2
  rw [e4, e5, e6] at h3
  exact ⟨r1, l1, r2, l2, r3, l3, r4, l4, H.gcd c0 c9 d0 d9 c0' c9' d0' d9', h2, h3, o.1, o.2⟩
theorem qTh {ps : List (Int × Int)} (h : Row10 364 34 ps) (l : ps.length ≤ 15) {cs : List Str} {P : D → Prop} {X X' : XP} (p : P (.poly (vR ps))) : qCk [.lst (prL ps)] (fun d => qCc cs [d] P X) X' := by
  refine ⟨ps, 400, rfl, fun r hr => (h.sz r hr).mono (by decide), by decide, by omega, ?_⟩
  refine qHe (by rw [List.length_map]; omega) ?_
  rw [show strip (ps.map qB0) = ps.map qB0 from h.nrm]
  exact p
variable {v2 v3 v4 v5 v9 v14 v15 : Option D}
theorem tB {f : Bool → Prop} (h : f true) : toB f (.bl true) := h
theorem qAbh {P : D → Prop} {X : XP} (p : P (.bl true)) : qAv [.poly [], .lst []] P X := ⟨_, [], 1, 1, rfl, rfl, (fun _ h => nomatch h), by decide, (fun _ h => nomatch h), by decide, by decide, p⟩
theorem qAbl {P : D → Prop} {X : XP} (p : P (.poly [])) : qA8 [.poly [], .poly []] P X := ⟨[], [], qCd [], rfl, Euc.nil (okc (by decide) (qI5 (b := 0)) (by decide)), p⟩
theorem qV6 {ps : List (Int × Int)} (h : Row10 364 34 ps) (l : ps.length ≤ 15) {P : D → Prop} {X : XP} (p : P (.bl true)) : qAv [.poly (vR ps), .lst (prL ps)] P X := by
  have := qT8 h (by omega) (g := vR ps) (X := X) (P := P) rfl p
  rw [show strip (vR ps) = vR ps from h.nrm] at this
  exact this
theorem qK5 {a b : List Rat} {hs : List (Int × Int)} (h : Row10 364 34 hs) (l : hs.length ≤ 15) (G : ∃ g, Euc a b g ∧ strip g = strip (vR hs)) {P : D → Prop} {X X' : XP} (p : P (.bl true)) : qA8 [.poly a, .poly b] (fun d => qAv [d, .lst (prL hs)] P X) X' := by
  obtain ⟨g, he, e⟩ := G
  exact ⟨_, _, g, rfl, he, qT8 h (by omega) e p⟩
section
variable {ps qs : List (Int × Int)} (Q : Q10 T ps qs) (fin : ∀ v2 v3 v4 v5 v6 v7 v8 v9 v10 v11 v12 v13 v14 v15, FD.nx (A10 v2 v3 v4 v5 v6 v7 v8 v9 v10 v11 v12 v13 v14 v15))
include Q fin
theorem qAd2 : qLb cs FD (A10 v2 v3 v4 v5 (some (.lst (prL ps))) (some (.lst (prL qs))) (some (.lst (prL (qA0 [(1, 1)] (qUt T))))) v9 (some (.poly (vR ps))) (some (.poly (vR qs))) (some (.lst (prL (qA0 [(1, 1)] (qGz T))))) (some (.poly [])) v14 v15) := by
  simp_arith [qLb, qSk]
  refine qK5 Q.rw' Q.lw Q.g3 (tB ?_)
  rw [if_neg (by decide)]
  refine qAbl ⟨Nat.zero_le _, qAbh (tB ?_)⟩
  rw [if_neg (by decide)]
  simp_arith [qQb]
  refine qV6 Q.rp Q.lp (tB ?_)
  rw [if_neg (by decide)]
  refine qV6 Q.rq Q.lq (tB ?_)
  rw [if_neg (by decide)]
  exact fin _ _ _ _ _ _ _ _ _ _ _ _ _ _
theorem qAem (hf : ∀ z, z ∈ T → Fac10 z.1 ∧ z.2.1 ≤ 2) (l5 : T.length ≤ 5) {v13 : Option D} : qK3 cs FD (A10 v2 (some (.lst (qBv (fsT T)))) (some (.lst (qLy (esT T)))) v5 (some (.lst (prL ps))) (some (.lst (prL qs))) (some (.lst (prL (qA0 [(1, 1)] (qUt T))))) v9 (some (.poly (vR ps))) (some (.poly (vR qs))) (some (.lst [.lst [.int 1, .int 1]])) v13 v14 v15) := by
  simp_arith [qK3, qE7, qB3]
  have lT : (qBv (fsT T)).length = T.length := by unfold qBv fsT; rw [List.length_map, List.length_map]
  rw [lT]
  refine ⟨by omega, by omega, ?_⟩
  rw [show ((T.length : Nat) : Int).toNat = T.length from rfl]
  refine qWb (T := T) (row := [(1, 1)]) hf T [] _ _ rfl (qEb (by decide) (by decide) (by decide) (by decide)) (by omega) (by show 1 + 4 * T.length ≤ 100; omega) fun v9 v14 => ?_
  simp_arith [qPc]
  refine ⟨Nat.zero_le _, ?_⟩
  refine qHe (es := []) (by decide) ?_
  simp_arith [qQz]
  refine qK5 Q.rw' Q.lw Q.g4 (tB ?_)
  rw [if_neg (by decide)]
  refine qK5 Q.rw' Q.lw Q.g5 (tB ?_)
  rw [if_neg (by decide)]
  exact qAd2 Q fin
theorem qAf7 (hf : ∀ z, z ∈ T → Fac10 z.1 ∧ z.2.1 ≤ 2) (l5 : T.length ≤ 5) {v10 v11 v12 v13 : Option D} : qN5 cs FD (A10 v2 (some (.lst (qBv (fsT T)))) (some (.lst (qLy (esT T)))) (some (.lst (qLy (dsT T)))) (some (.lst (prL ps))) (some (.lst (prL qs))) (some (.lst [.lst [.int 1, .int 1]])) v9 v10 v11 v12 v13 v14 v15) := by
  simp_arith [qN5, qE7, qB3]
  have lT : (qBv (fsT T)).length = T.length := by unfold qBv fsT; rw [List.length_map, List.length_map]
  rw [lT]
  refine ⟨by omega, by omega, ?_⟩
  rw [show ((T.length : Nat) : Int).toNat = T.length from rfl]
  refine qW1 (T := T) (row := [(1, 1)]) hf T [] _ _ rfl (qEb (by decide) (by decide) (by decide) (by decide)) (by omega) (by show 1 + 4 * T.length ≤ 100; omega) fun v9 v14 => ?_
  simp_arith [qS6]
  refine qTh Q.rp Q.lp ?_
  simp_arith [qTy]
  refine qTh Q.rq Q.lq ?_
  simp_arith [qSu]
  refine qK5 Q.rh Q.lh Q.g1 (tB ?_)
  rw [if_neg (by decide)]
  refine qK5 Q.rh Q.lh Q.g2 (tB ?_)
  rw [if_neg (by decide)]
  simp_arith [qO8]
  refine ⟨Nat.le_of_lt (qAo (by decide)), Nat.le_of_lt (qAo (by decide)), ?_⟩
  exact qAem Q fin hf l5
end
theorem qAfn {v6 v7 v8 v10 v11 v12 v13 : Option D} (fin : ∀ v2 v3 v4 v5 v6 v7 v8 v9 v10 v11 v12 v13 v14 v15, FD.nx (A10 v2 v3 v4 v5 v6 v7 v8 v9 v10 v11 v12 v13 v14 v15)) : qJy cs FD (A10 v2 v3 v4 v5 v6 v7 v8 v9 v10 v11 v12 v13 v14 v15) := by
  simp_arith [qJy]
  refine ⟨rfl, fun b ts b0 b5 hl hp ha => ?_⟩
  have F : FL10 b ts := ⟨b0, b5, hl, hp, ha⟩
  have lf := F.len
  have ff := F.fac
  have fc := F.cop
  have fd : ∃ z S, qE5 b ts = z :: S ∧ ∀ y, y ∈ S → y.length = 2 := ⟨_, _, rfl, fun y hy => by
    obtain ⟨t, _, rfl⟩ := List.mem_map.mp hy
    rfl⟩
  generalize qE5 b ts = fs at lf ff fc fd
  simp_arith [qTl, fLc, qFz]
  refine qN8 (v := []) (ρ0 := []) fs [] (by simp; omega) (fun _ h => nomatch h) (fun es l1 h1 => ?_) _ _ _ _ _ _ _ _ _ _ _ _ _ _
  simp_arith [qTc, fLc, qFz]
  refine qN8 (v := []) (ρ0 := []) fs [] (by simp; omega) (fun _ h => nomatch h) (fun ds l2 h2 => ?_) _ _ _ _ _ _ _ _ _ _ _ _ _ _
  obtain ⟨T, rfl, rfl, rfl⟩ := qAdw fs es ds (by simpa using l1) (by simpa using l2)
  have lT : (qBv (fsT T)).length = T.length := by unfold qBv fsT; rw [List.length_map, List.length_map]
  have lT2 : (fsT T).length = T.length := by unfold fsT; rw [List.length_map]
  rw [lT2] at lf
  have H : T10 T := by
    refine ⟨fun z hz => ⟨ff _ (List.mem_map_of_mem hz), h1 _ (List.mem_map_of_mem hz), h2 _ (List.mem_map_of_mem hz)⟩, lf, ?_, ?_⟩
    · obtain ⟨z, S, e, hs⟩ := fd
      cases T with
      | nil => cases e
      | cons y T =>
        refine ⟨y, T, rfl, fun x hx => hs _ ?_⟩
        have : S = fsT T := by
          have : fsT (y :: T) = y.1 :: fsT T := rfl
          rw [this] at e
          exact (List.cons.inj e).2.symm
        rw [this]
        exact List.mem_map_of_mem hx
    · exact (List.pairwise_map (R := fun y z => CopF (plV y) (plV z)) (f := fun z : Tr => z.1)).mp fc
  simp_arith [qTx, qB3, fLc, qFz]
  rw [lT]
  refine ⟨by omega, by omega, ?_⟩
  rw [show ((T.length : Nat) : Int).toNat = T.length from rfl]
  refine qTk ?_ (by omega) T [] _ rfl
  refine ⟨qGz T, rfl, by unfold qGz; rw [List.length_map]; exact lf, fun z hz => ?_, fun c d c0 c9 d0 d9 => ?_⟩
  · obtain ⟨y, hy, rfl⟩ := List.mem_map.mp hz
    exact ⟨(H.f y hy).1, (H.f y hy).2.1⟩
  simp_arith [qTb, qB3, fLc, qFz]
  rw [lT]
  refine ⟨by omega, by omega, ?_⟩
  rw [show ((T.length : Nat) : Int).toNat = T.length from rfl]
  refine qSx ?_ (by omega) T [] _ rfl
  refine ⟨qQ6 T, rfl, by unfold qQ6; rw [List.length_map]; exact lf, fun z hz => ?_, fun c' d' c0' c9' d0' d9' => ?_⟩
  · obtain ⟨y, hy, rfl⟩ := List.mem_map.mp hz
    exact ⟨(H.f y hy).1, (H.f y hy).2.2⟩
  simp_arith [qSt]
  refine ⟨Nat.le_of_lt (qAo (by decide)), Nat.le_of_lt (qAo (by decide)), ?_⟩
  exact qAf7 (qAef H c0 c9 (by omega) d9 c0' c9' (by omega) d9') fin (fun z hz => ⟨(H.f z hz).1, (H.f z hz).2.1⟩) lf
theorem qTv (fin : ∀ v2 v3 v4 v5 v6 v7 v8 v9 v10 v11 v12 v13 v14 v15, FD.nx (A10 v2 v3 v4 v5 v6 v7 v8 v9 v10 v11 v12 v13 v14 v15)) :
    ∀ (items : List D) (v2 v3 v4 v5 v6 v7 v8 v9 v10 v11 v12 v13 v14 v15 : Option D), qB9 (qA1 2) (qJy cs) FD items (A10 v2 v3 v4 v5 v6 v7 v8 v9 v10 v11 v12 v13 v14 v15)
  | [], v2, v3, v4, v5, v6, v7, v8, v9, v10, v11, v12, v13, v14, v15 => fin _ _ _ _ _ _ _ _ _ _ _ _ _ _
  | d :: items, v2, v3, v4, v5, v6, v7, v8, v9, v10, v11, v12, v13, v14, v15 => by
    unfold qB9
    simp_arith []
    exact qAfn fun _ _ _ _ _ _ _ _ _ _ _ _ _ _ => qTv fin items _ _ _ _ _ _ _ _ _ _ _ _ _ _
end
theorem qAfm {cs : List Str} (hRatio : ("Ratio" : Str) ∈ cs) (hPoly : ("Poly" : Str) ∈ cs) : qIm cs (qHq yes X0) (some .exc :: some .feed :: List.replicate 14 none) := by
  simp_arith [qIm, qE7, qB3]
  refine qD5 (by decide) trivial fun d d0 d1 => ?_
  simp_arith []
  refine ⟨by omega, by omega, ?_⟩
  refine qTv (fun _ _ _ _ _ _ _ _ _ _ _ _ _ _ => ?_) _ _ _ _ _ _ _ _ _ _ _ _ _ _ _
  rfl
theorem qOu {K : PySem.W.Frag} {cs : List Str} (vs : List V) (H : Hp) (Q : VK) (E : XK) (h : (lift K qCo) vs H Q E) : vs.length = 2 := qBd (fun ds P X h => by unfold qCo at h; first | ((repeat (first | (obtain ⟨rfl, _⟩ := h; exact rfl) | obtain ⟨_, h⟩ := h)); done) | (split at h <;> first | rfl | exact h.elim)) h
theorem qPd {K : PySem.W.Frag} {cs : List Str} (T : KF K cs) (hRatio : ("Ratio" : Str) ∈ cs) (vs : List V) (H : Hp) (Q : VK) (E : XK) (h : (lift K qCo) vs H Q E) : qGl K cs { nx := fun _ H' => Q .non H', rt := Q } (start ["_law_feed_here", "_law_parts", "_law_row", "_law_part", "_law_k"] vs) H :=
  qDo rfl (qRs T hRatio) (qQ8 hRatio) vs H Q E h
theorem qJv {K : PySem.W.Frag} {cs : List Str} (vs : List V) (H : Hp) (Q : VK) (E : XK) (h : (lift K qFb) vs H Q E) : vs.length = 1 := qBd (fun ds P X h => by unfold qFb at h; first | ((repeat (first | (obtain ⟨rfl, _⟩ := h; exact rfl) | obtain ⟨_, h⟩ := h)); done) | (split at h <;> first | rfl | exact h.elim)) h
theorem qKi {K : PySem.W.Frag} {cs : List Str} (T : KF K cs) (hRatio : ("Ratio" : Str) ∈ cs) (vs : List V) (H : Hp) (Q : VK) (E : XK) (h : (lift K qFb) vs H Q E) : qD3 K cs { nx := fun _ H' => Q .non H', rt := Q } (start ["_law_feed_here", "_law_size", "_law_bottom", "_law_top", "_law_found", "_law_k"] vs) H :=
  qDo rfl (qL7 T hRatio) (qL4 hRatio) vs H Q E h
theorem qAd8 {K : PySem.W.Frag} {cs : List Str} (T : KF K cs) (hRatio : ("Ratio" : Str) ∈ cs) (hPoly : ("Poly" : Str) ∈ cs) (vs : List V) (H : Hp) (Q : VK) (E : XK) (h : qX1 K vs H Q E) : qZ2 K cs { nx := fun _ H' => Q .non H', rt := Q } (start ["_law_script", "_law_feed_here", "_law_k", "_law_factors_here", "_law_first", "_law_second", "_law_one", "_law_other", "_law_due", "_law_j", "_law_p", "_law_q", "_law_whole", "_law_zero", "_law_i", "_law_part"] vs) H :=
  qAe2 (n := 14) rfl (qUm T hRatio hPoly) (qAfm hRatio hPoly) vs H Q E h
end MR

set_option Elab.async false
set_option linter.all false
set_option maxRecDepth 100000
set_option maxHeartbeats 4000000
set_option exponentiation.threshold 20000
namespace MR
open PySem PySem.Spec PyProof.Rows L2
theorem qNn : FnScope ["value"] ["value"] (defScope qBa) := ⟨rfl, rfl, rfl, by decide +kernel, rfl, by decide +kernel, by decide +kernel⟩
theorem qE0 : FnScope ["one", "other"] ["one", "other"] (defScope qA2) := ⟨rfl, rfl, rfl, by decide +kernel, rfl, by decide +kernel, by decide +kernel⟩
theorem qFn : FnScope ["self", "top", "bottom", "divisor"] ["self", "top", "bottom"] (defScope qA9) := ⟨rfl, rfl, rfl, by decide +kernel, rfl, by decide +kernel, by decide +kernel⟩
theorem qQu : FnScope ["self", "other"] ["self", "other"] (defScope qBq) := ⟨rfl, rfl, rfl, by decide +kernel, rfl, by decide +kernel, by decide +kernel⟩
theorem qO7 : FnScope ["self", "other"] ["self", "other"] (defScope qBm) := ⟨rfl, rfl, rfl, by decide +kernel, rfl, by decide +kernel, by decide +kernel⟩
theorem qO9 : FnScope ["value"] ["value"] (defScope qBr) := ⟨rfl, rfl, rfl, by decide +kernel, rfl, by decide +kernel, by decide +kernel⟩
theorem qRo : FnScope ["value", "word"] ["value", "word"] (defScope qBz) := ⟨rfl, rfl, rfl, by decide +kernel, rfl, by decide +kernel, by decide +kernel⟩
theorem qH9 : FnScope ["self", "other", "divisor"] ["self", "other"] (defScope qBb) := ⟨rfl, rfl, rfl, by decide +kernel, rfl, by decide +kernel, by decide +kernel⟩
theorem qIf : FnScope ["_law_value"] ["_law_value"] (defScope qAp) := ⟨rfl, rfl, rfl, by decide +kernel, rfl, by decide +kernel, by decide +kernel⟩
theorem qGo : FnScope ["_law_script", "_law_cell"] ["_law_script"] (defScope qBe) := ⟨rfl, rfl, rfl, by decide +kernel, rfl, by decide +kernel, by decide +kernel⟩
theorem qCt : FnScope ["_law_feed_here", "_law_size", "_law_number_here", "_law_cell", "_law_digit"] ["_law_feed_here", "_law_size"] (defScope qBp) := ⟨rfl, rfl, rfl, by decide +kernel, rfl, by decide +kernel, by decide +kernel⟩
theorem qG4 : FnScope ["_law_feed_here", "_law_size", "_law_sign"] ["_law_feed_here", "_law_size"] (defScope qA3) := ⟨rfl, rfl, rfl, by decide +kernel, rfl, by decide +kernel, by decide +kernel⟩
theorem qU4 : FnScope ["_law_value", "_law_top", "_law_bottom"] ["_law_value", "_law_top", "_law_bottom"] (defScope qCa) := ⟨rfl, rfl, rfl, by decide +kernel, rfl, by decide +kernel, by decide +kernel⟩
theorem qRw : FnScope ["_law_a", "_law_b"] ["_law_a", "_law_b"] (defScope qB2) := ⟨rfl, rfl, rfl, by decide +kernel, rfl, by decide +kernel, by decide +kernel⟩
theorem qOm : FnScope ["_law_a", "_law_b"] ["_law_a", "_law_b"] (defScope qBc) := ⟨rfl, rfl, rfl, by decide +kernel, rfl, by decide +kernel, by decide +kernel⟩
theorem qEt : FnScope ["_law_pairs", "_law_pair"] ["_law_pairs"] (defScope qAw) := ⟨rfl, rfl, rfl, by decide +kernel, rfl, by decide +kernel, by decide +kernel⟩
theorem qCi : FnScope ["_law_one", "_law_other", "_law_row", "_law_i", "_law_j", "_law_k"] ["_law_one", "_law_other"] (defScope qAs) := ⟨rfl, rfl, rfl, by decide +kernel, rfl, by decide +kernel, by decide +kernel⟩
theorem qFe : FnScope ["_law_row", "_law_pair"] ["_law_row"] (defScope qA4) := ⟨rfl, rfl, rfl, by decide +kernel, rfl, by decide +kernel, by decide +kernel⟩
theorem qDq : FnScope ["row", "size"] ["row"] (defScope qAt) := ⟨rfl, rfl, rfl, by decide +kernel, rfl, by decide +kernel, by decide +kernel⟩
theorem qDn : FnScope ["self", "coefficients", "item", "kept"] ["self", "coefficients"] (defScope qBg) := ⟨rfl, rfl, rfl, by decide +kernel, rfl, by decide +kernel, by decide +kernel⟩
theorem qCh : FnScope ["_law_p", "_law_pairs", "_law_size", "_law_k"] ["_law_p", "_law_pairs"] (defScope qAz) := ⟨rfl, rfl, rfl, by decide +kernel, rfl, by decide +kernel, by decide +kernel⟩
theorem qB1 : FnScope ["one", "other", "divisor", "rest", "size", "quotient", "at", "times", "j", "c", "_"] ["one", "other"] (defScope qBj) := ⟨rfl, rfl, rfl, by decide +kernel, rfl, by decide +kernel, by decide +kernel⟩
theorem qDi : FnScope ["row", "kept", "c"] ["row"] (defScope qAx) := ⟨rfl, rfl, rfl, by decide +kernel, rfl, by decide +kernel, by decide +kernel⟩
theorem qE3 : FnScope ["p", "q", "one", "other", "rest"] ["p", "q"] (defScope qCn) := ⟨rfl, rfl, rfl, by decide +kernel, rfl, by decide +kernel, by decide +kernel⟩
theorem qCw : FnScope ["_law_feed_here", "_law_parts", "_law_row", "_law_part", "_law_k"] ["_law_feed_here", "_law_parts"] (defScope qBn) := ⟨rfl, rfl, rfl, by decide +kernel, rfl, by decide +kernel, by decide +kernel⟩
theorem qBs : FnScope ["_law_feed_here", "_law_size", "_law_bottom", "_law_top", "_law_found", "_law_k"] ["_law_feed_here"] (defScope qAy) := ⟨rfl, rfl, rfl, by decide +kernel, rfl, by decide +kernel, by decide +kernel⟩
theorem qB4 : FnScope ["_law_script", "_law_feed_here", "_law_k", "_law_factors_here", "_law_first", "_law_second", "_law_one", "_law_other", "_law_due", "_law_j", "_law_p", "_law_q", "_law_whole", "_law_zero", "_law_i", "_law_part"] ["_law_script"] (defScope qEj) := ⟨rfl, rfl, rfl, by decide +kernel, rfl, by decide +kernel, by decide +kernel⟩
structure Bd (K : PySem.W.Frag) (mg : Str → Option Value) : Prop where
  st : ∃ h : Heap, K.In h ∧ h.Ns mainGlobals mg
  says : SaysM bsL fnL K
section
variable {K : PySem.W.Frag} {mg : Str → Option Value}
theorem qAu (B : Bd K mg) : mg "isinstance" = none := let ⟨_, X, G⟩ := B.st; He.free_ok X G (B.says.fact 0 rfl)
theorem qKk (B : Bd K mg) : mg "int" = none := let ⟨_, X, G⟩ := B.st; He.free_ok X G (B.says.fact 1 rfl)
theorem qW7 (B : Bd K mg) : mg "bool" = none := let ⟨_, X, G⟩ := B.st; He.free_ok X G (B.says.fact 2 rfl)
theorem qV3 (B : Bd K mg) : mg "abs" = none := let ⟨_, X, G⟩ := B.st; He.free_ok X G (B.says.fact 3 rfl)
theorem qCz (B : Bd K mg) : mg "len" = none := let ⟨_, X, G⟩ := B.st; He.free_ok X G (B.says.fact 4 rfl)
theorem qAau (B : Bd K mg) : mg "max" = none := let ⟨_, X, G⟩ := B.st; He.free_ok X G (B.says.fact 5 rfl)
theorem qBx (B : Bd K mg) : mg "range" = none := let ⟨_, X, G⟩ := B.st; He.free_ok X G (B.says.fact 6 rfl)
theorem qKo (B : Bd K mg) : mg "list" = none := let ⟨_, X, G⟩ := B.st; He.free_ok X G (B.says.fact 7 rfl)
theorem qM1 (B : Bd K mg) : mg "tuple" = none := let ⟨_, X, G⟩ := B.st; He.free_ok X G (B.says.fact 8 rfl)
theorem qSb (B : Bd K mg) : mg "reversed" = none := let ⟨_, X, G⟩ := B.st; He.free_ok X G (B.says.fact 9 rfl)
theorem qNg (B : Bd K mg) : mg "is_integer" = some (.ref (He.ga K "is_integer")) := let ⟨_, X, G⟩ := B.st; He.glo_ok X G (B.says.fact 10 rfl)
theorem qMm (B : Bd K mg) : mg "common_part" = some (.ref (He.ga K "common_part")) := let ⟨_, X, G⟩ := B.st; He.glo_ok X G (B.says.fact 11 rfl)
theorem qGr (B : Bd K mg) : mg "NoRatio" = some (.ref (He.ga K "NoRatio")) := let ⟨_, X, G⟩ := B.st; He.glo_ok X G (B.says.fact 12 rfl)
theorem qEl (B : Bd K mg) : mg "Ratio" = some (.ref (He.ga K "Ratio")) := let ⟨_, X, G⟩ := B.st; He.glo_ok X G (B.says.fact 13 rfl)
theorem qQ1 (B : Bd K mg) : mg "is_number" = some (.ref (He.ga K "is_number")) := let ⟨_, X, G⟩ := B.st; He.glo_ok X G (B.says.fact 14 rfl)
theorem qRr (B : Bd K mg) : mg "NoNumber" = some (.ref (He.ga K "NoNumber")) := let ⟨_, X, G⟩ := B.st; He.glo_ok X G (B.says.fact 15 rfl)
theorem qRp (B : Bd K mg) : mg "as_ratio" = some (.ref (He.ga K "as_ratio")) := let ⟨_, X, G⟩ := B.st; He.glo_ok X G (B.says.fact 16 rfl)
theorem qHt (B : Bd K mg) : mg "_law_is_integer" = some (.ref (He.ga K "_law_is_integer")) := let ⟨_, X, G⟩ := B.st; He.glo_ok X G (B.says.fact 17 rfl)
theorem qQ0 (B : Bd K mg) : mg "_law_feed" = some (.ref (He.ga K "_law_feed")) := let ⟨_, X, G⟩ := B.st; He.glo_ok X G (B.says.fact 18 rfl)
theorem qQw (B : Bd K mg) : mg "_law_take" = some (.ref (He.ga K "_law_take")) := let ⟨_, X, G⟩ := B.st; He.glo_ok X G (B.says.fact 19 rfl)
theorem qMj (B : Bd K mg) : mg "_law_number" = some (.ref (He.ga K "_law_number")) := let ⟨_, X, G⟩ := B.st; He.glo_ok X G (B.says.fact 20 rfl)
theorem qU1 (B : Bd K mg) : mg "_law_is" = some (.ref (He.ga K "_law_is")) := let ⟨_, X, G⟩ := B.st; He.glo_ok X G (B.says.fact 21 rfl)
theorem qR3 (B : Bd K mg) : mg "_law_add" = some (.ref (He.ga K "_law_add")) := let ⟨_, X, G⟩ := B.st; He.glo_ok X G (B.says.fact 22 rfl)
theorem qOg (B : Bd K mg) : mg "_law_times" = some (.ref (He.ga K "_law_times")) := let ⟨_, X, G⟩ := B.st; He.glo_ok X G (B.says.fact 23 rfl)
theorem qL3 (B : Bd K mg) : mg "_law_ratios" = some (.ref (He.ga K "_law_ratios")) := let ⟨_, X, G⟩ := B.st; He.glo_ok X G (B.says.fact 24 rfl)
theorem qKy (B : Bd K mg) : mg "_law_product" = some (.ref (He.ga K "_law_product")) := let ⟨_, X, G⟩ := B.st; He.glo_ok X G (B.says.fact 25 rfl)
theorem qNi (B : Bd K mg) : mg "_law_minus" = some (.ref (He.ga K "_law_minus")) := let ⟨_, X, G⟩ := B.st; He.glo_ok X G (B.says.fact 26 rfl)
theorem qJp (B : Bd K mg) : mg "without_zeros" = some (.ref (He.ga K "without_zeros")) := let ⟨_, X, G⟩ := B.st; He.glo_ok X G (B.says.fact 27 rfl)
theorem qPo (B : Bd K mg) : mg "NoPoly" = some (.ref (He.ga K "NoPoly")) := let ⟨_, X, G⟩ := B.st; He.glo_ok X G (B.says.fact 28 rfl)
theorem qV7 (B : Bd K mg) : mg "Poly" = some (.ref (He.ga K "Poly")) := let ⟨_, X, G⟩ := B.st; He.glo_ok X G (B.says.fact 29 rfl)
theorem qLh (B : Bd K mg) : mg "_law_poly_is" = some (.ref (He.ga K "_law_poly_is")) := let ⟨_, X, G⟩ := B.st; He.glo_ok X G (B.says.fact 30 rfl)
theorem qQc (B : Bd K mg) : mg "NoDivisor" = some (.ref (He.ga K "NoDivisor")) := let ⟨_, X, G⟩ := B.st; He.glo_ok X G (B.says.fact 31 rfl)
theorem qUz (B : Bd K mg) : mg "divided" = some (.ref (He.ga K "divided")) := let ⟨_, X, G⟩ := B.st; He.glo_ok X G (B.says.fact 32 rfl)
theorem qOl (B : Bd K mg) : mg "made_monic" = some (.ref (He.ga K "made_monic")) := let ⟨_, X, G⟩ := B.st; He.glo_ok X G (B.says.fact 33 rfl)
theorem qQd (B : Bd K mg) : mg "common" = some (.ref (He.ga K "common")) := let ⟨_, X, G⟩ := B.st; He.glo_ok X G (B.says.fact 34 rfl)
theorem qPn (B : Bd K mg) : mg "_law_poly" = some (.ref (He.ga K "_law_poly")) := let ⟨_, X, G⟩ := B.st; He.glo_ok X G (B.says.fact 35 rfl)
theorem qK8 (B : Bd K mg) : mg "_law_factors" = some (.ref (He.ga K "_law_factors")) := let ⟨_, X, G⟩ := B.st; He.glo_ok X G (B.says.fact 36 rfl)
theorem qAd5 (B : Bd K mg) : mg "law" = some (.ref (He.ga K "law")) := let ⟨_, X, G⟩ := B.st; He.glo_ok X G (B.says.fact 37 rfl)
theorem qFh (B : Bd K mg) : SupC PySem.Challenge.pw_momentrows_k10_common_factor K (He.ga K "NoRatio") (He.ma K (He.ga K "NoRatio") "__init__") "word" := qVm (B.says.fact 38 rfl)
theorem qP7 (B : Bd K mg) : SupC PySem.Challenge.pw_momentrows_k10_common_factor K (He.ga K "NoNumber") (He.ma K (He.ga K "NoNumber") "__init__") "word" := qVm (B.says.fact 39 rfl)
theorem qPu (B : Bd K mg) : Ex0 K (He.ga K "NoPoly") := qXm (B.says.fact 40 rfl)
theorem qP4 (B : Bd K mg) : Ex0 K (He.ga K "NoDivisor") := qXm (B.says.fact 41 rfl)
theorem KFB (B : Bd K mg) : KF K csL := qAeu (B.says.fact 42 rfl)
theorem see (B : Bd K mg) : SeeC K := qAcr (B.says.fact 43 rfl)
theorem qQl (B : Bd K mg) : OpC K (He.ga K "Ratio") "sub" := qAan (B.says.fact 44 rfl)
theorem qP5 (B : Bd K mg) : OpC K (He.ga K "Ratio") "mul" := qAan (B.says.fact 45 rfl)
theorem RT (B : Bd K mg) : RTxt K := ⟨(KFB B).own _ (by decide), ((KFB B).fld "Ratio" (by decide) "top" (by decide)).na, ((KFB B).fld "Ratio" (by decide) "bottom" (by decide)).na⟩
end
section
variable {w : World} {K : PySem.W.Frag} {mg : Str → Option Value} {base : Heap}
theorem qN6 (B : Bd K mg) : ∃ fd, FunD K "is_integer" "is_integer" (defArgs qBa) (defBody qBa) (defScope qBa) [] [] (He.ga K "is_integer") fd ∧ FnOk PySem.Challenge.pw_momentrows_k10_common_factor w K mg base (CXX PySem.Challenge.pw_momentrows_k10_common_factor w) 1 (He.ga K "is_integer") fd ["value"] (qEy K) := by
  obtain ⟨fd, F0⟩ := B.says.def_ 0 (d := qHx) rfl
  have F : FunD K "is_integer" "is_integer" (defArgs qBa) (defBody qBa) (defScope qBa) [] [] (He.ga K "is_integer") fd := F0
  refine ⟨fd, F, F.ok qNn (fun vs H Q E h => ?_) (fun cdv A outer s H vs Q E hr h => ⟨qJg K, ?_, qKr vs H Q E h⟩)⟩
  · first | (obtain ⟨_, rfl, _⟩ := h; rfl) | (obtain ⟨_, _, rfl, _⟩ := h; rfl) | (obtain ⟨_, _, _, rfl, _⟩ := h; rfl) | (obtain ⟨_, _, _, _, rfl, _⟩ := h; rfl) | (obtain ⟨_, _, _, _, _, rfl, _⟩ := h; rfl) | (obtain ⟨_, _, _, _, _, _, rfl, _⟩ := h; rfl) | (obtain ⟨_, _, _, _, _, _, _, rfl, _⟩ := h; rfl) | (obtain ⟨_, _, _, _, _, _, _, _, rfl, _⟩ := h; rfl) | (obtain ⟨_, _, _, _, _, _, _, _, _, rfl, _⟩ := h; rfl) | (obtain ⟨_, _, _, _, _, _, _, _, _, _, rfl, _⟩ := h; rfl) | (obtain ⟨_, _, _, _, _, _, _, _, _, _, _, rfl, _⟩ := h; rfl) | (obtain ⟨_, _, _, _, _, _, _, _, _, _, _, _, rfl, _⟩ := h; rfl)
  · exact (pss_one (ps_ret (pe_and (pe_callB call_isi (by rfl) (qAu B) (by decide +kernel) (pa_cons (pv 0) (pa_cons (pe_bltn (v := .ty "int") (by rfl) (qKk B) (by decide +kernel) rfl) pa_nil))) (pe_one (pe_not (pe_callB call_isi (by rfl) (qAu B) (by decide +kernel) (pa_cons (pv 0) (pa_cons (pe_bltn (v := .ty "bool") (by rfl) (qW7 B) (by decide +kernel) rfl) pa_nil))))))))
theorem qCx (B : Bd K mg) : qEh PySem.Challenge.pw_momentrows_k10_common_factor w K mg base 1 "is_integer" [] (qEy K) := by
  obtain ⟨fd, F, G⟩ := qN6 (w := w) (base := base) B
  exact ⟨_, fd, ["value"], [], qNg B, F.kp, G, F.bindsN fun _ _ _ _ _ _ us hl => match us, hl with | [_], _ => rfl, .nil⟩
theorem qL2 (B : Bd K mg) : ∃ fd, FunD K "common_part" "common_part" (defArgs qA2) (defBody qA2) (defScope qA2) [] [] (He.ga K "common_part") fd ∧ FnOk PySem.Challenge.pw_momentrows_k10_common_factor w K mg base (CXX PySem.Challenge.pw_momentrows_k10_common_factor w) 1 (He.ga K "common_part") fd ["one", "other"] qYb := by
  obtain ⟨fd, F0⟩ := B.says.def_ 1 (d := qG1) rfl
  have F : FunD K "common_part" "common_part" (defArgs qA2) (defBody qA2) (defScope qA2) [] [] (He.ga K "common_part") fd := F0
  refine ⟨fd, F, F.ok qE0 (fun vs H Q E h => ?_) (fun cdv A outer s H vs Q E hr h => ⟨qH0 K, ?_, qJq vs H Q E h⟩)⟩
  · first | (obtain ⟨_, rfl, _⟩ := h; rfl) | (obtain ⟨_, _, rfl, _⟩ := h; rfl) | (obtain ⟨_, _, _, rfl, _⟩ := h; rfl) | (obtain ⟨_, _, _, _, rfl, _⟩ := h; rfl) | (obtain ⟨_, _, _, _, _, rfl, _⟩ := h; rfl) | (obtain ⟨_, _, _, _, _, _, rfl, _⟩ := h; rfl) | (obtain ⟨_, _, _, _, _, _, _, rfl, _⟩ := h; rfl) | (obtain ⟨_, _, _, _, _, _, _, _, rfl, _⟩ := h; rfl) | (obtain ⟨_, _, _, _, _, _, _, _, _, rfl, _⟩ := h; rfl) | (obtain ⟨_, _, _, _, _, _, _, _, _, _, rfl, _⟩ := h; rfl) | (obtain ⟨_, _, _, _, _, _, _, _, _, _, _, rfl, _⟩ := h; rfl) | (obtain ⟨_, _, _, _, _, _, _, _, _, _, _, _, rfl, _⟩ := h; rfl)
  · exact (pss_cons (ps_par (by rfl) qE0.nd rfl rfl (by decide) rfl rfl (pa_cons (pe_callB call_abs (by rfl) (qV3 B) (by decide +kernel) (pa_cons (pv 0) pa_nil)) (pa_cons (pe_callB call_abs (by rfl) (qV3 B) (by decide +kernel) (pa_cons (pv 1) pa_nil)) pa_nil)) (by rfl))
  (pss_cons (ps_while (passes_of rfl) (pt_cmpR op_gt (pv 1) pe_int (nomark _)) (pss_one (ps_par (by rfl) qE0.nd rfl rfl (by decide) rfl rfl (pa_cons (pv 1) (pa_cons (pe_op op_modN (pv 0) (pv 1)) pa_nil)) (by rfl))))
  (pss_one (ps_ret (pv 0)))))
theorem qOr (B : Bd K mg) : qEh PySem.Challenge.pw_momentrows_k10_common_factor w K mg base 1 "common_part" [] qYb := by
  obtain ⟨fd, F, G⟩ := qL2 (w := w) (base := base) B
  exact ⟨_, fd, ["one", "other"], [], qMm B, F.kp, G, F.bindsN fun _ _ _ _ _ _ us hl => match us, hl with | [_, _], _ => rfl, .nil⟩
theorem qIc (B : Bd K mg) : ∃ fd, FunD K "_law_is_integer" "_law_is_integer" (defArgs qAp) (defBody qAp) (defScope qAp) [] [] (He.ga K "_law_is_integer") fd ∧ FnOk PySem.Challenge.pw_momentrows_k10_common_factor w K mg base (CXX PySem.Challenge.pw_momentrows_k10_common_factor w) 1 (He.ga K "_law_is_integer") fd ["_law_value"] (lift K (qDa csL)) := by
  obtain ⟨fd, F0⟩ := B.says.def_ 10 (d := qEp) rfl
  have F : FunD K "_law_is_integer" "_law_is_integer" (defArgs qAp) (defBody qAp) (defScope qAp) [] [] (He.ga K "_law_is_integer") fd := F0
  refine ⟨fd, F, F.ok qIf (fun vs H Q E h => ?_) (fun cdv A outer s H vs Q E hr h => ⟨qC5 K csL, ?_, qIj (KFB B) (by decide) vs H Q E h⟩)⟩
  · exact qHn (cs := csL) _ _ _ _ h
  · exact (pss_one (ps_ret (pe_and (pe_callB call_isi (by rfl) (qAu B) (by decide +kernel) (pa_cons (pv 0) (pa_cons (pe_bltn (v := .ty "int") (by rfl) (qKk B) (by decide +kernel) rfl) pa_nil))) (pe_one (pe_not (pe_callB call_isi (by rfl) (qAu B) (by decide +kernel) (pa_cons (pv 0) (pa_cons (pe_bltn (v := .ty "bool") (by rfl) (qW7 B) (by decide +kernel) rfl) pa_nil))))))))
theorem qDe (B : Bd K mg) : qEh PySem.Challenge.pw_momentrows_k10_common_factor w K mg base 1 "_law_is_integer" [] (lift K (qDa csL)) := by
  obtain ⟨fd, F, G⟩ := qIc (w := w) (base := base) B
  exact ⟨_, fd, ["_law_value"], [], qHt B, F.kp, G, F.bindsN fun _ _ _ _ _ _ us hl => match us, hl with | [_], _ => rfl, .nil⟩
theorem qQx (B : Bd K mg) : ∃ fd, FunD K "_law_feed" "_law_feed" (defArgs qBe) (defBody qBe) (defScope qBe) [] [] (He.ga K "_law_feed") fd ∧ FnOk PySem.Challenge.pw_momentrows_k10_common_factor w K mg base (CXX PySem.Challenge.pw_momentrows_k10_common_factor w) 1 (He.ga K "_law_feed") fd ["_law_script"] (qIy K) := by
  obtain ⟨fd, F0⟩ := B.says.def_ 11 (d := qJk) rfl
  have F : FunD K "_law_feed" "_law_feed" (defArgs qBe) (defBody qBe) (defScope qBe) [] [] (He.ga K "_law_feed") fd := F0
  refine ⟨fd, F, F.ok qGo (fun vs H Q E h => ?_) (fun cdv A outer s H vs Q E hr h => ⟨qK2 K, ?_, qVa vs H Q E h⟩)⟩
  · first | (obtain ⟨_, rfl, _⟩ := h; rfl) | (obtain ⟨_, _, rfl, _⟩ := h; rfl) | (obtain ⟨_, _, _, rfl, _⟩ := h; rfl) | (obtain ⟨_, _, _, _, rfl, _⟩ := h; rfl) | (obtain ⟨_, _, _, _, _, rfl, _⟩ := h; rfl) | (obtain ⟨_, _, _, _, _, _, rfl, _⟩ := h; rfl) | (obtain ⟨_, _, _, _, _, _, _, rfl, _⟩ := h; rfl) | (obtain ⟨_, _, _, _, _, _, _, _, rfl, _⟩ := h; rfl) | (obtain ⟨_, _, _, _, _, _, _, _, _, rfl, _⟩ := h; rfl) | (obtain ⟨_, _, _, _, _, _, _, _, _, _, rfl, _⟩ := h; rfl) | (obtain ⟨_, _, _, _, _, _, _, _, _, _, _, rfl, _⟩ := h; rfl) | (obtain ⟨_, _, _, _, _, _, _, _, _, _, _, _, rfl, _⟩ := h; rfl)
  · exact (pss_one (ps_ret (pe_lst (pa_cons (pe_lc (own := [("_law_cell", 1)]) (g := (gName 1)) (tt := tYes) rfl qGo.nd (pi_list (pe_slice sl_list (pv 0) po_none (po_some pe_int))) (blkOk_by (N := ["_law_script", "_law_cell"]) (sc := defScope qBe) (own := [("_law_cell", 1)]) (by decide +kernel)) (fun _ _ _ _ _ => pg_name (i := 1) qGo.nd rfl (Or.inl rfl)) (fun _ _ _ _ _ => pts_nil) (fun _ _ _ _ _ => (pe_callB call_abs (by rfl) (qV3 B) (by decide +kernel) (pa_cons (pe_callTy call_int1 (by rfl) (qKk B) (by decide +kernel) (pa_cons (pv 1) pa_nil)) pa_nil)))) (pa_cons pe_int (pa_cons pe_int (pa_cons pe_int (pa_cons pe_int (pa_cons pe_int pa_nil)))))))))
theorem qRt (B : Bd K mg) : qEh PySem.Challenge.pw_momentrows_k10_common_factor w K mg base 1 "_law_feed" [] (qIy K) := by
  obtain ⟨fd, F, G⟩ := qQx (w := w) (base := base) B
  exact ⟨_, fd, ["_law_script"], [], qQ0 B, F.kp, G, F.bindsN fun _ _ _ _ _ _ us hl => match us, hl with | [_], _ => rfl, .nil⟩
theorem qSr (B : Bd K mg) : ∃ fd, FunD K "_law_add" "_law_add" (defArgs qB2) (defBody qB2) (defScope qB2) [] [] (He.ga K "_law_add") fd ∧ FnOk PySem.Challenge.pw_momentrows_k10_common_factor w K mg base (CXX PySem.Challenge.pw_momentrows_k10_common_factor w) 1 (He.ga K "_law_add") fd ["_law_a", "_law_b"] (lift K qOn) := by
  obtain ⟨fd, F0⟩ := B.says.def_ 15 (d := qKs) rfl
  have F : FunD K "_law_add" "_law_add" (defArgs qB2) (defBody qB2) (defScope qB2) [] [] (He.ga K "_law_add") fd := F0
  refine ⟨fd, F, F.ok qRw (fun vs H Q E h => ?_) (fun cdv A outer s H vs Q E hr h => ⟨qHf K csL, ?_, qSs (KFB B) (by decide) vs H Q E h⟩)⟩
  · exact qO2 (cs := csL) _ _ _ _ h
  · exact (pss_cons (ps_if (pt_cmpR op_eq (pe_ix ix_list (pv 0) pe_int (fun _ _ => rfl)) pe_int (nomark _)) (pss_one (ps_ret (pv 1))) pss_nil)
  (pss_cons (ps_if (pt_cmpR op_eq (pe_ix ix_list (pv 1) pe_int (fun _ _ => rfl)) pe_int (nomark _)) (pss_one (ps_ret (pv 0))) pss_nil)
  (pss_cons (ps_if (pt_cmpR op_eq (pe_ix ix_list (pv 0) pe_int (fun _ _ => rfl)) (pe_ix ix_list (pv 1) pe_int (fun _ _ => rfl)) (nomark _)) (pss_one (ps_ret (pe_lst (pa_cons (pe_op op_add (pe_ix ix_list (pv 0) pe_int (fun _ _ => rfl)) (pe_ix ix_list (pv 1) pe_int (fun _ _ => rfl))) (pa_cons (pe_ix ix_list (pv 0) pe_int (fun _ _ => rfl)) pa_nil))))) pss_nil)
  (pss_one (ps_ret (pe_lst (pa_cons (pe_op op_add (pe_op qBw (pe_ix ix_list (pv 0) pe_int (fun _ _ => rfl)) (pe_ix ix_list (pv 1) pe_int (fun _ _ => rfl))) (pe_op qBw (pe_ix ix_list (pv 1) pe_int (fun _ _ => rfl)) (pe_ix ix_list (pv 0) pe_int (fun _ _ => rfl)))) (pa_cons (pe_op qBw (pe_ix ix_list (pv 0) pe_int (fun _ _ => rfl)) (pe_ix ix_list (pv 1) pe_int (fun _ _ => rfl))) pa_nil))))))))
theorem qUk (B : Bd K mg) : qEh PySem.Challenge.pw_momentrows_k10_common_factor w K mg base 1 "_law_add" [] (lift K qOn) := by
  obtain ⟨fd, F, G⟩ := qSr (w := w) (base := base) B
  exact ⟨_, fd, ["_law_a", "_law_b"], [], qR3 B, F.kp, G, F.bindsN fun _ _ _ _ _ _ us hl => match us, hl with | [_, _], _ => rfl, .nil⟩
theorem qNm (B : Bd K mg) : ∃ fd, FunD K "_law_times" "_law_times" (defArgs qBc) (defBody qBc) (defScope qBc) [] [] (He.ga K "_law_times") fd ∧ FnOk PySem.Challenge.pw_momentrows_k10_common_factor w K mg base (CXX PySem.Challenge.pw_momentrows_k10_common_factor w) 1 (He.ga K "_law_times") fd ["_law_a", "_law_b"] (lift K qFm) := by
  obtain ⟨fd, F0⟩ := B.says.def_ 16 (d := qIg) rfl
  have F : FunD K "_law_times" "_law_times" (defArgs qBc) (defBody qBc) (defScope qBc) [] [] (He.ga K "_law_times") fd := F0
  refine ⟨fd, F, F.ok qOm (fun vs H Q E h => ?_) (fun cdv A outer s H vs Q E hr h => ⟨qFo K csL, ?_, qN0 (KFB B) (by decide) vs H Q E h⟩)⟩
  · exact qMb (cs := csL) _ _ _ _ h
  · exact (pss_one (ps_ret (pe_lst (pa_cons (pe_op qBw (pe_ix ix_list (pv 0) pe_int (fun _ _ => rfl)) (pe_ix ix_list (pv 1) pe_int (fun _ _ => rfl))) (pa_cons (pe_op qBw (pe_ix ix_list (pv 0) pe_int (fun _ _ => rfl)) (pe_ix ix_list (pv 1) pe_int (fun _ _ => rfl))) pa_nil)))))
theorem qPr (B : Bd K mg) : qEh PySem.Challenge.pw_momentrows_k10_common_factor w K mg base 1 "_law_times" [] (lift K qFm) := by
  obtain ⟨fd, F, G⟩ := qNm (w := w) (base := base) B
  exact ⟨_, fd, ["_law_a", "_law_b"], [], qOg B, F.kp, G, F.bindsN fun _ _ _ _ _ _ us hl => match us, hl with | [_, _], _ => rfl, .nil⟩
theorem qM4 (B : Bd K mg) : ∃ fd, FunD K "_law_minus" "_law_minus" (defArgs qA4) (defBody qA4) (defScope qA4) [] [] (He.ga K "_law_minus") fd ∧ FnOk PySem.Challenge.pw_momentrows_k10_common_factor w K mg base (CXX PySem.Challenge.pw_momentrows_k10_common_factor w) 1 (He.ga K "_law_minus") fd ["_law_row"] (lift K qGh) := by
  obtain ⟨fd, F0⟩ := B.says.def_ 19 (d := qH4) rfl
  have F : FunD K "_law_minus" "_law_minus" (defArgs qA4) (defBody qA4) (defScope qA4) [] [] (He.ga K "_law_minus") fd := F0
  refine ⟨fd, F, F.ok qFe (fun vs H Q E h => ?_) (fun cdv A outer s H vs Q E hr h => ⟨qFr K csL, ?_, qNs (KFB B) (by decide) vs H Q E h⟩)⟩
  · exact qMi (cs := csL) _ _ _ _ h
  · exact (pss_one (ps_ret (pe_lc (own := [("_law_pair", 1)]) (g := (gName 1)) (tt := tYes) rfl qFe.nd (pi_list (pv 0)) (blkOk_by (N := ["_law_row", "_law_pair"]) (sc := defScope qA4) (own := [("_law_pair", 1)]) (by decide +kernel)) (fun _ _ _ _ _ => pg_name (i := 1) qFe.nd rfl (Or.inl rfl)) (fun _ _ _ _ _ => pts_nil) (fun _ _ _ _ _ => (pe_lst (pa_cons (pe_un un_neg (pe_ix ix_list (pv 1) pe_int (fun _ _ => rfl))) (pa_cons (pe_ix ix_list (pv 1) pe_int (fun _ _ => rfl)) pa_nil)))))))
theorem qP3 (B : Bd K mg) : qEh PySem.Challenge.pw_momentrows_k10_common_factor w K mg base 1 "_law_minus" [] (lift K qGh) := by
  obtain ⟨fd, F, G⟩ := qM4 (w := w) (base := base) B
  exact ⟨_, fd, ["_law_row"], [], qNi B, F.kp, G, F.bindsN fun _ _ _ _ _ _ us hl => match us, hl with | [_], _ => rfl, .nil⟩
theorem qJr (B : Bd K mg) : ∃ fd, FunD K "without_zeros" "without_zeros" (defArgs qAt) (defBody qAt) (defScope qAt) [] [] (He.ga K "without_zeros") fd ∧ FnOk PySem.Challenge.pw_momentrows_k10_common_factor w K mg base (CXX PySem.Challenge.pw_momentrows_k10_common_factor w) 1 (He.ga K "without_zeros") fd ["row"] (lift K qEf) := by
  obtain ⟨fd, F0⟩ := B.says.def_ 20 (d := qFv) rfl
  have F : FunD K "without_zeros" "without_zeros" (defArgs qAt) (defBody qAt) (defScope qAt) [] [] (He.ga K "without_zeros") fd := F0
  refine ⟨fd, F, F.ok qDq (fun vs H Q E h => ?_) (fun cdv A outer s H vs Q E hr h => ⟨qDt K csL, ?_, qJn (KFB B) (by decide) (by decide) vs H Q E h⟩)⟩
  · exact qIt (cs := csL) _ _ _ _ h
  · exact (pss_cons (ps_set (i := 1) qDq.nd rfl (Or.inl rfl) (pe_callB call_len (by rfl) (qCz B) (by decide +kernel) (pa_cons (pv 0) pa_nil)))
  (pss_cons (ps_while (passes_of rfl) (PW.pt (pw_and (pt_cmpR op_gt (pv 1) pe_int (nomark _)) (pw_and1 (pt_cmpR op_eq (pe_fld (pe_ix ix_list (pv 0) (pe_op op_sub (pv 1) pe_int) (fun _ _ => rfl)) rfl) pe_int (nomark _))))) (pss_one (ps_set (i := 1) qDq.nd rfl (Or.inl rfl) (pe_op op_sub (pv 1) pe_int))))
  (pss_one (ps_ret (pe_slice sl_list (pv 0) po_none (po_some (pv 1)))))))
theorem qC6 (B : Bd K mg) : qEh PySem.Challenge.pw_momentrows_k10_common_factor w K mg base 1 "without_zeros" [] (lift K qEf) := by
  obtain ⟨fd, F, G⟩ := qJr (w := w) (base := base) B
  exact ⟨_, fd, ["row"], [], qJp B, F.kp, G, F.bindsN fun _ _ _ _ _ _ us hl => match us, hl with | [_], _ => rfl, .nil⟩
theorem qQh (B : Bd K mg) : ∃ fd, FunD K "is_number" "is_number" (defArgs qBr) (defBody qBr) (defScope qBr) [] [] (He.ga K "is_number") fd ∧ FnOk PySem.Challenge.pw_momentrows_k10_common_factor w K mg base (CXX PySem.Challenge.pw_momentrows_k10_common_factor w) 3 (He.ga K "is_number") fd ["value"] (lift K (qG2 csL)) := by
  obtain ⟨fd, F0⟩ := B.says.def_ 7 (d := qJj) rfl
  have F : FunD K "is_number" "is_number" (defArgs qBr) (defBody qBr) (defScope qBr) [] [] (He.ga K "is_number") fd := F0
  refine ⟨fd, F, F.ok qO9 (fun vs H Q E h => ?_) (fun cdv A outer s H vs Q E hr h => ⟨qF7 K csL, ?_, qQa (KFB B) (by decide) vs H Q E h⟩)⟩
  · exact qNj (cs := csL) _ _ _ _ h
  · exact (pss_one (ps_ret (pe_or (pe_callB call_isi (by rfl) (qAu B) (by decide +kernel) (pa_cons (pv 0) (pa_cons (pe_glob (v := .ref (He.ga K "Ratio")) (by rfl) (qEl B) rfl) pa_nil))) (pe_one (qAf (dvs := []) (qCx B) (hr.mono (by decide)) rfl passL (pa_cons (pv 0) pa_nil))))))
theorem qSd (B : Bd K mg) : qEh PySem.Challenge.pw_momentrows_k10_common_factor w K mg base 3 "is_number" [] (lift K (qG2 csL)) := by
  obtain ⟨fd, F, G⟩ := qQh (w := w) (base := base) B
  exact ⟨_, fd, ["value"], [], qQ1 B, F.kp, G, F.bindsN fun _ _ _ _ _ _ us hl => match us, hl with | [_], _ => rfl, .nil⟩
theorem qUq (B : Bd K mg) : ∃ fd, FunD K "_law_is" "_law_is" (defArgs qCa) (defBody qCa) (defScope qCa) [] [] (He.ga K "_law_is") fd ∧ FnOk PySem.Challenge.pw_momentrows_k10_common_factor w K mg base (CXX PySem.Challenge.pw_momentrows_k10_common_factor w) 3 (He.ga K "_law_is") fd ["_law_value", "_law_top", "_law_bottom"] (lift K fIs) := by
  obtain ⟨fd, F0⟩ := B.says.def_ 14 (d := qMo) rfl
  have F : FunD K "_law_is" "_law_is" (defArgs qCa) (defBody qCa) (defScope qCa) [] [] (He.ga K "_law_is") fd := F0
  refine ⟨fd, F, F.ok qU4 (fun vs H Q E h => ?_) (fun cdv A outer s H vs Q E hr h => ⟨qI3 K csL, ?_, qUs (KFB B) (by decide) vs H Q E h⟩)⟩
  · exact qRn (cs := csL) _ _ _ _ h
  · exact (pss_cons (ps_if (PW.pt (pw_or (pt_not (pt_val (pe_callB call_isi (by rfl) (qAu B) (by decide +kernel) (pa_cons (pv 0) (pa_cons (pe_glob (v := .ref (He.ga K "Ratio")) (by rfl) (qEl B) rfl) pa_nil))))) (pw_or (pt_not (pt_val (qAf (dvs := []) (qDe B) (hr.mono (by decide)) rfl passL (pa_cons (pe_fld (pv 0) rfl) pa_nil)))) (pw_or1 (pt_not (pt_val (qAf (dvs := []) (qDe B) (hr.mono (by decide)) rfl passL (pa_cons (pe_fld (pv 0) rfl) pa_nil)))))))) (pss_one (ps_ret pe_bl)) pss_nil)
  (pss_one (ps_ret (pe_and (pe_cmpR op_ge (pe_fld (pv 0) rfl) pe_int (nomark _)) (pe_one (pe_cmpR op_eq (pe_op qBw (pe_fld (pv 0) rfl) (pv 2)) (pe_op qBw (pv 1) (pe_fld (pv 0) rfl)) (nomark _)))))))
theorem qKf (B : Bd K mg) : qEh PySem.Challenge.pw_momentrows_k10_common_factor w K mg base 3 "_law_is" [] (lift K fIs) := by
  obtain ⟨fd, F, G⟩ := qUq (w := w) (base := base) B
  exact ⟨_, fd, ["_law_value", "_law_top", "_law_bottom"], [], qU1 B, F.kp, G, F.bindsN fun _ _ _ _ _ _ us hl => match us, hl with | [_, _, _], _ => rfl, .nil⟩
theorem qKm (B : Bd K mg) : ∃ fd, FunD K "_law_product" "_law_product" (defArgs qAs) (defBody qAs) (defScope qAs) [] [] (He.ga K "_law_product") fd ∧ FnOk PySem.Challenge.pw_momentrows_k10_common_factor w K mg base (CXX PySem.Challenge.pw_momentrows_k10_common_factor w) 3 (He.ga K "_law_product") fd ["_law_one", "_law_other"] (lift K qCy) := by
  obtain ⟨fd, F0⟩ := B.says.def_ 18 (d := qGm) rfl
  have F : FunD K "_law_product" "_law_product" (defArgs qAs) (defBody qAs) (defScope qAs) [] [] (He.ga K "_law_product") fd := F0
  refine ⟨fd, F, F.ok qCi (fun vs H Q E h => ?_) (fun cdv A outer s H vs Q E hr h => ⟨qD1 K csL, ?_, qK9 (KFB B) (by decide) vs H Q E h⟩)⟩
  · exact qJw (cs := csL) _ _ _ _ h
  · exact (pss_cons (ps_if (PW.pt (pw_or (pt_cmpR op_eq (pe_callB call_len (by rfl) (qCz B) (by decide +kernel) (pa_cons (pv 0) pa_nil)) pe_int (nomark _)) (pw_or1 (pt_cmpR op_eq (pe_callB call_len (by rfl) (qCz B) (by decide +kernel) (pa_cons (pv 1) pa_nil)) pe_int (nomark _))))) (pss_one (ps_ret (pe_lst pa_nil))) pss_nil)
  (pss_cons (ps_setLc (i := 2) (own := [("_law_k", 5)]) (g := (gName 5)) (tt := tYes) rfl qCi.nd rfl rfl (sw_true rfl rfl rfl (by decide +kernel)) (pi_range1 (by rfl) (qBx B) (pa_cons (pe_op op_sub (pe_op op_add (pe_callB call_len (by rfl) (qCz B) (by decide +kernel) (pa_cons (pv 0) pa_nil)) (pe_callB call_len (by rfl) (qCz B) (by decide +kernel) (pa_cons (pv 1) pa_nil))) pe_int) pa_nil)) (blkOk_by (N := ["_law_one", "_law_other", "_law_row", "_law_i", "_law_j", "_law_k"]) (sc := defScope qAs) (own := [("_law_k", 5)]) (by decide +kernel)) (fun _ _ _ _ _ => pg_name (i := 5) qCi.nd rfl (Or.inl rfl)) (fun _ _ _ _ _ => pts_nil) (fun _ _ _ _ _ => (pe_lst (pa_cons pe_int (pa_cons pe_int pa_nil)))))
  (pss_cons (ps_for (passes_of rfl) rfl (pi_range1 (by rfl) (qBx B) (pa_cons (pe_callB call_len (by rfl) (qCz B) (by decide +kernel) (pa_cons (pv 0) pa_nil)) pa_nil)) (pg_name (i := 3) qCi.nd rfl (Or.inl rfl)) (pss_one (ps_for (passes_of rfl) rfl (pi_range1 (by rfl) (qBx B) (pa_cons (pe_callB call_len (by rfl) (qCz B) (by decide +kernel) (pa_cons (pv 1) pa_nil)) pa_nil)) (pg_name (i := 4) qCi.nd rfl (Or.inl rfl)) (pss_one (ps_asg (qAf (dvs := []) (qUk B) (hr.mono (by decide)) rfl passL (pa_cons (pe_ix ix_list (pv 2) (pe_op op_add (pv 3) (pv 4)) (fun _ _ => rfl)) (pa_cons (qAf (dvs := []) (qPr B) (hr.mono (by decide)) rfl passL (pa_cons (pe_ix ix_list (pv 0) (pv 3) (fun _ _ => rfl)) (pa_cons (pe_ix ix_list (pv 1) (pv 4) (fun _ _ => rfl)) pa_nil))) pa_nil))) (pg_sub (pv 2) (pe_op op_add (pv 3) (pv 4)) set_list))))))
  (pss_one (ps_ret (pv 2))))))
theorem qEq (B : Bd K mg) : qEh PySem.Challenge.pw_momentrows_k10_common_factor w K mg base 3 "_law_product" [] (lift K qCy) := by
  obtain ⟨fd, F, G⟩ := qKm (w := w) (base := base) B
  exact ⟨_, fd, ["_law_one", "_law_other"], [], qKy B, F.kp, G, F.bindsN fun _ _ _ _ _ _ us hl => match us, hl with | [_, _], _ => rfl, .nil⟩
theorem qK0 (B : Bd K mg) : ∃ fd, FunD K "_law_poly_is" "_law_poly_is" (defArgs qAz) (defBody qAz) (defScope qAz) [] [] (He.ga K "_law_poly_is") fd ∧ FnOk PySem.Challenge.pw_momentrows_k10_common_factor w K mg base (CXX PySem.Challenge.pw_momentrows_k10_common_factor w) 5 (He.ga K "_law_poly_is") fd ["_law_p", "_law_pairs"] (lift K qAv) := by
  obtain ⟨fd, F0⟩ := B.says.def_ 22 (d := qGa) rfl
  have F : FunD K "_law_poly_is" "_law_poly_is" (defArgs qAz) (defBody qAz) (defScope qAz) [] [] (He.ga K "_law_poly_is") fd := F0
  refine ⟨fd, F, F.ok qCh (fun vs H Q E h => ?_) (fun cdv A outer s H vs Q E hr h => ⟨qEc K csL, ?_, qKg (KFB B) (by decide) (by decide) vs H Q E h⟩)⟩
  · exact qJo (cs := csL) _ _ _ _ h
  · exact (pss_cons (ps_set (i := 2) qCh.nd rfl (Or.inl rfl) (pe_callB call_len (by rfl) (qCz B) (by decide +kernel) (pa_cons (pv 1) pa_nil)))
  (pss_cons (ps_for (passes_of rfl) rfl (pi_range1 (by rfl) (qBx B) (pa_cons (pe_callB call_len (by rfl) (qCz B) (by decide +kernel) (pa_cons (pv 1) pa_nil)) pa_nil)) (pg_name (i := 3) qCh.nd rfl (Or.inl rfl)) (pss_one (ps_if (PW.pt (pw_and (pt_cmpR op_gt (pv 2) pe_int (nomark _)) (pw_and1 (pt_cmpR op_eq (pe_ix ix_list (pe_ix ix_list (pv 1) (pe_op op_sub (pv 2) pe_int) (fun _ _ => rfl)) pe_int (fun _ _ => rfl)) pe_int (nomark _))))) (pss_one (ps_aug (i := 2) qCh.nd rfl (Or.inl rfl) pe_int ip_sub)) pss_nil)))
  (pss_cons (ps_if (PW.pt (pw_or (pt_not (pt_val (pe_callB call_isi (by rfl) (qAu B) (by decide +kernel) (pa_cons (pv 0) (pa_cons (pe_glob (v := .ref (He.ga K "Poly")) (by rfl) (qV7 B) rfl) pa_nil))))) (pw_or (pt_not (pt_val (pe_callB call_isi (by rfl) (qAu B) (by decide +kernel) (pa_cons (pe_fld (pv 0) rfl) (pa_cons (pe_bltn (v := .ty "tuple") (by rfl) (qM1 B) (by decide +kernel) rfl) pa_nil))))) (pw_or1 (pt_cmpR op_ne (pe_callB call_len (by rfl) (qCz B) (by decide +kernel) (pa_cons (pe_fld (pv 0) rfl) pa_nil)) (pv 2) (nomark _)))))) (pss_one (ps_ret pe_bl)) pss_nil)
  (pss_cons (ps_if (PW.pt (pw_or (pt_not (pt_val (qAf (dvs := []) (qDe B) (hr.mono (by decide)) rfl passL (pa_cons (pe_fld (pv 0) rfl) pa_nil)))) (pw_or1 (pt_cmpR op_ne (pe_fld (pv 0) rfl) (pe_op op_sub (pv 2) pe_int) (nomark _))))) (pss_one (ps_ret pe_bl)) pss_nil)
  (pss_cons (ps_for (passes_of rfl) rfl (pi_range1 (by rfl) (qBx B) (pa_cons (pv 2) pa_nil)) (pg_name (i := 3) qCh.nd rfl (Or.inl rfl)) (pss_one (ps_if (pt_not (pt_val (qAf (dvs := []) (qKf B) (hr.mono (by decide)) rfl passL (pa_cons (pe_ix ix_tup (pe_fld (pv 0) rfl) (pv 3) (fun _ _ => rfl)) (pa_cons (pe_ix ix_list (pe_ix ix_list (pv 1) (pv 3) (fun _ _ => rfl)) pe_int (fun _ _ => rfl)) (pa_cons (pe_ix ix_list (pe_ix ix_list (pv 1) (pv 3) (fun _ _ => rfl)) pe_int (fun _ _ => rfl)) pa_nil)))))) (pss_one (ps_ret pe_bl)) pss_nil)))
  (pss_cons (ps_if (pt_cmpR op_eq (pv 2) pe_int (nomark _)) (pss_one (ps_ret (qAf (dvs := []) (qKf B) (hr.mono (by decide)) rfl passL (pa_cons (pe_fld (pv 0) rfl) (pa_cons pe_int (pa_cons pe_int pa_nil)))))) pss_nil)
  (pss_one (ps_ret (qAf (dvs := []) (qKf B) (hr.mono (by decide)) rfl passL (pa_cons (pe_fld (pv 0) rfl) (pa_cons (pe_ix ix_list (pe_ix ix_list (pv 1) (pe_op op_sub (pv 2) pe_int) (fun _ _ => rfl)) pe_int (fun _ _ => rfl)) (pa_cons (pe_ix ix_list (pe_ix ix_list (pv 1) (pe_op op_sub (pv 2) pe_int) (fun _ _ => rfl)) pe_int (fun _ _ => rfl)) pa_nil))))))))))))
theorem qBo (B : Bd K mg) : qEh PySem.Challenge.pw_momentrows_k10_common_factor w K mg base 5 "_law_poly_is" [] (lift K qAv) := by
  obtain ⟨fd, F, G⟩ := qK0 (w := w) (base := base) B
  exact ⟨_, fd, ["_law_p", "_law_pairs"], [], qLh B, F.kp, G, F.bindsN fun _ _ _ _ _ _ us hl => match us, hl with | [_, _], _ => rfl, .nil⟩
theorem qH7 (B : Bd K mg) : ∃ fd, FunD K "__init__" "Ratio.__init__" (defArgs qA9) (defBody qA9) (defScope qA9) [.int 1] [] (He.ma K (He.ga K "Ratio") "__init__") fd ∧ FnOk PySem.Challenge.pw_momentrows_k10_common_factor w K mg base (CXX PySem.Challenge.pw_momentrows_k10_common_factor w) 33 (He.ma K (He.ga K "Ratio") "__init__") fd ["self", "top", "bottom"] (qCe K) := by
  obtain ⟨fd, F0⟩ := B.says.def_ 2 (d := qIi) rfl
  have F : FunD K "__init__" "Ratio.__init__" (defArgs qA9) (defBody qA9) (defScope qA9) [.int 1] [] (He.ma K (He.ga K "Ratio") "__init__") fd := F0
  refine ⟨fd, F, F.ok qFn (fun vs H Q E h => ?_) (fun cdv A outer s H vs Q E hr h => ⟨qJa K E, ?_, qLr (RT B) vs H Q E h⟩)⟩
  · first | (obtain ⟨_, rfl, _⟩ := h; rfl) | (obtain ⟨_, _, rfl, _⟩ := h; rfl) | (obtain ⟨_, _, _, rfl, _⟩ := h; rfl) | (obtain ⟨_, _, _, _, rfl, _⟩ := h; rfl) | (obtain ⟨_, _, _, _, _, rfl, _⟩ := h; rfl) | (obtain ⟨_, _, _, _, _, _, rfl, _⟩ := h; rfl) | (obtain ⟨_, _, _, _, _, _, _, rfl, _⟩ := h; rfl) | (obtain ⟨_, _, _, _, _, _, _, _, rfl, _⟩ := h; rfl) | (obtain ⟨_, _, _, _, _, _, _, _, _, rfl, _⟩ := h; rfl) | (obtain ⟨_, _, _, _, _, _, _, _, _, _, rfl, _⟩ := h; rfl) | (obtain ⟨_, _, _, _, _, _, _, _, _, _, _, rfl, _⟩ := h; rfl) | (obtain ⟨_, _, _, _, _, _, _, _, _, _, _, _, rfl, _⟩ := h; rfl)
  · exact (pss_cons (ps_if (pt_not (pt_val (qAf (dvs := []) (qCx B) (hr.mono (by decide)) rfl passL (pa_cons (pv 1) pa_nil)))) (pss_one (qGn rfl (qFh B) qKw (qGr B) hr (takes_of rfl rfl rfl rfl) (pa_cons pe_str pa_nil))) pss_nil)
  (pss_cons (ps_if (pt_not (pt_val (qAf (dvs := []) (qCx B) (hr.mono (by decide)) rfl passL (pa_cons (pv 2) pa_nil)))) (pss_one (qGn rfl (qFh B) qKw (qGr B) hr (takes_of rfl rfl rfl rfl) (pa_cons pe_str pa_nil))) pss_nil)
  (pss_cons (ps_if (pt_cmpR op_eq (pv 2) pe_int (nomark _)) (pss_one (qGn rfl (qFh B) qKw (qGr B) hr (takes_of rfl rfl rfl rfl) (pa_cons pe_str pa_nil))) pss_nil)
  (pss_cons (ps_set (i := 3) qFn.nd rfl (Or.inl rfl) (qAf (dvs := []) (qOr B) (hr.mono (by decide)) rfl passL (pa_cons (pv 1) (pa_cons (pv 2) pa_nil))))
  (pss_cons (ps_if (pt_cmpR op_lt (pv 2) pe_int (nomark _)) (pss_one (ps_set (i := 3) qFn.nd rfl (Or.inl rfl) (pe_un un_neg (pv 3)))) pss_nil)
  (pss_cons (ps_fld (pv 0) (pe_op (qH1 (see B) rfl (hr.mono (by decide))) (pv 1) (pv 3)) rfl)
  (pss_one (ps_fld (pv 0) (pe_op (qH1 (see B) rfl (hr.mono (by decide))) (pv 2) (pv 3)) rfl))))))))
theorem qCb (B : Bd K mg) : qS0 PySem.Challenge.pw_momentrows_k10_common_factor w K mg base 33 "Ratio" (He.ga K "Ratio") [] (qCe K) := by
  obtain ⟨fd, F, G⟩ := qH7 (w := w) (base := base) B
  obtain ⟨ds, v, b⟩ := F.binds1 (ps := ["self", "top", "bottom"]) 3 1 (by simp) rfl fun T kV doc pm an cdv ct us its hu hi => match us, hu, its, hi with | [_, _, _], _, [_], _ => ⟨_, rfl, rfl⟩
  exact ⟨_, fd, ["self", "top", "bottom"], ds, qEl B, He.mkr_ok (B.says.fact 46 rfl), G, b, v⟩
theorem qDk (B : Bd K mg) : qS0 PySem.Challenge.pw_momentrows_k10_common_factor w K mg base 33 "Ratio" (He.ga K "Ratio") [.int 1] (qCe K) := by
  obtain ⟨fd, F, G⟩ := qH7 (w := w) (base := base) B
  obtain ⟨ds, v, b⟩ := F.binds1 (ps := ["self", "top", "bottom"]) 2 0 (by simp) rfl fun T kV doc pm an cdv ct us its hu hi => match us, hu, its, hi with | [_, _], _, [_], _ => ⟨_, rfl, rfl⟩
  exact ⟨_, fd, ["self", "top", "bottom"], ds, qEl B, He.mkr_ok (B.says.fact 46 rfl), G, b, v⟩
theorem qPy (B : Bd K mg) : ∃ fd, FunD K "_law_take" "_law_take" (defArgs qBp) (defBody qBp) (defScope qBp) [] [] (He.ga K "_law_take") fd ∧ FnOk PySem.Challenge.pw_momentrows_k10_common_factor w K mg base (CXX PySem.Challenge.pw_momentrows_k10_common_factor w) 33 (He.ga K "_law_take") fd ["_law_feed_here", "_law_size"] (lift K qCj) := by
  obtain ⟨fd, F0⟩ := B.says.def_ 12 (d := qJm) rfl
  have F : FunD K "_law_take" "_law_take" (defArgs qBp) (defBody qBp) (defScope qBp) [] [] (He.ga K "_law_take") fd := F0
  refine ⟨fd, F, F.ok qCt (fun vs H Q E h => ?_) (fun cdv A outer s H vs Q E hr h => ⟨qHi K, ?_, qKx vs H Q E h⟩)⟩
  · exact qBd (n := 2) (fun ds P X h => by obtain ⟨_, rfl, _⟩ := h; rfl) h
  · exact (pss_cons (ps_augS (pv 0) pe_int qTu pe_int ip_add set_list)
  (pss_cons (ps_if (PW.pt (pw_and (pt_cmpR op_eq (pe_ix ix_list (pv 0) pe_int (fun _ _ => rfl)) pe_int (nomark _)) (pw_and (pt_cmpR op_eq (pe_ix ix_list (pv 0) pe_int (fun _ _ => rfl)) pe_int (nomark _)) (pw_and1 (pt_cmpR op_lt (pe_ix ix_list (pv 0) pe_int (fun _ _ => rfl)) (pe_callB call_len (by rfl) (qCz B) (by decide +kernel) (pa_cons (pe_ix ix_list (pv 0) pe_int (fun _ _ => rfl)) pa_nil)) (nomark _)))))) (pss_cons (ps_set (i := 3) qCt.nd rfl (Or.inl rfl) (pe_ix ix_list (pe_ix ix_list (pv 0) pe_int (fun _ _ => rfl)) (pe_ix ix_list (pv 0) pe_int (fun _ _ => rfl)) (fun _ _ => rfl)))
  (pss_cons (ps_augS (pv 0) pe_int qTu pe_int ip_add set_list)
  (pss_one (ps_if (pt_cmpR op_ge (pv 3) (pe_op op_pow pe_int pe_int) (nomark _)) (pss_one (ps_asg (pv 3) (pg_sub (pv 0) pe_int set_list))) (pss_cons (ps_asg pe_int (pg_sub (pv 0) pe_int set_list))
  (pss_one (ps_asg (pe_op op_add (pe_ix ix_list (pv 0) pe_int (fun _ _ => rfl)) (pv 3)) (pg_sub (pv 0) pe_int set_list)))))))) pss_nil)
  (pss_cons (ps_if (pt_cmpR op_gt (pe_ix ix_list (pv 0) pe_int (fun _ _ => rfl)) pe_int (nomark _)) (pss_cons (ps_set (i := 4) qCt.nd rfl (Or.inl rfl) (pe_op op_modN (pe_callTy call_int1 (by rfl) (qKk B) (by decide +kernel) (pa_cons (pe_ix ix_list (pv 0) pe_int (fun _ _ => rfl)) pa_nil)) (pv 1)))
  (pss_cons (ps_asg (pe_op (qH1 (see B) rfl (hr.mono (by decide))) (pe_ix ix_list (pv 0) pe_int (fun _ _ => rfl)) (pv 1)) (pg_sub (pv 0) pe_int set_list))
  (pss_one (ps_ret (pv 4))))) pss_nil)
  (pss_cons (ps_asg (pe_callB (call_max2 rfl) (by rfl) (qAau B) (by decide +kernel) (pa_cons pe_int (pa_cons (pe_op op_sub (pe_ix ix_list (pv 0) pe_int (fun _ _ => rfl)) pe_int) pa_nil))) (pg_sub (pv 0) pe_int set_list))
  (pss_cons (ps_set (i := 2) qCt.nd rfl (Or.inl rfl) (pe_op op_modN (pe_callTy call_int1 (by rfl) (qKk B) (by decide +kernel) (pa_cons (pe_op qBw (pe_op op_add (pe_op op_add (pe_ix ix_list (pv 0) pe_int (fun _ _ => rfl)) (pe_op qBw pe_int (pe_ix ix_list (pv 0) pe_int (fun _ _ => rfl)))) pe_int) pe_int) pa_nil)) pe_int))
  (pss_cons (ps_set (i := 2) qCt.nd rfl (Or.inl rfl) (pe_op op_modN (pe_callTy call_int1 (by rfl) (qKk B) (by decide +kernel) (pa_cons (pe_op qBw (pv 2) (pe_op op_add (pe_op (qH1 (see B) rfl (hr.mono (by decide))) (pv 2) pe_int) pe_int)) pa_nil)) pe_int))
  (pss_cons (ps_set (i := 2) qCt.nd rfl (Or.inl rfl) (pe_op op_modN (pe_callTy call_int1 (by rfl) (qKk B) (by decide +kernel) (pa_cons (pe_op qBw (pv 2) (pe_op op_add (pe_op (qH1 (see B) rfl (hr.mono (by decide))) (pv 2) pe_int) pe_int)) pa_nil)) pe_int))
  (pss_one (ps_ret (pe_op op_modN (pv 2) (pv 1)))))))))))
theorem qBk (B : Bd K mg) : qEh PySem.Challenge.pw_momentrows_k10_common_factor w K mg base 33 "_law_take" [] (lift K qCj) := by
  obtain ⟨fd, F, G⟩ := qPy (w := w) (base := base) B
  exact ⟨_, fd, ["_law_feed_here", "_law_size"], [], qQw B, F.kp, G, F.bindsN fun _ _ _ _ _ _ us hl => match us, hl with | [_, _], _ => rfl, .nil⟩
theorem qQy (B : Bd K mg) : ∃ fd, FunD K "__sub__" "Ratio.__sub__" (defArgs qBq) (defBody qBq) (defScope qBq) [] [] (He.ma K (He.ga K "Ratio") "__sub__") fd ∧ FnOk PySem.Challenge.pw_momentrows_k10_common_factor w K mg base (CXX PySem.Challenge.pw_momentrows_k10_common_factor w) 35 (He.ma K (He.ga K "Ratio") "__sub__") fd ["self", "other"] (lift K (fR2 fun a b => a - b)) := by
  obtain ⟨fd, F0⟩ := B.says.def_ 4 (d := qJb) rfl
  have F : FunD K "__sub__" "Ratio.__sub__" (defArgs qBq) (defBody qBq) (defScope qBq) [] [] (He.ma K (He.ga K "Ratio") "__sub__") fd := F0
  refine ⟨fd, F, F.ok qQu (fun vs H Q E h => ?_) (fun cdv A outer s H vs Q E hr h => ⟨qGj K csL, ?_, qQi (KFB B) (by decide) vs H Q E h⟩)⟩
  · exact qM8 (cs := csL) _ _ _ _ h
  · exact (pss_cons (ps_if (pt_val (pe_callB call_isi (by rfl) (qAu B) (by decide +kernel) (pa_cons (pv 1) (pa_cons (pe_glob (v := .ref (He.ga K "Ratio")) (by rfl) (qEl B) rfl) pa_nil)))) (pss_one (ps_ret (qCf (dvs := []) (qCb B) (hr.mono (by decide)) rfl passL (pa_cons (pe_op op_sub (pe_op qBw (pe_fld (pv 0) rfl) (pe_fld (pv 1) rfl)) (pe_op qBw (pe_fld (pv 1) rfl) (pe_fld (pv 0) rfl))) (pa_cons (pe_op qBw (pe_fld (pv 0) rfl) (pe_fld (pv 1) rfl)) pa_nil))))) pss_nil)
  (pss_cons (ps_if (pt_val (qAf (dvs := []) (qCx B) (hr.mono (by decide)) rfl passL (pa_cons (pv 1) pa_nil))) (pss_one (ps_ret (qCf (dvs := []) (qCb B) (hr.mono (by decide)) rfl passL (pa_cons (pe_op op_sub (pe_fld (pv 0) rfl) (pe_op qBw (pv 1) (pe_fld (pv 0) rfl))) (pa_cons (pe_fld (pv 0) rfl) pa_nil))))) pss_nil)
  (pss_one ps_never)))
theorem qRl (B : Bd K mg) : qPb PySem.Challenge.pw_momentrows_k10_common_factor w K mg base 35 (He.ga K "Ratio") "__sub__" [] (lift K (fR2 fun a b => a - b)) := by
  obtain ⟨fd, F, G⟩ := qQy (w := w) (base := base) B
  exact ⟨_, fd, ["self", "other"], [], ((KFB B).own _ (by decide)).cl, He.meth_ok (B.says.fact 48 rfl), G, F.bindsN fun _ _ _ _ _ _ us hl => match us, hl with | [_, _], _ => rfl, .nil⟩
theorem qQf (B : Bd K mg) : ∃ fd, FunD K "__mul__" "Ratio.__mul__" (defArgs qBm) (defBody qBm) (defScope qBm) [] [] (He.ma K (He.ga K "Ratio") "__mul__") fd ∧ FnOk PySem.Challenge.pw_momentrows_k10_common_factor w K mg base (CXX PySem.Challenge.pw_momentrows_k10_common_factor w) 35 (He.ma K (He.ga K "Ratio") "__mul__") fd ["self", "other"] (lift K (fR2 fun a b => a * b)) := by
  obtain ⟨fd, F0⟩ := B.says.def_ 5 (d := qJf) rfl
  have F : FunD K "__mul__" "Ratio.__mul__" (defArgs qBm) (defBody qBm) (defScope qBm) [] [] (He.ma K (He.ga K "Ratio") "__mul__") fd := F0
  refine ⟨fd, F, F.ok qO7 (fun vs H Q E h => ?_) (fun cdv A outer s H vs Q E hr h => ⟨qF8 K csL, ?_, qQq (KFB B) (by decide) vs H Q E h⟩)⟩
  · exact qNc (cs := csL) _ _ _ _ h
  · exact (pss_cons (ps_if (pt_val (pe_callB call_isi (by rfl) (qAu B) (by decide +kernel) (pa_cons (pv 1) (pa_cons (pe_glob (v := .ref (He.ga K "Ratio")) (by rfl) (qEl B) rfl) pa_nil)))) (pss_one (ps_ret (qCf (dvs := []) (qCb B) (hr.mono (by decide)) rfl passL (pa_cons (pe_op qBw (pe_fld (pv 0) rfl) (pe_fld (pv 1) rfl)) (pa_cons (pe_op qBw (pe_fld (pv 0) rfl) (pe_fld (pv 1) rfl)) pa_nil))))) pss_nil)
  (pss_cons (ps_if (pt_val (qAf (dvs := []) (qCx B) (hr.mono (by decide)) rfl passL (pa_cons (pv 1) pa_nil))) (pss_one (ps_ret (qCf (dvs := []) (qCb B) (hr.mono (by decide)) rfl passL (pa_cons (pe_op qBw (pe_fld (pv 0) rfl) (pv 1)) (pa_cons (pe_fld (pv 0) rfl) pa_nil))))) pss_nil)
  (pss_one ps_never)))
theorem qSm (B : Bd K mg) : qPb PySem.Challenge.pw_momentrows_k10_common_factor w K mg base 35 (He.ga K "Ratio") "__mul__" [] (lift K (fR2 fun a b => a * b)) := by
  obtain ⟨fd, F, G⟩ := qQf (w := w) (base := base) B
  exact ⟨_, fd, ["self", "other"], [], ((KFB B).own _ (by decide)).cl, He.meth_ok (B.says.fact 49 rfl), G, F.bindsN fun _ _ _ _ _ _ us hl => match us, hl with | [_, _], _ => rfl, .nil⟩
theorem qRu (B : Bd K mg) : ∃ fd, FunD K "as_ratio" "as_ratio" (defArgs qBz) (defBody qBz) (defScope qBz) [] [] (He.ga K "as_ratio") fd ∧ FnOk PySem.Challenge.pw_momentrows_k10_common_factor w K mg base (CXX PySem.Challenge.pw_momentrows_k10_common_factor w) 35 (He.ga K "as_ratio") fd ["value", "word"] (lift K (qFw csL)) := by
  obtain ⟨fd, F0⟩ := B.says.def_ 8 (d := qKe) rfl
  have F : FunD K "as_ratio" "as_ratio" (defArgs qBz) (defBody qBz) (defScope qBz) [] [] (He.ga K "as_ratio") fd := F0
  refine ⟨fd, F, F.ok qRo (fun vs H Q E h => ?_) (fun cdv A outer s H vs Q E hr h => ⟨qFl K csL E, ?_, qR7 (KFB B) (by decide) vs H Q E h⟩)⟩
  · exact qPj (cs := csL) _ _ _ _ h
  · exact (pss_cons (ps_if (pt_val (pe_callB call_isi (by rfl) (qAu B) (by decide +kernel) (pa_cons (pv 0) (pa_cons (pe_glob (v := .ref (He.ga K "Ratio")) (by rfl) (qEl B) rfl) pa_nil)))) (pss_one (ps_ret (pv 0))) pss_nil)
  (pss_cons (ps_if (pt_val (qAf (dvs := []) (qCx B) (hr.mono (by decide)) rfl passL (pa_cons (pv 0) pa_nil))) (pss_one (ps_ret (qCf (dvs := [.int 1]) (qDk B) (hr.mono (by decide)) rfl (qKp (takes_of rfl rfl rfl rfl) fun _ _ _ _ z => z) (pa_cons (pv 0) pa_nil)))) pss_nil)
  (pss_one (qGn rfl (qP7 B) qKw (qRr B) hr (takes_of rfl rfl rfl rfl) (pa_cons (pv 1) pa_nil)))))
theorem qU7 (B : Bd K mg) : qEh PySem.Challenge.pw_momentrows_k10_common_factor w K mg base 35 "as_ratio" [] (lift K (qFw csL)) := by
  obtain ⟨fd, F, G⟩ := qRu (w := w) (base := base) B
  exact ⟨_, fd, ["value", "word"], [], qRp B, F.kp, G, F.bindsN fun _ _ _ _ _ _ us hl => match us, hl with | [_, _], _ => rfl, .nil⟩
theorem qNf (B : Bd K mg) : ∃ fd, FunD K "over" "Ratio.over" (defArgs qBb) (defBody qBb) (defScope qBb) [] [] (He.ma K (He.ga K "Ratio") "over") fd ∧ FnOk PySem.Challenge.pw_momentrows_k10_common_factor w K mg base (CXX PySem.Challenge.pw_momentrows_k10_common_factor w) 35 (He.ma K (He.ga K "Ratio") "over") fd ["self", "other"] (lift K qKj) := by
  obtain ⟨fd, F0⟩ := B.says.def_ 9 (d := qIh) rfl
  have F : FunD K "over" "Ratio.over" (defArgs qBb) (defBody qBb) (defScope qBb) [] [] (He.ma K (He.ga K "Ratio") "over") fd := F0
  refine ⟨fd, F, F.ok qH9 (fun vs H Q E h => ?_) (fun cdv A outer s H vs Q E hr h => ⟨qDz K csL E, ?_, qM9 (KFB B) (by decide) vs H Q E h⟩)⟩
  · exact qMh (cs := csL) _ _ _ _ h
  · exact (pss_cons (ps_set (i := 2) qH9.nd rfl (Or.inl rfl) (pe_ifExp (pt_val (pe_callB call_isi (by rfl) (qAu B) (by decide +kernel) (pa_cons (pv 1) (pa_cons (pe_glob (v := .ref (He.ga K "Ratio")) (by rfl) (qEl B) rfl) pa_nil)))) (pv 1) (qCf (dvs := [.int 1]) (qDk B) (hr.mono (by decide)) rfl (qKp (takes_of rfl rfl rfl rfl) fun _ _ _ _ z => z) (pa_cons (pv 1) pa_nil))))
  (pss_cons (ps_if (pt_cmpR op_eq (pe_fld (pv 2) rfl) pe_int (nomark _)) (pss_one (qGn rfl (qFh B) qKw (qGr B) hr (takes_of rfl rfl rfl rfl) (pa_cons pe_str pa_nil))) pss_nil)
  (pss_one (ps_ret (qCf (dvs := []) (qCb B) (hr.mono (by decide)) rfl (qKp (takes_of rfl rfl rfl rfl) fun _ _ _ _ z => z) (pa_cons (pe_op qBw (pe_fld (pv 0) rfl) (pe_fld (pv 2) rfl)) (pa_cons (pe_op qBw (pe_fld (pv 0) rfl) (pe_fld (pv 2) rfl)) pa_nil)))))))
theorem qI7 (B : Bd K mg) : qPb PySem.Challenge.pw_momentrows_k10_common_factor w K mg base 35 (He.ga K "Ratio") "over" [] (lift K qKj) := by
  obtain ⟨fd, F, G⟩ := qNf (w := w) (base := base) B
  exact ⟨_, fd, ["self", "other"], [], ((KFB B).own _ (by decide)).cl, He.meth_ok (B.says.fact 51 rfl), G, F.bindsN fun _ _ _ _ _ _ us hl => match us, hl with | [_, _], _ => rfl, .nil⟩
theorem qL6 (B : Bd K mg) : ∃ fd, FunD K "_law_number" "_law_number" (defArgs qA3) (defBody qA3) (defScope qA3) [] [] (He.ga K "_law_number") fd ∧ FnOk PySem.Challenge.pw_momentrows_k10_common_factor w K mg base (CXX PySem.Challenge.pw_momentrows_k10_common_factor w) 35 (He.ga K "_law_number") fd ["_law_feed_here", "_law_size"] (lift K qFt) := by
  obtain ⟨fd, F0⟩ := B.says.def_ 13 (d := qG3) rfl
  have F : FunD K "_law_number" "_law_number" (defArgs qA3) (defBody qA3) (defScope qA3) [] [] (He.ga K "_law_number") fd := F0
  refine ⟨fd, F, F.ok qG4 (fun vs H Q E h => ?_) (fun cdv A outer s H vs Q E hr h => ⟨qEu K csL, ?_, qMa (KFB B) (by decide) vs H Q E h⟩)⟩
  · exact qKd (cs := csL) _ _ _ _ h
  · exact (pss_cons (ps_set (i := 2) qG4.nd rfl (Or.inl rfl) (pe_op op_sub pe_int (pe_op qBw pe_int (qAf (dvs := []) (qBk B) (hr.mono (by decide)) rfl passL (pa_cons (pv 0) (pa_cons pe_int pa_nil))))))
  (pss_one (ps_ret (pe_op qBw (pv 2) (qAf (dvs := []) (qBk B) (hr.mono (by decide)) rfl passL (pa_cons (pv 0) (pa_cons (pv 1) pa_nil)))))))
theorem qOw (B : Bd K mg) : qEh PySem.Challenge.pw_momentrows_k10_common_factor w K mg base 35 "_law_number" [] (lift K qFt) := by
  obtain ⟨fd, F, G⟩ := qL6 (w := w) (base := base) B
  exact ⟨_, fd, ["_law_feed_here", "_law_size"], [], qMj B, F.kp, G, F.bindsN fun _ _ _ _ _ _ us hl => match us, hl with | [_, _], _ => rfl, .nil⟩
theorem qMe (B : Bd K mg) : ∃ fd, FunD K "_law_ratios" "_law_ratios" (defArgs qAw) (defBody qAw) (defScope qAw) [] [] (He.ga K "_law_ratios") fd ∧ FnOk PySem.Challenge.pw_momentrows_k10_common_factor w K mg base (CXX PySem.Challenge.pw_momentrows_k10_common_factor w) 35 (He.ga K "_law_ratios") fd ["_law_pairs"] (lift K qCk) := by
  obtain ⟨fd, F0⟩ := B.says.def_ 17 (d := qG8) rfl
  have F : FunD K "_law_ratios" "_law_ratios" (defArgs qAw) (defBody qAw) (defScope qAw) [] [] (He.ga K "_law_ratios") fd := F0
  refine ⟨fd, F, F.ok qEt (fun vs H Q E h => ?_) (fun cdv A outer s H vs Q E hr h => ⟨qEv K csL, ?_, qL5 (KFB B) (by decide) vs H Q E h⟩)⟩
  · exact qLa (cs := csL) _ _ _ _ h
  · exact (pss_one (ps_ret (pe_lc (own := [("_law_pair", 1)]) (g := (gName 1)) (tt := tYes) rfl qEt.nd (pi_list (pv 0)) (blkOk_by (N := ["_law_pairs", "_law_pair"]) (sc := defScope qAw) (own := [("_law_pair", 1)]) (by decide +kernel)) (fun _ _ _ _ _ => pg_name (i := 1) qEt.nd rfl (Or.inl rfl)) (fun _ _ _ _ _ => pts_nil) (fun _ _ _ _ _ => (qCf (dvs := []) (qCb B) (hr.mono (by decide)) rfl passL (pa_cons (pe_ix ix_list (pv 1) pe_int (fun _ _ => rfl)) (pa_cons (pe_ix ix_list (pv 1) pe_int (fun _ _ => rfl)) pa_nil)))))))
theorem qIa (B : Bd K mg) : qEh PySem.Challenge.pw_momentrows_k10_common_factor w K mg base 35 "_law_ratios" [] (lift K qCk) := by
  obtain ⟨fd, F, G⟩ := qMe (w := w) (base := base) B
  exact ⟨_, fd, ["_law_pairs"], [], qL3 B, F.kp, G, F.bindsN fun _ _ _ _ _ _ us hl => match us, hl with | [_], _ => rfl, .nil⟩
theorem qO6 (B : Bd K mg) : ∃ fd, FunD K "_law_poly" "_law_poly" (defArgs qBn) (defBody qBn) (defScope qBn) [] [] (He.ga K "_law_poly") fd ∧ FnOk PySem.Challenge.pw_momentrows_k10_common_factor w K mg base (CXX PySem.Challenge.pw_momentrows_k10_common_factor w) 35 (He.ga K "_law_poly") fd ["_law_feed_here", "_law_parts"] (lift K qCo) := by
  obtain ⟨fd, F0⟩ := B.says.def_ 26 (d := qJl) rfl
  have F : FunD K "_law_poly" "_law_poly" (defArgs qBn) (defBody qBn) (defScope qBn) [] [] (He.ga K "_law_poly") fd := F0
  refine ⟨fd, F, F.ok qCw (fun vs H Q E h => ?_) (fun cdv A outer s H vs Q E hr h => ⟨qGl K csL, ?_, qPd (KFB B) (by decide) vs H Q E h⟩)⟩
  · exact qOu (cs := csL) _ _ _ _ h
  · exact (pss_cons (ps_set (i := 2) qCw.nd rfl (Or.inl rfl) (pe_lst (pa_cons (pe_lst (pa_cons (pe_op op_add pe_int (qAf (dvs := []) (qBk B) (hr.mono (by decide)) rfl passL (pa_cons (pv 0) (pa_cons pe_int pa_nil)))) (pa_cons (pe_op op_add pe_int (qAf (dvs := []) (qBk B) (hr.mono (by decide)) rfl passL (pa_cons (pv 0) (pa_cons pe_int pa_nil)))) pa_nil))) pa_nil)))
  (pss_cons (ps_if (pt_cmpR op_eq (qAf (dvs := []) (qBk B) (hr.mono (by decide)) rfl passL (pa_cons (pv 0) (pa_cons pe_int pa_nil))) pe_int (nomark _)) (pss_one (ps_set (i := 2) qCw.nd rfl (Or.inl rfl) (qAf (dvs := []) (qP3 B) (hr.mono (by decide)) rfl passL (pa_cons (pv 2) pa_nil)))) pss_nil)
  (pss_cons (ps_for (passes_of rfl) rfl (pi_list (pv 1)) (pg_name (i := 3) qCw.nd rfl (Or.inl rfl)) (pss_one (ps_for (passes_of rfl) rfl (pi_range1 (by rfl) (qBx B) (pa_cons (pe_ix ix_list (pv 3) pe_int (fun _ _ => rfl)) pa_nil)) (pg_name (i := 4) qCw.nd rfl (Or.inl rfl)) (pss_one (ps_set (i := 2) qCw.nd rfl (Or.inl rfl) (qAf (dvs := []) (qEq B) (hr.mono (by decide)) rfl passL (pa_cons (pv 2) (pa_cons (pe_ix ix_list (pv 3) pe_int (fun _ _ => rfl)) pa_nil))))))))
  (pss_one (ps_ret (pv 2))))))
theorem qKl (B : Bd K mg) : qEh PySem.Challenge.pw_momentrows_k10_common_factor w K mg base 35 "_law_poly" [] (lift K qCo) := by
  obtain ⟨fd, F, G⟩ := qO6 (w := w) (base := base) B
  exact ⟨_, fd, ["_law_feed_here", "_law_parts"], [], qPn B, F.kp, G, F.bindsN fun _ _ _ _ _ _ us hl => match us, hl with | [_, _], _ => rfl, .nil⟩
theorem qP2 (B : Bd K mg) : ∃ fd, FunD K "__init__" "Poly.__init__" (defArgs qBg) (defBody qBg) (defScope qBg) [] [] (He.ma K (He.ga K "Poly") "__init__") fd ∧ FnOk PySem.Challenge.pw_momentrows_k10_common_factor w K mg base (CXX PySem.Challenge.pw_momentrows_k10_common_factor w) 37 (He.ma K (He.ga K "Poly") "__init__") fd ["self", "coefficients"] (qLg K "Poly" (qCc csL)) := by
  obtain ⟨fd, F0⟩ := B.says.def_ 21 (d := qJe) rfl
  have F : FunD K "__init__" "Poly.__init__" (defArgs qBg) (defBody qBg) (defScope qBg) [] [] (He.ma K (He.ga K "Poly") "__init__") fd := F0
  refine ⟨fd, F, F.ok qDn (fun vs H Q E h => ?_) (fun cdv A outer s H vs Q E hr h => ⟨qJc K csL E, ?_, qPa (KFB B) (by decide) (by decide) vs H Q E h⟩)⟩
  · obtain ⟨_, _, _, _, _, _, _, _, _, rfl, _, _, _, _, lv, r, hf, _⟩ := h; rw [List.length_cons, r.length]; exact congrArg (· + 1) (qL0 _ _ _ hf)
  · exact (pss_cons (ps_if (pt_not (pt_val (pe_callB call_isiT (by rfl) (qAu B) (by decide +kernel) (pa_cons (pv 1) (pa_cons (pe_tup (pa_cons (pe_bltn (v := .ty "list") (by rfl) (qKo B) (by decide +kernel) rfl) (pa_cons (pe_bltn (v := .ty "tuple") (by rfl) (qM1 B) (by decide +kernel) rfl) pa_nil))) pa_nil))))) (pss_one (qI6 rfl (takes_of rfl rfl rfl rfl) (qPu B) (qPo B))) pss_nil)
  (pss_cons (ps_for (passes_of rfl) rfl (qW0 (pv 1)) (pg_name (i := 2) qDn.nd rfl (Or.inl rfl)) (pss_one (ps_if (pt_not (pt_val (qAf (dvs := []) (qSd B) (hr.mono (by decide)) rfl passL (pa_cons (pv 2) pa_nil)))) (pss_one (qI6 rfl (takes_of rfl rfl rfl rfl) (qPu B) (qPo B))) pss_nil)))
  (pss_cons (ps_set (i := 3) qDn.nd rfl (Or.inl rfl) (qAf (dvs := []) (qC6 B) (hr.mono (by decide)) rfl passL (pa_cons (pe_lc (own := [("item", 2)]) (g := (gName 2)) (tt := tYes) rfl qDn.nd (qW0 (pv 1)) (blkOk_by (N := ["self", "coefficients", "item", "kept"]) (sc := defScope qBg) (own := [("item", 2)]) (by decide +kernel)) (fun _ _ _ _ _ => pg_name (i := 2) qDn.nd rfl (Or.inl rfl)) (fun _ _ _ _ _ => pts_nil) (fun _ _ _ _ _ => (qAf (dvs := []) (qU7 B) (hr.mono (by decide)) rfl passL (pa_cons (pv 2) (pa_cons pe_str pa_nil))))) pa_nil)))
  (pss_cons (ps_fld (pv 0) (pe_callTy call_tuple_of (by rfl) (qM1 B) (by decide +kernel) (pa_cons (pv 3) pa_nil)) rfl)
  (pss_cons (ps_fld (pv 0) (pe_op op_sub (pe_callB call_len (by rfl) (qCz B) (by decide +kernel) (pa_cons (pv 3) pa_nil)) pe_int) rfl)
  (pss_one (ps_fld (pv 0) (pe_ifExp (pt_truth (pv 3) (by intro _; rfl)) (pe_ix ix_list (pv 3) (pe_un un_neg pe_int) (fun _ _ => rfl)) (qCf (dvs := [.int 1]) (qDk B) (hr.mono (by decide)) rfl (qKp (takes_of rfl rfl rfl rfl) fun _ _ _ _ z => z) (pa_cons pe_int pa_nil))) rfl)))))))
theorem qFk (B : Bd K mg) : qS0 PySem.Challenge.pw_momentrows_k10_common_factor w K mg base 37 "Poly" (He.ga K "Poly") [] (qLg K "Poly" (qCc csL)) := by
  obtain ⟨fd, F, G⟩ := qP2 (w := w) (base := base) B
  exact ⟨_, fd, ["self", "coefficients"], [], qV7 B, He.mkr_ok (B.says.fact 52 rfl), G, F.bindsN fun _ _ _ _ _ _ us hl => match us, hl with | [_, _], _ => rfl, .nil⟩
theorem qRi (B : Bd K mg) : ∃ fd, FunD K "divided" "divided" (defArgs qBj) (defBody qBj) (defScope qBj) [] [] (He.ga K "divided") fd ∧ FnOk PySem.Challenge.pw_momentrows_k10_common_factor w K mg base (CXX PySem.Challenge.pw_momentrows_k10_common_factor w) 37 (He.ga K "divided") fd ["one", "other"] (lift K qC1) := by
  obtain ⟨fd, F0⟩ := B.says.def_ 23 (d := qLi) rfl
  have F : FunD K "divided" "divided" (defArgs qBj) (defBody qBj) (defScope qBj) [] [] (He.ga K "divided") fd := F0
  refine ⟨fd, F, F.ok qB1 (fun vs H Q E h => ?_) (fun cdv A outer s H vs Q E hr h => ⟨qFu K csL E, ?_, qSl (KFB B) (by decide) (by decide) vs H Q E h⟩)⟩
  · exact qPk (cs := csL) _ _ _ _ h
  · exact (pss_cons (ps_set (i := 2) qB1.nd rfl (Or.inl rfl) (qAf (dvs := []) (qC6 B) (hr.mono (by decide)) rfl passL (pa_cons (pe_callTy call_list_of (by rfl) (qKo B) (by decide +kernel) (pa_cons (pv 1) pa_nil)) pa_nil)))
  (pss_cons (ps_if (pt_not (pt_truth (pv 2) (by intro _; rfl))) (pss_one (qI6 rfl (takes_of rfl rfl rfl rfl) (qP4 B) (qQc B))) pss_nil)
  (pss_cons (ps_setLc (i := 3) (own := [("c", 9)]) (g := (gName 9)) (tt := tYes) rfl qB1.nd rfl rfl (sw_true rfl rfl rfl (by decide +kernel)) (qW0 (pv 0)) (blkOk_by (N := ["one", "other", "divisor", "rest", "size", "quotient", "at", "times", "j", "c", "_"]) (sc := defScope qBj) (own := [("c", 9)]) (by decide +kernel)) (fun _ _ _ _ _ => pg_name (i := 9) qB1.nd rfl (Or.inl rfl)) (fun _ _ _ _ _ => pts_nil) (fun _ _ _ _ _ => (pv 9)))
  (pss_cons (ps_set (i := 4) qB1.nd rfl (Or.inl rfl) (pe_callB call_len (by rfl) (qCz B) (by decide +kernel) (pa_cons (pv 2) pa_nil)))
  (pss_cons (ps_setLc (i := 5) (own := [("_", 10)]) (g := (gName 10)) (tt := tYes) rfl qB1.nd rfl rfl (sw_true rfl rfl rfl (by decide +kernel)) (pi_range1 (by rfl) (qBx B) (pa_cons (pe_callB (call_max2 rfl) (by rfl) (qAau B) (by decide +kernel) (pa_cons pe_int (pa_cons (pe_op op_add (pe_op op_sub (pe_callB call_len (by rfl) (qCz B) (by decide +kernel) (pa_cons (pv 3) pa_nil)) (pv 4)) pe_int) pa_nil))) pa_nil)) (blkOk_by (N := ["one", "other", "divisor", "rest", "size", "quotient", "at", "times", "j", "c", "_"]) (sc := defScope qBj) (own := [("_", 10)]) (by decide +kernel)) (fun _ _ _ _ _ => pg_name (i := 10) qB1.nd rfl (Or.inl rfl)) (fun _ _ _ _ _ => pts_nil) (fun _ _ _ _ _ => (qCf (dvs := [.int 1]) (qDk B) (hr.mono (by decide)) rfl passL (pa_cons pe_int pa_nil))))
  (pss_cons (ps_for (passes_of rfl) rfl (pi_revR (by rfl) (qSb B) (prg_1 (by rfl) (qBx B) (pe_callB call_len (by rfl) (qCz B) (by decide +kernel) (pa_cons (pv 5) pa_nil)))) (pg_name (i := 6) qB1.nd rfl (Or.inl rfl)) (pss_cons (ps_set (i := 7) qB1.nd rfl (Or.inl rfl) (qT7 (pe_ix ix_list (pv 3) (pe_op op_sub (pe_op op_add (pv 6) (pv 4)) pe_int) (fun _ _ => rfl)) (qI7 B) (hr.mono (by decide)) (qKp (takes_of rfl rfl rfl rfl) fun _ _ _ _ z => z) (pa_cons (pe_ix ix_list (pv 2) (pe_op op_sub (pv 4) pe_int) (fun _ _ => rfl)) pa_nil)))
  (pss_cons (ps_asg (pv 7) (pg_sub (pv 5) (pv 6) set_list))
  (pss_one (ps_for (passes_of rfl) rfl (pi_range1 (by rfl) (qBx B) (pa_cons (pv 4) pa_nil)) (pg_name (i := 8) qB1.nd rfl (Or.inl rfl)) (pss_one (ps_asg (pe_op (qAaw "sub" (qRl B) (qQl B) (hr.mono (by decide)) passL) (pe_ix ix_list (pv 3) (pe_op op_add (pv 6) (pv 8)) (fun _ _ => rfl)) (pe_op (qAaw "mul" (qSm B) (qP5 B) (hr.mono (by decide)) passL) (pv 7) (pe_ix ix_list (pv 2) (pv 8) (fun _ _ => rfl)))) (pg_sub (pv 3) (pe_op op_add (pv 6) (pv 8)) set_list))))))))
  (pss_one (ps_ret (pe_tup (pa_cons (pv 5) (pa_cons (qAf (dvs := []) (qC6 B) (hr.mono (by decide)) rfl passL (pa_cons (pv 3) pa_nil)) pa_nil)))))))))))
theorem qUx (B : Bd K mg) : qEh PySem.Challenge.pw_momentrows_k10_common_factor w K mg base 37 "divided" [] (lift K qC1) := by
  obtain ⟨fd, F, G⟩ := qRi (w := w) (base := base) B
  exact ⟨_, fd, ["one", "other"], [], qUz B, F.kp, G, F.bindsN fun _ _ _ _ _ _ us hl => match us, hl with | [_, _], _ => rfl, .nil⟩
theorem qMk (B : Bd K mg) : ∃ fd, FunD K "made_monic" "made_monic" (defArgs qAx) (defBody qAx) (defScope qAx) [] [] (He.ga K "made_monic") fd ∧ FnOk PySem.Challenge.pw_momentrows_k10_common_factor w K mg base (CXX PySem.Challenge.pw_momentrows_k10_common_factor w) 37 (He.ga K "made_monic") fd ["row"] (lift K qCs) := by
  obtain ⟨fd, F0⟩ := B.says.def_ 24 (d := qG7) rfl
  have F : FunD K "made_monic" "made_monic" (defArgs qAx) (defBody qAx) (defScope qAx) [] [] (He.ga K "made_monic") fd := F0
  refine ⟨fd, F, F.ok qDi (fun vs H Q E h => ?_) (fun cdv A outer s H vs Q E hr h => ⟨qEr K csL, ?_, qL1 (KFB B) (by decide) (by decide) vs H Q E h⟩)⟩
  · exact qK4 (cs := csL) _ _ _ _ h
  · exact (pss_cons (ps_set (i := 1) qDi.nd rfl (Or.inr rfl) (qAf (dvs := []) (qC6 B) (hr.mono (by decide)) rfl passL (pa_cons (pe_callTy call_list_of (by rfl) (qKo B) (by decide +kernel) (pa_cons (pv 0) pa_nil)) pa_nil)))
  (pss_cons (ps_if (pt_not (pt_truth (pv 1) (by intro _; rfl))) (pss_one (ps_ret (pe_lst pa_nil))) pss_nil)
  (pss_one (ps_ret (pe_lc (own := [("c", 2)]) (g := (gName 2)) (tt := tYes) rfl qDi.nd (pi_list (pv 1)) (blkOk_by (N := ["row", "kept", "c"]) (sc := defScope qAx) (own := [("c", 2)]) (by decide +kernel)) (fun _ _ _ _ _ => pg_name (i := 2) qDi.nd rfl (Or.inl rfl)) (fun _ _ _ _ _ => pts_nil) (fun _ _ _ _ _ => (qT7 (pv 2) (qI7 B) (hr.mono (by decide)) passL (pa_cons (pe_ix ix_list (pv 1) (pe_un un_neg pe_int) (fun _ _ => rfl)) pa_nil))))))))
theorem qFi (B : Bd K mg) : qEh PySem.Challenge.pw_momentrows_k10_common_factor w K mg base 37 "made_monic" [] (lift K qCs) := by
  obtain ⟨fd, F, G⟩ := qMk (w := w) (base := base) B
  exact ⟨_, fd, ["row"], [], qOl B, F.kp, G, F.bindsN fun _ _ _ _ _ _ us hl => match us, hl with | [_], _ => rfl, .nil⟩
theorem qLv (B : Bd K mg) : ∃ fd, FunD K "_law_factors" "_law_factors" (defArgs qAy) (defBody qAy) (defScope qAy) [] [] (He.ga K "_law_factors") fd ∧ FnOk PySem.Challenge.pw_momentrows_k10_common_factor w K mg base (CXX PySem.Challenge.pw_momentrows_k10_common_factor w) 37 (He.ga K "_law_factors") fd ["_law_feed_here"] (lift K qFb) := by
  obtain ⟨fd, F0⟩ := B.says.def_ 27 (d := qF6) rfl
  have F : FunD K "_law_factors" "_law_factors" (defArgs qAy) (defBody qAy) (defScope qAy) [] [] (He.ga K "_law_factors") fd := F0
  refine ⟨fd, F, F.ok qBs (fun vs H Q E h => ?_) (fun cdv A outer s H vs Q E hr h => ⟨qD3 K csL, ?_, qKi (KFB B) (by decide) vs H Q E h⟩)⟩
  · exact qJv (cs := csL) _ _ _ _ h
  · exact (pss_cons (ps_set (i := 1) qBs.nd rfl (Or.inl rfl) (pe_ix ix_list (pe_lst (pa_cons pe_int (pa_cons pe_int (pa_cons (pe_op op_pow pe_int pe_int) pa_nil)))) (qAf (dvs := []) (qBk B) (hr.mono (by decide)) rfl passL (pa_cons (pv 0) (pa_cons pe_int pa_nil))) (fun _ _ => rfl)))
  (pss_cons (ps_set (i := 2) qBs.nd rfl (Or.inl rfl) (pe_op op_add pe_int (qAf (dvs := []) (qBk B) (hr.mono (by decide)) rfl passL (pa_cons (pv 0) (pa_cons pe_int pa_nil)))))
  (pss_cons (ps_set (i := 3) qBs.nd rfl (Or.inl rfl) (qAf (dvs := []) (qOw B) (hr.mono (by decide)) rfl passL (pa_cons (pv 0) (pa_cons (pv 1) pa_nil))))
  (pss_cons (ps_set (i := 4) qBs.nd rfl (Or.inl rfl) (pe_lst (pa_cons (pe_lst (pa_cons (pe_lst (pa_cons pe_int (pa_cons pe_int pa_nil))) (pa_cons (pe_lst (pa_cons pe_int (pa_cons pe_int pa_nil))) (pa_cons (pe_lst (pa_cons pe_int (pa_cons pe_int pa_nil))) pa_nil)))) pa_nil)))
  (pss_cons (ps_for (passes_of rfl) rfl (pi_range1 (by rfl) (qBx B) (pa_cons (qAf (dvs := []) (qBk B) (hr.mono (by decide)) rfl passL (pa_cons (pv 0) (pa_cons pe_int pa_nil))) pa_nil)) (pg_name (i := 5) qBs.nd rfl (Or.inl rfl)) (pss_cons (ps_expr (pe_bm PySem.F.plainAttrs_list PySem.F.slot_list_append PySem.F.type_list_append mt_append (pv 4) (pa_cons (pe_lst (pa_cons (pe_lst (pa_cons (pe_un un_neg (pv 3)) (pa_cons (pv 2) pa_nil))) (pa_cons (pe_lst (pa_cons (pv 2) (pa_cons (pv 2) pa_nil))) pa_nil))) pa_nil)))
  (pss_one (ps_set (i := 3) qBs.nd rfl (Or.inl rfl) (pe_op op_add (pe_op op_add (pv 3) pe_int) (qAf (dvs := []) (qBk B) (hr.mono (by decide)) rfl passL (pa_cons (pv 0) (pa_cons (pv 1) pa_nil))))))))
  (pss_one (ps_ret (pv 4))))))))
theorem qLz (B : Bd K mg) : qEh PySem.Challenge.pw_momentrows_k10_common_factor w K mg base 37 "_law_factors" [] (lift K qFb) := by
  obtain ⟨fd, F, G⟩ := qLv (w := w) (base := base) B
  exact ⟨_, fd, ["_law_feed_here"], [], qK8 B, F.kp, G, F.bindsN fun _ _ _ _ _ _ us hl => match us, hl with | [_], _ => rfl, .nil⟩
theorem qP8 (B : Bd K mg) : ∃ fd, FunD K "common" "common" (defArgs qCn) (defBody qCn) (defScope qCn) [] [] (He.ga K "common") fd ∧ FnOk PySem.Challenge.pw_momentrows_k10_common_factor w K mg base (CXX PySem.Challenge.pw_momentrows_k10_common_factor w) 39 (He.ga K "common") fd ["p", "q"] (lift K qA8) := by
  obtain ⟨fd, F0⟩ := B.says.def_ 25 (d := qP6) rfl
  have F : FunD K "common" "common" (defArgs qCn) (defBody qCn) (defScope qCn) [] [] (He.ga K "common") fd := F0
  refine ⟨fd, F, F.ok qE3 (fun vs H Q E h => ?_) (fun cdv A outer s H vs Q E hr h => ⟨qK7 K csL, ?_, qWh (KFB B) (by decide) (by decide) vs H Q E h⟩)⟩
  · exact qU0 (cs := csL) _ _ _ _ h
  · exact (pss_cons (ps_set (i := 2) qE3.nd rfl (Or.inl rfl) (pe_callTy call_list_of (by rfl) (qKo B) (by decide +kernel) (pa_cons (pe_fld (pv 0) rfl) pa_nil)))
  (pss_cons (ps_set (i := 3) qE3.nd rfl (Or.inl rfl) (pe_callTy call_list_of (by rfl) (qKo B) (by decide +kernel) (pa_cons (pe_fld (pv 1) rfl) pa_nil)))
  (pss_cons (ps_while (passes_of rfl) (pt_truth (pv 3) (by intro _; rfl)) (pss_cons (ps_set (i := 4) qE3.nd rfl (Or.inl rfl) (pe_ix ix_tup (qAf (dvs := []) (qUx B) (hr.mono (by decide)) rfl passL (pa_cons (pv 2) (pa_cons (pv 3) pa_nil))) pe_int (fun _ _ => rfl)))
  (pss_cons (ps_set (i := 2) qE3.nd rfl (Or.inl rfl) (qAf (dvs := []) (qFi B) (hr.mono (by decide)) rfl passL (pa_cons (pv 3) pa_nil)))
  (pss_one (ps_set (i := 3) qE3.nd rfl (Or.inl rfl) (qAf (dvs := []) (qFi B) (hr.mono (by decide)) rfl passL (pa_cons (pv 4) pa_nil)))))))
  (pss_one (ps_ret (qCf (dvs := []) (qFk B) (hr.mono (by decide)) rfl passL (pa_cons (qAf (dvs := []) (qFi B) (hr.mono (by decide)) rfl passL (pa_cons (pv 2) pa_nil)) pa_nil)))))))
theorem qH2 (B : Bd K mg) : qEh PySem.Challenge.pw_momentrows_k10_common_factor w K mg base 39 "common" [] (lift K qA8) := by
  obtain ⟨fd, F, G⟩ := qP8 (w := w) (base := base) B
  exact ⟨_, fd, ["p", "q"], [], qQd B, F.kp, G, F.bindsN fun _ _ _ _ _ _ us hl => match us, hl with | [_, _], _ => rfl, .nil⟩
theorem qOa (B : Bd K mg) : qAam PySem.Challenge.pw_momentrows_k10_common_factor w K mg base 39 "common" 0 ["p", "q"] gApp (lift K qA8) := by
  obtain ⟨fd, F, G⟩ := qP8 (w := w) (base := base) B
  exact ⟨_, fd, ["p", "q"], _, qQd B, F.kp, G, qAc0 F (ps := ["p", "q"]) 0 ["p", "q"] (fun us ws => us ++ ws) (fun r1 r2 => r1.append r2) fun kV doc pm an cdv ct us ws hu hw => match us, hu, ws, hw with | [], _, [_, _], _ => rfl⟩
theorem qZ3 (B : Bd K mg) : ∃ fd, FunD K "law" "law" (defArgs qEj) (defBody qEj) (defScope qEj) [] [] (He.ga K "law") fd ∧ FnOk PySem.Challenge.pw_momentrows_k10_common_factor w K mg base CX0 41 (He.ga K "law") fd ["_law_script"] (qX1 K) := by
  obtain ⟨fd, F0⟩ := B.says.def_ 28 (d := qAal) rfl
  have F : FunD K "law" "law" (defArgs qEj) (defBody qEj) (defScope qEj) [] [] (He.ga K "law") fd := F0
  refine ⟨fd, F, F.ok qB4 (fun vs H Q E h => ?_) (fun cdv A outer s H vs Q E hr h => ⟨qZ2 K csL, ?_, qAd8 (KFB B) (by decide) (by decide) vs H Q E h⟩)⟩
  · first | (obtain ⟨_, rfl, _⟩ := h; rfl) | (obtain ⟨_, _, rfl, _⟩ := h; rfl) | (obtain ⟨_, _, _, rfl, _⟩ := h; rfl) | (obtain ⟨_, _, _, _, rfl, _⟩ := h; rfl) | (obtain ⟨_, _, _, _, _, rfl, _⟩ := h; rfl) | (obtain ⟨_, _, _, _, _, _, rfl, _⟩ := h; rfl) | (obtain ⟨_, _, _, _, _, _, _, rfl, _⟩ := h; rfl) | (obtain ⟨_, _, _, _, _, _, _, _, rfl, _⟩ := h; rfl) | (obtain ⟨_, _, _, _, _, _, _, _, _, rfl, _⟩ := h; rfl) | (obtain ⟨_, _, _, _, _, _, _, _, _, _, rfl, _⟩ := h; rfl) | (obtain ⟨_, _, _, _, _, _, _, _, _, _, _, rfl, _⟩ := h; rfl) | (obtain ⟨_, _, _, _, _, _, _, _, _, _, _, _, rfl, _⟩ := h; rfl)
  · exact (pss_cons (ps_set (i := 1) qB4.nd rfl (Or.inr rfl) (qAf (dvs := []) (qRt B) (hr.mono (by decide)) rfl passL (pa_cons (pv 0) pa_nil)))
  (pss_cons (ps_for (passes_of rfl) rfl (pi_range1 (by rfl) (qBx B) (pa_cons (pe_op op_add pe_int (qAf (dvs := []) (qBk B) (hr.mono (by decide)) rfl passL (pa_cons (pv 1) (pa_cons pe_int pa_nil)))) pa_nil)) (pg_name (i := 2) qB4.nd rfl (Or.inl rfl)) (pss_cons (ps_set (i := 3) qB4.nd rfl (Or.inr rfl) (qAf (dvs := []) (qLz B) (hr.mono (by decide)) rfl passL (pa_cons (pv 1) pa_nil)))
  (pss_cons (ps_set (i := 4) qB4.nd rfl (Or.inr rfl) (pe_lc (own := [("_law_part", 15)]) (g := (gName 15)) (tt := tYes) rfl qB4.nd (pi_list (pv 3)) (blkOk_by (N := ["_law_script", "_law_feed_here", "_law_k", "_law_factors_here", "_law_first", "_law_second", "_law_one", "_law_other", "_law_due", "_law_j", "_law_p", "_law_q", "_law_whole", "_law_zero", "_law_i", "_law_part"]) (sc := defScope qEj) (own := [("_law_part", 15)]) (by decide +kernel)) (fun _ _ _ _ _ => pg_name (i := 15) qB4.nd rfl (Or.inl rfl)) (fun _ _ _ _ _ => pts_nil) (fun _ _ _ _ _ => (qAf (dvs := []) (qBk B) (hr.mono (by decide)) rfl passL (pa_cons (pv 1) (pa_cons pe_int pa_nil))))))
  (pss_cons (ps_set (i := 5) qB4.nd rfl (Or.inr rfl) (pe_lc (own := [("_law_part", 15)]) (g := (gName 15)) (tt := tYes) rfl qB4.nd (pi_list (pv 3)) (blkOk_by (N := ["_law_script", "_law_feed_here", "_law_k", "_law_factors_here", "_law_first", "_law_second", "_law_one", "_law_other", "_law_due", "_law_j", "_law_p", "_law_q", "_law_whole", "_law_zero", "_law_i", "_law_part"]) (sc := defScope qEj) (own := [("_law_part", 15)]) (by decide +kernel)) (fun _ _ _ _ _ => pg_name (i := 15) qB4.nd rfl (Or.inl rfl)) (fun _ _ _ _ _ => pts_nil) (fun _ _ _ _ _ => (qAf (dvs := []) (qBk B) (hr.mono (by decide)) rfl passL (pa_cons (pv 1) (pa_cons pe_int pa_nil))))))
  (pss_cons (ps_set (i := 6) qB4.nd rfl (Or.inl rfl) (qAf (dvs := []) (qKl B) (hr.mono (by decide)) rfl passL (pa_cons (pv 1) (pa_cons (pe_lc (own := [("_law_j", 9)]) (g := (gName 9)) (tt := tYes) rfl qB4.nd (pi_range1 (by rfl) (qBx B) (pa_cons (pe_callB call_len (by rfl) (qCz B) (by decide +kernel) (pa_cons (pv 3) pa_nil)) pa_nil)) (blkOk_by (N := ["_law_script", "_law_feed_here", "_law_k", "_law_factors_here", "_law_first", "_law_second", "_law_one", "_law_other", "_law_due", "_law_j", "_law_p", "_law_q", "_law_whole", "_law_zero", "_law_i", "_law_part"]) (sc := defScope qEj) (own := [("_law_j", 9)]) (by decide +kernel)) (fun _ _ _ _ _ => pg_name (i := 9) qB4.nd rfl (Or.inl rfl)) (fun _ _ _ _ _ => pts_nil) (fun _ _ _ _ _ => (pe_lst (pa_cons (pe_ix ix_list (pv 3) (pv 9) (fun _ _ => rfl)) (pa_cons (pe_ix ix_list (pv 4) (pv 9) (fun _ _ => rfl)) pa_nil))))) pa_nil))))
  (pss_cons (ps_set (i := 7) qB4.nd rfl (Or.inl rfl) (qAf (dvs := []) (qKl B) (hr.mono (by decide)) rfl passL (pa_cons (pv 1) (pa_cons (pe_lc (own := [("_law_j", 9)]) (g := (gName 9)) (tt := tYes) rfl qB4.nd (pi_range1 (by rfl) (qBx B) (pa_cons (pe_callB call_len (by rfl) (qCz B) (by decide +kernel) (pa_cons (pv 3) pa_nil)) pa_nil)) (blkOk_by (N := ["_law_script", "_law_feed_here", "_law_k", "_law_factors_here", "_law_first", "_law_second", "_law_one", "_law_other", "_law_due", "_law_j", "_law_p", "_law_q", "_law_whole", "_law_zero", "_law_i", "_law_part"]) (sc := defScope qEj) (own := [("_law_j", 9)]) (by decide +kernel)) (fun _ _ _ _ _ => pg_name (i := 9) qB4.nd rfl (Or.inl rfl)) (fun _ _ _ _ _ => pts_nil) (fun _ _ _ _ _ => (pe_lst (pa_cons (pe_ix ix_list (pv 3) (pv 9) (fun _ _ => rfl)) (pa_cons (pe_ix ix_list (pv 5) (pv 9) (fun _ _ => rfl)) pa_nil))))) pa_nil))))
  (pss_cons (ps_set (i := 8) qB4.nd rfl (Or.inl rfl) (pe_lst (pa_cons (pe_lst (pa_cons pe_int (pa_cons pe_int pa_nil))) pa_nil)))
  (pss_cons (ps_for (passes_of rfl) rfl (pi_range1 (by rfl) (qBx B) (pa_cons (pe_callB call_len (by rfl) (qCz B) (by decide +kernel) (pa_cons (pv 3) pa_nil)) pa_nil)) (pg_name (i := 9) qB4.nd rfl (Or.inl rfl)) (pss_one (ps_for (passes_of rfl) rfl (pi_range1 (by rfl) (qBx B) (pa_cons (pe_ix ix_list (pv 4) (pv 9) (fun _ _ => rfl)) pa_nil)) (pg_name (i := 14) qB4.nd rfl (Or.inl rfl)) (pss_one (ps_if (pt_cmpR op_lt (pv 14) (pe_ix ix_list (pv 5) (pv 9) (fun _ _ => rfl)) (nomark _)) (pss_one (ps_set (i := 8) qB4.nd rfl (Or.inl rfl) (qAf (dvs := []) (qEq B) (hr.mono (by decide)) rfl passL (pa_cons (pv 8) (pa_cons (pe_ix ix_list (pv 3) (pv 9) (fun _ _ => rfl)) pa_nil))))) pss_nil)))))
  (pss_cons (ps_set (i := 10) qB4.nd rfl (Or.inl rfl) (qCf (dvs := []) (qFk B) (hr.mono (by decide)) rfl passL (pa_cons (qAf (dvs := []) (qIa B) (hr.mono (by decide)) rfl passL (pa_cons (pv 6) pa_nil)) pa_nil)))
  (pss_cons (ps_set (i := 11) qB4.nd rfl (Or.inl rfl) (qCf (dvs := []) (qFk B) (hr.mono (by decide)) rfl passL (pa_cons (qAf (dvs := []) (qIa B) (hr.mono (by decide)) rfl passL (pa_cons (pv 7) pa_nil)) pa_nil)))
  (pss_cons (ps_if (PW.pt (pw_or (pt_not (pt_val (qAf (dvs := []) (qBo B) (hr.mono (by decide)) rfl passL (pa_cons (qAf (dvs := []) (qH2 B) (hr.mono (by decide)) rfl passL (pa_cons (pv 10) (pa_cons (pv 11) pa_nil))) (pa_cons (pv 8) pa_nil))))) (pw_or1 (pt_not (pt_val (qAf (dvs := []) (qBo B) (hr.mono (by decide)) rfl passL (pa_cons (qAf (dvs := []) (qH2 B) (hr.mono (by decide)) rfl passL (pa_cons (pv 11) (pa_cons (pv 10) pa_nil))) (pa_cons (pv 8) pa_nil)))))))) (pss_one (ps_ret pe_bl)) pss_nil)
  (pss_cons (ps_set (i := 12) qB4.nd rfl (Or.inl rfl) (pe_lst (pa_cons (pe_lst (pa_cons pe_int (pa_cons pe_int pa_nil))) pa_nil)))
  (pss_cons (ps_for (passes_of rfl) rfl (pi_range1 (by rfl) (qBx B) (pa_cons (pe_callB call_len (by rfl) (qCz B) (by decide +kernel) (pa_cons (pv 3) pa_nil)) pa_nil)) (pg_name (i := 9) qB4.nd rfl (Or.inl rfl)) (pss_one (ps_for (passes_of rfl) rfl (pi_range1 (by rfl) (qBx B) (pa_cons (pe_ix ix_list (pv 4) (pv 9) (fun _ _ => rfl)) pa_nil)) (pg_name (i := 14) qB4.nd rfl (Or.inl rfl)) (pss_one (ps_set (i := 12) qB4.nd rfl (Or.inl rfl) (qAf (dvs := []) (qEq B) (hr.mono (by decide)) rfl passL (pa_cons (pv 12) (pa_cons (pe_ix ix_list (pv 3) (pv 9) (fun _ _ => rfl)) pa_nil))))))))
  (pss_cons (ps_set (i := 13) qB4.nd rfl (Or.inl rfl) (qCf (dvs := []) (qFk B) (hr.mono (by decide)) rfl passL (pa_cons (pe_lst pa_nil) pa_nil)))
  (pss_cons (ps_if (PW.pt (pw_or (pt_not (pt_val (qAf (dvs := []) (qBo B) (hr.mono (by decide)) rfl passL (pa_cons (qAf (dvs := []) (qH2 B) (hr.mono (by decide)) rfl passL (pa_cons (pv 10) (pa_cons (pv 13) pa_nil))) (pa_cons (pv 12) pa_nil))))) (pw_or1 (pt_not (pt_val (qAf (dvs := []) (qBo B) (hr.mono (by decide)) rfl passL (pa_cons (qAf (dvs := []) (qH2 B) (hr.mono (by decide)) rfl passL (pa_cons (pv 13) (pa_cons (pv 10) pa_nil))) (pa_cons (pv 12) pa_nil)))))))) (pss_one (ps_ret pe_bl)) pss_nil)
  (pss_cons (ps_if (PW.pt (pw_or (pt_not (pt_val (qAf (dvs := []) (qBo B) (hr.mono (by decide)) rfl passL (pa_cons (qUw (ks := ["p", "q"]) (qOa B) (hr.mono (by decide)) rfl passL (pk_cons (pv 10) (pk_cons (pv 10) pk_nil))) (pa_cons (pv 12) pa_nil))))) (pw_or1 (pt_not (pt_val (qAf (dvs := []) (qBo B) (hr.mono (by decide)) rfl passL (pa_cons (qAf (dvs := []) (qH2 B) (hr.mono (by decide)) rfl passL (pa_cons (pv 13) (pa_cons (pv 13) pa_nil))) (pa_cons (pe_lst pa_nil) pa_nil)))))))) (pss_one (ps_ret pe_bl)) pss_nil)
  (pss_one (ps_if (PW.pt (pw_or (pt_not (pt_val (qAf (dvs := []) (qBo B) (hr.mono (by decide)) rfl passL (pa_cons (pv 10) (pa_cons (pv 6) pa_nil))))) (pw_or1 (pt_not (pt_val (qAf (dvs := []) (qBo B) (hr.mono (by decide)) rfl passL (pa_cons (pv 11) (pa_cons (pv 7) pa_nil)))))))) (pss_one (ps_ret pe_bl)) pss_nil))))))))))))))))))
  (pss_one (ps_ret pe_bl))))
end
end MR
open PySem PySem.W PySem.Calls PyProof.Rows
set_option maxRecDepth 100000 in
set_option maxHeartbeats 0 in
theorem PySem.Challenge.cw_momentrows_k10_common_factor_holds : PySem.Challenge.rw_momentrows_k10_common_factor.Holds := by
  w_on; o_law
  refine HandSHeadRun.head_any (r := OpenLaw.row PySem.Challenge.rw_momentrows_k10_common_factor) (q := view (OpenLaw.row PySem.Challenge.rw_momentrows_k10_common_factor).prog [46]) (H := MR.hk) (ob := MR.ob) (M := 12000) (loose := MR.qSv) (d := HandSHeadRun.topDef (OpenLaw.row PySem.Challenge.rw_momentrows_k10_common_factor).prog 46) (kwd := []) MR.qAf3
    (by kernel_rfl) (fun s => by kernel_rfl) MR.run (by kernel_rfl) (by kernel_rfl) (by kernel_rfl) (by rfl) (by first | assumption | decide +kernel) (by decide +kernel) ⟨rfl, rfl, rfl, rfl, rfl, by decide +kernel⟩ ?hw ?hc
  case hw => w_witness2
  case hc =>
    refine L2.walk_ofE (l := PySem.Challenge.rw_momentrows_k10_common_factor) (n := 63) (k := 41) (x := "_law_script") (CX := L2.CX0) rfl (by decide) (by kernel_rfl) ⟨rfl, by decide, by decide⟩ ?F (fun _ _ _ _ z => z)
    intro w mg fa h Y G hmg0
    obtain ⟨K, KX, c⟩ := Y
    have hmg : mg ("law" : PySem.Str) = some (.ref fa) := by
      have e : (HandSHeadRun.topDef (OpenLaw.row PySem.Challenge.rw_momentrows_k10_common_factor).prog 46).name = ("law" : PySem.Str) := by kernel_rfl
      rw [← e]
      exact hmg0
    have B : MR.Bd K mg := ⟨⟨h, KX, G⟩, c⟩
    have e := hmg.symm.trans (MR.qAd5 B)
    cases e
    obtain ⟨fd0, F, _⟩ := MR.qZ3 (w := w) (base := h) B
    have b := L2.FunD.bindsA (ps := ["_law_script"]) F fun _ _ _ _ _ _ us hl => match us, hl with | [_], _ => rfl
    refine ⟨K, fd0, MR.qX1 K, KX, fun s u => b s [u] rfl, fun H a ns hl _ hS => ⟨a, ns, rfl, hS, hl, fun _ => rfl⟩, fun base _ _ => ?_⟩
    obtain ⟨fd1, F1, G1⟩ := MR.qZ3 (w := w) (base := base) B
    have e2 : fd1 = fd0 := MR.qZk F1 F
    rw [← e2]
    exact G1

