import PyProof.Rows.All
import Wide.All
import OpenK.AllK
import Wide.FinOn
import KE.KExcSuper
import HandS.ForMost
import HandS.ForExc
import HandS.Defaults
import HandS.IsInst
import HandS.ExcField
import HandS.ExcInit
import KE.KExcIs
import HandS.ExcIs
import HandS.Wide
import HandS.MakeKw
import HandS.MakeKwOnly
import HandS.CallSlots
import HandS.HeadEnd
import HandS.HeadHook2
import HandS.Head2
import HandS.OwnEq
import KE.KOpsOwn
import HandS.Lambda
import HandS.EndTab
import HandS.Iter
import KE.GoesEnum
import HandS.RevRange
import HandS.Zip
import HandS.TupAny
import HandS.DeepEq
import HandS.TupLe
import HandS.Small
import HandS.Style
import HandS.More
import HandS.Dict
import KE.KCallOwn
import PyProof.NoPylong
import HandS.List
import HandS.Flow
import HandS.TryMany
import HandS.TryOnly
import PySem.Challenge.RW_momentrows_k22_whole_steps_move_along
set_option Elab.async false
set_option linter.all false
set_option maxRecDepth 100000
set_option maxHeartbeats 4000000
/-! MR: an own error whose __init__(self, p) says super().__init__(p); self.p = p, below MeansError(ValueError) -/
namespace MR
open PySem PySem.W PySem.Calls PyProof.Rows PySem.HandSPX
/-- the facts of the error class at C, its __init__ at fI with the parameter p -/
structure SupC (prog : Program) (K : Frag) (C fI : Addr) (p : Str) : Prop where
  cls : ∃ nm q N bs bm sn sub ab col dd k0 k1 k2 k3 k5, K.lookup C = some (excClassObj nm q C N bs bm true sn sub ab col dd k0 k1 k2 k3 k5 "ValueError.__new__") ∧ refsVE bm = true ∧
    alongIn K "__init__" bm = some (some (.builtin "ValueError.__init__"))
  sa : findIn K (.ref C) "__setattr__" = some (some (.builtin "object.__setattr__"))
  no : findIn K (.ref C) p = some none
  ini : findIn K (.ref C) "__init__" = some (some (.ref fI))
  tfn : typeIn K (.ref fI) = some (.type "function")
  kC : keepIn K (.ref C) = true
  exC : subIn K (.ref C) (.type "BaseException") = some true
  veC : subIn K (.ref C) (.type "ValueError") = some true
  tyC : typeIn K (.ref C) = some (.type "type")
  selfC : mroIn K C (.ref C) = some true
  opq : nsIn K cStatics "thirdparty.any" = some none
  sup : nsIn K mainGlobals "super" = some none
  top : (prog.main.scope.names.lookup ("super" : Str)).isSome = false
  fn : ∃ (oc : Value) (od : Option Addr) (osl : Array (Option Value)) (fd : FuncData) (a1 a2 : Arg) (q1 q2 q3 q4 q5 q6 q7 q8 q9 q10 : Pos) (cda cc : Addr) (ccl : Value) (cdd : Option Addr) (vs : Array Value) (ccs : Array (Option Value)) (file : Str) (tf : Tok) (cl : Value) (cld : Option Addr) (csl : Array (Option Value)),
    K.lookup fI = some ⟨oc, od, .func fd, osl⟩ ∧ codeIn K fd.code fd.qualname = true ∧
    fd.params = { posonlyargs := [], args := [a1, a2], vararg := none, kwonlyargs := [], kw_defaults := [], kwarg := none, defaults := [] } ∧ a1.arg = "self" ∧ a2.arg = p ∧
    fd.body = .stmts [.Expr (.Call (.Attribute (.Call (.Name "super" q1) [] [] q2) "__init__" q3) [.Name p q4] [] q5) q6, .Assign [.Attribute (.Name "self" q7) p q8] (.Name p q9) q10] ∧
    fd.scope = { kind := .function, names := [("self", .local), (p, .local), ("__class__", .free), ("super", .globalImplicit)], isGenerator := false, isCoroutine := false, more := [] } ∧
    fd.globals = mainGlobals ∧ fd.builtins = builtinsNs ∧ fd.closure = [(("__class__" : Str), cc)] ∧ fd.defaults = .none ∧ fd.code = .ref cda ∧
    K.lookup cda = some ⟨ccl, cdd, .fields vs, ccs⟩ ∧ vs[2]? = some (.str file tf) ∧ ((prog.main.file : Str) == file) = true ∧
    K.lookup cc = some ⟨cl, cld, .cell (some (.ref C)), csl⟩ ∧ (q3.endLine == q5.line) = true
/-- a good parameter's name -/
structure PName (p : Str) : Prop where
  n1 : ¬ p = ("self" : Str)
  n2 : ¬ p = ("__class__" : Str)
  n3 : ¬ p = ("super" : Str)
  n4 : (p == ("__debug__" : Str)) = false
  n5 : (p == ("__classdict__" : Str)) = false
  bnd : ∀ (n1 n2 : Str) (an1 : Option Expr) (ap1 : Pos) (an2 : Option Expr) (ap2 : Pos) (b : FuncBody) (sc : Scope) (gl : Addr) (clo : List (Str × Addr)) (n9 n10 n11 : Value) (n12 : Option Addr) (n13 n14 : Value) (n15 : Addr) (u v : Value),
    bindArgs ⟨n1, n2, { posonlyargs := [], args := [⟨"self", an1, ap1⟩, ⟨p, an2, ap2⟩], vararg := none, kwonlyargs := [], kw_defaults := [], kwarg := none, defaults := [] }, b, sc, gl, clo, .none, n9, n10, n11, n12, n13, n14, n15⟩ ⟨[u, v], []⟩ = pure [(("self" : Str), u), (p, v)]
structure InitEnd (h h' : Heap) (x C dx : Addr) (p : Str) (v : Value) : Prop where
  keep : ∀ b o, b ≠ x → h.get? b = some o → h'.get? b = some o
  obj : ∃ t1, h'.get? x = some { cls := .ref C, dict := some dx, data := .fields #[.ref t1, .none, .none, .none, .bool false, .none] }
  dbig : h.objs.size ≤ dx
  dne : dx ≠ x
  ns : h'.Ns1 dx (fun y => if y = p then some v else none)
theorem qO4 : PName "word" := ⟨by decide +kernel, by decide +kernel, by decide +kernel, by decide +kernel, by decide +kernel, fun _ _ _ _ _ _ _ _ _ _ _ _ _ _ _ _ _ _ _ => rfl⟩
theorem qAc7 : PName "part" := ⟨by decide +kernel, by decide +kernel, by decide +kernel, by decide +kernel, by decide +kernel, fun _ _ _ _ _ _ _ _ _ _ _ _ _ _ _ _ _ _ _ => rfl⟩
theorem qAdh : PName "index" := ⟨by decide +kernel, by decide +kernel, by decide +kernel, by decide +kernel, by decide +kernel, fun _ _ _ _ _ _ _ _ _ _ _ _ _ _ _ _ _ _ _ => rfl⟩
theorem qAg2 {o : Expr} {name : Str} {apos pos : Pos} {env : Env} {a : Expr} (h : (apos.endLine == pos.line) = true) (hs : starEach [a] env = [(false, eval a env)]) :
    eval (.Call (.Attribute o name apos) [a] [] pos) env = (do
      let ov ← attributeBase o name env (eval o env)
      standAt apos.atName
      let (f, first) ← holding [ov] (getMethod ov name (do return (← importBound o env).getD true))
      callWith pos f first (backTo pos (starEach [a] env)) []) := by
  have e0 : eval (.Call (.Attribute o name apos) [a] [] pos) env = (do
      let ov ← attributeBase o name env (eval o env)
      standAt apos.atName
      methodCall o name apos pos env ov 1 (backTo pos (starEach [a] env)) []) := rfl
  have e1 : methodCallPos true o env apos pos = pure pos := by
    unfold methodCallPos
    rw [h]
    rfl
  have e2 : methodCallForm 1 (backTo pos (starEach [a] env)) [] = true := by rw [hs]; rfl
  rw [e0]
  unfold methodCall
  rw [e2]
  simp only [e1, pure_bind]
  rfl
/-- the bound ValueError.__init__ called -/
theorem qAfv {prog : Program} {w : World} {A : Around} {E : Value → Shared → Prop} {s : Shared} {C u x t0 : Addr} {nm q : Str} {N : Addr} {bs bm : List Value} {hdct : Bool} {sn : List Str} {sub : List Value} {ab : Bool} {col : Option Bool} {dd : Option Addr} {k0 k1 k2 k3 k5 : Option Value} {Q : Value → Shared → Prop}
    (hC : s.heap.get? C = some (excClassObj nm q C N bs bm hdct sn sub ab col dd k0 k1 k2 k3 k5 "ValueError.__new__")) (hu : s.heap.get? u = some (kxs_mw "ValueError.__init__" x)) (hx : s.heap.get? x = some (excO C t0)) {rest : List Value} (hz : rest.length ≤ sizeLine)
    (h : ∀ h' t1, (∀ b o, b ≠ x → s.heap.get? b = some o → h'.get? b = some o) → h'.get? x = some (excO C t1) → Q .none { s with heap := h' }) : wpAny (model prog w) A (call (.ref u) rest) Q E s := by
  have f1 : (Value.type "method-wrapper" == Value.type "method" || Value.type "method-wrapper" == Value.type "builtin_function_or_method" || Value.type "method-wrapper" == Value.type "method-wrapper") = true := by decide
  obtain ⟨hh, g, d, tk, os⟩ := s
  refine wpAny_call (codeAny_of_tree ?_)
  show wpAny _ A.in1 (callAny (Value.ref u) ⟨rest, []⟩) _ _ _
  unfold callAny
  refine wpAny_bind (wpAny_load hu ?_)
  dsimp only [kxs_mw]
  rw [if_pos f1]
  refine KFB.if_so (by decide) ?_
  refine wpAny_bind (check_bound_init F.excBase_ValueError.toExcCallFacts hC hx rfl ?_)
  refine wpAny_bind (wpAny_pure (wpAny_pure ⟨plainId_quiet F.excBase_ValueError.init.plain _, codeAny_builtin F.excBase_ValueError.initEntry ?_⟩))
  refine exc_init_tree (cls := .ref C) (t0 := t0) (dv := none) (c2 := .none) (c3 := .none) (b4 := .bool false) hx hz ?_
  intro h' k e1 e2
  exact h h' _ k e1
section
variable {prog : Program} {w : World} {A : Around} {E : Value → Shared → Prop} {R : Result → Shared → Prop} {s : Shared} {K : Frag} {C fI : Addr} {p : Str}
theorem qAkq (T : SupC prog K C fI p) (hp : PName p) {x t0 : Addr} {v : Value} {mg mb : Str → Option Value} (X : K.In s.heap) (G : s.heap.Ns mainGlobals mg) (B : s.heap.Ns builtinsNs mb) (hB : ∀ x : Str, x ≠ "__name__" → mb x = bootBuiltins x)
    (hlim : s.heap.NoLimit) (hx : s.heap.get? x = some (excO C t0)) (hnx : K.lookup x = none) (hroom : A.depth < recursionLimit)
    (hq : ∀ h' tk dx, InitEnd s.heap h' x C dx p v → R (.ok (.ret .none)) { s with heap := h', toks := tk }) :
    codeAny (model prog w) A (.call (.ref fI) ⟨[.ref x, v], []⟩) R s := by
  obtain ⟨oc, od, osl, fd, a1, a2, q1, q2, q3, q4, q5, q6, q7, q8, q9, q10, cda, cc, ccl, cdd, vs, ccs, file, tf, cl, cld, csl, hf, hcd, hpar, ha1, ha2, hbody, hsc, hgl, hbt, hclo, hdf, hcode, hcda, hvs, hfile, hcell, hq35⟩ := T.fn
  obtain ⟨nm, q, N, bs, bm, sn, sub, ab, col, dd, k0, k1, k2, k3, k5, hC, hbm, hal⟩ := T.cls
  have hcl : clsIn K C = some { name := nm, bases := bs, mro := .ref C :: bm, ns := N, qualname := q, hasDict := true, slotNames := sn, subclasses := sub, abstract := ab, collection := col, hasDel := false } := by unfold clsIn; rw [hC] <;> rfl
  obtain ⟨n1, n2, n3, n4, n5, n6, n7, n8, n9, n10, n11, n12, n13, n14, n15⟩ := fd
  obtain ⟨aa1, an1, ap1⟩ := a1
  obtain ⟨aa2, an2, ap2⟩ := a2
  dsimp only at hcd hpar ha1 ha2 hbody hsc hgl hbt hclo hdf hcode
  subst hpar ha1 ha2 hbody hsc hgl hbt hclo hdf hcode
  have e1 : ¬ aa2 = ("self" : Str) := hp.n1
  have b1 : (aa2 == ("self" : Str)) = false := by simpa using e1
  have b2 : (aa2 == ("__class__" : Str)) = false := by simpa using hp.n2
  have b3 : (aa2 == ("super" : Str)) = false := by simpa using hp.n3
  have b4 : (("self" : Str) == aa2) = false := by simpa using Ne.symm e1
  have b5 : (("__class__" : Str) == aa2) = false := by simpa using Ne.symm hp.n2
  have b6 : (("super" : Str) == aa2) = false := by simpa using Ne.symm hp.n3
  have ls : ([(("self" : Str), NameKind.local), (aa2, NameKind.local), (("__class__" : Str), NameKind.free), (("super" : Str), NameKind.globalImplicit)] : List (Str × NameKind)).lookup ("self" : Str) = some .local := by simp [List.lookup]
  have lp : ([(("self" : Str), NameKind.local), (aa2, NameKind.local), (("__class__" : Str), NameKind.free), (("super" : Str), NameKind.globalImplicit)] : List (Str × NameKind)).lookup aa2 = some .local := by simp [List.lookup, b1]
  have lc : ([(("self" : Str), NameKind.local), (aa2, NameKind.local), (("__class__" : Str), NameKind.free), (("super" : Str), NameKind.globalImplicit)] : List (Str × NameKind)).lookup ("__class__" : Str) = some .free := by
    simp [List.lookup, b5, show (("__class__" : Str) == ("self" : Str)) = false by decide +kernel]
  have lu : ([(("self" : Str), NameKind.local), (aa2, NameKind.local), (("__class__" : Str), NameKind.free), (("super" : Str), NameKind.globalImplicit)] : List (Str × NameKind)).lookup ("super" : Str) = some .globalImplicit := by
    simp [List.lookup, b6, show (("super" : Str) == ("self" : Str)) = false by decide +kernel, show (("super" : Str) == ("__class__" : Str)) = false by decide +kernel]
  refine ks_codeAny_call_defAt (binds := [(("self" : Str), .ref x), (aa2, v)]) hroom (X _ _ hf) rfl hlim (codeRec_of X hcd) rfl (BindsTo.of_eq (hp.bnd _ _ _ _ _ _ _ _ _ _ _ _ _ _ _ _ _ _ _)) ?cell ?loc ?body rfl rfl rfl
  case cell => simp
  case loc =>
    intro y hy
    rcases List.mem_cons.mp hy with rfl | hy
    · exact ls
    · rcases List.mem_cons.mp hy with rfl | hy
      · exact lp
      · cases hy
  case body =>
    intro h₁ hn k
    have X₁ : K.In h₁ := X.keeps k
    have hx₁ := k _ _ hx
    have G₁ : h₁.Ns mainGlobals mg := G.keepsP k
    have B₁ : h₁.Ns builtinsNs mb := B.keepsP k
    have hm1 : (fun y => ([(("self" : Str), Value.ref x), (aa2, v)] : List (Str × Value)).reverse.lookup y) ("self" : Str) = some (.ref x) := by simp [List.lookup, b4]
    have hm2 : (fun y => ([(("self" : Str), Value.ref x), (aa2, v)] : List (Str × Value)).reverse.lookup y) aa2 = some v := by simp [List.lookup]
    have hsup : mg "super" = none := mg_none_of X G T.sup
    have hC1 := X₁ _ _ hC
    refine ks_wpAt_execs_cons (ks_wpAt_Expr_any ?_ rfl rfl)
    refine ks_wpAt_MethodCall ?_ (qAg2 hq35 rfl)
    refine ks_wpAt_super_base (env := callEnv _ _ _) lu lc (by decide +kernel) rfl (X₁ _ _ hf) rfl rfl rfl (X₁ _ _ hcda) rfl hvs hfile T.top ?_
    refine ks_loadName_global rfl lu (loadGlobal_builtin (env := callEnv _ _ _) G₁ hsup B₁ ((hB _ (by decide +kernel)).trans (by decide +kernel)) ⟨rfl, ?_⟩)
    refine wpAny_loadName_free rfl lc rfl ⟨_, X₁ _ _ hcell, rfl⟩ ?_
    refine wpAny_loadName_local rfl ls hn hm1 ?_
    refine ks_wpAny_isType_cls hC1 rfl ⟨rfl, ?_⟩
    refine ks_wpAny_call_super hC1 rfl hx₁ rfl (fun c e => by cases e) (looks_mroIn X₁ T.selfC) (fun h₂ e₂ k₂ => ?_)
    have X₂ : K.In h₂ := X₁.keeps k₂
    have hx₂ := k₂ _ _ hx₁
    have hC2 := X₂ _ _ hC
    have I₂ : InstAt h₂ x (excO C t0) C none := ⟨hx₂, rfl, rfl, trivial⟩
    have hxC : x ≠ C := fun z => by rw [z, hC2] at hx₂; cases hx₂
    have hI2 : Looks (model prog w) h₂ (isInstance (.ref x) (.type "ValueError")) true := I₂.type.andThen (looks_subIn X₂ T.veC)
    refine kxs_getMethod kxs_ValueError (l₀ := .ref C :: bm) (l := bm) e₂ (looks_opaque X₂ T.opq) ((looks_clsIn X₂ hcl).andThen .now) (by simp [List.dropWhile_cons]) X₂ hal hI2 hxC (by decide +kernel) ?_
    dsimp only
    refine kxs_callWith (i := "ValueError.__init__") (x := x) rfl (evalArgs_plain (spliced_cons ?_))
    have kw : ∀ b o, h₂.get? b = some o → (h₂.push (kxs_mw "ValueError.__init__" x)).get? b = some o := fun b o e => Heap.get?_push_of_some _ e
    have hn₂ : (h₂.push (kxs_mw "ValueError.__init__" x)).Ns s.heap.objs.size (fun y => ([(("self" : Str), Value.ref x), (aa2, v)] : List (Str × Value)).reverse.lookup y) := (hn.keepsP k₂).keepsP kw
    refine wpAny_Name (wpAny_loadName_local rfl lp hn₂ hm2 ?_) hp.n4
    refine spliced_nil ⟨Heap.get?_push_at rfl rfl, ?_⟩
    refine qAfv (x := x) (t0 := t0) (kw _ _ hC2) (Heap.get?_push_at rfl rfl) (kw _ _ hx₂) (by rw [sizeLine_eq]; exact (by decide : 1 ≤ 16777216)) fun h₃ t1 k₃ hx₃ => ?_
    have hsz : s.heap.objs.size ≠ x := Nat.ne_of_gt (Heap.lt_size hx)
    have old : ∀ b o, b ≠ x → h₁.get? b = some o → h₃.get? b = some o := fun b o hb e => k₃ b o hb (kw b o (k₂ b o e))
    have X₃ : K.In h₃ := fun a o e => old a o (fun z => by rw [z, hnx] at e; cases e) (X₁ _ _ e)
    have hn₃ : h₃.Ns s.heap.objs.size (fun y => ([(("self" : Str), Value.ref x), (aa2, v)] : List (Str × Value)).reverse.lookup y) := by
      obtain ⟨o, es, ep, ho, r⟩ := hn
      exact ⟨o, es, ep, old _ _ hsz ho, r⟩
    refine ks_wpAt_execs_cons (ks_wpAt_Assign_Attr (wpAt_of_wpAny ?_) rfl)
    refine wpAny_Name (wpAny_loadName_local rfl lp hn₃ hm2 ?_) hp.n4
    refine wpAny_Name (wpAny_loadName_local rfl ls hn₃ hm1 ?_) (by decide +kernel)
    refine set_plain X₃ (ox := excO C t1) (od := none) ⟨hx₃, rfl, rfl, trivial⟩ T.sa ?_
    refine exc_osa X₃ hx₃ hcl (show refsVE (.ref C :: bm) = true from hbm) rfl T.no (fun h₄ tk₄ dx k₄ dn dne hx₄ hn₄ => ?_)
    refine wpAt_of_wpAny (wpAny_execs_nil (hq h₄ tk₄ dx ⟨fun b o hb e => k₄ b o hb (old b o hb (k b o e)), ⟨t1, hx₄⟩, Nat.le_of_lt (Nat.lt_of_lt_of_le hn₃.lt dn), dne, hn₄⟩))

/-- a made error -/
structure OwnMade (h h' : Heap) (e C d : Addr) (p : Str) (v : Value) : Prop where
  keep : ∀ b o, h.get? b = some o → h'.get? b = some o
  new : h.objs.size ≤ e
  obj : ∃ oe vs, h'.get? e = some oe ∧ oe.cls = .ref C ∧ oe.dict = some d ∧ oe.data = .fields vs ∧ vs[1]? = some .none
  dbig : h.objs.size ≤ d
  dne : d ≠ e
  ns : h'.Ns1 d (fun y => if y = p then some v else none)
theorem qAkl (T : SupC prog K C fI p) (hp : PName p) {v : Value} {mg mb : Str → Option Value} (X : K.In s.heap) (G : s.heap.Ns mainGlobals mg) (B : s.heap.Ns builtinsNs mb) (hB : ∀ x : Str, x ≠ "__name__" → mb x = bootBuiltins x)
    (hlim : s.heap.NoLimit) (hroom : A.depth + 1 < recursionLimit)
    (hq : ∀ h' tk e d, OwnMade s.heap h' e C d p v → R (.ok (.ret (.ref e))) { s with heap := h', toks := tk }) :
    codeAny (model prog w) A (.call (.ref C) ⟨[v], []⟩) R s := by
  obtain ⟨nm, q, N, bs, bm, sn, sub, ab, col, dd, k0, k1, k2, k3, k5, hC, hbm, _⟩ := T.cls
  obtain ⟨hp', g, dr, tk, os⟩ := s
  have k : ∀ b o, hp'.get? b = some o → ((hp'.push (kdv_tup [v])).push (excO C hp'.objs.size)).get? b = some o := fun b o e => Heap.get?_push_of_some _ (Heap.get?_push_of_some _ e)
  have hget : ((hp'.push (kdv_tup [v])).push (excO C hp'.objs.size)).get? (hp'.objs.size + 1) = some (excO C hp'.objs.size) := by heap_get
  have hnx : K.lookup (hp'.objs.size + 1) = none := by
    cases e : K.lookup (hp'.objs.size + 1) with
    | none => rfl
    | some o => exact absurd (Nat.lt_of_succ_lt (Heap.lt_size (show hp'.get? (hp'.objs.size + 1) = some o from X _ _ e))) (Nat.lt_irrefl _)
  refine call_own F.excBase_ValueError (fun X => refsVE_contains X bm hbm) (X _ _ hC) (looks_findIn X T.ini) (fun self => bind_fn X self T.tfn) (by rw [sizeLine_eq]; exact (by decide : 1 ≤ 16777216)) ?_
  refine qAkq (s := ⟨(hp'.push (kdv_tup [v])).push (excO C hp'.objs.size), g, dr, tk, os⟩) T hp (X.keeps k) (G.keepsP k) (B.keepsP k) hB (hlim.keeps k) hget hnx ?_ fun h' tk' dx ⟨k', ⟨t1, hx⟩, dn, dne, hns⟩ => ?_
  · show A.depth + 1 < recursionLimit
    exact hroom
  · have old : ∀ b o, hp'.get? b = some o → h'.get? b = some o := fun b o e => k' b o (Nat.ne_of_lt (Nat.lt_succ_of_lt (Heap.lt_size e))) (k b o e)
    have z : hp'.objs.size + 1 + 1 ≤ dx := by
      have q := dn
      simp only [Heap.size_push] at q
      exact q
    exact ⟨rfl, hq h' tk' (hp'.objs.size + 1) dx ⟨old, Nat.le_succ _, ⟨_, _, hx, rfl, rfl, rfl, rfl⟩, (by show hp'.objs.size ≤ dx; omega), dne, hns⟩⟩
end
end MR
namespace MR
open PySem PySem.Spec PyProof.Rows L2
theorem qAlc {p : Str} {v : V} {v' : Value} (r : RelV v v') (f : Str) : RelO (List.lookup f [(p, v)]) (if f = p then some v' else none) := by
  by_cases hw : f = p
  · subst hw
    rw [if_pos rfl]
    have q : List.lookup f [(f, v)] = some v := by simp [List.lookup]
    rw [q]
    exact r
  · rw [if_neg hw]
    have qw : (f == p) = false := by simpa using hw
    have q2 : List.lookup f [(p, v)] = none := by simp [List.lookup, qw]
    rw [q2]
    trivial
section
variable {X : Cx} {C fI : Addr} {p : Str}
/-- C(e): the error, its dict d new -/
def tMkS (C : Addr) (p : Str) (ta : TA) : L2.St → Hp → XK → Prop := fun σ H Q => ta σ H fun vs H1 => ∃ v, vs = [v] ∧ ∀ d, H1 d = none → Q (.ref C) (some d) (upd H1 d (.xd [(p, v)]))
theorem qApm {a : Expr} {ta : TA} {x : Str} {p1 pos : Pos} {k : Nat} (T : SupC X.prog X.K C fI p) (hp : PName p) (gC : X.mg x = some (.ref C)) (hr : Room k X.A) (ha : PA X [a] ta) (hg : Gl X x := by rfl)
    (hdb : (x == ("__debug__" : Str)) = false := by decide)
    (he : starEach (a :: []) X.env = (false, eval a X.env) :: starEach [] X.env := by rfl) (hpl : (backTo pos (starEach [] X.env)).any (·.1) = false := by rfl) :
    PMk X (.Call (.Name x p1) [a] [] pos) (tMkS C p ta) := by
  intro pins s σ H Q I h
  refine wpAny_Call_Name_kw (ld_glob I hg gC ?_ hdb)
  refine PySem.W.callWith_K (h₀ := X.base) I.ok.mod.kin T.kC (thn (ha.run pos pins s σ H _ I h) fun us s1 hh => ?_) he hpl
  obtain ⟨vs, H1, I1, r1, v, ev, q1⟩ := hh
  subst ev
  refine ⟨I1.kIn, ?_⟩
  cases r1 with
  | cons rv rn =>
    rename_i v' us'
    cases rn
    show wpAny _ _ (call (.ref C) [v']) _ _ _
    have hlim := I1.nolimit
    have GG : s1.heap.Ns mainGlobals X.mg := I1.ok.mod.glob.keepsP I1.bk
    obtain ⟨mb, BB, hB⟩ := I1.ok.mod.blt
    have BB1 : s1.heap.Ns builtinsNs mb := BB.keepsP I1.bk
    obtain ⟨hp', g, dr, tk, os⟩ := s1
    refine wpAny_call (qAkl T hp I1.kIn GG BB1 hB hlim (by have := hr.dp; omega) fun h' tk' e d M => ?_)
    show MkP X pins σ Q (.ref e) ⟨h', g, dr, tk', os⟩
    obtain ⟨oe, fv, hoe, hc, hd, hdat, h1⟩ := M.obj
    have hns := M.ns
    obtain ⟨G', g1, g2⟩ := restrict h' fun b => decide (b ≠ e)
    have gk : ∀ b, b ≠ e → G'.get? b = h'.get? b := fun b hb => g1 b (decide_eq_true hb)
    have ge : G'.get? e = none := g2 e (by simp)
    have old : ∀ b o, hp'.get? b = some o → G'.get? b = some o := fun b o q => (gk b (Nat.ne_of_lt (Nat.lt_of_lt_of_le (Heap.lt_size q) M.new))).trans (M.keep b o q)
    have ob : ObjOk X.prog X.w (upd H1 d (.xd [(p, v)])) G' d (.xd [(p, v)]) := ⟨_, hns.at (fun o q => (gk d M.dne).trans q), fun f => qAlc rv f⟩
    have J : Inv X pins σ (upd H1 d (.xd [(p, v)])) ⟨G', g, dr, tk', os⟩ := I1.laid (t' := tk') old M.dbig ob
    refine ⟨e, oe, fv, ⟨G', g, dr, tk', os⟩, _, .ref C, some d, rfl, J, fun b o q => ?_, ge, hoe, ⟨hc, hd⟩, hdat, h1, ?_, rfl, I1.bare, raises_own T.exC T.tyC, q1 d (I1.hok.fresh M.dbig)⟩
    · by_cases hb : b = e
      · have q' : G'.get? b = some o := q
        rw [hb, ge] at q'; cases q'
      · exact (gk b hb).symm.trans q
    · rw [upd_ne (Ne.symm M.dne)]
      exact I1.hok.fresh M.new
/-- raise C(e) -/
def qEn (C : Addr) (p : Str) (W : WX) (ta : TA) : TS := fun _ σ H => tMkS C p ta σ H fun cls d H' => W cls d σ H'
theorem qD5 {a : Expr} {ta : TA} {W : WX} {x : Str} {p1 pos pos2 : Pos} {k : Nat} (hc : X.calm = true) (T : SupC X.prog X.K C fI p) (hp : PName p) (gC : X.mg x = some (.ref C)) (hr : Room k X.A) (tk : Takes X W) (ha : PA X [a] ta) (hg : Gl X x := by rfl)
    (hdb : (x == ("__debug__" : Str)) = false := by decide)
    (he : starEach (a :: []) X.env = (false, eval a X.env) :: starEach [] X.env := by rfl) (hpl : (backTo pos (starEach [] X.env)).any (·.1) = false := by rfl) :
    PS X (.Raise (some (.Call (.Name x p1) [a] [] pos)) none pos2) (qEn C p W ta) := ps_raise hc tk (qApm T hp gC hr ha hg hdb he hpl)
end
end MR

set_option Elab.async false
set_option linter.all false
set_option maxRecDepth 100000
set_option maxHeartbeats 4000000
/-! MR: isinstance of the error that a suite holds, whether it has a dict or not -/
namespace MR
open PySem PySem.Spec PyProof.Rows L2
end MR

set_option Elab.async false
set_option linter.all false
set_option maxRecDepth 100000
set_option maxHeartbeats 4000000
/-! MR: rules in the form that the program's walks take -/
namespace MR
open PySem PySem.Spec PyProof.Rows L2
/-! ### a def, a method, a class as the walk takes it -/
abbrev CXX (P : Program) (w : World) : CXT := L2.CX P w
/-- the module's name x is a def that keeps sp; dvs: the defaults of the last parameters -/
def qEo (P : Program) (w : World) (K : PySem.W.Frag) (mg : Str → Option Value) (base : Heap) (k : Nat) (x : Str) (dvs : List V) (sp : Sp) : Prop :=
  ∃ (f : Addr) (fd : FuncData) (ps : List Str) (ds : List Value), mg x = some (.ref f) ∧ PySem.W.keepIn K (.ref f) = true ∧ FnOk P w K mg base (CXX P w) k f fd ps sp ∧ Binds K fd ps ds ∧ Vals dvs ds
def qEj (P : Program) (w : World) (K : PySem.W.Frag) (mg : Str → Option Value) (base : Heap) (k : Nat) (C : Addr) (m : Str) (dvs : List V) (sp : Sp) : Prop :=
  ∃ (f : Addr) (fd : FuncData) (ps : List Str) (ds : List Value), Cls K C ∧ Meth K C m f ∧ FnOk P w K mg base (CXX P w) k f fd ps sp ∧ Binds K fd ps ds ∧ Vals dvs ds
def qQd (P : Program) (w : World) (K : PySem.W.Frag) (mg : Str → Option Value) (base : Heap) (k : Nat) (x : Str) (C : Addr) (dvs : List V) (sp : Sp) : Prop :=
  ∃ (f : Addr) (fd : FuncData) (ps : List Str) (ds : List Value), mg x = some (.ref C) ∧ Mk K C f ∧ FnOk P w K mg base (CXX P w) k f fd ps sp ∧ Binds K fd ps ds ∧ Vals dvs ds
section
variable {X : Cx} {k : Nat} {C : Addr} {sp : Sp} {dvs : List V} {E : XK} {x m : Str} {p pos apos : Pos} {e o : Expr} {es : List Expr} {ta : TE} {t : TA}
theorem qAh (D : qEo X.prog X.w X.K X.mg X.base k x dvs sp) (hr : Room k X.A) (hg : Gl X x) (hx : Passes (CXX X.prog X.w) X E)
    (ha : PA X (e :: es) t) (hdb : (x == ("__debug__" : Str)) = false := by decide) (he : starEach (e :: es) X.env = (false, eval e X.env) :: starEach es X.env := by rfl) (hpl : (backTo pos (starEach es X.env)).any (·.1) = false := by rfl) :
    PE X (.Call (.Name x p) (e :: es) [] pos) (tCall sp dvs E t) := by
  obtain ⟨f, fd, ps, ds, h1, h2, h3, h4, h5⟩ := D
  exact pe_call h3 hr hg h1 h2 h4 h5 hx ha hdb he hpl
theorem qAs (D : qQd X.prog X.w X.K X.mg X.base k x C dvs sp) (hr : Room (k + 1) X.A) (hg : Gl X x) (hx : Passes (CXX X.prog X.w) X E)
    (ha : PA X (e :: es) t) (hdb : (x == ("__debug__" : Str)) = false := by decide) (he : starEach (e :: es) X.env = (false, eval e X.env) :: starEach es X.env := by rfl) (hpl : (backTo pos (starEach es X.env)).any (·.1) = false := by rfl) :
    PE X (.Call (.Name x p) (e :: es) [] pos) (tMake C sp dvs E t) := by
  obtain ⟨f, fd, ps, ds, h1, h2, h3, h4, h5⟩ := D
  exact pe_make h2 h3 hr hg h1 h4 h5 hx ha hdb he hpl
theorem qKq {pl : Sem Bool} (he : PE X o ta) (D : qEj X.prog X.w X.K X.mg X.base k C m dvs sp) (hr : Room k X.A) (hx : Passes (CXX X.prog X.w) X E) (ha : PA X (e :: es) t)
    (hst : starEach (e :: es) X.env = (false, eval e X.env) :: starEach es X.env := by rfl) (hpl : (backTo pos (starEach es X.env)).any (·.1) = false := by rfl)
    (ht : eval (.Call (.Attribute o m apos) (e :: es) [] pos) X.env = (do
      let ov ← eval o X.env
      standAt apos.atName
      let (f, first) ← holding [ov] (getMethod ov m pl)
      callWith pos f first (backTo pos (starEach (e :: es) X.env)) (backToKw pos (keywordEach [] X.env))) := by rfl) :
    PE X (.Call (.Attribute o m apos) (e :: es) [] pos) (tMeth C m sp dvs E ta t) := by
  obtain ⟨f, fd, ps, ds, h1, h2, h3, h4, h5⟩ := D
  exact pe_meth he h1 h2 h3 hr h4 h5 hx ha hst hpl ht
theorem qAgz {pl : Sem Bool} (he : PE X o ta) (D : qEj X.prog X.w X.K X.mg X.base k C m dvs sp) (hr : Room k X.A) (hx : Passes (CXX X.prog X.w) X E)
    (ht : eval (.Call (.Attribute o m apos) [] [] pos) X.env = (do
      let ov ← eval o X.env
      standAt apos.atName
      let (f, first) ← holding [ov] (getMethod ov m pl)
      callWith pos f first (backTo pos (starEach [] X.env)) (backToKw pos (keywordEach [] X.env))) := by rfl) :
    PE X (.Call (.Attribute o m apos) [] [] pos) (tMeth C m sp dvs E ta tNil) := by
  obtain ⟨f, fd, ps, ds, h1, h2, h3, h4, h5⟩ := D
  exact pe_meth0 he h1 h2 h3 hr h4 h5 hx ht
/-- what leaves a def's body by a call -/
theorem qEc {W : WX} (tk : Takes X W) (hW : ∀ cls d σ H, E cls d H → W cls d σ H) : Passes (CXX X.prog X.w) X E := passes_call tk hW
end
/-! ### ints -/
/-- no bound is asked -/
def Sml (_ : Int) : Prop := True
instance {b : Int} : Decidable (Sml b) := .isTrue trivial
theorem sml (b : Int) : Sml b := trivial
def qApx (_ j : Int) : Prop := j ≠ 0
theorem cdiv {i j : Int} (h : j ≠ 0) : qApx i j := h
section
variable {X : Cx}
/-- xs[i] read on the way of xs[i] += e -/
theorem qAdw : PGet X (fun x y H Q => ∃ p xs i v, x = .ref p ∧ y = .int i ∧ 0 ≤ i ∧ SqL X.K H p xs ∧ xs[i.toNat]? = some v ∧ Q v H) := by
  intro pins s σ H x y v u Q I rx ry h
  obtain ⟨p, xs, i, z, rfl, rfl, h0, hq, he, q⟩ := h
  cases rx
  obtain ⟨t, rfl⟩ := ry
  obtain ⟨its, r, pl, hz⟩ := I.list hq
  obtain ⟨w, ew, rw'⟩ := r.get he
  have hn := line63
  have hlt : i.toNat < xs.length := (List.getElem?_eq_some_iff.mp he).1
  exact wpAny_getItem_list pl.isList h0 (by omega) (by simpa using ew) ⟨z, H, I, rw', q⟩
end
end MR
namespace MR
open PySem PySem.Spec PyProof.Rows L2
/-! ### short names of readings -/
abbrev qEf : R2 := rI0 fun i j => .int (i + j)
abbrev qNi : R2 := rI0 fun i j => .int (i - j)
abbrev qFp : R2 := rI IntMulOk fun i j => .int (i * j)
abbrev qAao : R2 := rI qApx fun i j => .int (i.fdiv j)
abbrev qZa : R2 := rI (fun _ j => j ≠ 0) fun i j => .int (i.fmod j)
abbrev qApg : R2 := rI CPow fun i j => .int (i ^ j.toNat)
abbrev rLt0 : R2 := rI0 fun i j => .bl (decide (i < j))
abbrev rLe0 : R2 := rI0 fun i j => .bl (decide (i ≤ j))
abbrev rGt0 : R2 := rI0 fun i j => .bl (decide (j < i))
abbrev rGe0 : R2 := rI0 fun i j => .bl (decide (j ≤ i))
abbrev qJ0 : R2 := fun x y H Q => y = .non ∧ Q (.bl (decide (x = .non))) H
abbrev qK4 : R2 := fun x y H Q => y = .non ∧ Q (.bl (!decide (x = .non))) H
abbrev qO2 : V → Hp → VK → Prop := rU fun i => .int (-i)
abbrev qAov : List V → Hp → VK → Prop := fun xs H Q => ∃ i, xs = [.int i] ∧ Q (.int (if i < 0 then -i else i)) H
abbrev qAlm : List V → Hp → VK → Prop := fun xs H Q => ∃ i j, xs = [.int i, .int j] ∧ Q (.int (if j > i then j else i)) H
abbrev qTi : List V → Hp → VK → Prop := fun xs H Q => (∃ i, xs = [.int i] ∧ Q (.int i) H) ∨ ∃ k, xs = [.bl k] ∧ Q (.int (if k then 1 else 0)) H
abbrev qAq1 (K : PySem.W.Frag) : V → V → Hp → VK → Prop := fun x y H Q => ∃ p xs i v, x = .ref p ∧ y = .int i ∧ 0 ≤ i ∧ SqL K H p xs ∧ xs[i.toNat]? = some v ∧ Q v H
abbrev qUv (K : PySem.W.Frag) : List V → Hp → VK → Prop := fun xs H Q => ∃ p ys, xs = [.ref p] ∧ (SqL K H p ys ∨ SqT K H p ys) ∧ ∀ l, H l = none → Q (.ref l) (upd H l (.lst ys))
abbrev qFq (K : PySem.W.Frag) : List V → Hp → VK → Prop := fun xs H Q => ∃ x n, xs = [x] ∧ LenV K x H n ∧ Q (.int n) H
abbrev qAbh (K : PySem.W.Frag) (ta : TE) : TT := fun σ H Q => ta σ H fun x H1 => ∃ k, TruV K x H1 k ∧ Q k H1
theorem qCi {X : Cx} : OpR X (binaryOp .Mult) qFp := opI fun _ _ _ _ _ _ _ hc q => mul_int q hc
/-! ### sizes -/
theorem qAnf {i j : Int} {a b : Nat} (ha : i.natAbs < 2 ^ a) (hb : j.natAbs < 2 ^ b) (h0 : 0 < a) (h1 : 0 < b) (h : a + b ≤ 1000000) : IntMulOk i j := (wide_mul ha hb h0 h1 h).ok
theorem qVk {i j : Int} (h : i.natAbs < 2 ^ 64) : IntMulOk i j := CMul.ok (.inl (by omega))
theorem qAos {i j : Int} (h : j.natAbs < 2 ^ 64) : IntMulOk i j := CMul.ok (.inr (by omega))
/-! ### heaps -/
theorem qWe {H : Hp} {p : Addr} {o : HO} (h : H p = none) : Same H (upd H p o) := fun b u e => by
  rw [upd_ne (ne_of_none e h)]
  exact e
/-- all but f is as it was -/
def Keep (f : Addr) (H H' : Hp) : Prop := ∀ b o, H b = some o → b ≠ f → H' b = some o
theorem Keep.refl (f : Addr) (H : Hp) : Keep f H H := fun _ _ h _ => h
theorem Keep.trans {f : Addr} {H H1 H2 : Hp} (a : Keep f H H1) (b : Keep f H1 H2) : Keep f H H2 := fun c o h n => b c o (a c o h n) n
theorem Same.keep {f : Addr} {H H1 : Hp} (a : Same H H1) : Keep f H H1 := fun c o h _ => a c o h
theorem qGk {f : Addr} {H : Hp} {o : HO} : Keep f H (upd H f o) := fun b u e n => by rw [upd_ne n]; exact e
end MR

/-! MR: the mathematics of fractions -/
namespace MR
theorem qAeu {a b : Int} (hb : 0 < b) : a.fdiv (a.gcd b : Int) = (Rat.divInt a b).num := by
  have hg : (a.gcd b : Int) ∣ a := Int.gcd_dvd_left ..
  rw [Rat.num_divInt, Int.fdiv_eq_ediv_of_dvd hg, Int.sign_eq_one_of_pos hb, Int.one_mul, Int.gcd_comm]
theorem qAep {a b : Int} (hb : 0 < b) : b.fdiv (a.gcd b : Int) = ((Rat.divInt a b).den : Int) := by
  have hg : (a.gcd b : Int) ∣ b := Int.gcd_dvd_right ..
  have hn : b ≠ 0 := by omega
  rw [Rat.den_divInt, if_neg hn, Int.fdiv_eq_ediv_of_dvd hg, Int.gcd_comm, Int.natCast_ediv]
  congr 1
  omega
theorem qAiz {a b : Int} (hb : b < 0) : a.fdiv (-(a.gcd b : Int)) = (Rat.divInt a b).num := by
  have h := qAeu (a := -a) (b := -b) (by omega)
  rw [Rat.neg_divInt_neg, Int.gcd_neg, Int.neg_gcd] at h
  have e := Int.neg_fdiv_neg (-a) (a.gcd b : Int)
  rw [Int.neg_neg] at e
  rw [e, h]
theorem qAjh {a b : Int} (hb : b < 0) : b.fdiv (-(a.gcd b : Int)) = ((Rat.divInt a b).den : Int) := by
  have h := qAep (a := -a) (b := -b) (by omega)
  rw [Rat.neg_divInt_neg, Int.gcd_neg, Int.neg_gcd] at h
  have e := Int.neg_fdiv_neg (-b) (a.gcd b : Int)
  rw [Int.neg_neg] at e
  rw [e, h]
theorem qPo {a b : Int} (hb : b ≠ 0) : ∃ m : Int, m ≠ 0 ∧ a = (Rat.divInt a b).num * m ∧ b = ((Rat.divInt a b).den : Int) * m := by
  obtain ⟨m, h1, h2, h3⟩ := Rat.divInt_num_den (n := a) (d := b) (n' := (Rat.divInt a b).num) (d' := (Rat.divInt a b).den) (z' := (Rat.divInt a b).den_nz) (c := (Rat.divInt a b).reduced) hb rfl
  exact ⟨m, h1, h2, h3⟩
theorem qArt {a b : Int} (hb : b ≠ 0) : (Rat.divInt a b).num.natAbs ≤ a.natAbs := by
  obtain ⟨m, h1, h2, _⟩ := qPo (a := a) hb
  have e : a.natAbs = (Rat.divInt a b).num.natAbs * m.natAbs := by
    rw [← Int.natAbs_mul, ← h2]
  rw [e]
  exact Nat.le_mul_of_pos_right _ (by omega)
theorem qAr8 {a b : Int} (hb : b ≠ 0) : (Rat.divInt a b).den ≤ b.natAbs := by
  obtain ⟨m, h1, _, h3⟩ := qPo (a := a) hb
  have e : b.natAbs = ((Rat.divInt a b).den : Int).natAbs * m.natAbs := by
    rw [← Int.natAbs_mul, ← h3]
  rw [e, Int.natAbs_natCast]
  exact Nat.le_mul_of_pos_right _ (by omega)
end MR

set_option Elab.async false
set_option linter.all false
set_option maxRecDepth 100000
set_option maxHeartbeats 4000000
/-! MR: is_integer, common_part, Ratio() -/
namespace MR
open PySem PySem.Spec PyProof.Rows L2
/-- b is the answer to: is x an integer? -/
def IntQ (K : PySem.W.Frag) (H : Hp) (x : V) (b : Bool) : Prop := ∃ (t : Value) (b1 : Bool), TyX K H x t ∧ PySem.W.kitOne K t (.type "int") = some b1 ∧ (b1 = false → b = false) ∧ (b1 = true → ∃ b2, PySem.W.kitOne K t (.type "bool") = some b2 ∧ b = !b2)
theorem qAd7 {K : PySem.W.Frag} {H : Hp} {i : Int} : IntQ K H (.int i) true := ⟨_, true, .base (.int i), kit_ty (by decide +kernel), fun z => (by cases z), fun _ => ⟨false, kit_ty (by decide +kernel), rfl⟩⟩
/-- what the written part says of an own class without surprises -/
structure OwnC (K : PySem.W.Frag) (C : Addr) : Prop where
  cl : Cls K C
  ha : PySem.W.findIn K (.ref C) "__class__" = some (some (.builtin "object.__class__"))
  hn : PySem.W.specialIn K (.builtin "object.__class__") "__get__" = some (some (.builtin "getset_descriptor.__get__"))
  ht : PySem.W.takesIn K (.builtin "object.__class__") = some true
  hm : PySem.W.mroIn K C (.type "object") = some true
  ki : PySem.W.kitOne K (.ref C) (.type "int") = some false
theorem OwnC.ty {K : PySem.W.Frag} {H : Hp} {C a dx : Addr} {fs : List (Str × V)} (T : OwnC K C) (h : H a = some (.ins C dx fs)) : TyX K H (.ref a) (.ref C) := .base (.ins h T.cl T.ha T.hn T.ht T.hm)
def qEl (K : PySem.W.Frag) : Sp := fun vs H Q _ => ∃ (x : V) (b : Bool), vs = [x] ∧ IntQ K H x b ∧ Q (.bl b) H
def qP5 (K : PySem.W.Frag) : TS :=
  (tRet (tAndV (tCB (rIsi K) (tCons (tVar 0) (tCons (tC (.ty "int")) tNil))) (tNotV (tCB (rIsi K) (tCons (tVar 0) (tCons (tC (.ty "bool")) tNil))))))
theorem qSr {K : PySem.W.Frag} (vs : List V) (H : Hp) (Q : VK) (E : XK) (h : qEl K vs H Q E) : qP5 K { nx := fun _ H' => Q .non H', rt := Q } (start ["value"] vs) H := by
  obtain ⟨x, b, rfl, ⟨t, b1, ty, k1, c1, c2⟩, q⟩ := h
  refine ⟨_, rfl, x, _, t, _, b1, rfl, .ty "int", ty, k1, b1, rfl, ?_⟩
  cases b1 with
  | false =>
    rw [c1 rfl] at q
    exact iteF q
  | true =>
    obtain ⟨b2, k2, rfl⟩ := c2 rfl
    exact iteT ⟨_, rfl, x, _, t, _, b2, rfl, .ty "bool", ty, k2, b2, rfl, q⟩
def qAlo : Sp := fun vs H Q _ => ∃ a b : Int, vs = [.int a, .int b] ∧ Q (.int (a.gcd b : Nat)) H
def qNj (K : PySem.W.Frag) : TS :=
  (tSeq (tPar 0 1 (tCons (tCB qAov (tCons (tVar 0) tNil)) (tCons (tCB qAov (tCons (tVar 1) tNil)) tNil)))
  (tSeq (tWhile (tTest (tOp rGt0 (tVar 1) (tC (.int 0)))) (tPar 0 1 (tCons (tVar 1) (tCons (tOp qZa (tVar 0) (tVar 1)) tNil))))
  (tRet (tVar 0))))
theorem qAi6 (i : Int) : (if i < 0 then -i else i) = (i.natAbs : Int) := by omega
theorem qQp {K : PySem.W.Frag} (vs : List V) (H : Hp) (Q : VK) (E : XK) (h : qAlo vs H Q E) : qNj K { nx := fun _ H' => Q .non H', rt := Q } (start ["one", "other"] vs) H := by
  obtain ⟨a, b, rfl, q⟩ := h
  refine ⟨_, rfl, _, rfl, _, rfl, _, rfl, _, _, rfl, ?_⟩
  rw [qAi6, qAi6]
  refine while_by (fun σ H' => H' = H ∧ ∃ x y : Nat, σ = [some (.int x), some (.int y)] ∧ x.gcd y = a.gcd b) (fun σ _ => match σ with | [_, some (.int y)] => y.toNat | _ => 0) ⟨rfl, _, _, rfl, rfl⟩ ?_ ?_
  · rintro σ H' ⟨rfl, x, y, rfl, hg⟩
    refine ⟨_, rfl, _, _, rfl, rfl, _, rfl, ?_⟩
    refine ite2 (fun c => ?_) (fun c => ?_)
    · have hy : 0 < y := by
        have := of_decide_eq_true c
        omega
      refine ⟨_, rfl, _, rfl, _, rfl, _, _, rfl, rfl, (by omega), _, _, rfl, ⟨rfl, y, x % y, ?_, ?_⟩, ?_⟩
      · show [some (V.int y), some (V.int ((x : Int).fmod y))] = _
        rw [Int.fmod_eq_emod_of_nonneg _ (by omega)]
        rfl
      · rw [← hg, Nat.gcd_comm x y, Nat.gcd_rec y x, Nat.gcd_comm]
      · show ((x : Int).fmod y).toNat < (y : Int).toNat
        rw [Int.fmod_eq_emod_of_nonneg _ (by omega)]
        have := Nat.mod_lt x hy
        omega
    · have hy : y = 0 := by
        rw [decide_eq_true_eq] at c
        omega
      subst hy
      refine ⟨_, rfl, ?_⟩
      rw [Nat.gcd_zero_right] at hg
      rw [hg]
      exact q
  · rintro σ H' Q1 Q2 hq ⟨v, e1, i, j, e2, e3, k, e4, h4⟩
    exact ⟨v, e1, i, j, e2, e3, k, e4, hq _ _ h4⟩
/-! ### Ratio(top, bottom) -/
abbrev CR (K : PySem.W.Frag) : Addr := He.ga K "Ratio"
/-- the fields of a fraction -/
def ratF (q : Rat) : List (Str × V) := [("top", .int q.num), ("bottom", .int (q.den : Nat))]
def IsRat (K : PySem.W.Frag) (H : Hp) (p : Addr) (q : Rat) : Prop := ∃ dx, H p = some (.ins (CR K) dx (ratF q))
theorem IsRat.same {K : PySem.W.Frag} {H H' : Hp} {p : Addr} {q : Rat} (h : IsRat K H p q) (s : Same H H') : IsRat K H' p q := let ⟨dx, e⟩ := h; ⟨dx, s _ _ e⟩
theorem qAqt : ¬ (("bottom" : Str) = "top") := by decide +kernel
theorem qAmc (q : Rat) : (ratF q).lookup ("top" : Str) = some (.int q.num) := by simp [ratF, List.lookup]
theorem qAly (q : Rat) : (ratF q).lookup ("bottom" : Str) = some (.int (q.den : Nat)) := by
  have h : (("bottom" : Str) == ("top" : Str)) = false := by decide +kernel
  simp [ratF, List.lookup, h]
/-- what the walk asks of the class Ratio -/
structure RTxt (K : PySem.W.Frag) : Prop where
  own : OwnC K (CR K)
  nT : NoAttr K (CR K) "top"
  nB : NoAttr K (CR K) "bottom"
/-- an error of the class at C with the field p = v -/
def Err (K : PySem.W.Frag) (C p w : Str) (H : Hp) (E : XK) : Prop := ∀ d : Addr, H d = none → E (.ref (He.ga K C)) (some d) (upd H d (.xd [(p, .str w)]))
def qA8 (K : PySem.W.Frag) : Sp := fun vs H Q E => ∃ (p dx : Addr) (x y : V) (bx : Bool), vs = [.ref p, x, y] ∧ H p = some (.ins (CR K) dx []) ∧ IntQ K H x bx ∧ (bx = false → Err K "NoRatio" "word" "top" H E) ∧
  (bx = true → ∃ bY, IntQ K H y bY ∧ (bY = false → Err K "NoRatio" "word" "bottom" H E) ∧ (bY = true → ∃ a b : Int, x = .int a ∧ y = .int b ∧ (b = 0 → Err K "NoRatio" "word" "zero" H E) ∧
    (b ≠ 0 → Sml b ∧ Q .non (upd H p (.ins (CR K) dx (ratF (Rat.divInt a b)))))))
def qP1 (K : PySem.W.Frag) (E : XK) : TS :=
  (tSeq (tIfS (tNot (tB (tCall (qEl K) [] E0 (tCons (tVar 1) tNil)))) (qEn (He.ga K "NoRatio") "word" (fun cls d _ H => E cls d H) (tCons (tC (.str "top")) tNil)) tNext)
  (tSeq (tIfS (tNot (tB (tCall (qEl K) [] E0 (tCons (tVar 2) tNil)))) (qEn (He.ga K "NoRatio") "word" (fun cls d _ H => E cls d H) (tCons (tC (.str "bottom")) tNil)) tNext)
  (tSeq (tIfS (tTest (tOp rEq (tVar 2) (tC (.int 0)))) (qEn (He.ga K "NoRatio") "word" (fun cls d _ H => E cls d H) (tCons (tC (.str "zero")) tNil)) tNext)
  (tSeq (tAsg (tCall qAlo [] E0 (tCons (tVar 1) (tCons (tVar 2) tNil))) (gName 3))
  (tSeq (tIfS (tTest (tOp rLt0 (tVar 2) (tC (.int 0)))) (tAsg (tUn qO2 (tVar 3)) (gName 3)) tNext)
  (tSeq (sFld K (tVar 0) (tOp qAao (tVar 1) (tVar 3)) "top")
  (sFld K (tVar 0) (tOp qAao (tVar 2) (tVar 3)) "bottom")))))))
theorem qAiu {a b : Int} (hb : b ≠ 0) (h : Sml b) : a.gcd b ≠ 0 ∧ True := by
  have h1 : a.gcd b ≤ b.natAbs := Nat.le_of_dvd (by omega) (Int.gcd_dvd_natAbs_right a b)
  have h2 : a.gcd b ≠ 0 := fun e => hb (Int.gcd_eq_zero_iff.mp e).2
  exact ⟨h2, trivial⟩
theorem qR5 {K : PySem.W.Frag} (T : RTxt K) (vs : List V) (H : Hp) (Q : VK) (E : XK) (h : qA8 K vs H Q E) : qP1 K E { nx := fun _ H' => Q .non H', rt := Q } (start ["self", "top", "bottom", "divisor"] vs) H := by
  obtain ⟨p, dx, x, y, bx, rfl, hp, ix, e1, k1⟩ := h
  refine ⟨_, rfl, x, bx, rfl, ix, _, rfl, ?_⟩
  cases bx with
  | false => exact iteT ⟨_, rfl, e1 rfl⟩
  | true =>
    refine iteF ?_
    obtain ⟨bY, iy, e2, k2⟩ := k1 rfl
    refine ⟨_, rfl, y, bY, rfl, iy, _, rfl, ?_⟩
    cases bY with
    | false => exact iteT ⟨_, rfl, e2 rfl⟩
    | true =>
      refine iteF ?_
      obtain ⟨a, b, rfl, rfl, e3, k3⟩ := k2 rfl
      refine ⟨_, rfl, rfl, _, rfl, ?_⟩
      refine ite2 (fun c => ?_) (fun c => ?_)
      · have hb : b = 0 := by
          have := of_decide_eq_true c
          injection this
        exact ⟨_, rfl, e3 hb⟩
      · have hb : b ≠ 0 := fun z => c (by rw [z]; exact decide_eq_true rfl)
        obtain ⟨hs, q⟩ := k3 hb
        obtain ⟨g0, g9⟩ := qAiu (a := a) hb hs
        refine ⟨_, rfl, _, rfl, a, b, rfl, ?_⟩
        refine ⟨_, rfl, _, _, rfl, rfl, _, rfl, ?_⟩
        have fin : ∀ d : Int, d ≠ 0 → Sml d → a.fdiv d = (Rat.divInt a b).num → b.fdiv d = ((Rat.divInt a b).den : Nat) →
            tSeq (sFld K (tVar 0) (tOp qAao (tVar 1) (tVar 3)) "top") (sFld K (tVar 0) (tOp qAao (tVar 2) (tVar 3)) "bottom") { nx := fun _ H' => Q .non H', rt := Q } [some (.ref p), some (.int a), some (.int b), some (.int d)] H := by
          intro d d0 d9 en ed
          refine ⟨_, rfl, _, rfl, _, _, rfl, rfl, cdiv d0, _, rfl, p, CR K, dx, [], rfl, hp, T.own.cl, T.nT, (by show 0 < 1000; decide), ?_⟩
          refine ⟨_, rfl, _, rfl, _, _, rfl, rfl, cdiv d0, _, rfl, p, CR K, dx, _, rfl, upd_same, T.own.cl, T.nB, (by show 1 < 1000; decide), ?_⟩
          rw [upd_upd]
          dsimp only
          rw [en, ed]
          have ef : putF "bottom" (V.int ((Rat.divInt a b).den : Nat)) (putF "top" (V.int (Rat.divInt a b).num) []) = ratF (Rat.divInt a b) := by
            show (if ("top" : Str) = "bottom" then _ else _ :: putF "bottom" _ []) = _
            rw [if_neg (fun z => qAqt z.symm)]
            rfl
          rw [ef]
          exact q
        refine ite2 (fun c => ?_) (fun c => ?_)
        · have hn : b < 0 := of_decide_eq_true c
          refine ⟨_, rfl, _, rfl, ?_⟩
          exact fin (-(a.gcd b : Int)) (by omega) trivial (qAiz hn) (qAjh hn)
        · have hn : 0 < b := by
            rw [decide_eq_true_eq] at c
            omega
          exact fin (a.gcd b : Int) (by omega) trivial (qAeu hn) (qAep hn)
/-- Ratio(a, b), a fraction comes out: all that was stands, the new object holds it -/
theorem qAqx {K : PySem.W.Frag} {H : Hp} {R : Hp → Prop} {E : XK} {a b : Int} {x dx : Addr} (nx : H x = none) (nd : H dx = none) (hb : b ≠ 0) (hs : Sml b) (k : ∀ H', Same H H' → IsRat K H' x (Rat.divInt a b) → R H') :
    qA8 K [.ref x, .int a, .int b] (upd (upd H dx (.own x)) x (.ins (CR K) dx [])) (fun v H2 => v = .non ∧ R H2) E := by
  refine ⟨x, dx, _, _, true, rfl, upd_same, qAd7, fun z => (by cases z), fun _ => ⟨true, qAd7, fun z => (by cases z), fun _ => ⟨a, b, rfl, rfl, fun z => absurd z hb, fun _ => ⟨hs, rfl, ?_⟩⟩⟩⟩
  rw [upd_upd]
  refine k _ (fun c o e => ?_) ⟨dx, upd_same⟩
  rw [upd_ne (ne_of_none e nx), upd_ne (ne_of_none e nd)]
  exact e
theorem qAks {K : PySem.W.Frag} {H H' : Hp} {x : V} {t : Value} (s : Same H H') (h : TyX K H x t) : TyX K H' x t := by
  cases h with
  | base h =>
    refine .base ?_
    cases h with
    | non => exact .non
    | bl x => exact .bl x
    | int i => exact .int i
    | str x => exact .str x
    | flt x => exact .flt x
    | lst e => exact .lst (s _ _ e)
    | frz e => exact .frz (s _ _ e)
    | tup e => exact .tup (s _ _ e)
    | dK e => exact .dK (s _ _ e)
    | dT e => exact .dT (s _ _ e)
    | ins e cl ha hn htk hm => exact .ins (s _ _ e) cl ha hn htk hm
  | byt b => exact .byt b
  | set e => exact .set (s _ _ e)
  | kList e c => exact .kList e c
  | kTuple e c => exact .kTuple e c
  | kDict e c => exact .kDict e c
  | fTuple e => exact .fTuple (s _ _ e)
  | fDict e => exact .fDict (s _ _ e)
theorem IntQ.same {K : PySem.W.Frag} {H H' : Hp} {x : V} {b : Bool} (h : IntQ K H x b) (s : Same H H') : IntQ K H' x b := let ⟨t, b1, h1, h2⟩ := h; ⟨t, b1, qAks s h1, h2⟩
theorem qAk2 {K : PySem.W.Frag} {H H' : Hp} {f : Addr} {x : V} {t : Value} (s : Keep f H H') (n : x ≠ .ref f) (h : TyX K H x t) : TyX K H' x t := by
  have nn : ∀ {a : Addr}, V.ref a ≠ .ref f → a ≠ f := fun h e => h (by rw [e])
  cases h with
  | base h =>
    refine .base ?_
    cases h with
    | non => exact .non
    | bl x => exact .bl x
    | int i => exact .int i
    | str x => exact .str x
    | flt x => exact .flt x
    | lst e => exact .lst (s _ _ e (nn n))
    | frz e => exact .frz (s _ _ e (nn n))
    | tup e => exact .tup (s _ _ e (nn n))
    | dK e => exact .dK (s _ _ e (nn n))
    | dT e => exact .dT (s _ _ e (nn n))
    | ins e cl ha hn htk hm => exact .ins (s _ _ e (nn n)) cl ha hn htk hm
  | byt b => exact .byt b
  | set e => exact .set (s _ _ e (nn n))
  | kList e c => exact .kList e c
  | kTuple e c => exact .kTuple e c
  | kDict e c => exact .kDict e c
  | fTuple e => exact .fTuple (s _ _ e (nn n))
  | fDict e => exact .fDict (s _ _ e (nn n))
theorem IntQ.keep {K : PySem.W.Frag} {H H' : Hp} {f : Addr} {x : V} {b : Bool} (h : IntQ K H x b) (s : Keep f H H') (n : x ≠ .ref f) : IntQ K H' x b := let ⟨t, b1, h1, h2⟩ := h; ⟨t, b1, qAk2 s n h1, h2⟩
end MR

set_option Elab.async false
set_option linter.all false
set_option maxRecDepth 100000
set_option maxHeartbeats 4000000
/-! MR: the draws that the laws make of their script -/
namespace MR
open PySem PySem.Spec PyProof.Rows L2
/-- the list at f is the law's feed: cells at c, place, rest, left, count, sum -/
structure FeedAt (K : PySem.W.Frag) (H : Hp) (f c : Addr) (ns : List Int) (p b l n s : Int) : Prop where
  ob : H f = some (.lst [.ref c, .int p, .int b, .int l, .int n, .int s])
  cs : SqL K H c (ns.map V.int)
  ne : c ≠ f
  nn : ∀ x ∈ ns, 0 ≤ x
  p0 : 0 ≤ p
  b0 : 0 ≤ b
  l0 : 0 ≤ l
  n0 : 0 ≤ n
  s0 : 0 ≤ s
def Feed (K : PySem.W.Frag) (H : Hp) (f : Addr) : Prop := ∃ c ns p b l n s, FeedAt K H f c ns p b l n s
theorem qAhk {K : PySem.W.Frag} {H H' : Hp} {f a : Addr} {xs : List V} (k : Keep f H H') (ne : a ≠ f) (h : SqL K H a xs) : SqL K H' a xs := by
  rcases h with (h | ⟨o, h⟩) | h
  · exact .inl (.inl (k _ _ h ne))
  · exact .inl (.inr ⟨o, k _ _ h ne⟩)
  · exact .inr h
theorem FeedAt.upd {K : PySem.W.Frag} {H : Hp} {f c : Addr} {ns : List Int} {p b l n s p' b' l' n' s' : Int} (F : FeedAt K H f c ns p b l n s) (h1 : 0 ≤ p') (h2 : 0 ≤ b') (h3 : 0 ≤ l') (h4 : 0 ≤ n') (h5 : 0 ≤ s') :
    FeedAt K (upd H f (.lst [.ref c, .int p', .int b', .int l', .int n', .int s'])) f c ns p' b' l' n' s' := ⟨upd_same, qAhk qGk F.ne F.cs, F.ne, F.nn, h1, h2, h3, h4, h5⟩
theorem FeedAt.same {K : PySem.W.Frag} {H H' : Hp} {f c : Addr} {ns : List Int} {p b l n s : Int} (F : FeedAt K H f c ns p b l n s) (h : Same H H') : FeedAt K H' f c ns p b l n s := ⟨h _ _ F.ob, h.seq F.cs, F.ne, F.nn, F.p0, F.b0, F.l0, F.n0, F.s0⟩
theorem Feed.same {K : PySem.W.Frag} {H H' : Hp} {f : Addr} (F : Feed K H f) (h : Same H H') : Feed K H' f := let ⟨c, ns, p, b, l, n, s, G⟩ := F; ⟨c, ns, p, b, l, n, s, G.same h⟩
def qAi1 (K : PySem.W.Frag) : TS :=
  (tSeq (tIfS (tTest (tOp rGt0 (tOp (rIxL K) (tVar 0) (tC (.int 2))) (tC (.int 0)))) (tSeq (tAsg (tOp qZa (tCB qTi (tCons (tOp (rIxL K) (tVar 0) (tC (.int 2))) tNil)) (tVar 1)) (gName 4))
  (tSeq (tAsg (tOp qAao (tOp (rIxL K) (tVar 0) (tC (.int 2))) (tVar 1)) (gSub (tVar 0) (tC (.int 2)) rSetL))
  (tRet (tVar 4)))) tNext)
  (tSeq (tAsg (tCB qAlm (tCons (tC (.int 0)) (tCons (tOp qNi (tOp (rIxL K) (tVar 0) (tC (.int 3))) (tC (.int 1))) tNil))) (gSub (tVar 0) (tC (.int 3)) rSetL))
  (tSeq (tAsg (tOp qZa (tCB qTi (tCons (tOp qFp (tOp qEf (tOp qEf (tOp (rIxL K) (tVar 0) (tC (.int 5))) (tOp qFp (tC (.int 7919)) (tOp (rIxL K) (tVar 0) (tC (.int 4))))) (tC (.int 1))) (tC (.int 48271))) tNil)) (tC (.int 2147483647))) (gName 2))
  (tSeq (tAsg (tOp qZa (tCB qTi (tCons (tOp qFp (tVar 2) (tOp qEf (tOp qAao (tVar 2) (tC (.int 1009))) (tC (.int 69621)))) tNil)) (tC (.int 2147483647))) (gName 2))
  (tSeq (tAsg (tOp qZa (tCB qTi (tCons (tOp qFp (tVar 2) (tOp qEf (tOp qAao (tVar 2) (tC (.int 2003))) (tC (.int 40692)))) tNil)) (tC (.int 2147483399))) (gName 2))
  (tRet (tOp qZa (tVar 2) (tVar 1))))))))
def qLp (K : PySem.W.Frag) : TS :=
  (tSeq (tAugS (tVar 0) (tC (.int 4)) (tC (.int 1)) (qAq1 K) (ipI fun i j => i + j) rSetL)
  (tSeq (tIfS (tAnd (tTest (tOp rEq (tOp (rIxL K) (tVar 0) (tC (.int 2))) (tC (.int 0)))) (tAnd (tTest (tOp rEq (tOp (rIxL K) (tVar 0) (tC (.int 3))) (tC (.int 0)))) (tTest (tOp rLt0 (tOp (rIxL K) (tVar 0) (tC (.int 1))) (tCB (qFq K) (tCons (tOp (rIxL K) (tVar 0) (tC (.int 0))) tNil)))))) (tSeq (tAsg (tOp (rIxL K) (tOp (rIxL K) (tVar 0) (tC (.int 0))) (tOp (rIxL K) (tVar 0) (tC (.int 1)))) (gName 3))
  (tSeq (tAugS (tVar 0) (tC (.int 1)) (tC (.int 1)) (qAq1 K) (ipI fun i j => i + j) rSetL)
  (tIfS (tTest (tOp rGe0 (tVar 3) (tOp qApg (tC (.int 10)) (tC (.int 18))))) (tAsg (tVar 3) (gSub (tVar 0) (tC (.int 2)) rSetL)) (tSeq (tAsg (tC (.int 7)) (gSub (tVar 0) (tC (.int 3)) rSetL))
  (tAsg (tOp qEf (tOp (rIxL K) (tVar 0) (tC (.int 5))) (tVar 3)) (gSub (tVar 0) (tC (.int 5)) rSetL)))))) tNext)
  (qAi1 K)))
theorem qOr {a z : Int} (h : 0 < z) : 0 ≤ a.fmod z ∧ a.fmod z < z := by
  rw [Int.fmod_eq_emod_of_nonneg _ (by omega)]
  exact ⟨Int.emod_nonneg _ (by omega), Int.emod_lt_of_pos _ h⟩
/-! ### _law_feed(script) -/
def qSa (K : PySem.W.Frag) : TS :=
  (tRet (tLst (tCons (tLc (iList K (tSl (rSlL K) (tVar 0) tNoPart (tPart (tC (.int 63))))) (gName 1) tYes (tCB qAov (tCons (tCB qTi (tCons (tVar 1) tNil)) tNil)) [1]) (tCons (tC (.int 0)) (tCons (tC (.int 0)) (tCons (tC (.int 0)) (tCons (tC (.int 0)) (tCons (tC (.int 0)) tNil))))))))
theorem qAlq (ns : List Int) (lo hi : Option Int) : ∃ ms : List Int, cutV (ns.map V.int) lo hi = ms.map V.int ∧ ms.length ≤ ns.length := by
  unfold cutV
  refine ⟨(ns.drop (HT.sIx (ns.map V.int).length 0 lo)).take (HT.sIx (ns.map V.int).length (ns.map V.int).length hi - HT.sIx (ns.map V.int).length 0 lo), ?_, ?_⟩
  · rw [List.map_take, List.map_drop]
  · rw [List.length_take, List.length_drop]
    omega
theorem qAoo {ms : List Int} {i : Nat} {x : V} (h : (ms.map V.int)[i]? = some x) : ∃ z, ms[i]? = some z ∧ x = .int z := by
  rw [List.getElem?_map] at h
  cases e : ms[i]? with
  | none =>
    rw [e] at h
    cases h
  | some z =>
    rw [e] at h
    exact ⟨z, rfl, (Option.some.inj h).symm⟩
theorem qWj {α : Type} {l : List α} {i : Nat} {x : α} (h : l[i]? = some x) : l.take (i + 1) = l.take i ++ [x] := by
  rw [List.take_add_one, h]
  rfl
/-! ### _law_divisor(a, b): four hundred turns are enough -/
theorem qAc8 {x y : Nat} (hy : 0 < y) (h : y ≤ x) : y * (x % y) * 2 ≤ x * y := by
  have h1 := Nat.mod_add_div x y
  have h2 := Nat.mod_lt x hy
  have h3 : 0 < x / y := Nat.div_pos h hy
  have h4 : y * 1 ≤ y * (x / y) := Nat.mul_le_mul_left y h3
  have h5 : (x % y) * 2 ≤ x := by omega
  calc y * (x % y) * 2 = y * (x % y * 2) := Nat.mul_assoc ..
    _ ≤ y * x := Nat.mul_le_mul_left y h5
    _ = x * y := Nat.mul_comm ..
/-- behind i turns -/
structure Eu (g P i x y : Nat) : Prop where
  gc : x.gcd y = g
  lt : 1 ≤ i → y < x ∨ y = 0
  pr : x * y * 2 ^ (i - 1) ≤ P
theorem Eu.turn {g P i x y : Nat} (h : Eu g P i x y) (hy : 0 < y) : Eu g P (i + 1) y (x % y) := by
  refine ⟨by rw [← h.gc, Nat.gcd_comm x y, Nat.gcd_rec y x, Nat.gcd_comm], fun _ => .inl (Nat.mod_lt x hy), ?_⟩
  by_cases hi : 1 ≤ i
  · have hlt : y ≤ x := by
      rcases h.lt hi with z | z <;> omega
    have e : 2 ^ (i + 1 - 1) = 2 * 2 ^ (i - 1) := by
      rw [show i + 1 - 1 = (i - 1) + 1 by omega, Nat.pow_succ, Nat.mul_comm]
    rw [e, ← Nat.mul_assoc]
    exact Nat.le_trans (Nat.mul_le_mul_right _ (qAc8 hy hlt)) h.pr
  · have e : i = 0 := by omega
    subst e
    have h3 := h.pr
    simp only [Nat.zero_sub, Nat.pow_zero, Nat.mul_one, Nat.zero_add, Nat.sub_self] at h3 ⊢
    have h5 : y * (x % y) ≤ y * x := Nat.mul_le_mul_left y (Nat.mod_le x y)
    rw [Nat.mul_comm y x] at h5
    omega
theorem Eu.fin {g P x y : Nat} (h : Eu g P 400 x y) (hP : P < 2 ^ 399) : y = 0 := by
  rcases Nat.eq_zero_or_pos y with e | hy
  · exact e
  · exfalso
    have hx : 0 < x := by
      rcases h.lt (by decide) with z | z <;> omega
    have h1 : 1 ≤ x * y := Nat.mul_pos hx hy
    have h2 := h.pr
    have h3 : 1 * 2 ^ (400 - 1) ≤ x * y * 2 ^ (400 - 1) := Nat.mul_le_mul_right _ h1
    rw [Nat.one_mul, show 400 - 1 = 399 by decide] at h3
    rw [show 400 - 1 = 399 by decide] at h2
    exact absurd (Nat.lt_of_le_of_lt (Nat.le_trans h3 h2) hP) (Nat.lt_irrefl _)
end MR

set_option Elab.async false
set_option linter.all false
set_option maxRecDepth 100000
set_option maxHeartbeats 4000000
/-! MR: facts of the head, each a Bool of the written part -/
namespace MR
open PySem PySem.Spec PyProof.Rows L2 He
abbrev Fct : Type := PySem.W.Frag → Bool
abbrev AlM : Type := Bool × List FnW
def obsM (bs : List Fct) (fn : List DefD) (K : PySem.W.Frag) : AlM := ((bs.all fun f => f K) && fn.all fun d => d.ok K, fn.map fun d => fnW K d.at_)
def valM (fn : List DefD) : AlM := (true, fn.map DefD.val)
def SaysM (bs : List Fct) (fn : List DefD) (K : PySem.W.Frag) : Prop := obsM bs fn K = valM fn
section
variable {bs : List Fct} {fn : List DefD} {K : PySem.W.Frag}
theorem SaysM.one (c : SaysM bs fn K) : (bs.all fun f => f K) = true ∧ (fn.all fun d => d.ok K) = true := ba (congrArg (fun z : AlM => z.1) c)
theorem SaysM.fact (c : SaysM bs fn K) (i : Nat) {f : Fct} (h : bs[i]? = some f := by rfl) : f K = true := List.all_eq_true.mp c.one.1 f (List.mem_of_getElem? h)
theorem SaysM.def_ (c : SaysM bs fn K) (i : Nat) {d : DefD} (h : fn[i]? = some d := by rfl) : ∃ fd, FunD K d.name d.qual d.params d.body d.scope (d.dvs K) (d.kws K) (fAd K d.at_) fd := by
  have e2 : (fn.map fun d => fnW K d.at_)[i]? = (fn.map DefD.val)[i]? := congrArg (fun z : AlM => z.2[i]?) c
  rw [List.getElem?_map, List.getElem?_map, h] at e2
  exact DefD.funD (Option.some.inj e2) (List.all_eq_true.mp c.one.2 d (List.mem_of_getElem? h))
end
/-! ### checks -/
def qZo {α : Type} [DecidableEq α] (a : Option α) (b : α) : Bool := decide (a = some b)
theorem qEk {α : Type} [DecidableEq α] {a : Option α} {b : α} (h : qZo a b = true) : a = some b := of_decide_eq_true h
def own (x : Str) : PySem.W.Frag → Value := fun K => .ref (ga K x)
/-- an own class without surprises -/
def ownF (x : Str) : Fct := fun K => (Fa.cls x).ok K && (eqO (PySem.W.findIn K (.ref (ga K x)) "__class__") (some (some (.builtin "object.__class__"))) && (eqO (PySem.W.specialIn K (.builtin "object.__class__") "__get__") (some (some (.builtin "getset_descriptor.__get__"))) &&
  (qZo (PySem.W.takesIn K (.builtin "object.__class__")) true && (qZo (PySem.W.mroIn K (ga K x) (.type "object")) true && qZo (PySem.W.kitOne K (.ref (ga K x)) (.type "int")) false))))
theorem qAj2 {K : PySem.W.Frag} {x : Str} (h : ownF x K = true) : OwnC K (ga K x) := by
  obtain ⟨h1, h⟩ := ba h
  obtain ⟨h2, h⟩ := ba h
  obtain ⟨h3, h⟩ := ba h
  obtain ⟨h4, h⟩ := ba h
  obtain ⟨h5, h6⟩ := ba h
  exact ⟨cls_ok h1, eqO_ok h2, eqO_ok h3, qEk h4, qEk h5, qEk h6⟩
/-! ### an error whose __init__ says super().__init__(p); self.p = p -/
def qAph (p : Str) : FuncBody → Bool
  | .stmts [.Expr (.Call (.Attribute (.Call (.Name s _) [] [] _) i q3) [.Name a _] [] q5) _, .Assign [.Attribute (.Name sf _) b _] (.Name c _) _] =>
    decide (s = "super") && (decide (i = "__init__") && (decide (a = p) && (decide (sf = "self") && (decide (b = p) && (decide (c = p) && (q3.endLine == q5.line))))))
  | _ => false
theorem qAkv {p : Str} {b : FuncBody} (h : qAph p b = true) : ∃ q1 q2 q3 q4 q5 q6 q7 q8 q9 q10 : Pos, b = .stmts [.Expr (.Call (.Attribute (.Call (.Name "super" q1) [] [] q2) "__init__" q3) [.Name p q4] [] q5) q6, .Assign [.Attribute (.Name "self" q7) p q8] (.Name p q9) q10] ∧ (q3.endLine == q5.line) = true := by
  unfold qAph at h
  split at h
  · obtain ⟨h1, h⟩ := ba h
    obtain ⟨h2, h⟩ := ba h
    obtain ⟨h3, h⟩ := ba h
    obtain ⟨h4, h⟩ := ba h
    obtain ⟨h5, h⟩ := ba h
    obtain ⟨h6, h7⟩ := ba h
    have e1 := of_decide_eq_true h1
    have e2 := of_decide_eq_true h2
    have e3 := of_decide_eq_true h3
    have e4 := of_decide_eq_true h4
    have e5 := of_decide_eq_true h5
    have e6 := of_decide_eq_true h6
    subst e1 e2 e4
    rw [e3, e5, e6]
    exact ⟨_, _, _, _, _, _, _, _, _, _, rfl, h7⟩
  · cases h
def parB (p : Str) : Arguments → Bool
  | ⟨[], [a1, a2], none, [], [], none, []⟩ => decide (a1.arg = "self") && decide (a2.arg = p)
  | _ => false
theorem qAon {p : Str} {a : Arguments} (h : parB p a = true) : ∃ a1 a2 : Arg, a = { posonlyargs := [], args := [a1, a2], vararg := none, kwonlyargs := [], kw_defaults := [], kwarg := none, defaults := [] } ∧ a1.arg = "self" ∧ a2.arg = p := by
  unfold parB at h
  split at h
  · obtain ⟨h1, h2⟩ := ba h
    exact ⟨_, _, rfl, of_decide_eq_true h1, of_decide_eq_true h2⟩
  · cases h
def scB (p : Str) : Scope → Bool
  | ⟨.function, [(x1, .local), (x2, .local), (x3, .free), (x4, .globalImplicit)], false, false, []⟩ => decide (x1 = "self") && (decide (x2 = p) && (decide (x3 = "__class__") && decide (x4 = "super")))
  | _ => false
theorem qAqd {p : Str} {s : Scope} (h : scB p s = true) : s = { kind := .function, names := [("self", .local), (p, .local), ("__class__", .free), ("super", .globalImplicit)], isGenerator := false, isCoroutine := false, more := [] } := by
  unfold scB at h
  split at h
  · obtain ⟨h1, h⟩ := ba h
    obtain ⟨h2, h⟩ := ba h
    obtain ⟨h3, h4⟩ := ba h
    rw [of_decide_eq_true h1, of_decide_eq_true h2, of_decide_eq_true h3, of_decide_eq_true h4]
  · cases h
/-- the function object of such an __init__ -/
def qApu (prog : Program) (p : Str) (K : PySem.W.Frag) (C f : Addr) : Bool := match K.lookup f with
  | some ⟨_, _, .func fd, _⟩ => PySem.W.codeIn K fd.code fd.qualname && (parB p fd.params && (qAph p fd.body && (scB p fd.scope && (decide (fd.globals = mainGlobals) && (decide (fd.builtins = builtinsNs) && (decide (fd.defaults = .none) && (match fd.closure, fd.code with
    | [(n, cc)], .ref cda => decide (n = "__class__") && ((match K.lookup cda with
      | some ⟨_, _, .fields vs, _⟩ => (match (vs[2]? : Option Value) with
        | some (.str file _) => (prog.main.file : Str) == file
        | _ => false)
      | _ => false) && (match K.lookup cc with
      | some ⟨_, _, .cell (some (.ref D)), _⟩ => decide (D = C)
      | _ => false))
    | _, _ => false)))))))
  | _ => false
theorem qAk9 {prog : Program} {p : Str} {K : PySem.W.Frag} {C f : Addr} (h : qApu prog p K C f = true) :
    ∃ (oc : Value) (od : Option Addr) (osl : Array (Option Value)) (fd : FuncData) (a1 a2 : Arg) (q1 q2 q3 q4 q5 q6 q7 q8 q9 q10 : Pos) (cda cc : Addr) (ccl : Value) (cdd : Option Addr) (vs : Array Value) (ccs : Array (Option Value)) (file : Str) (tf : Tok) (cl : Value) (cld : Option Addr) (csl : Array (Option Value)),
    K.lookup f = some ⟨oc, od, .func fd, osl⟩ ∧ PySem.W.codeIn K fd.code fd.qualname = true ∧
    fd.params = { posonlyargs := [], args := [a1, a2], vararg := none, kwonlyargs := [], kw_defaults := [], kwarg := none, defaults := [] } ∧ a1.arg = "self" ∧ a2.arg = p ∧
    fd.body = .stmts [.Expr (.Call (.Attribute (.Call (.Name "super" q1) [] [] q2) "__init__" q3) [.Name p q4] [] q5) q6, .Assign [.Attribute (.Name "self" q7) p q8] (.Name p q9) q10] ∧
    fd.scope = { kind := .function, names := [("self", .local), (p, .local), ("__class__", .free), ("super", .globalImplicit)], isGenerator := false, isCoroutine := false, more := [] } ∧
    fd.globals = mainGlobals ∧ fd.builtins = builtinsNs ∧ fd.closure = [(("__class__" : Str), cc)] ∧ fd.defaults = .none ∧ fd.code = .ref cda ∧
    K.lookup cda = some ⟨ccl, cdd, .fields vs, ccs⟩ ∧ vs[2]? = some (.str file tf) ∧ ((prog.main.file : Str) == file) = true ∧
    K.lookup cc = some ⟨cl, cld, .cell (some (.ref C)), csl⟩ ∧ (q3.endLine == q5.line) = true := by
  unfold qApu at h
  split at h
  · rename_i oc od fd osl hf
    obtain ⟨h1, h⟩ := ba h
    obtain ⟨h2, h⟩ := ba h
    obtain ⟨h3, h⟩ := ba h
    obtain ⟨h4, h⟩ := ba h
    obtain ⟨h5, h⟩ := ba h
    obtain ⟨h6, h⟩ := ba h
    obtain ⟨h7, h⟩ := ba h
    obtain ⟨a1, a2, e2, e2a, e2b⟩ := qAon h2
    obtain ⟨q1, q2, q3, q4, q5, q6, q7, q8, q9, q10, e3, e3b⟩ := qAkv h3
    split at h
    · rename_i n cc cda hclo hcode
      obtain ⟨h8, h⟩ := ba h
      obtain ⟨h9, h10⟩ := ba h
      have e8 := of_decide_eq_true h8
      subst e8
      split at h9
      · rename_i ccl cdd vs ccs hcda
        split at h9
        · rename_i file tf hvs
          split at h10
          · rename_i cl cld D csl hcell
            have e10 := of_decide_eq_true h10
            subst e10
            exact ⟨oc, od, osl, fd, a1, a2, q1, q2, q3, q4, q5, q6, q7, q8, q9, q10, cda, cc, ccl, cdd, vs, ccs, file, tf, cl, cld, csl, hf, h1, e2, e2a, e2b, e3, qAqd h4, of_decide_eq_true h5, of_decide_eq_true h6, hclo, of_decide_eq_true h7, hcode, hcda, hvs, h9, hcell, e3b⟩
          · cases h10
        · cases h9
      · cases h9
    · cases h
  · cases h
def qAin (K : PySem.W.Frag) (C : Addr) : Bool := match K.lookup C with
  | some ⟨.type t, _, .cls cd, sl⟩ => decide (t = "type") && (match cd.mro, sl.toList with
    | .ref D :: bm, [_, _, _, _, some (.builtin n), _] => decide (D = C) && (decide (n = "ValueError.__new__") && (!cd.hasDel && (cd.hasDict && (HandSPX.refsVE bm && eqO (PySem.W.alongIn K "__init__" bm) (some (some (.builtin "ValueError.__init__")))))))
    | _, _ => false)
  | _ => false
theorem qAig {K : PySem.W.Frag} {C : Addr} (h : qAin K C = true) : ∃ nm q N bs bm sn sub ab col dd k0 k1 k2 k3 k5, K.lookup C = some (excClassObj nm q C N bs bm true sn sub ab col dd k0 k1 k2 k3 k5 "ValueError.__new__") ∧ HandSPX.refsVE bm = true ∧
    PySem.W.alongIn K "__init__" bm = some (some (.builtin "ValueError.__init__")) := by
  unfold qAin at h
  split at h
  · rename_i t dd cd sl ho
    obtain ⟨h0, hh⟩ := ba h
    clear h
    have e0 := of_decide_eq_true h0
    subst e0
    split at hh
    · rename_i D bm k0 k1 k2 k3 n k5 hm hs
      obtain ⟨h1, h⟩ := ba hh
      obtain ⟨h2, h⟩ := ba h
      obtain ⟨h3, h⟩ := ba h
      obtain ⟨h4, h⟩ := ba h
      obtain ⟨h5, h6⟩ := ba h
      have e1 := of_decide_eq_true h1
      have e2 := of_decide_eq_true h2
      subst e1 e2
      obtain ⟨nm, bs, mro, ns, qn, hd, sn, sb, ab, col, del⟩ := cd
      dsimp only at hm h3 h4
      subst hm h4
      have e3 : del = false := by simpa using h3
      subst e3
      refine ⟨nm, qn, ns, bs, bm, sn, sb, ab, col, dd, k0, k1, k2, k3, k5, ?_, h5, eqO_ok h6⟩
      rw [ho]
      have e : sl = #[k0, k1, k2, k3, some (.builtin "ValueError.__new__"), k5] := by
        rw [← Array.toArray_toList (xs := sl), hs]
      rw [e]
    · cases hh
  · cases h
/-- all that SupC asks -/
def supF (prog : Program) (x p : Str) : Fct := fun K => qAin K (ga K x) && (qApu prog p K (ga K x) (ma K (ga K x) "__init__") && (eqO (PySem.W.findIn K (.ref (ga K x)) "__setattr__") (some (some (.builtin "object.__setattr__"))) && (eqO (PySem.W.findIn K (.ref (ga K x)) p) (some none) &&
  (eqO (PySem.W.findIn K (.ref (ga K x)) "__init__") (some (some (.ref (ma K (ga K x) "__init__")))) && (qZo (PySem.W.typeIn K (.ref (ma K (ga K x) "__init__"))) (.type "function") && (PySem.W.keepIn K (.ref (ga K x)) && (qZo (PySem.W.subIn K (.ref (ga K x)) (.type "BaseException")) true &&
  (qZo (PySem.W.subIn K (.ref (ga K x)) (.type "ValueError")) true && (qZo (PySem.W.typeIn K (.ref (ga K x))) (.type "type") && (qZo (PySem.W.mroIn K (ga K x) (.ref (ga K x))) true && (eqO (PySem.W.nsIn K cStatics "thirdparty.any") (some none) && (eqO (PySem.W.nsIn K mainGlobals "super") (some none) &&
  !(prog.main.scope.names.lookup ("super" : Str)).isSome))))))))))))
theorem qW9 {prog : Program} {K : PySem.W.Frag} {x p : Str} (h : supF prog x p K = true) : SupC prog K (ga K x) (ma K (ga K x) "__init__") p := by
  obtain ⟨h1, h⟩ := ba h
  obtain ⟨h2, h⟩ := ba h
  obtain ⟨h3, h⟩ := ba h
  obtain ⟨h4, h⟩ := ba h
  obtain ⟨h5, h⟩ := ba h
  obtain ⟨h6, h⟩ := ba h
  obtain ⟨h7, h⟩ := ba h
  obtain ⟨h8, h⟩ := ba h
  obtain ⟨h9, h⟩ := ba h
  obtain ⟨h10, h⟩ := ba h
  obtain ⟨h11, h⟩ := ba h
  obtain ⟨h12, h⟩ := ba h
  obtain ⟨h13, h14⟩ := ba h
  exact ⟨qAig h1, eqO_ok h3, eqO_ok h4, eqO_ok h5, qEk h6, h7, qEk h8, qEk h9, qEk h10, qEk h11, eqO_ok h12, eqO_ok h13, by simpa using h14, qAk9 h2⟩
theorem qAky {K : PySem.W.Frag} {x q : Str} {p : Arguments} {b : List Stmt} {sc : Scope} {dvs : List V} {kws : List (Str × V)} {f : Addr} {fd fd' : FuncData} (F : FunD K x q p b sc dvs kws f fd) (F' : FunD K x q p b sc dvs kws f fd') : fd = fd' := by
  obtain ⟨_, _, _, _, _, _, _, _, _, _, _, h, _⟩ := F.ex
  obtain ⟨_, _, _, _, _, _, _, _, _, _, _, h', _⟩ := F'.ex
  have e := h.symm.trans h'
  simp only [Option.some.injEq, Obj.mk.injEq, Data.func.injEq] at e
  exact e.2.2.1
end MR

set_option Elab.async false
set_option linter.all false
set_option maxRecDepth 100000
set_option maxHeartbeats 4000000
/-! MR: operators that an own class defines -/
namespace MR
open PySem PySem.Spec PyProof.Rows PySem.W
/-- the int's own operator hands back NotImplemented for an instance -/
structure IntDecl (name : Str) (id : String) (B : Builtin) : Prop where
  slot : Slot "int" name id
  entry : entryFor table id = some B
  args : ∀ a b, argsOk id ⟨[a, b], []⟩
  dec : ∀ (prog : Program) (w : World) (A : Around) (E : Value → Shared → Prop) (s : Shared) (a : Int) (t : Tok) (x C dx : Addr) (P : Fin → Shared → Prop), s.heap.get? x = some (instObj C dx) → P (.done (.ret .notImplemented)) s → wpAny (model prog w) A (B ⟨[.int a t, .ref x], []⟩) P E s
theorem qAev : IntDecl (PySem.dunder "add") "int.__add__" Builtin.«int.__add__» := ⟨F.slot_int_add, F.entry_int_add, F.args_int_add_2, fun prog w A E s a t x C dx P hx h => by
  obtain ⟨hp, g, d, tk, os⟩ := s
  wp_walk
  exact h⟩
theorem qAes : IntDecl (PySem.dunder "mul") "int.__mul__" Builtin.«int.__mul__» := ⟨F.slot_int_mul, F.entry_int_mul, F.args_int_mul_2, fun prog w A E s a t x C dx P hx h => by
  obtain ⟨hp, g, d, tk, os⟩ := s
  wp_walk
  exact h⟩
/-- a call of it -/
theorem IntDecl.call {name : Str} {id : String} {B : Builtin} (D : IntDecl name id B) {prog : Program} {w : World} {A : Around} {E : Value → Shared → Prop} {s : Shared} {a : Int} {t : Tok} {x C dx : Addr} {Q : Value → Shared → Prop} (hx : s.heap.get? x = some (instObj C dx)) (h : Q .notImplemented s) :
    wpAny (model prog w) A (PySem.call (.builtin id) [.int a t, .ref x]) Q E s :=
  wpAny_call_entry D.slot (typeIs_int s a t) D.entry (D.dec prog w _ _ s a t x C dx _ hx ⟨_, rfl, h⟩) (D.args _ _)
section
variable {prog : Program} {w : World} {A : Around} {E : Value → Shared → Prop} {s : Shared} {K : Frag} {x C dx f : Addr} {od : Option Obj} {n : Int} {t : Tok}
/-- n op x, the class's own reflected operator is asked -/
theorem qAlv {op : Operator} {nm : String} {id : String} {B : Builtin} {g : Addr} {Q : Value → Shared → Prop} (X : K.In s.heap) (I : InstAt s.heap x (instObj C dx) C od) (hi : op.info.2 = nm) (D : IntDecl (PySem.dunder nm) id B) (hF : fillsNumberSlot (.type "int") nm = pure true) (hc : selfFirst K C = true)
    (hs : findIn K (.ref C) (PySem.dunder nm) = some (some (.ref g))) (hr : findIn K (.ref C) (dunderR nm) = some (some (.ref f))) (hf : isFn K (.ref f) = true) (hsub : subIn K (.ref C) (.type "int") = some false)
    (h : wpAny (model prog w) A (call (.ref f) [.ref x, .int n t]) (W.CmpBack Q) E s) : wpAny (model prog w) A (binaryOp op (.int n t) (.ref x)) Q E s := by
  obtain ⟨cd, rest, hcd, hm⟩ := ksp_first hc
  rcases hi' : op.info with ⟨sym, nm'⟩
  rw [hi'] at hi
  dsimp only at hi
  subst hi
  have one := ksp_try X I hr hf h
  have hx : s.heap.get? x = some (instObj C dx) := I.at_
  have L1 : Looks (model prog w) s.heap (typeOf (.ref x)) (.ref C) := I.type
  have L3 : Looks (model prog w) s.heap (fillsNumberSlot (.ref C) nm') true := fills_K X hcd hm hs
  have L5 : Looks (model prog w) s.heap (isSubtype (.ref C) (.type "int")) false := looks_subIn X hsub
  have hne : (Value.type "int" == Value.ref C) = false := Bool.eq_false_iff.mpr fun q => by cases beq_iff_eq.mp q
  simp only [binaryOp, hi']
  refine wpAny_holding (wpAny_bind ?_)
  unfold binaryOp1
  refine wpAny_bind (wpAny_typeOf (typeIs_int s n t) (wpAny_bind (L1.here (wpAny_bind (wpAny_of_eq hF ?_)))))
  simp only [hne, Bool.false_eq_true, if_false]
  refine wpAny_bind (L3.here ?_)
  simp only [Bool.and_self, if_true]
  refine wpAny_bind (L5.here ?_)
  simp only [Bool.false_eq_true, if_false, Bool.not_false, if_true]
  refine wpAny_bind (wpAny_of_eq (show numberSlotInPython (.type "int") nm' = pure false from rfl) ?_)
  simp only [Bool.false_eq_true, if_false]
  refine wpAny_bind (wpAny_tryMethod_declines (typeIs_int s n t) D.slot (D.call hx ⟨rfl, ?_⟩))
  dsimp only
  refine wpAny_bind (wpAny_mono one (fun r s' z => ?_) fun _ _ e => e)
  obtain ⟨v, rfl, q⟩ := z
  exact wpAny_bind (wpAny_rule (wpAny_pure (wpAny_pure q)))
end
end MR

set_option Elab.async false
set_option linter.all false
set_option maxRecDepth 100000
set_option maxHeartbeats 4000000
/-! MR: .. as rules of the layer -/
namespace MR
open PySem PySem.Spec PyProof.Rows L2
/-- what the written part says of an own class's operator nm -/
structure OpC (K : PySem.W.Frag) (C : Addr) (nm : String) : Prop where
  sf : PySem.W.selfFirst K C = true
  sub : PySem.W.subIn K (.type "int") (.ref C) = some false
  subR : PySem.W.subIn K (.ref C) (.type "int") = some false
  fo : ∃ fo ro rc, PySem.W.findIn K (.type "int") (PySem.dunder nm) = some fo ∧ PySem.W.findIn K (.type "int") (dunderR nm) = some ro ∧ PySem.W.findIn K (.ref C) (dunderR nm) = some rc ∧ (rc = none ∨ ∃ g : Addr, rc = some (.ref g))
theorem qJ5 {X : Cx} {pins : List (Addr × Obj)} {σ : L2.St} {H : Hp} {s : Shared} {p C dx : Addr} {fs : List (Str × V)} (I : Inv X pins σ H s) (e : H p = some (.ins C dx fs)) : ∃ od, PySem.W.InstAt s.heap p (PySem.W.instObj C dx) C (some od) := by
  obtain ⟨mA, O, _⟩ := ins_get I.hok e
  obtain ⟨od, h, _⟩ := O.look
  exact ⟨od, h⟩
theorem qXl {X : Cx} {pins : List (Addr × Obj)} {σ : L2.St} {Q : VK} {v : Value} {s : Shared} (h : EP X pins σ Q v s) : PySem.W.CmpBack (EP X pins σ Q) v s := by
  obtain ⟨x, H, I, r, q⟩ := h
  cases v with
  | notImplemented =>
    cases x <;> first | exact nomatch (show Value.notImplemented = _ from r) | (obtain ⟨_, e⟩ := r; cases e) | cases r
  | _ => exact ⟨x, H, I, r, q⟩
section
variable {X : Cx} {k : Nat} {C : Addr} {sp : Sp} {E : XK}
/-- x op y: x an instance of C, y another or an int -/
def qIo (C : Addr) (sp : Sp) (E : XK) : R2 := fun x y H Q => ∃ p dx fs, x = .ref p ∧ H p = some (.ins C dx fs) ∧ ((∃ n, y = .int n) ∨ ∃ q dy gs, y = .ref q ∧ H q = some (.ins C dy gs)) ∧ sp [x, y] H Q E
def qAb1 (C : Addr) (sp : Sp) (E : XK) : R2 := fun x y H Q => ∃ n p dx fs, x = .int n ∧ y = .ref p ∧ H p = some (.ins C dx fs) ∧ sp [y, x] H Q E
theorem qDr {op : Operator} (nm : String) (D : qEj X.prog X.w X.K X.mg X.base k C (PySem.dunder nm) [] sp) (O : OpC X.K C nm) (hr : Room k X.A) (hx : Passes (CXX X.prog X.w) X E) (hi : op.info.2 = nm := by rfl) : OpR X (binaryOp op) (qIo C sp E) := by
  subst hi
  obtain ⟨f, fd, ps, ds, h1, h2, h3, h4, h5⟩ := D
  intro pins s σ H x y v u Q I rx ry h
  obtain ⟨p, dx, fs, rfl, e, hy, q⟩ := h
  cases rx
  cases h5
  obtain ⟨od, J⟩ := qJ5 I e
  obtain ⟨m, Fm⟩ := I.fr
  have run : wpAny (model X.prog X.w) X.A (call (.ref f) [.ref p, u]) (PySem.W.CmpBack (EP X pins σ Q)) X.xe s :=
    thn (run_fn (us := [.ref p, u]) (vs := [.ref p, y]) h3 hr h4 .nil hx I (.cons rfl (.cons ry .nil)) q) fun _ _ z => qXl z
  rcases hy with ⟨n, rfl⟩ | ⟨r, dy, gs, rfl, ey⟩
  · obtain ⟨t, rfl⟩ := ry
    obtain ⟨fo, ro, rc, g1, g2, g3, g4⟩ := O.fo
    exact PySem.W.ksp_binT Fm I.mod.kin J (T := "int") rfl O.sf h2.at_ h2.fn g3 g4 g1 g2 O.sub run
  · cases ry
    obtain ⟨od2, J2⟩ := qJ5 I ey
    exact PySem.W.binop_K Fm I.mod.kin J J2.type O.sf h2.at_ h2.fn run
theorem qWy {op : Operator} (nm : String) {id : String} {B : Builtin} {k' : Nat} {sp' : Sp} (D : qEj X.prog X.w X.K X.mg X.base k C (dunderR nm) [] sp) (D' : qEj X.prog X.w X.K X.mg X.base k' C (PySem.dunder nm) [] sp') (O : OpC X.K C nm) (N : IntDecl (PySem.dunder nm) id B) (hF : fillsNumberSlot (.type "int") nm = pure true) (hr : Room k X.A) (hx : Passes (CXX X.prog X.w) X E) (hi : op.info.2 = nm := by rfl) : OpR X (binaryOp op) (qAb1 C sp E) := by
  obtain ⟨f, fd, ps, ds, h1, h2, h3, h4, h5⟩ := D
  obtain ⟨f', _, _, _, _, h2', _⟩ := D'
  intro pins s σ H x y v u Q I rx ry h
  obtain ⟨n, p, dx, fs, rfl, rfl, e, q⟩ := h
  obtain ⟨t, rfl⟩ := rx
  cases ry
  cases h5
  obtain ⟨od, J⟩ := qJ5 I e
  have run : wpAny (model X.prog X.w) X.A (call (.ref f) [.ref p, .int n t]) (PySem.W.CmpBack (EP X pins σ Q)) X.xe s :=
    thn (run_fn (us := [.ref p, .int n t]) (vs := [.ref p, .int n]) h3 hr h4 .nil hx I (.cons rfl (.cons ⟨t, rfl⟩ .nil)) q) fun _ _ z => qXl z
  exact qAlv I.kIn J hi N hF O.sf h2'.at_ h2.at_ h2.fn O.subR run
theorem qG3 {op : CmpOp} (D : qEj X.prog X.w X.K X.mg X.base k C (cmpInfo op).2.1 [] sp) (O : OpC X.K C "add") (hr : Room k X.A) (hx : Passes (CXX X.prog X.w) X E) (ho : compareOp op = richCompare op := by rfl) : OpR X (compareOp op) (qIo C sp E) := by
  rw [ho]
  obtain ⟨f, fd, ps, ds, h1, h2, h3, h4, h5⟩ := D
  intro pins s σ H x y v u Q I rx ry h
  obtain ⟨p, dx, fs, rfl, e, hy, q⟩ := h
  cases rx
  cases h5
  obtain ⟨od, J⟩ := qJ5 I e
  obtain ⟨m, Fm⟩ := I.fr
  have run : wpAny (model X.prog X.w) X.A (call (.ref f) [.ref p, u]) (PySem.W.CmpBack (EP X pins σ Q)) X.xe s :=
    thn (run_fn (us := [.ref p, u]) (vs := [.ref p, y]) h3 hr h4 .nil hx I (.cons rfl (.cons ry .nil)) q) fun _ _ z => qXl z
  rcases hy with ⟨n, rfl⟩ | ⟨r, dy, gs, rfl, ey⟩
  · obtain ⟨t, rfl⟩ := ry
    have nf : PySem.W.notFirst X.K C (.type "int") = true := by
      unfold PySem.W.notFirst
      rw [O.sub]
      simp
    exact PySem.W.cmp_K hr.units0 Fm I.mod.kin J (PySem.W.Looks.of_pure (show typeOf (.int n t) = pure (.type "int") from rfl)) nf h2.at_ h2.fn run
  · cases ry
    obtain ⟨od2, J2⟩ := qJ5 I ey
    have nf : PySem.W.notFirst X.K C (.ref C) = true := by
      unfold PySem.W.notFirst
      simp
    exact PySem.W.cmp_K hr.units0 Fm I.mod.kin J J2.type nf h2.at_ h2.fn run
/-- -x -/
def qAjc (C : Addr) (sp : Sp) (E : XK) : V → Hp → VK → Prop := fun x H Q => ∃ p dx fs, x = .ref p ∧ H p = some (.ins C dx fs) ∧ sp [x] H Q E
theorem qAkc (D : qEj X.prog X.w X.K X.mg X.base k C "__neg__" [] sp) (hr : Room k X.A) (hx : Passes (CXX X.prog X.w) X E) : UnR X (unaryOp .USub) (qAjc C sp E) := by
  obtain ⟨f, fd, ps, ds, h1, h2, h3, h4, h5⟩ := D
  intro pins s σ H x v Q I rx h
  obtain ⟨p, dx, fs, rfl, e, q⟩ := h
  cases rx
  cases h5
  obtain ⟨od, J⟩ := qJ5 I e
  obtain ⟨m, Fm⟩ := I.fr
  exact PySem.W.ksp_neg Fm I.mod.kin J h2.at_ h2.fn (run_fn (us := [.ref p]) (vs := [.ref p]) h3 hr h4 .nil hx I (.cons rfl .nil) q)
end
end MR

set_option Elab.async false
set_option linter.all false
set_option maxRecDepth 100000
set_option maxHeartbeats 4000000
/-! MR: facts of own operators -/
namespace MR
open PySem PySem.Spec PyProof.Rows L2 He
def opF (x : Str) (nm : String) : Fct := fun K => PySem.W.selfFirst K (ga K x) && (qZo (PySem.W.subIn K (.type "int") (.ref (ga K x))) false && (qZo (PySem.W.subIn K (.ref (ga K x)) (.type "int")) false && ((PySem.W.findIn K (.type "int") (PySem.dunder nm)).isSome && ((PySem.W.findIn K (.type "int") (dunderR nm)).isSome &&
  (match PySem.W.findIn K (.ref (ga K x)) (dunderR nm) with
    | some none => true
    | some (some (.ref _)) => true
    | _ => false)))))
theorem qAd8 {K : PySem.W.Frag} {x : Str} {nm : String} (h : opF x nm K = true) : OpC K (ga K x) nm := by
  obtain ⟨h1, h⟩ := ba h
  obtain ⟨h2, h⟩ := ba h
  obtain ⟨h3, h⟩ := ba h
  obtain ⟨h4, h⟩ := ba h
  obtain ⟨h5, h6⟩ := ba h
  obtain ⟨fo, e4⟩ := Option.isSome_iff_exists.mp h4
  obtain ⟨ro, e5⟩ := Option.isSome_iff_exists.mp h5
  refine ⟨h1, qEk h2, qEk h3, fo, ro, ?_⟩
  split at h6
  · rename_i e
    exact ⟨none, e4, e5, e, .inl rfl⟩
  · rename_i g e
    exact ⟨some (.ref g), e4, e5, e, .inr ⟨g, rfl⟩⟩
  · cases h6
end MR

set_option Elab.async false
set_option linter.all false
set_option maxRecDepth 100000
set_option maxHeartbeats 4000000
/-! MR: a lambda handed to a def of the law, which catches what it raises -/
namespace MR
open PySem PySem.Spec PyProof.Rows L2 LamX
section
variable {X : Cx} {pins : List (Addr × Obj)} {σ σ0 : L2.St} {H HZ : Hp} {s s1 : Shared}
end
section
variable {X : Cx}
end
/-! ### what the def makes of it: the word of the error, or an empty one -/
/-! ### the code objects and their tables -/
/-! ### the end of a law with lambdas -/
def qAqz : Option Obj → Bool
  | some ⟨.none, none, .fields vs, sl⟩ => vs.isEmpty && sl.isEmpty
  | _ => false
theorem qAnq {a : Addr} {o : Obj} : ∀ {l : PySem.W.Frag}, l.lookup a = some o → (a, o) ∈ l
  | [], e => by cases e
  | (b, u) :: r, e => by
    rw [List.lookup_cons] at e
    cases hb : a == b with
    | true =>
      rw [hb] at e
      cases e
      rw [beq_iff_eq.mp hb]
      exact .head _
    | false =>
      rw [hb] at e
      exact .tail _ (qAnq e)
end MR

set_option Elab.async false
set_option linter.all false
set_option maxRecDepth 100000
set_option maxHeartbeats 4000000
/-! MR: enumerate over a tuple; a walk over a list or a tuple -/
namespace PySem
theorem qKv {v : Value} {o : Obj} {H : Heap → Prop} (B : Begins v o H) :
    Meets (Builtin.«enumerate.__new__» ⟨[.type "enumerate", v], []⟩) (fun _ R s => H s.heap ∧
      R (.ok (.ret (.ref (s.heap.push o).objs.size))) { s with heap := (s.heap.push o).push { cls := .type "enumerate", data := .fields #[.none, .bool false, .ref s.heap.objs.size, rawInt 0, .none, .none] } }) :=
  .of_wp fun prog w A R s h => by
    obtain ⟨hp, g, d, tk, os⟩ := s; obtain ⟨h1, h⟩ := h
    have hsub := sub_enumerate
    have q1 : ∀ {A' : Around} {E : Value → Shared → Prop} {Q : Value → Shared → Prop}, Q (.ref hp.objs.size) ⟨hp.push o, g, d, tk, os⟩ → wpAny (model prog w) A' (pyIter v) Q E ⟨hp, g, d, tk, os⟩ :=
      fun q => B.iter prog w _ _ ⟨hp, g, d, tk, os⟩ _ h1 q
    wp_walk using q1
    refine wpAny_stack_any fun st => wpAny_pure ?_
    split
    · rename_i c _ _ _ _ _
      cases (c == Value.type "enumerate")
      · wp_walk using q1
        exact ⟨_, rfl, h⟩
      · wp_walk using q1
        exact ⟨_, rfl, h⟩
    · wp_walk using q1
      exact ⟨_, rfl, h⟩
section
variable {prog : Program} {w : World} {A : Around} {E : Value → Shared → Prop} {s : Shared}
theorem qYp {v : Value} {o : Obj} {H : Heap → Prop} {Q : Value → Shared → Prop} (B : Begins v o H) (h1 : H s.heap)
    (h : ∀ h', IsEnum h' (s.heap.objs.size + 1) s.heap.objs.size 0 .none → h'.get? s.heap.objs.size = some o → h'.objs.size = s.heap.objs.size + 2 →
      (∀ b o, s.heap.get? b = some o → h'.get? b = some o) → Q (.ref (s.heap.objs.size + 1)) { s with heap := h' }) :
    wpAny (model prog w) A (call (.type "enumerate") [v]) Q E s := by
  refine callType_new F.called_enumerate (by decide) (F.typeCall_enumerate_1 _) (F.newCall_enumerate_1 _) (fun obj => F.args_object_init_2 obj _) F.entry_enumerate_new
    (qKv B) ⟨h1, ?_⟩
  have hz : (s.heap.push o).objs.size = s.heap.objs.size + 1 := Heap.size_push ..
  show _ ∧ _
  rw [hz]
  have he : IsEnum ((s.heap.push o).push { cls := .type "enumerate", data := .fields #[.none, .bool false, .ref s.heap.objs.size, rawInt 0, .none, .none] }) (s.heap.objs.size + 1) s.heap.objs.size 0 .none := by
    have := Heap.get?_push_size (s.heap.push o) (o := { cls := .type "enumerate", data := .fields #[.none, .bool false, .ref s.heap.objs.size, rawInt 0, .none, .none] }) rfl
    rw [hz] at this; exact this
  refine ⟨⟨_, he, rfl⟩, h _ he (Heap.get?_push_of_some _ (Heap.get?_push_size _ B.free)) (by rw [Heap.size_push, hz]) fun b o x => Heap.get?_push_of_some _ (Heap.get?_push_of_some _ x)⟩
theorem qJb {e it t : Addr} {n : Nat} {items : Array Value} {i : Int} {old : Value} {Q : Option Value → Shared → Prop}
    (hh : A.in1.handled = none) (he : IsEnum s.heap e it i old) (hit : s.heap.IsTupleIter it t n) (ht : s.heap.IsTuple t items) (hx : items[n]? = none)
    (hQ : ∀ h', Heap.ExtBut it s.heap h' → Q none { s with heap := h' }) : wpAny (model prog w) A (pyNext (.ref e)) Q E s := by
  have hT : s.TypeIs (.ref e) "enumerate" := ⟨_, he, rfl⟩
  unfold pyNext
  refine wpAny_bind (wpAny_attempt (wpAny_callSpecial?_slot (name := Str.ofString "__next__") hT F.slot_enumerate_next
    (wpAny_call_entry F.slot_enumerate_next hT F.entry_enumerate_next ?_ (F.args_enumerate_next_1 _))))
  show wpAny _ _ (field (.ref e) 2 >>= _) _ _ _
  refine wpAny_bind (wpAny_field he rfl (x := .ref it) rfl ?_)
  refine wpAny_bind (wpAny_nextOf_tuple_end hh hit ht hx fun h' x he' hx' => ?_)
  obtain ⟨o, ho, hc⟩ := hx'
  refine wpAny_bind (wpAny_isInstance (T := "StopIteration") (b := true) ⟨o, ho, hc⟩ isSubtype_stop ?_)
  exact wpAny_pure (hQ _ he')
end
end PySem
namespace MR
open PySem PySem.Spec PyProof.Rows L2
/-- the tuple at a, each item in a new pair -/
def ItE (K : PySem.W.Frag) (a : Addr) : It :=
  ⟨fun i H => ∃ (xs : List V) (x : V), SqT K H a xs ∧ xs[i]? = some x, fun i H v H' => ∃ T x, v = .ref T ∧ H T = none ∧ H' = upd H T (.tup [.int (i : Nat), x]) ∧ ∀ xs, SqT K H a xs → xs[i]? = some x, fun i H => ∃ xs : List V, SqT K H a xs ∧ xs.length ≤ i⟩
theorem qAfp {P : Program} {w : World} {K : PySem.W.Frag} {elts : List Expr} {kk : Nat} {tpos : Pos} (a e it : Addr) :
    Turn P w K (.Tuple elts kk tpos) (ItE K a) [e, it] e (fun i h => (∃ old, IsEnum h e it ((i : Nat) : Int) old) ∧ h.IsTupleIter it a i ∧ e ≠ it) where
  mem := by simp
  obj := fun i h st b hb => by
    obtain ⟨⟨old, he⟩, ⟨o, ho, hc, hd⟩, _⟩ := st
    have e' : b = e ∨ b = it := by simpa using hb
    rcases e' with z | z
    · rw [z]; exact ⟨_, he, fun v q => nomatch q⟩
    · rw [z]; exact ⟨o, ho, fun v q => by rw [hd] at q; cases q⟩
  keep := fun i h h' st k => let ⟨⟨old, he⟩, hi, hne⟩ := st; ⟨⟨old, k e (by simp) _ he⟩, hi.at fun o q => k it (by simp) o q, hne⟩
  item := by
    intro X hP hw hK hc i pins s σ H E I hf st hg
    subst hP hw hK
    obtain ⟨⟨old, he⟩, hit, hne⟩ := st
    obtain ⟨xs, x, hq, hx⟩ := hg
    obtain ⟨its, rv, p, hz⟩ := I.tuple hq
    obtain ⟨u, hu, ru⟩ := rv.get hx
    have hT0 : s.heap.IsTuple a its.toArray := p
    have hel : e < s.heap.objs.size := Heap.lt_size he
    have hil : it < s.heap.objs.size := by obtain ⟨_, q, _⟩ := hit; exact Heap.lt_size q
    obtain ⟨oa, ha, hca, _⟩ := id hT0
    have hai : a ≠ it := fun z => by
      obtain ⟨oi, hi, hci, _⟩ := hit
      rw [z, hi] at ha
      cases ha
      rw [hci] at hca
      exact absurd hca (by decide)
    have hae : e ≠ a := fun z => by
      have he' : s.heap.get? e = some _ := he
      rw [z, ha] at he'
      cases he'
      have hca' : Value.type "enumerate" = Value.type "tuple" := hca
      exact absurd hca' (by decide)
    have hef : e ∉ [it, a] := fun z => by
      rcases List.mem_cons.mp z with z | z
      · exact hne z
      · exact hae (List.mem_singleton.mp z)
    have hlt : i < its.toArray.size := by
      have := (List.getElem?_eq_some_iff.mp hu).1
      simpa using this
    refine wpAny_pyNext_enum_itemC (Draws.tuple (prog := X.prog) (w := X.w) (A := X.A.in1) (I.ok.hd hc) it a hai its.toArray) he ⟨hit, hT0⟩ hlt hne hef fun v h' tk hv ho hs' hT hsz hk => ?_
    have ev : v = u := by
      have : its.toArray[i]? = some u := by simpa using hu
      rw [this] at hv
      exact (Option.some.inj hv).symm
    subst ev
    refine ⟨_, rfl, wpAny_letOwnedTupleGo_enum (s := { s with heap := h', toks := tk + 1 }) ho fun h'' he' sb => ?_⟩
    have hT2 : h''.get? s.heap.objs.size = some { cls := .type "tuple", data := .seq #[.int i tk, v] } := (sb.2 _ (Nat.ne_of_gt hel)).trans hT
    have new : ObjOk X.prog X.w (upd H s.heap.objs.size (.tup [.int (i : Nat), x])) h'' s.heap.objs.size (.tup [.int (i : Nat), x]) :=
      ⟨by show 2 ≤ sizeLine; decide, [.int i tk, v], .cons ⟨_, rfl⟩ (.cons ru .nil), ⟨_, hT2, rfl, _, rfl⟩⟩
    have I1 : Inv X pins σ (upd H s.heap.objs.size (.tup [.int (i : Nat), x])) { s with heap := h'', toks := tk + 1 } :=
      I.turnedNew (ch := [e, it]) (fun b ob hb q => (sb.2 b (fun z => hb (by simp [z]))).trans (hk b ob (fun z => hb (by simp [z])) (fun z => hb (by simp [z])) q)) hf (Nat.le_refl _) new
    refine ⟨.ref s.heap.objs.size, _, I1, rfl, ⟨_, x, rfl, I.hok.fresh (Nat.le_refl _), rfl, fun ys hy => by rw [I.tuple_inj hy hq]; exact hx⟩, ⟨⟨v, ?_⟩, hs'.1.at fun o q => (sb.2 it (Ne.symm hne)).trans q, hne⟩, fun b hb => ?_⟩
    · have e1 : ((i + 1 : Nat) : Int) = (i : Int) + 1 := by omega
      rw [e1]; exact he'
    · have hb' : b < s.heap.objs.size := by
        have e' : b = e ∨ b = it := by simpa using hb
        rcases e' with z | z
        · rw [z]; exact hel
        · rw [z]; exact hil
      rw [upd_ne (Nat.ne_of_lt hb')]
      exact (hf b hb).1
  done := by
    intro X hP hw hK hc i pins s σ H E I hf st hg
    subst hP hw hK
    obtain ⟨⟨old, he⟩, hit, hne⟩ := st
    obtain ⟨xs, hq, hx⟩ := hg
    obtain ⟨its, rv, p, hz⟩ := I.tuple hq
    obtain ⟨f0, f1, f2, f3, f4, f5⟩ := hf it (by simp)
    have hl := rv.length
    have hT0 : s.heap.IsTuple a its.toArray := p
    obtain ⟨oa, ha, hca, _⟩ := id hT0
    have hai : a ≠ it := fun z => by
      obtain ⟨oi, hi, hci, _⟩ := hit
      rw [z, hi] at ha
      cases ha
      rw [hci] at hca
      exact absurd hca (by decide)
    exact qJb (I.ok.hd hc) he hit hT0 (by simp; omega) fun h' eb => ⟨rfl, I.turned (t' := s.toks) (fun b o hb q => eb b o hb q) f0 f1 f3 f4 f5⟩
  self := fun A i s Q E st h => let ⟨⟨_, he⟩, _⟩ := st; wpAny_pyIter_enum he h
theorem PI.or {X : Cx} {tg it : Expr} {w w' : TI} (h : PI X tg it w) (h' : PI X tg it w') : PI X tg it (fun σ H R => w σ H R ∨ w' σ H R) :=
  ⟨fun pins s σ H R I q => q.elim (h.run pins s σ H R I) (h'.run pins s σ H R I)⟩
end MR

set_option exponentiation.threshold 20000
/-! MR: the mathematics of fractions: operators, sizes -/
namespace MR
theorem qP9 (q : Rat) : ((q.den : Int) : Rat) ≠ 0 := by
  rw [Rat.intCast_natCast]
  exact fun h => q.den_nz (Rat.natCast_eq_zero_iff.mp h)
theorem qI4 (q : Rat) : ((q.num : Int) : Rat) / ((q.den : Int) : Rat) = q := by
  rw [← Rat.divInt_eq_div, Rat.num_divInt_den]
theorem qAnw (a b : Rat) : Rat.divInt (a.num * b.den + b.num * a.den) (a.den * b.den) = a + b := by
  have h1 := qP9 a
  have h2 := qP9 b
  have e1 := qI4 a
  have e2 := qI4 b
  rw [Rat.divInt_eq_div, Rat.intCast_add, Rat.intCast_mul, Rat.intCast_mul, Rat.intCast_mul]
  grind
theorem qAno (a b : Rat) : Rat.divInt (a.num * b.num) (a.den * b.den) = a * b := by
  have h1 := qP9 a
  have h2 := qP9 b
  have e1 := qI4 a
  have e2 := qI4 b
  rw [Rat.divInt_eq_div, Rat.intCast_mul, Rat.intCast_mul]
  grind
theorem qAi2 (a : Rat) (n : Int) : Rat.divInt (a.num + n * a.den) a.den = a + (n : Rat) := by
  have h1 := qP9 a
  have e1 := qI4 a
  rw [Rat.divInt_eq_div, Rat.intCast_add, Rat.intCast_mul]
  grind
theorem qAmh (a : Rat) (n : Int) : Rat.divInt (n * a.den + a.num) a.den = (n : Rat) + a := by
  rw [Int.add_comm, qAi2, Rat.add_comm]
theorem qAih (a : Rat) (n : Int) : Rat.divInt (a.num * n) a.den = a * (n : Rat) := by
  have h1 := qP9 a
  have e1 := qI4 a
  rw [Rat.divInt_eq_div, Rat.intCast_mul]
  grind
theorem qArz (a : Rat) : Rat.divInt (-a.num) a.den = -a := by
  rw [← Rat.neg_divInt, Rat.num_divInt_den]
theorem den_pos (a : Rat) : (0 : Int) < a.den := by
  have := a.den_nz
  omega
/-! ### sizes: below 2 ^ n above and below the bar -/
structure Sz (n : Nat) (q : Rat) : Prop where
  num : q.num.natAbs < 2 ^ n
  den : q.den < 2 ^ n
theorem Sz.mono {n m : Nat} {q : Rat} (h : Sz n q) (hn : n ≤ m) : Sz m q := ⟨Nat.lt_of_lt_of_le h.num (Nat.pow_le_pow_right (by decide) hn), Nat.lt_of_lt_of_le h.den (Nat.pow_le_pow_right (by decide) hn)⟩
theorem Sz.pos {n : Nat} {q : Rat} (h : Sz n q) : 0 < n := by
  rcases Nat.eq_zero_or_pos n with e | e
  · have := h.den
    rw [e] at this
    have := q.den_nz
    omega
  · exact e
theorem qNc {a b : Int} {n : Nat} (hb : b ≠ 0) (h1 : a.natAbs < 2 ^ n) (h2 : b.natAbs < 2 ^ n) : Sz n (Rat.divInt a b) := ⟨Nat.lt_of_le_of_lt (qArt hb) h1, Nat.lt_of_le_of_lt (qAr8 hb) h2⟩
theorem qPa {x y a b : Nat} (h1 : x < 2 ^ a) (h2 : y < 2 ^ b) : x * y < 2 ^ (a + b) := by
  rw [Nat.pow_add]
  exact Nat.mul_lt_mul'' h1 h2
theorem absmul {x : Int} {y a b : Nat} (h1 : x.natAbs < 2 ^ a) (h2 : y < 2 ^ b) : (x * (y : Int)).natAbs < 2 ^ (a + b) := by
  rw [Int.natAbs_mul, Int.natAbs_natCast]
  exact qPa h1 h2
theorem absadd {x y : Int} {n : Nat} (h1 : x.natAbs < 2 ^ n) (h2 : y.natAbs < 2 ^ n) : (x + y).natAbs < 2 ^ (n + 1) := by
  rw [Nat.pow_succ]
  omega
theorem Sz.add {n m : Nat} {a b : Rat} (h1 : Sz n a) (h2 : Sz m b) : Sz (n + m + 1) (a + b) := by
  rw [← qAnw]
  refine qNc (Int.ne_of_gt (Int.mul_pos (den_pos a) (den_pos b))) (absadd (absmul h1.num h2.den) ?_) ?_
  · have := absmul h2.num h1.den
    rw [Nat.add_comm m n] at this
    exact this
  · have := absmul (x := (a.den : Int)) (by rw [Int.natAbs_natCast]; exact h1.den) h2.den
    exact Nat.lt_of_lt_of_le this (Nat.pow_le_pow_right (by decide) (by omega))
theorem Sz.neg {n : Nat} {a : Rat} (h : Sz n a) : Sz n (-a) := ⟨by rw [Rat.neg_num, Int.natAbs_neg]; exact h.num, by rw [Rat.neg_den]; exact h.den⟩
theorem Sz.sub {n m : Nat} {a b : Rat} (h1 : Sz n a) (h2 : Sz m b) : Sz (n + m + 1) (a - b) := by
  rw [Rat.sub_eq_add_neg]
  exact h1.add h2.neg
theorem Sz.mul {n m : Nat} {a b : Rat} (h1 : Sz n a) (h2 : Sz m b) : Sz (n + m) (a * b) := by
  rw [← qAno]
  refine qNc (Int.ne_of_gt (Int.mul_pos (den_pos a) (den_pos b))) ?_ ?_
  · rw [Int.natAbs_mul]
    exact qPa h1.num h2.num
  · exact absmul (x := (a.den : Int)) (by rw [Int.natAbs_natCast]; exact h1.den) h2.den
theorem qAo1 (a : Rat) (k : Int) : a < (k : Rat) ↔ a.num < k * a.den := by rw [Rat.lt_iff, Rat.num_intCast, Rat.den_intCast, Int.natCast_one, Int.mul_one]
theorem qAp0 (k : Int) (a : Rat) : (k : Rat) < a ↔ k * a.den < a.num := by rw [Rat.lt_iff, Rat.num_intCast, Rat.den_intCast, Int.natCast_one, Int.mul_one]
end MR

set_option Elab.async false
set_option linter.all false
set_option maxRecDepth 100000
set_option maxHeartbeats 4000000
/-! MR: rows of rationals, plain -/
namespace MR
def coef (cs : List Rat) (k : Nat) : Rat := cs[k]?.getD 0
theorem qRk {cs : List Rat} {k : Nat} (h : k < cs.length) : cs[k]? = some (coef cs k) := by
  unfold coef
  rw [List.getElem?_eq_getElem h]
  rfl
theorem qBb {cs : List Rat} {k : Nat} (h : cs.length ≤ k) : coef cs k = 0 := by
  unfold coef
  rw [List.getElem?_eq_none h]
  rfl
theorem qRj {cs : List Rat} {k : Nat} {c : Rat} (h : cs[k]? = some c) : coef cs k = c := by
  unfold coef
  rw [h]
  rfl
/-- the size without the zeros at the end of the first n -/
def szN (f : Nat → Rat) : Nat → Nat
  | 0 => 0
  | n + 1 => if f n = 0 then szN f n else n + 1
theorem qZx (f : Nat → Rat) : ∀ n, szN f n ≤ n
  | 0 => Nat.le_refl _
  | n + 1 => by
    unfold szN
    split
    · exact Nat.le_succ_of_le (qZx f n)
    · exact Nat.le_refl _
theorem qQ5 (f : Nat → Rat) : ∀ n k, szN f n ≤ k → k < n → f k = 0
  | 0, k, _, h => absurd h (Nat.not_lt_zero _)
  | n + 1, k, h, hk => by
    unfold szN at h
    split at h
    · rename_i e
      by_cases hn : k = n
      · rw [hn]; exact e
      · exact qQ5 f n k h (by omega)
    · omega
theorem qRd (f : Nat → Rat) : ∀ n, 0 < szN f n → f (szN f n - 1) ≠ 0
  | 0, h => absurd h (Nat.lt_irrefl _)
  | n + 1, h => by
    unfold szN at h ⊢
    split
    · rename_i e
      rw [if_pos e] at h
      exact qRd f n h
    · rename_i e
      exact e
/-- beyond n all is zero, so the size is one -/
theorem qAqn {f g : Nat → Rat} {n m : Nat} (hf : ∀ k, n ≤ k → f k = 0) (hg : ∀ k, m ≤ k → g k = 0) (h : ∀ k, f k = g k) : szN f n = szN g m := by
  have zf : ∀ k, szN f n ≤ k → f k = 0 := fun k hk => by
    by_cases e : k < n
    · exact qQ5 f n k hk e
    · exact hf k (by omega)
  have zg : ∀ k, szN g m ≤ k → g k = 0 := fun k hk => by
    by_cases e : k < m
    · exact qQ5 g m k hk e
    · exact hg k (by omega)
  rcases Nat.lt_trichotomy (szN f n) (szN g m) with e | e | e
  · have := qRd g m (by omega)
    rw [← h] at this
    exact absurd (zf _ (by omega)) this
  · exact e
  · have := qRd f n (by omega)
    rw [h] at this
    exact absurd (zg _ (by omega)) this
def strip (cs : List Rat) : List Rat := cs.take (szN (coef cs) cs.length)
theorem qGy (cs : List Rat) : (strip cs).length = szN (coef cs) cs.length := by
  unfold strip
  rw [List.length_take]
  exact Nat.min_eq_left (qZx _ _)
theorem qYo {cs : List Rat} {n k : Nat} (h : k < n) : coef (cs.take n) k = coef cs k := by
  unfold coef
  rw [List.getElem?_take_of_lt h]
theorem qC2 (cs : List Rat) (k : Nat) : coef (strip cs) k = coef cs k := by
  by_cases h : k < szN (coef cs) cs.length
  · exact qYo h
  · rw [qBb (by rw [qGy]; omega)]
    by_cases e : k < cs.length
    · exact (qQ5 _ _ k (by omega) e).symm
    · exact (qBb (by omega)).symm
theorem qY9 {cs ds : List Rat} (hl : cs.length = ds.length) (h : ∀ k, coef cs k = coef ds k) : cs = ds := by
  refine List.ext_getElem? fun k => ?_
  by_cases e : k < cs.length
  · rw [qRk e, qRk (by omega), h]
  · rw [List.getElem?_eq_none (by omega), List.getElem?_eq_none (by omega)]
theorem qAlr {cs ds : List Rat} (h : ∀ k, coef cs k = coef ds k) : strip cs = strip ds := by
  refine qY9 ?_ fun k => ?_
  · rw [qGy, qGy]
    exact qAqn (fun k hk => qBb hk) (fun k hk => qBb hk) h
  · rw [qC2, qC2, h]
/-- no zero at the end -/
def Nrm (cs : List Rat) : Prop := strip cs = cs
theorem qZ4 (cs : List Rat) : Nrm (strip cs) := qAlr (qC2 cs)
/-- the last one, or 0 -/
def qI5 (cs : List Rat) : Rat := coef cs (cs.length - 1)
theorem qAk3 {cs : List Rat} (h : Nrm cs) (hl : 0 < cs.length) : qI5 cs ≠ 0 := by
  have e := qGy cs
  rw [h] at e
  have := qRd (coef cs) cs.length (by omega)
  rw [← e] at this
  exact this
/-! ### sums -/
def qVj (cs ds : List Rat) : List Rat := (List.range (max cs.length ds.length)).map fun k => coef cs k + coef ds k
theorem qMq (cs ds : List Rat) : (qVj cs ds).length = max cs.length ds.length := by simp [qVj]
theorem qKc {n : Nat} {f : Nat → Rat} {k : Nat} : coef ((List.range n).map f) k = if k < n then f k else 0 := by
  unfold coef
  split
  · rename_i h
    rw [List.getElem?_map, List.getElem?_range h]
    rfl
  · rename_i h
    rw [List.getElem?_eq_none (by simp; omega)]
    rfl
theorem qKg (cs ds : List Rat) (k : Nat) : coef (qVj cs ds) k = coef cs k + coef ds k := by
  unfold qVj
  rw [qKc]
  split
  · rfl
  · rename_i h
    rw [qBb (by omega), qBb (by omega), Rat.add_zero]
def qOx (cs : List Rat) : List Rat := cs.map fun c => -c
theorem qKn (cs : List Rat) : (qOx cs).length = cs.length := by simp [qOx]
theorem qKo (cs : List Rat) (k : Nat) : coef (qOx cs) k = -coef cs k := by
  unfold coef qOx
  rw [List.getElem?_map]
  cases cs[k]? with
  | none => rfl
  | some c => rfl
/-! ### products -/
/-- the first i rows of the product at k -/
def conv (f g : Nat → Rat) : Nat → Nat → Rat
  | 0, _ => 0
  | i + 1, k => conv f g i k + if i ≤ k then f i * g (k - i) else 0
def qF5 (cs ds : List Rat) : List Rat := if cs.length = 0 ∨ ds.length = 0 then [] else (List.range (cs.length + ds.length - 1)).map fun k => conv (coef cs) (coef ds) cs.length k
theorem qAjg {f g : Nat → Rat} {m : Nat} (hg : ∀ k, m ≤ k → g k = 0) : ∀ i k, i + m ≤ k + 1 → conv f g i k = 0
  | 0, _, _ => rfl
  | i + 1, k, h => by
    unfold conv
    rw [qAjg hg i k (by omega), if_pos (by omega), hg _ (by omega), Rat.mul_zero, Rat.add_zero]
theorem qAda {f g : Nat → Rat} (hg : ∀ k, g k = 0) : ∀ i k, conv f g i k = 0
  | 0, _ => rfl
  | i + 1, k => by
    unfold conv
    rw [qAda hg i k, hg, Rat.mul_zero]
    split <;> exact Rat.add_zero _
theorem qKj (cs ds : List Rat) (k : Nat) : coef (qF5 cs ds) k = conv (coef cs) (coef ds) cs.length k := by
  unfold qF5
  split
  · rename_i h
    rcases h with h | h
    · rw [h]
      rfl
    · rw [qAda (fun k => qBb (by omega))]
      rfl
  · rename_i h
    rw [qKc]
    split
    · rfl
    · rw [qAjg (m := ds.length) (fun k hk => qBb hk) _ _ (by omega)]
/-- rows that are zero add nothing -/
theorem qZw {f g : Nat → Rat} {n : Nat} (hf : ∀ k, n ≤ k → f k = 0) : ∀ m, n ≤ m → ∀ k, conv f g m k = conv f g n k := by
  intro m hm k
  induction m with
  | zero => rw [show n = 0 by omega]
  | succ m ih =>
    by_cases e : n ≤ m
    · rw [show conv f g (m + 1) k = conv f g m k + if m ≤ k then f m * g (k - m) else 0 from rfl, ih e, hf m e, Rat.zero_mul]
      split <;> exact Rat.add_zero _
    · rw [show n = m + 1 by omega]
end MR

set_option Elab.async false
set_option linter.all false
set_option maxRecDepth 100000
set_option maxHeartbeats 4000000
set_option exponentiation.threshold 20000
/-! FL: a layer without a heap: data, what represents them -/
namespace MR
open PySem PySem.Spec PyProof.Rows L2 LamX
/-- a datum -/
inductive D where
  | non | bl (b : Bool) | int (i : Int) | str (x : Str) | rat (q : Rat) | poly (cs : List Rat)
  | lst (ds : List D) | tup (ds : List D) | ins (C : Str) (ns : List Str) (ds : List D) | feed | exc | adr (a : Addr) | scr (ns : List Int)
  | dct (ks : List Key) (ds : List D) | exn (C : Str) (ns : List Str) (ds : List D)
/-- an exception: its class, its fields -/
structure Exn where
  cls : Str
  fs : List (Str × D)
abbrev Env := List (Option D)
def FeedC (K : PySem.W.Frag) (H : Hp) (f c : Addr) : Prop := ∃ ns p b l n s o, FeedAt K H f c ns p b l n s ∧ H c = some (.lst o)
/-- places that change: the feed's, and those of the tables of code objects -/
structure Fd where
  f : Option Addr
  T : List (Addr × Str)
def Fd.no (F : Fd) (p : Addr) : Prop := F.f ≠ some p ∧ ∀ q, q ∈ F.T → q.1 ≠ p
/-- an object that is none of the tables' -/
def Pl : HO → Prop
  | .lst _ => True
  | .ins _ _ _ => True
  | .dK _ => True
  | _ => False
theorem qSm {T : List (Addr × Str)} {H H' : Hp} (t : Tabs T H) (h : ∀ b o, H b = some o → ¬ Pl o → H' b = some o) : Tabs T H' := fun p hp => by
  obtain ⟨ps, h1, h2, h3⟩ := t p hp
  refine ⟨ps, h _ _ h1 (fun z => z), h2, fun pos cv hc => ?_⟩
  obtain ⟨c, e1, e2⟩ := h3 pos cv hc
  exact ⟨c, e1, h _ _ e2 (fun z => z)⟩
theorem qNu {T : List (Addr × Str)} {H : Hp} {p : Addr} {o u : HO} (t : Tabs T H) (h : H p = some o) (hp : Pl o) : Tabs T (upd H p u) := qSm t fun b v e n => by
  rw [upd_ne (fun z => n (by rw [z, h] at e; cases e; exact hp))]
  exact e
theorem qAoi {T : List (Addr × Str)} {H : Hp} {p : Addr} {f : Option Addr} (t : Tabs T H) (h : H p = none) (hf : f ≠ some p) : Fd.no ⟨f, T⟩ p := ⟨hf, fun q hq z => by
  obtain ⟨ps, h1, _⟩ := t q hq
  rw [z, h] at h1; cases h1⟩
/-- the place p may be used: it is not the feed's, nobody owns it -/
def Ok (F : Fd) (M : Addr → Prop) (p : Addr) : Prop := F.no p ∧ ¬ M p
/-- the script: a list that is only read -/
def Scr (K : PySem.W.Frag) (F : Fd) (M : Addr → Prop) (H : Hp) (ns : List Int) (a : Addr) : Prop :=
  (∃ o, Ok F M a ∧ H a = some o ∧ (o = .lst (ns.map V.int) ∨ ∃ f, o = .frz f (.lst (ns.map V.int)))) ∨
    ∃ (o : Obj) (its : Array Value) (n : Nat), K.lookup a = some o ∧ o.cls = .type "list" ∧ o.dict = none ∧ o.data = .seq its n ∧ its.size ≤ sizeLine ∧ Vals (ns.map V.int) its.toList
theorem Scr.of {K : PySem.W.Frag} {F : Fd} {M : Addr → Prop} {H : Hp} {ns : List Int} {a : Addr} (h : SqL K H a (ns.map V.int)) (ok : Ok F M a) : Scr K F M H ns a := by
  rcases h with (h | ⟨f, h⟩) | h
  · exact .inl ⟨_, ok, h, .inl rfl⟩
  · exact .inl ⟨_, ok, h, .inr ⟨f, rfl⟩⟩
  · exact .inr h
section
variable (K : PySem.W.Frag) (F : Fd) (M : Addr → Prop) (H : Hp)
def RRat (q : Rat) (v : V) : Prop := ∃ p, v = .ref p ∧ Ok F M p ∧ IsRat K H p q
def RRats : List Rat → List V → Prop
  | [], vs => vs = []
  | q :: qs, vs => ∃ v us, vs = v :: us ∧ RRat K F M H q v ∧ RRats qs us
abbrev CP (K : PySem.W.Frag) : Addr := He.ga K "Poly"
def qAci (t l : Addr) (n : Nat) : List (Str × V) := [("coefficients", .ref t), ("degree", .int ((n : Int) - 1)), ("lead", .ref l)]
mutual
/-- v is the datum -/
def Rep : D → V → Prop
  | .non, v => v = .non
  | .bl b, v => v = .bl b
  | .int i, v => v = .int i
  | .str x, v => v = .str x
  | .rat q, v => RRat K F M H q v
  | .poly cs, v => ∃ p dx t l vs, v = .ref p ∧ Ok F M p ∧ H p = some (.ins (CP K) dx (qAci t l cs.length)) ∧ Ok F M t ∧ H t = some (.tup vs) ∧ RRats K F M H cs vs ∧ RRat K F M H (qI5 cs) (.ref l) ∧ Nrm cs
  | .lst ds, v => ∃ p vs, v = .ref p ∧ Ok F M p ∧ H p = some (.lst vs) ∧ Reps ds vs
  | .tup ds, v => ∃ p vs, v = .ref p ∧ Ok F M p ∧ H p = some (.tup vs) ∧ Reps ds vs
  | .ins C ns ds, v => ∃ p dx gs, v = .ref p ∧ Ok F M p ∧ H p = some (.ins (He.ga K C) dx gs) ∧ gs.map Prod.fst = ns ∧ Reps ds (gs.map Prod.snd)
  | .feed, v => ∃ f, F.f = some f ∧ v = .ref f
  | .exc, v => ∃ a, v = .ref a
  | .adr a, v => v = .ref a
  | .scr ns, v => ∃ a, v = .ref a ∧ Scr K F M H ns a
  | .dct ks ds, v => ∃ p kvs, v = .ref p ∧ Ok F M p ∧ H p = some (.dK kvs) ∧ kvs.map Prod.fst = ks ∧ Reps ds (kvs.map Prod.snd)
  | .exn C ns ds, v => ∃ e dx gs, v = .ref e ∧ Ok F M e ∧ H e = some (exo e (He.ga K C) dx) ∧ (∀ d, dx = some d → Ok F M d ∧ H d = some (.xd gs)) ∧ (dx = none → gs = []) ∧ gs.map Prod.fst = ns ∧ Reps ds (gs.map Prod.snd)
def Reps : List D → List V → Prop
  | [], vs => vs = []
  | d :: ds, vs => ∃ v us, vs = v :: us ∧ Rep d v ∧ Reps ds us
end
/-- an object that one name alone holds -/
def RepO : D → HO → Prop
  | .lst ds, o => ∃ vs, o = .lst vs ∧ Reps K F M H ds vs
  | .ins C ns ds, o => ∃ dx gs, o = .ins (He.ga K C) dx gs ∧ gs.map Prod.fst = ns ∧ Reps K F M H ds (gs.map Prod.snd)
  | .dct ks ds, o => ∃ kvs, o = .dK kvs ∧ kvs.map Prod.fst = ks ∧ Reps K F M H ds (kvs.map Prod.snd)
  | _, _ => False
end
section
variable {K : PySem.W.Frag} {F : Fd} {M M' : Addr → Prop} {H H' : Hp}
/-- what was usable stands, and is usable -/
def Goes (F : Fd) (M : Addr → Prop) (H : Hp) (M' : Addr → Prop) (H' : Hp) : Prop := ∀ p o, H p = some o → F.no p → ¬ M p → H' p = some o ∧ ¬ M' p
theorem RRat.goes (g : Goes F M H M' H') {q : Rat} {v : V} (h : RRat K F M H q v) : RRat K F M' H' q v := by
  obtain ⟨p, rfl, ok, dx, e⟩ := h
  obtain ⟨e', n⟩ := g p _ e ok.1 ok.2
  exact ⟨p, rfl, ⟨ok.1, n⟩, dx, e'⟩
theorem RRats.goes (g : Goes F M H M' H') : ∀ {qs : List Rat} {vs : List V}, RRats K F M H qs vs → RRats K F M' H' qs vs
  | [], _, h => h
  | _ :: _, _, h => by
    obtain ⟨v, us, rfl, h1, h2⟩ := h
    exact ⟨v, us, rfl, h1.goes g, RRats.goes g h2⟩
mutual
theorem Rep.goes (g : Goes F M H M' H') : ∀ (d : D) (v : V), Rep K F M H d v → Rep K F M' H' d v
  | .non, v, h => h
  | .bl b, v, h => h
  | .int i, v, h => h
  | .str x, v, h => h
  | .feed, v, h => h
  | .exc, v, h => h
  | .adr a, v, h => h
  | .scr ns, v, h => by
    obtain ⟨a, rfl, ⟨o, ok, e, z⟩ | z⟩ := h
    · obtain ⟨e', n1⟩ := g a _ e ok.1 ok.2
      exact ⟨a, rfl, .inl ⟨o, ⟨ok.1, n1⟩, e', z⟩⟩
    · exact ⟨a, rfl, .inr z⟩
  | .rat q, v, h => RRat.goes g h
  | .poly cs, v, h => by
    obtain ⟨p, dx, t, l, vs, rfl, ok, e, okt, et, r, rl, n⟩ := h
    obtain ⟨e', n1⟩ := g p _ e ok.1 ok.2
    obtain ⟨et', n2⟩ := g t _ et okt.1 okt.2
    exact ⟨p, dx, t, l, vs, rfl, ⟨ok.1, n1⟩, e', ⟨okt.1, n2⟩, et', r.goes g, rl.goes g, n⟩
  | .lst ds, v, h => by
    obtain ⟨p, vs, rfl, ok, e, r⟩ := h
    obtain ⟨e', n1⟩ := g p _ e ok.1 ok.2
    exact ⟨p, vs, rfl, ⟨ok.1, n1⟩, e', Reps.goes g ds vs r⟩
  | .tup ds, v, h => by
    obtain ⟨p, vs, rfl, ok, e, r⟩ := h
    obtain ⟨e', n1⟩ := g p _ e ok.1 ok.2
    exact ⟨p, vs, rfl, ⟨ok.1, n1⟩, e', Reps.goes g ds vs r⟩
  | .ins C ns ds, v, h => by
    obtain ⟨p, dx, gs, rfl, ok, e, en, r⟩ := h
    obtain ⟨e', n1⟩ := g p _ e ok.1 ok.2
    exact ⟨p, dx, gs, rfl, ⟨ok.1, n1⟩, e', en, Reps.goes g ds _ r⟩
  | .dct ks ds, v, h => by
    obtain ⟨p, gs, rfl, ok, e, en, r⟩ := h
    obtain ⟨e', n1⟩ := g p _ e ok.1 ok.2
    exact ⟨p, gs, rfl, ⟨ok.1, n1⟩, e', en, Reps.goes g ds _ r⟩
  | .exn C ns ds, v, h => by
    obtain ⟨p, dx, gs, rfl, ok, e, hd, hn, en, r⟩ := h
    obtain ⟨e', n1⟩ := g p _ e ok.1 ok.2
    exact ⟨p, dx, gs, rfl, ⟨ok.1, n1⟩, e', fun d z => let ⟨okd, ed⟩ := hd d z; let ⟨e2, n2⟩ := g d _ ed okd.1 okd.2; ⟨⟨okd.1, n2⟩, e2⟩, hn, en, Reps.goes g ds _ r⟩
theorem Reps.goes (g : Goes F M H M' H') : ∀ (ds : List D) (vs : List V), Reps K F M H ds vs → Reps K F M' H' ds vs
  | [], _, h => h
  | d :: ds, _, h => by
    obtain ⟨v, us, rfl, h1, h2⟩ := h
    exact ⟨v, us, rfl, Rep.goes g d v h1, Reps.goes g ds us h2⟩
end
theorem RepO.pl {d : D} {o : HO} (h : RepO K F M H d o) : Pl o := by
  cases d with
  | lst ds => obtain ⟨vs, rfl, r⟩ := h; trivial
  | ins C ns ds => obtain ⟨dx, gs, rfl, en, r⟩ := h; trivial
  | dct ks ds => obtain ⟨gs, rfl, en, r⟩ := h; trivial
  | _ => exact h.elim
theorem RepO.goes (g : Goes F M H M' H') {d : D} {o : HO} (h : RepO K F M H d o) : RepO K F M' H' d o := by
  cases d with
  | lst ds => obtain ⟨vs, rfl, r⟩ := h; exact ⟨vs, rfl, Reps.goes g _ _ r⟩
  | ins C ns ds => obtain ⟨dx, gs, rfl, en, r⟩ := h; exact ⟨dx, gs, rfl, en, Reps.goes g _ _ r⟩
  | dct ks ds => obtain ⟨gs, rfl, en, r⟩ := h; exact ⟨gs, rfl, en, Reps.goes g _ _ r⟩
  | _ => exact h.elim
mutual
/-- no list within -/
def D.noL : D → Bool
  | .lst _ => false
  | .tup ds => D.noLs ds
  | .ins _ _ ds => D.noLs ds
  | .feed => false
  | .exc => false
  | .adr _ => false
  | .scr _ => false
  | .dct _ _ => false
  | .exn _ _ ds => D.noLs ds
  | _ => true
def D.noLs : List D → Bool
  | [] => true
  | d :: ds => d.noL && D.noLs ds
end
/-- M' has lists only -/
def Lists (M' : Addr → Prop) (H : Hp) : Prop := ∀ p, M' p → ∃ xs, H p = some (.lst xs)
theorem RRat.noL (g : Lists M' H) {q : Rat} {v : V} (h : RRat K F M H q v) : RRat K F (fun p => M p ∨ M' p) H q v := by
  obtain ⟨p, rfl, ok, dx, e⟩ := h
  refine ⟨p, rfl, ⟨ok.1, fun z => z.elim ok.2 fun m => ?_⟩, dx, e⟩
  obtain ⟨xs, y⟩ := g p m
  rw [e] at y; cases y
theorem RRats.noL (g : Lists M' H) : ∀ {qs : List Rat} {vs : List V}, RRats K F M H qs vs → RRats K F (fun p => M p ∨ M' p) H qs vs
  | [], _, h => h
  | _ :: _, _, h => by
    obtain ⟨v, us, rfl, h1, h2⟩ := h
    exact ⟨v, us, rfl, h1.noL g, RRats.noL g h2⟩
theorem qUi (g : Lists M' H) {p : Addr} {o : HO} (ok : Ok F M p) (e : H p = some o) (n : ∀ xs, o ≠ .lst xs) : Ok F (fun p => M p ∨ M' p) p := ⟨ok.1, fun z => z.elim ok.2 fun m => by
  obtain ⟨xs, y⟩ := g p m
  rw [e] at y
  exact n xs (Option.some.inj y)⟩
mutual
theorem Rep.noL (g : Lists M' H) : ∀ (d : D) (v : V), d.noL = true → Rep K F M H d v → Rep K F (fun p => M p ∨ M' p) H d v
  | .non, v, _, h => h
  | .bl b, v, _, h => h
  | .int i, v, _, h => h
  | .str x, v, _, h => h
  | .feed, v, n, h => h
  | .exc, v, n, h => h
  | .adr a, v, n, h => h
  | .scr ns, v, n, h => by simp [D.noL] at n
  | .rat q, v, _, h => RRat.noL g h
  | .poly cs, v, _, h => by
    obtain ⟨p, dx, t, l, vs, rfl, ok, e, okt, et, r, rl, n⟩ := h
    exact ⟨p, dx, t, l, vs, rfl, qUi g ok e (fun _ z => by cases z), e, qUi g okt et (fun _ z => by cases z), et, r.noL g, rl.noL g, n⟩
  | .lst ds, v, n, h => by simp [D.noL] at n
  | .tup ds, v, n, h => by
    obtain ⟨p, vs, rfl, ok, e, r⟩ := h
    exact ⟨p, vs, rfl, qUi g ok e (fun _ z => by cases z), e, Reps.noL g ds vs (by simpa [D.noL] using n) r⟩
  | .ins C ns ds, v, n, h => by
    obtain ⟨p, dx, gs, rfl, ok, e, en, r⟩ := h
    exact ⟨p, dx, gs, rfl, qUi g ok e (fun _ z => by cases z), e, en, Reps.noL g ds _ (by simpa [D.noL] using n) r⟩
  | .dct ks ds, v, n, h => by simp [D.noL] at n
  | .exn C ns ds, v, n, h => by
    obtain ⟨p, dx, gs, rfl, ok, e, hd, hn, en, r⟩ := h
    exact ⟨p, dx, gs, rfl, qUi g ok e (fun _ z => by have z' : HO.ext _ = HO.lst _ := z; cases z'), e, fun d z => let ⟨okd, ed⟩ := hd d z; ⟨qUi g okd ed (fun _ z => by cases z), ed⟩, hn, en, Reps.noL g ds _ (by simpa [D.noL] using n) r⟩
theorem Reps.noL (g : Lists M' H) : ∀ (ds : List D) (vs : List V), D.noLs ds = true → Reps K F M H ds vs → Reps K F (fun p => M p ∨ M' p) H ds vs
  | [], _, _, h => h
  | d :: ds, _, n, h => by
    obtain ⟨v, us, rfl, h1, h2⟩ := h
    simp only [D.noLs, Bool.and_eq_true] at n
    exact ⟨v, us, rfl, Rep.noL g d v n.1 h1, Reps.noL g ds us n.2 h2⟩
end
/-! ### lists of data -/
theorem Reps.length : ∀ {ds : List D} {vs : List V}, Reps K F M H ds vs → vs.length = ds.length
  | [], _, h => by rw [show _ = [] from h]; rfl
  | d :: ds, _, h => by
    obtain ⟨v, us, rfl, _, h2⟩ := h
    rw [List.length_cons, List.length_cons, Reps.length h2]
theorem Reps.get : ∀ {ds : List D} {vs : List V} {i : Nat} {d : D}, Reps K F M H ds vs → ds[i]? = some d → ∃ v, vs[i]? = some v ∧ Rep K F M H d v
  | [], _, i, d, _, h => by simp at h
  | e :: ds, _, i, d, h, hi => by
    obtain ⟨v, us, rfl, h1, h2⟩ := h
    cases i with
    | zero => simp at hi; subst hi; exact ⟨v, rfl, h1⟩
    | succ i =>
      simp at hi
      obtain ⟨w, e1, e2⟩ := Reps.get h2 hi
      exact ⟨w, by simpa using e1, e2⟩
theorem Reps.append : ∀ {ds es : List D} {vs ws : List V}, Reps K F M H ds vs → Reps K F M H es ws → Reps K F M H (ds ++ es) (vs ++ ws)
  | [], _, _, _, h, h' => by rw [show _ = [] from h]; exact h'
  | d :: ds, _, _, _, h, h' => by
    obtain ⟨v, us, rfl, h1, h2⟩ := h
    exact ⟨v, us ++ _, rfl, h1, Reps.append h2 h'⟩
theorem Reps.one {d : D} {v : V} (h : Rep K F M H d v) : Reps K F M H [d] [v] := ⟨v, [], rfl, h, rfl⟩
theorem Reps.cons {d : D} {v : V} {ds : List D} {vs : List V} (h : Rep K F M H d v) (h' : Reps K F M H ds vs) : Reps K F M H (d :: ds) (v :: vs) := ⟨v, vs, rfl, h, h'⟩
theorem Reps.set : ∀ {ds : List D} {vs : List V} {i : Nat} {d : D} {v : V}, Reps K F M H ds vs → Rep K F M H d v → Reps K F M H (ds.set i d) (vs.set i v)
  | [], _, i, d, v, h, _ => by rw [show _ = [] from h]; exact rfl
  | e :: ds, _, i, d, v, h, hd => by
    obtain ⟨w, us, rfl, h1, h2⟩ := h
    cases i with
    | zero => exact ⟨v, us, rfl, hd, h2⟩
    | succ i => exact ⟨w, us.set i v, rfl, h1, Reps.set h2 hd⟩
theorem Reps.drop : ∀ {ds : List D} {vs : List V} (n : Nat), Reps K F M H ds vs → Reps K F M H (ds.drop n) (vs.drop n)
  | _, _, 0, h => h
  | [], _, n + 1, h => by rw [show _ = [] from h]; exact rfl
  | e :: ds, _, n + 1, h => by
    obtain ⟨w, us, rfl, h1, h2⟩ := h
    exact Reps.drop n h2
theorem Reps.take : ∀ {ds : List D} {vs : List V} (n : Nat), Reps K F M H ds vs → Reps K F M H (ds.take n) (vs.take n)
  | _, _, 0, h => rfl
  | [], _, n + 1, h => by rw [show _ = [] from h]; exact rfl
  | e :: ds, _, n + 1, h => by
    obtain ⟨w, us, rfl, h1, h2⟩ := h
    exact ⟨w, us.take n, rfl, h1, Reps.take n h2⟩
theorem Reps.ints : ∀ {ns : List Int} {vs : List V}, Reps K F M H (ns.map D.int) vs → vs = ns.map V.int
  | [], _, h => h
  | n :: ns, _, h => by
    obtain ⟨w, us, rfl, h1, h2⟩ := h
    rw [show w = V.int n from h1, Reps.ints h2]
    rfl
theorem RRats.reps : ∀ {qs : List Rat} {vs : List V}, RRats K F M H qs vs → Reps K F M H (qs.map D.rat) vs
  | [], _, h => h
  | q :: qs, _, h => by
    obtain ⟨w, us, rfl, h1, h2⟩ := h
    exact ⟨w, us, rfl, h1, RRats.reps h2⟩
theorem RRats.of : ∀ {qs : List Rat} {vs : List V}, Reps K F M H (qs.map D.rat) vs → RRats K F M H qs vs
  | [], _, h => h
  | q :: qs, _, h => by
    obtain ⟨w, us, rfl, h1, h2⟩ := h
    exact ⟨w, us, rfl, h1, RRats.of h2⟩
end
/-! ### heaps -/
/-- all but the feed stands, the feed is one -/
structure Gr (K : PySem.W.Frag) (F : Fd) (H H' : Hp) : Prop where
  old : ∀ b o, H b = some o → F.no b → H' b = some o
  feed : ∀ f c, F.f = some f → FeedC K H f c → FeedC K H' f c
  tab : Tabs F.T H → Tabs F.T H'
theorem FeedC.same {K : PySem.W.Frag} {H H' : Hp} {f c : Addr} (s : Same H H') (h : FeedC K H f c) : FeedC K H' f c := let ⟨ns, p, b, l, n, z, o, G, e⟩ := h; ⟨ns, p, b, l, n, z, o, G.same s, s _ _ e⟩
theorem Gr.refl {K : PySem.W.Frag} {F : Fd} {H : Hp} : Gr K F H H := ⟨fun _ _ h _ => h, fun _ _ _ h => h, fun h => h⟩
theorem Gr.trans {K : PySem.W.Frag} {F : Fd} {H H1 H2 : Hp} (a : Gr K F H H1) (b : Gr K F H1 H2) : Gr K F H H2 := ⟨fun c o h n => b.old c o (a.old c o h n) n, fun f c e h => b.feed f c e (a.feed f c e h), fun h => b.tab (a.tab h)⟩
theorem Gr.same {K : PySem.W.Frag} {F : Fd} {H H' : Hp} (s : Same H H') : Gr K F H H' := ⟨fun b o h _ => s b o h, fun _ _ _ h => h.same s, fun h => h.ext s⟩
theorem Gr.new {K : PySem.W.Frag} {F : Fd} {H : Hp} {p : Addr} {o : HO} (n : H p = none) : Gr K F H (upd H p o) := .same (qWe n)
theorem Gr.goes {K : PySem.W.Frag} {F : Fd} {H H' : Hp} {M : Addr → Prop} (g : Gr K F H H') : Goes F M H M H' := fun p o h n m => ⟨g.old p o h n, m⟩
theorem FeedC.keep {K : PySem.W.Frag} {H : Hp} {f c p : Addr} {o : HO} (h : FeedC K H f c) (n : p ≠ f) (m : p ≠ c) : FeedC K (upd H p o) f c := by
  obtain ⟨ns, x, b, l, k, s, o', G, e⟩ := h
  refine ⟨ns, x, b, l, k, s, o', ⟨by rw [upd_ne (Ne.symm n)]; exact G.ob, ?_, G.ne, G.nn, G.p0, G.b0, G.l0, G.n0, G.s0⟩, by rw [upd_ne (Ne.symm m)]; exact e⟩
  exact qAhk (f := p) qGk (Ne.symm m) G.cs
/-! ### the names of a def -/
/-- the places that the names of ow hold -/
def Mo (ow : List Nat) (σ : L2.St) (p : Addr) : Prop := ∃ i, i ∈ ow ∧ σ[i]? = some (some (.ref p))
def Sl (R : D → V → Prop) : Option (Option D) → Option (Option V) → Prop
  | some (some d), some (some v) => R d v
  | some none, some none => True
  | none, none => True
  | _, _ => False
/-- a world: the feed's place, what the callers own, the heap at the start -/
structure Wd where
  F : Fd
  M : Addr → Prop
  H0 : Hp
abbrev Wd.Mx (w : Wd) (ow : List Nat) (σ : L2.St) (p : Addr) : Prop := w.M p ∨ Mo ow σ p
structure REnv (K : PySem.W.Frag) (Ta : List (Addr × Str)) (w : Wd) (ow : List Nat) (H : Hp) (σ : L2.St) (ρ : Env) : Prop where
  gr : Gr K w.F w.H0 H
  live : ∀ p, w.M p → ∃ o, w.H0 p = some o
  nf : ∀ p, w.M p → w.F.no p
  imm : ∀ i, i ∉ ow → Sl (Rep K w.F (w.Mx ow σ) H) ρ[i]? σ[i]?
  own : ∀ i, i ∈ ow → ∃ p o d, σ[i]? = some (some (.ref p)) ∧ ρ[i]? = some (some d) ∧ H p = some o ∧ RepO K w.F (w.Mx ow σ) H d o ∧ w.F.no p ∧ w.H0 p = none
  inj : ∀ i, i ∈ ow → ∀ j, j ∈ ow → i ≠ j → ∀ p, σ[i]? = some (some (.ref p)) → σ[j]? ≠ some (some (.ref p))
  feed : ∀ f, w.F.f = some f → ∃ c, FeedC K H f c ∧ ¬ w.Mx ow σ c
  tab : Tabs w.F.T H
  ts : w.F.T = Ta
theorem Sl.mono {R R' : D → V → Prop} (h : ∀ d v, R d v → R' d v) : ∀ {a : Option (Option D)} {b : Option (Option V)}, Sl R a b → Sl R' a b
  | some (some d), some (some v), z => h d v z
  | some none, some none, z => z
  | none, none, z => z
section
variable {K : PySem.W.Frag} {w : Wd} {ow ow' : List Nat} {H H' : Hp} {σ : L2.St} {ρ : Env}
theorem REnv.grow (e : REnv K Ta w ow H σ ρ) (g : Gr K w.F H H') : REnv K Ta w ow H' σ ρ where
  gr := e.gr.trans g
  live := e.live
  nf := e.nf
  imm i hi := (e.imm i hi).mono fun d v => Rep.goes g.goes d v
  own i hi := by
    obtain ⟨p, o, d, h1, h2, h3, h4, h5, h6⟩ := e.own i hi
    exact ⟨p, o, d, h1, h2, g.old _ _ h3 h5, h4.goes g.goes, h5, h6⟩
  inj := e.inj
  feed f hf := by
    obtain ⟨c, h1, h2⟩ := e.feed f hf
    exact ⟨c, g.feed f c hf h1, h2⟩
  tab := g.tab e.tab
  ts := e.ts
/-- names of ow are let go -/
theorem REnv.free (e : REnv K Ta w ow H σ ρ) (hs : ∀ i, i ∈ ow' → i ∈ ow) : REnv K Ta w ow' H σ ρ := by
  have sub : ∀ p, w.Mx ow' σ p → w.Mx ow σ p := fun p h => h.elim .inl fun ⟨i, h1, h2⟩ => .inr ⟨i, hs i h1, h2⟩
  have go : Goes w.F (w.Mx ow σ) H (w.Mx ow' σ) H := fun p o h _ m => ⟨h, fun z => m (sub p z)⟩
  refine ⟨e.gr, e.live, e.nf, fun i hi => ?_, fun i hi => ?_, fun i hi j hj => e.inj i (hs i hi) j (hs j hj), fun f hf => ?_, e.tab, e.ts⟩
  · by_cases hm : i ∈ ow
    · obtain ⟨p, o, d, h1, h2, h3, h4, h5, h6⟩ := e.own i hm
      rw [h1, h2]
      have nm : ¬ w.Mx ow' σ p := fun z => by
        rcases z with z | ⟨j, hj, z⟩
        · obtain ⟨o', y⟩ := e.live p z
          rw [h6] at y; cases y
        · by_cases hij : i = j
          · rw [hij] at hi; exact hi hj
          · exact e.inj i hm j (hs j hj) hij p h1 z
      have h4 := h4.goes go
      cases d with
      | lst ds => obtain ⟨vs, rfl, r⟩ := h4; exact ⟨p, vs, rfl, ⟨h5, nm⟩, h3, r⟩
      | ins C ns ds => obtain ⟨dx, gs, rfl, en, r⟩ := h4; exact ⟨p, dx, gs, rfl, ⟨h5, nm⟩, h3, en, r⟩
      | dct ks ds => obtain ⟨gs, rfl, en, r⟩ := h4; exact ⟨p, gs, rfl, ⟨h5, nm⟩, h3, en, r⟩
      | _ => exact h4.elim
    · exact (e.imm i hm).mono fun d v => Rep.goes go d v
  · obtain ⟨p, o, d, h1, h2, h3, h4, h5⟩ := e.own i (hs i hi)
    exact ⟨p, o, d, h1, h2, h3, h4.goes go, h5⟩
  · obtain ⟨c, h1, h2⟩ := e.feed f hf
    exact ⟨c, h1, fun z => h2 (sub c z)⟩
end
end MR

set_option Elab.async false
set_option linter.all false
set_option maxRecDepth 100000
set_option maxHeartbeats 4000000
set_option exponentiation.threshold 20000
/-! FL: readings without a heap, expressions -/
namespace MR
open PySem PySem.Spec PyProof.Rows L2
abbrev XP := Exn → Prop
abbrev FE := Env → (D → Prop) → XP → Prop
abbrev FT := Env → (Bool → Prop) → XP → Prop
abbrev FA := Env → (List D → Prop) → XP → Prop
def RepXs (K : PySem.W.Frag) (F : Fd) (H : Hp) : List (Str × D) → List (Str × V) → Prop
  | [], gs => gs = []
  | (n, d) :: r, gs => ∃ v gr, gs = (n, v) :: gr ∧ Rep K F (fun _ => False) H d v ∧ RepXs K F H r gr
/-- an exception as it lies there -/
def RepX (K : PySem.W.Frag) (F : Fd) (H : Hp) (cls : Value) (dd : Option Addr) (x : Exn) : Prop :=
  cls = .ref (He.ga K x.cls) ∧ ((x.fs = [] ∧ dd = none) ∨ ∃ a gs, dd = some a ∧ F.no a ∧ H a = some (.xd gs) ∧ RepXs K F H x.fs gs)
abbrev Post (K : PySem.W.Frag) (F : Fd) (M : Addr → Prop) (H : Hp) (P : D → Prop) (Q : VK) : Prop := ∀ d v H', P d → Gr K F H H' → Rep K F M H' d v → Q v H'
abbrev PostX (K : PySem.W.Frag) (F : Fd) (H : Hp) (X : XP) (E : XK) : Prop := ∀ x cls dd H', X x → Gr K F H H' → RepX K F H' cls dd x → E cls dd H'
def SE (K : PySem.W.Frag) (Ta : List (Addr × Str)) (ow : List Nat) (E : L2.St → XK) (ta : TE) (fa : FE) : Prop :=
  ∀ (w : Wd) (H : Hp) (σ : L2.St) (ρ : Env) (P : D → Prop) (X : XP) (Q : VK), REnv K Ta w ow H σ ρ → fa ρ P X → Post K w.F (w.Mx ow σ) H P Q → PostX K w.F H X (E σ) → ta σ H Q
def STt (K : PySem.W.Frag) (Ta : List (Addr × Str)) (ow : List Nat) (E : L2.St → XK) (ta : TT) (fa : FT) : Prop :=
  ∀ (w : Wd) (H : Hp) (σ : L2.St) (ρ : Env) (P : Bool → Prop) (X : XP) (Q : Bool → Hp → Prop), REnv K Ta w ow H σ ρ → fa ρ P X → (∀ b H', P b → Gr K w.F H H' → Q b H') → PostX K w.F H X (E σ) → ta σ H Q
def SA (K : PySem.W.Frag) (Ta : List (Addr × Str)) (ow : List Nat) (E : L2.St → XK) (ta : TA) (fa : FA) : Prop :=
  ∀ (w : Wd) (H : Hp) (σ : L2.St) (ρ : Env) (P : List D → Prop) (X : XP) (Q : List V → Hp → Prop), REnv K Ta w ow H σ ρ → fa ρ P X → (∀ ds vs H', P ds → Gr K w.F H H' → Reps K w.F (w.Mx ow σ) H' ds vs → Q vs H') → PostX K w.F H X (E σ) → ta σ H Q
/-- all of M and the feed is there -/
structure Lv (K : PySem.W.Frag) (F : Fd) (M : Addr → Prop) (H : Hp) : Prop where
  m : ∀ p, M p → ∃ o, H p = some o
  f : ∀ f, F.f = some f → ∃ c, FeedC K H f c ∧ ¬ M c
  nf : ∀ p, M p → F.no p
  t : LamX.Tabs F.T H
section
variable {K : PySem.W.Frag} {F : Fd} {M : Addr → Prop} {H H' : Hp}
theorem FeedC.some {f c : Addr} (h : FeedC K H f c) : ∃ o, H f = some o := let ⟨_, _, _, _, _, _, _, G, _⟩ := h; ⟨_, G.ob⟩
theorem Lv.ok (l : Lv K F M H) {p : Addr} (n : H p = none) : Ok F M p := by
  refine ⟨qAoi l.t n fun z => ?_, fun z => ?_⟩
  · obtain ⟨c, h, _⟩ := l.f p z
    obtain ⟨o, e⟩ := h.some
    rw [n] at e; cases e
  · obtain ⟨o, e⟩ := l.m p z
    rw [n] at e; cases e
theorem Lv.gr (l : Lv K F M H) (g : Gr K F H H') : Lv K F M H' := ⟨fun p m => let ⟨o, e⟩ := l.m p m; ⟨o, g.old _ _ e (l.nf p m)⟩, fun f e => let ⟨c, h, n⟩ := l.f f e; ⟨c, g.feed f c e h, n⟩, l.nf, g.tab l.t⟩
end
section
variable {K : PySem.W.Frag} {w : Wd} {ow : List Nat} {H H' : Hp} {σ : L2.St} {ρ : Env} {E : L2.St → XK}
theorem REnv.lv (e : REnv K Ta w ow H σ ρ) : Lv K w.F (w.Mx ow σ) H := by
  refine ⟨fun p m => ?_, e.feed, fun p m => ?_, e.tab⟩
  · rcases m with m | ⟨i, hi, z⟩
    · obtain ⟨o, h⟩ := e.live p m
      exact ⟨o, e.gr.old _ _ h (e.nf p m)⟩
    · obtain ⟨p', o, d, h1, _, h3, _⟩ := e.own i hi
      rw [h1] at z; cases z
      exact ⟨o, h3⟩
  · rcases m with m | ⟨i, hi, z⟩
    · exact e.nf p m
    · obtain ⟨p', o, d, h1, _, h3, _, h5, _⟩ := e.own i hi
      rw [h1] at z; cases z
      exact h5
theorem PostX.gr {F : Fd} {X : XP} {E : XK} (h : PostX K F H X E) (g : Gr K F H H') : PostX K F H' X E := fun x cls dd H2 hx g2 r => h x cls dd H2 hx (g.trans g2) r
/-! ### names, constants -/
def qAe (i : Nat) : FE := fun ρ P _ => ∃ d, ρ[i]? = some (some d) ∧ P d
theorem qAb {i : Nat} (hi : i ∉ ow) : SE K Ta ow E (tVar i) (qAe i) := by
  intro w H σ ρ P X Q e h q x
  obtain ⟨d, hd, p⟩ := h
  have := e.imm i hi
  rw [hd] at this
  cases hv : σ[i]? with
  | none => rw [hv] at this; exact this.elim
  | some o =>
    rw [hv] at this
    cases o with
    | none => exact this.elim
    | some v => exact ⟨v, hv, q d v H p .refl this⟩
def fC (d : D) : FE := fun _ P _ => P d
theorem qAj {i : Int} : SE K Ta ow E (tC (.int i)) (fC (.int i)) := fun w H σ ρ P X Q e h q x => q _ _ _ h .refl rfl
theorem qJl {i : Bool} : SE K Ta ow E (tC (.bl i)) (fC (.bl i)) := fun w H σ ρ P X Q e h q x => q _ _ _ h .refl rfl
theorem qGd {i : Str} : SE K Ta ow E (tC (.str i)) (fC (.str i)) := fun w H σ ρ P X Q e h q x => q _ _ _ h .refl rfl
theorem qCl : SE K Ta ow E (tC .non) (fC .non) := fun w H σ ρ P X Q e h q x => q _ _ _ h .refl rfl
/-! ### operators by values -/
abbrev O2 := D → D → (D → Prop) → XP → Prop
abbrev O1 := D → (D → Prop) → XP → Prop
abbrev OL := List D → (D → Prop) → XP → Prop
def OpS (K : PySem.W.Frag) (E : XK) (r : R2) (o : O2) : Prop := ∀ (F : Fd) (M : Addr → Prop) (H : Hp) (x y : V) (a b : D) (P : D → Prop) (X : XP) (Q : VK), Lv K F M H → Rep K F M H a x → Rep K F M H b y → o a b P X → Post K F M H P Q → PostX K F H X E → r x y H Q
def UnS (K : PySem.W.Frag) (E : XK) (r : V → Hp → VK → Prop) (o : O1) : Prop := ∀ (F : Fd) (M : Addr → Prop) (H : Hp) (x : V) (a : D) (P : D → Prop) (X : XP) (Q : VK), Lv K F M H → Rep K F M H a x → o a P X → Post K F M H P Q → PostX K F H X E → r x H Q
def LsS (K : PySem.W.Frag) (E : XK) (r : List V → Hp → VK → Prop) (o : OL) : Prop := ∀ (F : Fd) (M : Addr → Prop) (H : Hp) (xs : List V) (as : List D) (P : D → Prop) (X : XP) (Q : VK), Lv K F M H → Reps K F M H as xs → o as P X → Post K F M H P Q → PostX K F H X E → r xs H Q
def fOp (o : O2) (fa fb : FE) : FE := fun ρ P X => fa ρ (fun a => fb ρ (fun b => o a b P X) X) X
def fUn (o : O1) (fa : FE) : FE := fun ρ P X => fa ρ (fun a => o a P X) X
def fLs (o : OL) (fa : FA) : FE := fun ρ P X => fa ρ (fun as => o as P X) X
theorem qAi {r : R2} {o : O2} {ta tb : TE} {fa fb : FE} (ho : ∀ σ, OpS K (E σ) r o) (ha : SE K Ta ow E ta fa) (hb : SE K Ta ow E tb fb) : SE K Ta ow E (tOp r ta tb) (fOp o fa fb) := by
  intro w H σ ρ P X Q e h q x
  refine ha w H σ ρ _ X _ e h (fun a va H1 h1 g1 r1 => ?_) x
  refine hb w H1 σ ρ _ X _ (e.grow g1) h1 (fun b vb H2 h2 g2 r2 => ?_) (x.gr g1)
  exact ho σ _ _ H2 _ _ _ _ P X Q ((e.grow g1).grow g2).lv (Rep.goes g2.goes _ _ r1) r2 h2 (fun d v H3 hd g3 r3 => q d v H3 hd ((g1.trans g2).trans g3) r3) (x.gr (g1.trans g2))
theorem qOg {r : V → Hp → VK → Prop} {o : O1} {ta : TE} {fa : FE} (ho : ∀ σ, UnS K (E σ) r o) (ha : SE K Ta ow E ta fa) : SE K Ta ow E (tUn r ta) (fUn o fa) := by
  intro w H σ ρ P X Q e h q x
  refine ha w H σ ρ _ X _ e h (fun a va H1 h1 g1 r1 => ?_) x
  exact ho σ _ _ H1 _ _ P X Q (e.grow g1).lv r1 h1 (fun d v H3 hd g3 r3 => q d v H3 hd (g1.trans g3) r3) (x.gr g1)
theorem qEg {r : List V → Hp → VK → Prop} {o : OL} {ta : TA} {fa : FA} (ho : ∀ σ, LsS K (E σ) r o) (ha : SA K Ta ow E ta fa) : SE K Ta ow E (tCB r ta) (fLs o fa) := by
  intro w H σ ρ P X Q e h q x
  refine ha w H σ ρ _ X _ e h (fun a va H1 h1 g1 r1 => ?_) x
  exact ho σ _ _ H1 _ _ P X Q (e.grow g1).lv r1 h1 (fun d v H3 hd g3 r3 => q d v H3 hd (g1.trans g3) r3) (x.gr g1)
/-! ### arguments -/
def qAm : FA := fun _ P _ => P []
def qAc (fa : FE) (fr : FA) : FA := fun ρ P X => fa ρ (fun a => fr ρ (fun as => P (a :: as)) X) X
theorem qAd : SA K Ta ow E tNil qAm := fun w H σ ρ P X Q e h q x => q _ _ _ h .refl rfl
theorem qAa {ta : TE} {tr : TA} {fa : FE} {fr : FA} (ha : SE K Ta ow E ta fa) (hr : SA K Ta ow E tr fr) : SA K Ta ow E (tCons ta tr) (qAc fa fr) := by
  intro w H σ ρ P X Q e h q x
  refine ha w H σ ρ _ X _ e h (fun a va H1 h1 g1 r1 => ?_) x
  refine hr w H1 σ ρ _ X _ (e.grow g1) h1 (fun b vb H2 h2 g2 r2 => ?_) (x.gr g1)
  exact q _ _ H2 h2 (g1.trans g2) (.cons (Rep.goes g2.goes _ _ r1) r2)
/-! ### truth -/
def toB (k : Bool → Prop) : D → Prop
  | .bl b => k b
  | _ => False
theorem qAe2 {k : Bool → Prop} {d : D} (h : toB k d) : ∃ b, d = .bl b ∧ k b := by
  cases d with
  | bl b => exact ⟨b, rfl, h⟩
  | _ => exact h.elim
def fB (fa : FE) : FT := fun ρ P X => fa ρ (toB P) X
theorem qOh {ta : TE} {fa : FE} (ha : SE K Ta ow E ta fa) : STt K Ta ow E (tB ta) (fB fa) := by
  intro w H σ ρ P X Q e h q x
  refine ha w H σ ρ _ X _ e h (fun a va H1 h1 g1 r1 => ?_) x
  obtain ⟨b, rfl, p⟩ := qAe2 h1
  exact ⟨b, r1, q b H1 p g1⟩
theorem qAp {ta : TE} {fa : FE} (ha : SE K Ta ow E ta fa) : STt K Ta ow E (tTest ta) (fB fa) := by
  intro w H σ ρ P X Q e h q x
  refine ha w H σ ρ _ X _ e h (fun a va H1 h1 g1 r1 => ?_) x
  obtain ⟨b, rfl, p⟩ := qAe2 h1
  exact ⟨b, r1, q b H1 p g1⟩
def qGq (fa : FT) : FT := fun ρ P X => fa ρ (fun b => P (!b)) X
theorem qEb {ta : TT} {fa : FT} (ha : STt K Ta ow E ta fa) : STt K Ta ow E (tNot ta) (qGq fa) := by
  intro w H σ ρ P X Q e h q x
  exact ha w H σ ρ _ X _ e h (fun b H1 h1 g1 => q _ H1 h1 g1) x
def qRh (fa fb : FT) : FT := fun ρ P X => fa ρ (fun c => if c = true then fb ρ P X else P false) X
theorem qPw {ta tb : TT} {fa fb : FT} (ha : STt K Ta ow E ta fa) (hb : STt K Ta ow E tb fb) : STt K Ta ow E (tAnd ta tb) (qRh fa fb) := by
  intro w H σ ρ P X Q e h q x
  refine ha w H σ ρ _ X _ e h (fun b H1 h1 g1 => ?_) x
  cases b with
  | true => exact hb w H1 σ ρ _ X _ (e.grow g1) h1 (fun b2 H2 h2 g2 => q _ H2 h2 (g1.trans g2)) (x.gr g1)
  | false => exact q _ H1 h1 g1
def fOr (fa fb : FT) : FT := fun ρ P X => fa ρ (fun c => if c = true then P true else fb ρ P X) X
theorem qAcx {ta tb : TT} {fa fb : FT} (ha : STt K Ta ow E ta fa) (hb : STt K Ta ow E tb fb) : STt K Ta ow E (tOr ta tb) (fOr fa fb) := by
  intro w H σ ρ P X Q e h q x
  refine ha w H σ ρ _ X _ e h (fun b H1 h1 g1 => ?_) x
  cases b with
  | false => exact hb w H1 σ ρ _ X _ (e.grow g1) h1 (fun b2 H2 h2 g2 => q _ H2 h2 (g1.trans g2)) (x.gr g1)
  | true => exact q _ H1 h1 g1
def qMy (fa fb : FE) : FE := fun ρ P X => fa ρ (toB fun c => if c = true then fb ρ P X else P (.bl false)) X
theorem qAa7 {ta tb : TE} {fa fb : FE} (ha : SE K Ta ow E ta fa) (hb : SE K Ta ow E tb fb) : SE K Ta ow E (tAndV ta tb) (qMy fa fb) := by
  intro w H σ ρ P X Q e h q x
  refine ha w H σ ρ _ X _ e h (fun a va H1 h1 g1 r1 => ?_) x
  obtain ⟨b, rfl, p⟩ := qAe2 h1
  refine ⟨b, r1, ?_⟩
  cases b with
  | true => exact hb w H1 σ ρ _ X _ (e.grow g1) p (fun d v H2 h2 g2 r2 => q _ _ H2 h2 (g1.trans g2) r2) (x.gr g1)
  | false => exact q _ _ H1 p g1 rfl
def fOrV (fa fb : FE) : FE := fun ρ P X => fa ρ (toB fun c => if c = true then P (.bl true) else fb ρ P X) X
theorem qAqb {ta tb : TE} {fa fb : FE} (ha : SE K Ta ow E ta fa) (hb : SE K Ta ow E tb fb) : SE K Ta ow E (tOrV ta tb) (fOrV fa fb) := by
  intro w H σ ρ P X Q e h q x
  refine ha w H σ ρ _ X _ e h (fun a va H1 h1 g1 r1 => ?_) x
  obtain ⟨b, rfl, p⟩ := qAe2 h1
  refine ⟨b, r1, ?_⟩
  cases b with
  | false => exact hb w H1 σ ρ _ X _ (e.grow g1) p (fun d v H2 h2 g2 r2 => q _ _ H2 h2 (g1.trans g2) r2) (x.gr g1)
  | true => exact q _ _ H1 p g1 rfl
def qUz (fa : FE) : FE := fun ρ P X => fa ρ (toB fun c => P (.bl (!c))) X
def fIf (fc : FT) (fa fb : FE) : FE := fun ρ P X => fc ρ (fun c => if c = true then fa ρ P X else fb ρ P X) X
theorem qQl {tc : TT} {ta tb : TE} {fc : FT} {fa fb : FE} (hc : STt K Ta ow E tc fc) (ha : SE K Ta ow E ta fa) (hb : SE K Ta ow E tb fb) : SE K Ta ow E (tIf tc ta tb) (fIf fc fa fb) := by
  intro w H σ ρ P X Q e h q x
  refine hc w H σ ρ _ X _ e h (fun b H1 h1 g1 => ?_) x
  cases b with
  | false => exact hb w H1 σ ρ _ X _ (e.grow g1) h1 (fun d v H2 h2 g2 r2 => q _ _ H2 h2 (g1.trans g2) r2) (x.gr g1)
  | true => exact ha w H1 σ ρ _ X _ (e.grow g1) h1 (fun d v H2 h2 g2 r2 => q _ _ H2 h2 (g1.trans g2) r2) (x.gr g1)
def truD : D → Option Bool
  | .non => some false
  | .bl b => some b
  | .int i => some (i != 0)
  | .lst ds => some !ds.isEmpty
  | .tup ds => some !ds.isEmpty
  | _ => none
theorem qUf {F : Fd} {M : Addr → Prop} : ∀ {ds : List D} {vs : List V}, Reps K F M H ds vs → vs.isEmpty = ds.isEmpty
  | [], _, h => by rw [show _ = [] from h]; rfl
  | _ :: _, _, h => by obtain ⟨v, us, rfl, _, _⟩ := h; rfl
def fTru (fa : FE) : FT := fun ρ P X => fa ρ (fun d => ∃ k, truD d = some k ∧ P k) X
theorem qXv {ta : TE} {fa : FE} (ha : SE K Ta ow E ta fa) : STt K Ta ow E (qAbh K ta) (fTru fa) := by
  intro w H σ ρ P X Q e h q x
  refine ha w H σ ρ _ X _ e h (fun a va H1 h1 g1 r1 => ?_) x
  obtain ⟨k, hk, p⟩ := h1
  refine ⟨k, ?_, q k H1 p g1⟩
  cases a with
  | non => rw [show va = .non from r1]; exact (Option.some.inj hk).symm
  | bl b => rw [show va = .bl b from r1]; exact (Option.some.inj hk).symm
  | int b => rw [show va = .int b from r1]; exact (Option.some.inj hk).symm
  | lst ds =>
    obtain ⟨p', vs, rfl, ok, e1, r⟩ := r1
    cases hk
    exact .inl ⟨vs, SqL.of e1, by rw [qUf r]⟩
  | tup ds =>
    obtain ⟨p', vs, rfl, ok, e1, r⟩ := r1
    cases hk
    exact .inr (.inl ⟨vs, SqT.of e1, by rw [qUf r]⟩)
  | _ => cases hk
/-! ### displays -/
def qF1 (fa : FA) : FE := fun ρ P X => fa ρ (fun ds => ds.length ≤ sizeLine ∧ P (.lst ds)) X
def qRs (fa : FA) : FE := fun ρ P X => fa ρ (fun ds => ds.length ≤ sizeLine ∧ P (.tup ds)) X
theorem qAem {F : Fd} {M : Addr → Prop} {p : Addr} {ds : List D} {vs : List V} (l : Lv K F M H) (np : H p = none) (r : Reps K F M H ds vs) : Rep K F M (upd H p (.lst vs)) (.lst ds) (.ref p) :=
  ⟨p, vs, rfl, l.ok np, upd_same, Reps.goes (Gr.new (K := K) np).goes _ _ r⟩
theorem qRg {F : Fd} {M : Addr → Prop} {p : Addr} {ds : List D} {vs : List V} (l : Lv K F M H) (np : H p = none) (r : Reps K F M H ds vs) : Rep K F M (upd H p (.tup vs)) (.tup ds) (.ref p) :=
  ⟨p, vs, rfl, l.ok np, upd_same, Reps.goes (Gr.new (K := K) np).goes _ _ r⟩
theorem qD2 {ta : TA} {fa : FA} (ha : SA K Ta ow E ta fa) : SE K Ta ow E (tLst ta) (qF1 fa) := by
  intro w H σ ρ P X Q e h q x
  refine ha w H σ ρ _ X _ e h (fun ds vs H1 h1 g1 r1 => ⟨by rw [r1.length]; exact h1.1, fun p np => ?_⟩) x
  exact q _ _ _ h1.2 (g1.trans (.new np)) (qAem (e.grow g1).lv np r1)
theorem qNp {ta : TA} {fa : FA} (ha : SA K Ta ow E ta fa) : SE K Ta ow E (tTup ta) (qRs fa) := by
  intro w H σ ρ P X Q e h q x
  refine ha w H σ ρ _ X _ e h (fun ds vs H1 h1 g1 r1 => ⟨by rw [r1.length]; exact h1.1, fun p np => ?_⟩) x
  exact q _ _ _ h1.2 (g1.trans (.new np)) (qRg (e.grow g1).lv np r1)
/-! ### calls -/
abbrev FSp := List D → (D → Prop) → XP → Prop
/-- the promise that a heapless promise means -/
def lift (K : PySem.W.Frag) (fsp : FSp) : Sp := fun vs H Q E => ∃ (F : Fd) (M : Addr → Prop) (ds : List D) (P : D → Prop) (X : XP), Lv K F M H ∧ Reps K F M H ds vs ∧ fsp ds P X ∧ Post K F M H P Q ∧ PostX K F H X E
def Lift (K : PySem.W.Frag) (sp : Sp) (fsp : FSp) : Prop := ∀ vs H Q E, lift K fsp vs H Q E → sp vs H Q E
theorem Lift.refl {fsp : FSp} : Lift K (lift K fsp) fsp := fun _ _ _ _ h => h
def qFc (fsp : FSp) (es : List D) (fa : FA) : FE := fun ρ P X => fa ρ (fun ds => fsp (ds ++ es) P X) X
def qAg (fsp : FSp) (es : List D) (fa : FA) : FE := fun ρ P X => fa ρ (fun ds => fsp (ds ++ es) P (fun _ => False)) X
/-- constants -/
def Cst : List D → List V → Prop
  | [], vs => vs = []
  | d :: ds, vs => ∃ v us, vs = v :: us ∧ (∀ (F : Fd) (M : Addr → Prop) (H : Hp), Rep K F M H d v) ∧ Cst ds us
theorem Cst.reps {F : Fd} {M : Addr → Prop} {H : Hp} : ∀ {ds : List D} {vs : List V}, Cst (K := K) ds vs → Reps K F M H ds vs
  | [], _, h => h
  | _ :: _, _, h => by obtain ⟨v, us, rfl, h1, h2⟩ := h; exact ⟨v, us, rfl, h1 F M H, Cst.reps h2⟩
theorem qAf : Cst (K := K) [] [] := rfl
theorem qD8 {i : Int} {ds : List D} {vs : List V} (h : Cst (K := K) ds vs) : Cst (K := K) (.int i :: ds) (.int i :: vs) := ⟨_, _, rfl, fun _ _ _ => rfl, h⟩
theorem qAbx {ds : List D} {vs : List V} (h : Cst (K := K) ds vs) : Cst (K := K) (.non :: ds) (.non :: vs) := ⟨_, _, rfl, fun _ _ _ => rfl, h⟩
theorem qHi {sp : Sp} {fsp : FSp} {dvs : List V} {es : List D} {ta : TA} {fa : FA} {E1 : XK} (L : Lift K sp fsp) (c : Cst (K := K) es dvs) (ha : SA K Ta ow (fun _ => E1) ta fa) : SE K Ta ow (fun _ => E1) (tCall sp dvs E1 ta) (qFc fsp es fa) := by
  intro w H σ ρ P X Q e h q x
  refine ha w H σ ρ _ X _ e h (fun ds vs H1 h1 g1 r1 => L _ _ _ _ ?_) x
  exact ⟨_, _, _, P, X, (e.grow g1).lv, r1.append c.reps, h1, fun d v H2 hd g2 r2 => q d v H2 hd (g1.trans g2) r2, x.gr g1⟩
theorem qAk {sp : Sp} {fsp : FSp} {dvs : List V} {es : List D} {ta : TA} {fa : FA} (L : Lift K sp fsp) (c : Cst (K := K) es dvs) (ha : SA K Ta ow E ta fa) : SE K Ta ow E (tCall sp dvs E0 ta) (qAg fsp es fa) := by
  intro w H σ ρ P X Q e h q x
  refine ha w H σ ρ _ X _ e h (fun ds vs H1 h1 g1 r1 => L _ _ _ _ ?_) x
  exact ⟨_, _, _, P, _, (e.grow g1).lv, r1.append c.reps, h1, fun d v H2 hd g2 r2 => q d v H2 hd (g1.trans g2) r2, fun x' _ _ _ z _ _ => z⟩
/-- C(..): what the class's maker promises -/
def MkL (K : PySem.W.Frag) (C : Addr) (sp : Sp) (fsp : FSp) : Prop := ∀ (F : Fd) (M : Addr → Prop) (H : Hp) (ds : List D) (vs : List V) (P : D → Prop) (X : XP) (Q : VK) (E : XK) (x dx : Addr), Lv K F M H → Reps K F M H ds vs → fsp ds P X → Post K F M H P Q → PostX K F H X E → H x = none → H dx = none → dx ≠ x →
  sp (.ref x :: vs) (upd (upd H dx (.own x)) x (.ins C dx [])) (fun v H2 => v = .non ∧ Q (.ref x) H2) E
theorem qL5 {C : Addr} {sp : Sp} {fsp : FSp} {dvs : List V} {es : List D} {ta : TA} {fa : FA} {E1 : XK} (L : MkL K C sp fsp) (c : Cst (K := K) es dvs) (ha : SA K Ta ow (fun _ => E1) ta fa) : SE K Ta ow (fun _ => E1) (tMake C sp dvs E1 ta) (qFc fsp es fa) := by
  intro w H σ ρ P X Q e h q x
  refine ha w H σ ρ _ X _ e h (fun ds vs H1 h1 g1 r1 xx dx n1 n2 ne => ?_) x
  exact L _ _ H1 _ _ P X Q _ xx dx (e.grow g1).lv (r1.append c.reps) h1 (fun d v H2 hd g2 r2 => q d v H2 hd (g1.trans g2) r2) (x.gr g1) n1 n2 ne
theorem qA2 {C : Addr} {sp : Sp} {fsp : FSp} {dvs : List V} {es : List D} {ta : TA} {fa : FA} (L : MkL K C sp fsp) (c : Cst (K := K) es dvs) (ha : SA K Ta ow E ta fa) : SE K Ta ow E (tMake C sp dvs E0 ta) (qAg fsp es fa) := by
  intro w H σ ρ P X Q e h q x
  refine ha w H σ ρ _ X _ e h (fun ds vs H1 h1 g1 r1 xx dx n1 n2 ne => ?_) x
  exact L _ _ H1 _ _ P _ Q _ xx dx (e.grow g1).lv (r1.append c.reps) h1 (fun d v H2 hd g2 r2 => q d v H2 hd (g1.trans g2) r2) (fun x' _ _ _ z _ _ => z) n1 n2 ne
/-- the datum is an instance of the class C, without an attribute m -/
def InsD (C m : Str) : D → Prop
  | .rat _ => C = "Ratio" ∧ m ≠ "top" ∧ m ≠ "bottom"
  | .poly _ => C = "Poly" ∧ m ≠ "coefficients" ∧ m ≠ "degree" ∧ m ≠ "lead"
  | .ins C' ns _ => C' = C ∧ m ∉ ns
  | _ => False
theorem qHa {m : Str} : ∀ {gs : List (Str × V)}, m ∉ gs.map Prod.fst → gs.lookup m = none
  | [], _ => rfl
  | (n, v) :: gs, h => by
    simp only [List.map_cons, List.mem_cons, not_or] at h
    have hb : (m == n) = false := beq_eq_false_iff_ne.mpr h.1
    simp only [List.lookup, hb]
    exact qHa h.2
theorem InsD.at {C m : Str} {F : Fd} {M : Addr → Prop} {d : D} {v : V} (h : InsD C m d) (r : Rep K F M H d v) : ∃ a dx fs, v = .ref a ∧ H a = some (.ins (He.ga K C) dx fs) ∧ fs.lookup m = none := by
  cases d with
  | rat q =>
    obtain ⟨rfl, n1, n2⟩ := h
    obtain ⟨p, rfl, _, dx, e⟩ := r
    exact ⟨p, dx, _, rfl, e, qHa (by simp [ratF, n1, n2])⟩
  | poly cs =>
    obtain ⟨rfl, n1, n2, n3⟩ := h
    obtain ⟨p, dx, t, l, vs, rfl, _, e, _⟩ := r
    exact ⟨p, dx, _, rfl, e, qHa (by simp [qAci, n1, n2, n3])⟩
  | ins C' ns ds =>
    obtain ⟨rfl, n1⟩ := h
    obtain ⟨p, dx, gs, rfl, _, e, en, _⟩ := r
    exact ⟨p, dx, _, rfl, e, qHa (by rw [en]; exact n1)⟩
  | _ => exact h.elim
def qU9 (C m : Str) (fsp : FSp) (fo : FE) (fa : FA) : FE := fun ρ P X => fo ρ (fun o => InsD C m o ∧ fa ρ (fun ds => fsp (o :: ds) P X) X) X
def qFb (C m : Str) (fsp : FSp) (fo : FE) (fa : FA) : FE := fun ρ P X => fo ρ (fun o => InsD C m o ∧ fa ρ (fun ds => fsp (o :: ds) P (fun _ => False)) X) X
theorem qKd {C m : Str} {sp : Sp} {fsp : FSp} {to : TE} {ta : TA} {fo : FE} {fa : FA} (L : Lift K sp fsp) (ho : SE K Ta ow E to fo) (ha : SA K Ta ow E ta fa) : SE K Ta ow E (tMeth (He.ga K C) m sp [] E0 to ta) (qFb C m fsp fo fa) := by
  intro w H σ ρ P X Q e h q x
  refine ho w H σ ρ _ X _ e h (fun o vo H1 h1 g1 r1 => ?_) x
  obtain ⟨a, dx, fs, e1, e2, e3⟩ := h1.1.at r1
  refine ⟨a, dx, fs, e1, e2, e3, ha w H1 σ ρ _ X _ (e.grow g1) h1.2 (fun ds vs H2 h2 g2 r2 => L _ _ _ _ ?_) (x.gr g1)⟩
  refine ⟨_, _, _, P, _, ((e.grow g1).grow g2).lv, .cons (Rep.goes g2.goes _ _ r1) (by rw [List.append_nil]; exact r2), h2, fun d v H2 hd g3 r2 => q d v H2 hd ((g1.trans g2).trans g3) r2, fun x' _ _ _ z _ _ => z⟩
/-! ### fields -/
def fldD (f : Str) : D → Option D
  | .rat q => if f = "top" then some (.int q.num) else if f = "bottom" then some (.int (q.den : Nat)) else none
  | .poly cs => if f = "coefficients" then some (.tup (cs.map D.rat)) else if f = "degree" then some (.int ((cs.length : Int) - 1)) else if f = "lead" then some (.rat (qI5 cs)) else none
  | .ins _ ns ds => (ns.zip ds).lookup f
  | _ => none
def qN9 : D → Option Str
  | .rat _ => some "Ratio"
  | .poly _ => some "Poly"
  | .ins C _ _ => some C
  | _ => none
theorem qUb {F : Fd} {M : Addr → Prop} {f : Str} {d : D} : ∀ {gs : List (Str × V)} {ds : List D}, Reps K F M H ds (gs.map Prod.snd) → ((gs.map Prod.fst).zip ds).lookup f = some d → ∃ v, gs.lookup f = some v ∧ Rep K F M H d v
  | [], _, _, h => by simp at h
  | (n, v) :: gs, [], r, h => by simp at h
  | (n, v) :: gs, e :: ds, r, h => by
    obtain ⟨u, us, e1, r1, r2⟩ := r
    simp only [List.map_cons, List.cons.injEq] at e1
    obtain ⟨rfl, rfl⟩ := e1
    simp only [List.map_cons, List.zip_cons_cons, List.lookup] at h ⊢
    split at h
    · cases h
      exact ⟨v, rfl, r1⟩
    · exact qUb r2 h
/-- what is asked to read fields f of instances of C -/
structure FldOk (K : PySem.W.Frag) (C f : Str) : Prop where
  cl : Cls K (He.ga K C)
  na : NoAttr K (He.ga K C) f
theorem qAqc {C f : Str} {F : Fd} {M : Addr → Prop} {a d : D} {x : V} (T : FldOk K C f) (hc : qN9 a = some C) (hf : fldD f a = some d) (r : Rep K F M H a x) :
    ∃ (ad : Addr) (Ca dx : Addr) (fs : List (Str × V)) (v : V), x = .ref ad ∧ H ad = some (.ins Ca dx fs) ∧ Cls K Ca ∧ NoAttr K Ca f ∧ fs.lookup f = some v ∧ Rep K F M H d v := by
  cases a with
  | rat q =>
    cases hc
    obtain ⟨p, rfl, ok, dx, e⟩ := r
    refine ⟨p, CR K, dx, ratF q, ?_⟩
    simp only [fldD] at hf
    split at hf
    · rename_i h1
      cases hf
      exact ⟨_, rfl, e, T.cl, T.na, by rw [h1]; exact qAmc q, rfl⟩
    · split at hf
      · rename_i h1 h2
        cases hf
        exact ⟨_, rfl, e, T.cl, T.na, by rw [h2]; exact qAly q, rfl⟩
      · cases hf
  | poly cs =>
    cases hc
    obtain ⟨p, dx, t, l, vs, rfl, ok, e, okt, et, rs, rl, n⟩ := r
    refine ⟨p, CP K, dx, qAci t l cs.length, ?_⟩
    have n1 : (("degree" : Str) == ("coefficients" : Str)) = false := by decide +kernel
    have n2 : (("lead" : Str) == ("coefficients" : Str)) = false := by decide +kernel
    have n3 : (("lead" : Str) == ("degree" : Str)) = false := by decide +kernel
    simp only [fldD] at hf
    split at hf
    · rename_i h1
      cases hf
      exact ⟨_, rfl, e, T.cl, T.na, by rw [h1]; simp [qAci, List.lookup], t, vs, rfl, okt, et, rs.reps⟩
    · split at hf
      · rename_i h1 h2
        cases hf
        exact ⟨_, rfl, e, T.cl, T.na, by rw [h2]; simp [qAci, List.lookup, n1], rfl⟩
      · split at hf
        · rename_i h1 h2 h3
          cases hf
          exact ⟨_, rfl, e, T.cl, T.na, by rw [h3]; simp [qAci, List.lookup, n2, n3], rl⟩
        · cases hf
  | ins C' ns ds =>
    cases hc
    obtain ⟨p, dx, gs, rfl, ok, e, en, rs⟩ := r
    subst en
    obtain ⟨v, h1, h2⟩ := qUb rs hf
    exact ⟨p, _, dx, gs, v, rfl, e, T.cl, T.na, h1, h2⟩
  | _ => cases hc
def qCy (C f : Str) (fa : FE) : FE := fun ρ P X => fa ρ (fun a => qN9 a = some C ∧ ∃ d, fldD f a = some d ∧ P d) X
theorem qAo {C f : Str} {ta : TE} {fa : FE} (T : FldOk K C f) (ha : SE K Ta ow E ta fa) : SE K Ta ow E (tFld K ta f) (qCy C f fa) := by
  intro w H σ ρ P X Q e h q x
  refine ha w H σ ρ _ X _ e h (fun a va H1 h1 g1 r1 => ?_) x
  obtain ⟨hc, d, hd, p⟩ := h1
  obtain ⟨ad, Ca, dx, fs, v, z1, z2, z3, z4, z5, z6⟩ := qAqc T hc hd r1
  exact ⟨ad, Ca, dx, fs, v, z1, z2, z3, z4, z5, q d v H1 p g1 z6⟩
/-- all is let go for an expression whose value has no list -/
def fBor (fa : FE) : FE := fun ρ P X => fa ρ (fun d => d.noL = true ∧ P d) X
/-- the names of ow hold lists -/
theorem REnv.lists {w : Wd} {σ : L2.St} {ρ : Env} (e : REnv K Ta w ow H σ ρ) (hl : ∀ i, i ∈ ow → ∃ ds, ρ[i]? = some (some (.lst ds))) : Lists (Mo ow σ) H := fun p ⟨i, hi, z⟩ => by
  obtain ⟨p', o, d, h1, h2, h3, h4, _⟩ := e.own i hi
  obtain ⟨ds, h5⟩ := hl i hi
  rw [h1] at z; cases z
  rw [h2] at h5; cases h5
  obtain ⟨vs, rfl, _⟩ := h4
  exact ⟨vs, h3⟩
def qAsh (ow : List Nat) (ρ : Env) : Prop := ∀ i, i ∈ ow → ∃ ds, ρ[i]? = some (some (.lst ds))
end
end MR

set_option Elab.async false
set_option linter.all false
set_option maxRecDepth 100000
set_option maxHeartbeats 4000000
set_option exponentiation.threshold 20000
/-! FL: statements without a heap -/
namespace MR
open PySem PySem.Spec PyProof.Rows L2
structure FEnds where
  nx : Env → Prop
  rt : D → Prop
  bk : Env → Prop
  ct : Env → Prop
  ex : Exn → Env → Prop
  rf : D → Prop
abbrev FS := FEnds → Env → Prop
/-- v is a new object that nobody else knows -/
def New (K : PySem.W.Frag) (F : Fd) (M : Addr → Prop) (H0 H : Hp) (d : D) (v : V) : Prop := ∃ p o, v = .ref p ∧ H0 p = none ∧ F.no p ∧ H p = some o ∧ RepO K F (fun q => M q ∨ q = p) H d o
structure EOk (K : PySem.W.Frag) (Ta : List (Addr × Str)) (w : Wd) (ow' owb owx : List Nat) (E : L2.St → XK) (N : L2.Ends) (FD : FEnds) : Prop where
  nx : ∀ ρ σ H, FD.nx ρ → REnv K Ta w ow' H σ ρ → N.nx σ H
  rt : ∀ d v H, FD.rt d → Gr K w.F w.H0 H → Rep K w.F w.M H d v → N.rt v H
  bk : ∀ ρ σ H, FD.bk ρ → REnv K Ta w owb H σ ρ → N.bk σ H
  ct : ∀ ρ σ H, FD.ct ρ → REnv K Ta w owb H σ ρ → N.ct σ H
  ex : ∀ x ρ σ H cls dd, FD.ex x ρ → REnv K Ta w owx H σ ρ → RepX K w.F H cls dd x → E σ cls dd H
  rf : ∀ d v H, FD.rf d → Gr K w.F w.H0 H → New K w.F w.M w.H0 H d v → N.rt v H
def SS (K : PySem.W.Frag) (Ta : List (Addr × Str)) (ow ow' owb owx : List Nat) (E : L2.St → XK) (ts : TS) (fs : FS) : Prop :=
  ∀ (w : Wd) (H : Hp) (σ : L2.St) (ρ : Env) (N : L2.Ends) (FD : FEnds), REnv K Ta w ow H σ ρ → fs FD ρ → EOk K Ta w ow' owb owx E N FD → ts N σ H
section
variable {K : PySem.W.Frag} {w : Wd} {ow ow' ow1 owb owx : List Nat} {H H' : Hp} {σ : L2.St} {ρ : Env} {E : L2.St → XK} {N : L2.Ends} {FD : FEnds}
abbrev Sub (a b : List Nat) : Prop := ∀ i, i ∈ a → i ∈ b
theorem EOk.px (k : EOk K Ta w ow' owb owx E N FD) (e : REnv K Ta w ow H σ ρ) (hs : Sub owx ow) : PostX K w.F H (fun x => FD.ex x ρ) (E σ) := fun x cls dd H' hx g r => k.ex x ρ σ H' cls dd hx ((e.grow g).free hs) r
def qAv : FS := fun FD ρ => FD.nx ρ
theorem qAn (hs : Sub ow' ow) : SS K Ta ow ow' owb owx E tNext qAv := fun w H σ ρ N FD e h k => k.nx ρ σ H h (e.free hs)
def qAy (f g : FS) : FS := fun FD ρ => f { FD with nx := g FD } ρ
theorem qAl {t u : TS} {f g : FS} (h1 : SS K Ta ow ow1 owb owx E t f) (h2 : SS K Ta ow1 ow' owb owx E u g) : SS K Ta ow ow' owb owx E (tSeq t u) (qAy f g) :=
  fun w H σ ρ N FD e h k => h1 w H σ ρ _ _ e h ⟨fun ρ' σ' H' h' e' => h2 w H' σ' ρ' N FD e' h' k, k.rt, k.bk, k.ct, k.ex, k.rf⟩
theorem qL4 {t : TS} {f : FS} (hs : Sub ow1 ow) (h : SS K Ta ow1 ow' owb owx E t f) : SS K Ta ow ow' owb owx E t f := fun w H σ ρ N FD e q k => h w H σ ρ N FD (e.free hs) q k
/-! ### a store into a name -/
theorem qCf {α : Type} {l : List α} {i j : Nat} {x : α} : (l.set i x)[j]? = if i = j then (if j < l.length then some x else none) else l[j]? := by
  rw [List.getElem?_set]
  split
  · rename_i h; subst h; rfl
  · rfl
theorem qAgm {i : Nat} {x : Option V} (hi : i ∉ ow) (p : Addr) : Mo ow (σ.set i x) p ↔ Mo ow σ p := by
  have : ∀ j, j ∈ ow → (σ.set i x)[j]? = σ[j]? := fun j hj => by
    rw [qCf, if_neg (fun z => hi (by rw [z]; exact hj))]
  exact ⟨fun ⟨j, hj, z⟩ => ⟨j, hj, by rw [← this j hj]; exact z⟩, fun ⟨j, hj, z⟩ => ⟨j, hj, by rw [this j hj]; exact z⟩⟩
theorem Sl.len {R : D → V → Prop} {i : Nat} (h : Sl R ρ[i]? σ[i]?) : i < ρ.length ↔ i < σ.length := by
  cases h1 : ρ[i]? with
  | none =>
    cases h2 : σ[i]? with
    | none =>
      have := List.getElem?_eq_none_iff.mp h1
      have := List.getElem?_eq_none_iff.mp h2
      omega
    | some b => rw [h1, h2] at h; exact h.elim
  | some a =>
    cases h2 : σ[i]? with
    | none => rw [h1, h2] at h; cases a <;> exact h.elim
    | some b =>
      have := (List.getElem?_eq_some_iff.mp h1).1
      have := (List.getElem?_eq_some_iff.mp h2).1
      omega
theorem REnv.put {i : Nat} {d : D} {v : V} (e : REnv K Ta w ow H σ ρ) (hi : i ∉ ow) (r : Rep K w.F (w.Mx ow σ) H d v) : REnv K Ta w ow H (σ.set i (some v)) (ρ.set i (some d)) := by
  have mm : ∀ p, w.Mx ow (σ.set i (some v)) p ↔ w.Mx ow σ p := fun p => or_congr .rfl (qAgm hi p)
  have go : Goes w.F (w.Mx ow σ) H (w.Mx ow (σ.set i (some v))) H := fun p o h _ m => ⟨h, fun z => m ((mm p).mp z)⟩
  have same : ∀ j, j ∈ ow → (σ.set i (some v))[j]? = σ[j]? ∧ (ρ.set i (some d))[j]? = ρ[j]? := fun j hj => by
    have : i ≠ j := fun z => hi (by rw [z]; exact hj)
    rw [qCf, qCf, if_neg this, if_neg this]
    exact ⟨rfl, rfl⟩
  refine ⟨e.gr, e.live, e.nf, fun j hj => ?_, fun j hj => ?_, fun j hj k hk n p => ?_, fun f hf => ?_, e.tab, e.ts⟩
  · rw [qCf, qCf]
    have z := e.imm j hj
    split
    · rename_i h
      have hl := z.len
      by_cases hlt : j < ρ.length
      · rw [if_pos hlt, if_pos (hl.mp hlt)]
        exact Rep.goes go d v r
      · rw [if_neg hlt, if_neg (fun y => hlt (hl.mpr y))]
        trivial
    · exact z.mono fun d' v' => Rep.goes go d' v'
  · obtain ⟨p, o, d', h1, h2, h3, h4, h5⟩ := e.own j hj
    exact ⟨p, o, d', by rw [(same j hj).1]; exact h1, by rw [(same j hj).2]; exact h2, h3, h4.goes go, h5⟩
  · rw [(same j hj).1, (same k hk).1]
    exact e.inj j hj k hk n p
  · obtain ⟨c, h1, h2⟩ := e.feed f hf
    exact ⟨c, h1, fun z => h2 ((mm c).mp z)⟩
/-- a new object is taken by the name i -/
theorem REnv.take {i : Nat} {d : D} {p : Addr} {o : HO} (e : REnv K Ta w ow H σ ρ) (hi : i ∉ ow) (hl : i < σ.length) (np : H p = none) (g : Gr K w.F H H') (ho : H' p = some o) (r : RepO K w.F (fun q => w.Mx ow σ q ∨ q = p) H' d o) : REnv K Ta w (i :: ow) H' (σ.set i (some (.ref p))) (ρ.set i (some d)) := by
  have ok := e.lv.ok np
  have n0 : w.H0 p = none := by
    cases z : w.H0 p with
    | none => rfl
    | some o' => rw [e.gr.old _ _ z ok.1] at np; cases np
  have mm : ∀ q, w.Mx (i :: ow) (σ.set i (some (.ref p))) q → w.Mx ow σ q ∨ q = p := fun q h => by
    rcases h with h | ⟨j, hj, z⟩
    · exact .inl (.inl h)
    · rw [qCf] at z
      by_cases hij : i = j
      · rw [if_pos hij, if_pos (by rw [← hij]; exact hl)] at z
        cases z; exact .inr rfl
      · rw [if_neg hij] at z
        exact .inl (.inr ⟨j, (List.mem_cons.mp hj).elim (fun y => absurd y.symm hij) id, z⟩)
  have e' := e.grow g
  have dif : ∀ q u, H q = some u → q ≠ p := fun q u h z => by rw [z, np] at h; cases h
  have go : Goes w.F (w.Mx ow σ) H (w.Mx (i :: ow) (σ.set i (some (.ref p)))) H' := fun q u h nf m => ⟨g.old _ _ h nf, fun z => (mm q z).elim m (dif q u h)⟩
  refine ⟨e'.gr, e.live, e.nf, fun j hj => ?_, fun j hj => ?_, fun j hj k hk n q => ?_, fun f hf => ?_, e'.tab, e.ts⟩
  · have hij : i ≠ j := fun z => hj (by rw [z]; exact List.mem_cons_self)
    rw [qCf, qCf, if_neg hij, if_neg hij]
    exact (e.imm j fun z => hj (List.mem_cons_of_mem _ z)).mono fun d' v' => Rep.goes go d' v'
  · by_cases hij : i = j
    · subst hij
      have hlr : i < ρ.length := (e.imm i hi).len.mpr hl
      refine ⟨p, o, d, by rw [qCf, if_pos rfl, if_pos hl], by rw [qCf, if_pos rfl, if_pos hlr], ho, ?_, ok.1, n0⟩
      exact r.goes fun q u hq nf m => ⟨hq, fun z => m (mm q z)⟩
    · have hj' : j ∈ ow := (List.mem_cons.mp hj).elim (fun y => absurd y.symm hij) id
      obtain ⟨p', o', d', h1, h2, h3, h4, h5⟩ := e.own j hj'
      exact ⟨p', o', d', by rw [qCf, if_neg hij]; exact h1, by rw [qCf, if_neg hij]; exact h2, g.old _ _ h3 h5.1, h4.goes go, h5⟩
  · have at_ : ∀ k, k ∈ i :: ow → i ≠ k → k ∈ ow ∧ (σ.set i (some (.ref p)))[k]? = σ[k]? := fun k hk n => ⟨(List.mem_cons.mp hk).elim (fun y => absurd y.symm n) id, by rw [qCf, if_neg n]⟩
    have me : (σ.set i (some (V.ref p)))[i]? = some (some (.ref p)) := by rw [qCf, if_pos rfl, if_pos hl]
    have ne : ∀ k, k ∈ ow → σ[k]? ≠ some (some (.ref p)) := fun k hk z => by
      obtain ⟨p', o', d', h1, h2, h3, _⟩ := e.own k hk
      rw [h1] at z; cases z
      rw [np] at h3; cases h3
    by_cases hj' : i = j
    · subst hj'
      obtain ⟨k1, k2⟩ := at_ k hk n
      rw [me, k2]
      intro z; cases z
      exact ne k k1
    · obtain ⟨j1, j2⟩ := at_ j hj hj'
      by_cases hk' : i = k
      · subst hk'
        rw [me, j2]
        intro z y; cases y
        exact ne j j1 z
      · obtain ⟨k1, k2⟩ := at_ k hk hk'
        rw [j2, k2]
        exact e.inj j j1 k k1 n q
  · obtain ⟨c, h1, h2⟩ := e.feed f hf
    refine ⟨c, g.feed f c hf h1, fun z => (mm c z).elim h2 fun y => ?_⟩
    subst y
    obtain ⟨ns, a1, a2, a3, a4, a5, o', G, z'⟩ := h1
    rw [np] at z'; cases z'
/-- an owned object is changed -/
theorem REnv.chg {i : Nat} {d : D} {p : Addr} {o : HO} (e : REnv K Ta w ow H σ ρ) (hi : i ∈ ow) (hp : σ[i]? = some (some (.ref p))) (r : RepO K w.F (w.Mx ow σ) H d o) : REnv K Ta w ow (upd H p o) σ (ρ.set i (some d)) := by
  obtain ⟨p', o', d', h1, h2, h3, h4, h5, h6⟩ := e.own i hi
  have pe : p' = p := by
    rw [h1] at hp
    cases hp; rfl
  subst pe
  have mp : w.Mx ow σ p' := .inr ⟨i, hi, h1⟩
  have go : Goes w.F (w.Mx ow σ) H (w.Mx ow σ) (upd H p' o) := fun q u h nf m => ⟨by rw [upd_ne (fun z => m (by rw [z]; exact mp))]; exact h, m⟩
  have hlr : i < ρ.length := (List.getElem?_eq_some_iff.mp h2).1
  have fd : ∀ f, w.F.f = some f → p' ≠ f := fun f hf z => h5.1 (by rw [hf, z])
  refine ⟨⟨fun b u h n => ?_, fun f c hf h => ?_, fun z => qNu (e.gr.tab z) h3 h4.pl⟩, e.live, e.nf, fun j hj => ?_, fun j hj => ?_, e.inj, fun f hf => ?_, qNu e.tab h3 h4.pl, e.ts⟩
  · rw [upd_ne (fun z => by rw [z, h6] at h; cases h)]
    exact e.gr.old b u h n
  · obtain ⟨c', k1, k2⟩ := e.feed f hf
    have k3 := e.gr.feed f c hf h
    have : c' = c := by
      obtain ⟨_, _, _, _, _, _, _, G, _⟩ := k1
      obtain ⟨_, _, _, _, _, _, _, G', _⟩ := k3
      have z := G.ob.symm.trans G'.ob
      simp only [Option.some.injEq, HO.lst.injEq, List.cons.injEq, V.ref.injEq] at z
      exact z.1
    subst this
    exact k3.keep (fd f hf) fun z => k2 (by rw [← z]; exact mp)
  · have hij : i ≠ j := fun z => hj (by rw [← z]; exact hi)
    rw [qCf, if_neg hij]
    exact (e.imm j hj).mono fun d' v' => Rep.goes go d' v'
  · by_cases hij : i = j
    · subst hij
      exact ⟨p', o, d, h1, by rw [qCf, if_pos rfl, if_pos hlr], upd_same, r.goes go, h5, h6⟩
    · obtain ⟨q, u, d2, k1, k2, k3, k4, k5⟩ := e.own j hj
      refine ⟨q, u, d2, k1, by rw [qCf, if_neg hij]; exact k2, ?_, k4.goes go, k5⟩
      rw [upd_ne (fun z => e.inj i hi j hj hij p' h1 (by rw [k1, z]))]
      exact k3
  · obtain ⟨c, k1, k2⟩ := e.feed f hf
    exact ⟨c, k1.keep (fd f hf) fun z => k2 (by rw [← z]; exact mp), k2⟩
/-! ### a new base -/
open Classical in
noncomputable def Wd.re (w : Wd) (M : Addr → Prop) (H : Hp) : Wd := { w with H0 := fun p => if M p then none else H p }
theorem qWg {f c c' : Addr} (k1 : FeedC K H f c') (k3 : FeedC K H f c) : c' = c := by
  obtain ⟨_, _, _, _, _, _, _, G, _⟩ := k1
  obtain ⟨_, _, _, _, _, _, _, G', _⟩ := k3
  have z := G.ob.symm.trans G'.ob
  simp only [Option.some.injEq, HO.lst.injEq, List.cons.injEq, V.ref.injEq] at z
  exact z.1
theorem qAhh {M : Addr → Prop} {p : Addr} (h : M p) : (w.re M H).H0 p = none := if_pos h
theorem qG2 {M : Addr → Prop} {p : Addr} (h : ¬ M p) : (w.re M H).H0 p = H p := if_neg h
theorem REnv.nM (e : REnv K Ta w ow H σ ρ) {p : Addr} {o : HO} (h : w.H0 p = some o) : ¬ Mo ow σ p := fun ⟨i, hi, z⟩ => by
  obtain ⟨p', o', d', h1, _, _, _, _, h6⟩ := e.own i hi
  rw [h1] at z; cases z
  rw [h6] at h; cases h
theorem FeedC.re {M : Addr → Prop} {f c : Addr} (h : FeedC K H f c) (h1 : ¬ M f) (h2 : ¬ M c) : FeedC K (w.re M H).H0 f c := by
  obtain ⟨ns, a1, a2, a3, a4, a5, o', G, e⟩ := h
  refine ⟨ns, a1, a2, a3, a4, a5, o', ⟨by rw [qG2 h1]; exact G.ob, ?_, G.ne, G.nn, G.p0, G.b0, G.l0, G.n0, G.s0⟩, by rw [qG2 h2]; exact e⟩
  rcases G.cs with (h | ⟨o, h⟩) | h
  · exact .inl (.inl (by rw [qG2 h2]; exact h))
  · exact .inl (.inr ⟨o, by rw [qG2 h2]; exact h⟩)
  · exact .inr h
theorem REnv.re (e : REnv K Ta w ow H σ ρ) : REnv K Ta (w.re (Mo ow σ) H) ow H σ ρ := by
  refine ⟨⟨fun b o h n => ?_, fun f c hf h => ?_, fun _ => e.tab⟩, fun p m => ?_, e.nf, e.imm, fun i hi => ?_, e.inj, e.feed, e.tab, e.ts⟩
  · by_cases hm : Mo ow σ b
    · rw [qAhh hm] at h; cases h
    · rw [qG2 hm] at h; exact h
  · obtain ⟨ns, a1, a2, a3, a4, a5, o', G, e'⟩ := h
    have out : ∀ {b : Addr} {u : HO}, (w.re (Mo ow σ) H).H0 b = some u → H b = some u := fun {b u} h => by
      by_cases hm : Mo ow σ b
      · rw [qAhh hm] at h; cases h
      · rw [qG2 hm] at h; exact h
    refine ⟨ns, a1, a2, a3, a4, a5, o', ⟨out G.ob, ?_, G.ne, G.nn, G.p0, G.b0, G.l0, G.n0, G.s0⟩, out e'⟩
    rcases G.cs with (h | ⟨o, h⟩) | h
    · exact .inl (.inl (out h))
    · exact .inl (.inr ⟨o, out h⟩)
    · exact .inr h
  · obtain ⟨o, h⟩ := e.live p m
    rw [qG2 (e.nM h)]
    exact ⟨o, e.gr.old _ _ h (e.nf p m)⟩
  · obtain ⟨p, o, d, h1, h2, h3, h4, h5, h6⟩ := e.own i hi
    exact ⟨p, o, d, h1, h2, h3, h4, h5, qAhh ⟨i, hi, h1⟩⟩
theorem REnv.tabRe (e : REnv K Ta w ow H σ ρ) : LamX.Tabs w.F.T (w.re (Mo ow σ) H).H0 := qSm e.tab fun b o h n => by
  rw [qG2]
  · exact h
  · rintro ⟨i, hi, z⟩
    obtain ⟨p', o', d', h1, _, h3, h4, _⟩ := e.own i hi
    rw [h1] at z; cases z
    rw [h] at h3; cases h3
    exact n h4.pl
theorem qAgv (e : REnv K Ta w ow H σ ρ) : Gr K w.F w.H0 (w.re (Mo ow σ) H).H0 := by
  refine ⟨fun b o h n => ?_, fun f c hf h => ?_, fun _ => e.tabRe⟩
  · rw [qG2 (e.nM h)]
    exact e.gr.old b o h n
  · have k := e.gr.feed f c hf h
    obtain ⟨c', k1, k2⟩ := e.feed f hf
    have := qWg k1 k
    subst this
    refine k.re (fun ⟨i, hi, z⟩ => ?_) fun z => k2 (.inr z)
    obtain ⟨p', o', d', h1, _, _, _, h5, _⟩ := e.own i hi
    rw [h1] at z; cases z
    exact h5.1 hf
theorem REnv.un {H2 : Hp} {σ2 : L2.St} {ρ2 : Env} {ow2 : List Nat} (e : REnv K Ta w ow H σ ρ) (e2 : REnv K Ta (w.re (Mo ow σ) H) ow2 H2 σ2 ρ2) : REnv K Ta w ow2 H2 σ2 ρ2 := by
  refine ⟨(qAgv e).trans e2.gr, e.live, e.nf, e2.imm, fun i hi => ?_, e2.inj, e2.feed, e2.tab, e.ts⟩
  obtain ⟨p, o, d, h1, h2, h3, h4, h5, h6⟩ := e2.own i hi
  refine ⟨p, o, d, h1, h2, h3, h4, h5, ?_⟩
  cases z : w.H0 p with
  | none => rfl
  | some o' =>
    rw [(qAgv e).old p o' z h5] at h6
    cases h6
theorem New.un {H2 : Hp} {d : D} {v : V} (e : REnv K Ta w ow H σ ρ) (h : New K w.F w.M (w.re (Mo ow σ) H).H0 H2 d v) : New K w.F w.M w.H0 H2 d v := by
  obtain ⟨p, o, rfl, h0, hn, h1, h2⟩ := h
  refine ⟨p, o, rfl, ?_, hn, h1, h2⟩
  cases z : w.H0 p with
  | none => rfl
  | some o' =>
    rw [(qAgv e).old p o' z hn] at h0
    cases h0
/-- what stood apart from the owned still stands -/
theorem REnv.goes {H2 : Hp} {σ2 : L2.St} {ρ2 : Env} {ow2 : List Nat} (e2 : REnv K Ta (w.re (Mo ow σ) H) ow2 H2 σ2 ρ2) : Goes w.F (w.Mx ow σ) H (w.Mx ow2 σ2) H2 := by
  intro p o h nf m
  have n : ¬ Mo ow σ p := fun z => m (.inr z)
  have h0 : (w.re (Mo ow σ) H).H0 p = some o := by rw [qG2 n]; exact h
  refine ⟨e2.gr.old p o h0 nf, fun z => ?_⟩
  rcases z with z | z
  · exact m (.inl z)
  · exact e2.nM h0 z
end
end MR

set_option Elab.async false
set_option linter.all false
set_option maxRecDepth 100000
set_option maxHeartbeats 4000000
set_option exponentiation.threshold 20000
/-! FL: statements and loops without a heap -/
namespace MR
open PySem PySem.Spec PyProof.Rows L2
/-- an expression that makes a new object -/
def SF (K : PySem.W.Frag) (Ta : List (Addr × Str)) (ow : List Nat) (E : L2.St → XK) (ta : TE) (fa : FE) : Prop :=
  ∀ (w : Wd) (H : Hp) (σ : L2.St) (ρ : Env) (P : D → Prop) (X : XP) (Q : VK), REnv K Ta w ow H σ ρ → fa ρ P X →
    (∀ d p o H', P d → Gr K w.F H H' → H p = none → H' p = some o → RepO K w.F (fun q => w.Mx ow σ q ∨ q = p) H' d o → Q (.ref p) H') → PostX K w.F H X (E σ) → ta σ H Q
section
variable {K : PySem.W.Frag} {w : Wd} {ow ow' ow1 owb owx : List Nat} {H H' : Hp} {σ : L2.St} {ρ : Env} {E : L2.St → XK} {N : L2.Ends} {FD : FEnds}
theorem RepO.rep {F : Fd} {M : Addr → Prop} {d : D} {o : HO} {p : Addr} (r : RepO K F M H d o) (ok : Ok F M p) (h : H p = some o) : Rep K F M H d (.ref p) := by
  cases d with
  | lst ds => obtain ⟨vs, rfl, r⟩ := r; exact ⟨p, vs, rfl, ok, h, r⟩
  | ins C ns ds => obtain ⟨dx, gs, rfl, en, r⟩ := r; exact ⟨p, dx, gs, rfl, ok, h, en, r⟩
  | dct ks ds => obtain ⟨gs, rfl, en, r⟩ := r; exact ⟨p, gs, rfl, ok, h, en, r⟩
  | _ => exact r.elim
theorem SF.se {ta : TE} {fa : FE} (h : SF K Ta ow E ta fa) : SE K Ta ow E ta fa := by
  intro w H σ ρ P X Q e hf q x
  refine h w H σ ρ P X Q e hf (fun d p o H' hd g np ho r => q d _ H' hd g ?_) x
  have r2 : RepO K w.F (w.Mx ow σ) H' d o := r.goes fun a u h _ m => ⟨h, fun z => m (.inl z)⟩
  exact r2.rep (e.lv.ok np) ho
theorem qQe {ta : TA} {fa : FA} (ha : SA K Ta ow E ta fa) : SF K Ta ow E (tLst ta) (qF1 fa) := by
  intro w H σ ρ P X Q e h q x
  refine ha w H σ ρ _ X _ e h (fun ds vs H1 h1 g1 r1 => ⟨by rw [r1.length]; exact h1.1, fun p np => ?_⟩) x
  have n0 : H p = none := by
    cases z : H p with
    | none => rfl
    | some o => rw [g1.old p o z ((e.grow g1).lv.ok np).1] at np; cases np
  refine q _ p _ _ h1.2 (g1.trans (.new np)) n0 upd_same ⟨vs, rfl, Reps.goes (fun a u h nf m => ?_) _ _ r1⟩
  have ne : a ≠ p := fun z => by rw [z, np] at h; cases h
  exact ⟨by rw [upd_ne ne]; exact h, fun z => z.elim m ne⟩
/-! ### stores -/
def qCu (i : Nat) (fe : FE) : FS := fun FD ρ => fe ρ (fun d => FD.nx (ρ.set i (some d))) (fun x => FD.ex x ρ)
theorem qAx {i : Nat} {te : TE} {fe : FE} (hi : i ∉ ow) (hs : Sub owx ow) (he : SE K Ta ow E te fe) : SS K Ta ow ow owb owx E (tAsg te (gName i)) (qCu i fe) := by
  intro w H σ ρ N FD e h k
  exact he w H σ ρ _ _ _ e h (fun d v H' hd g r => k.nx _ _ _ hd ((e.grow g).put hi r)) (k.px e hs)
/-- the name i takes a new object -/
theorem qJn {i : Nat} {te : TE} {fe : FE} (hi : i ∉ ow) (hs : Sub owx ow) (he : SF K Ta ow E te fe) : SS K Ta ow (i :: ow) owb owx E (tAsg te (gName i)) (fun FD ρ => i < ρ.length ∧ qCu i fe FD ρ) := by
  intro w H σ ρ N FD e h k
  have hl : i < σ.length := (e.imm i hi).len.mp h.1
  exact he w H σ ρ _ _ _ e h.2 (fun d p o H' hd g np ho r => k.nx _ _ _ hd (e.take hi hl np g ho r)) (k.px e hs)
def fPar (i j : Nat) (fa : FA) : FS := fun FD ρ => fa ρ (fun ds => ∃ a b, ds = [a, b] ∧ FD.nx ((ρ.set i (some a)).set j (some b))) (fun x => FD.ex x ρ)
def qCr (fe : FE) : FS := fun FD ρ => fe ρ FD.rt (fun x => FD.ex x ρ)
theorem qAq {te : TE} {fe : FE} (hs : Sub owx ow) (he : SE K Ta [] E te fe) : SS K Ta ow ow' owb owx E (tRet te) (qCr fe) := by
  intro w H σ ρ N FD e h k
  refine he w H σ ρ _ _ _ (e.free (fun _ z => nomatch z)) h (fun d v H' hd g r => k.rt d v H' hd (e.gr.trans g) ?_) (k.px e hs)
  exact Rep.goes (fun p o h _ m => ⟨h, fun z => m (.inl z)⟩) _ _ r
/-- return x, x an object that the def itself made -/
def qAab (i : Nat) : FS := fun FD ρ => ∃ d, ρ[i]? = some (some d) ∧ FD.rf d
theorem qAj6 {i : Nat} (hi : i ∈ ow) : SS K Ta ow ow' owb owx E (tRet (tVar i)) (qAab i) := by
  intro w H σ ρ N FD e ⟨d, hd, h⟩ k
  obtain ⟨p, o, d', h1, h2, h3, h4, h5, h6⟩ := e.own i hi
  rw [h2] at hd; cases hd
  refine ⟨_, h1, k.rf d _ H h e.gr ⟨p, o, rfl, h6, h5, h3, h4.goes fun q u hq _ m => ⟨hq, fun z => m ?_⟩⟩⟩
  rcases z with z | z
  · exact .inl z
  · exact .inr ⟨i, hi, by rw [z]; exact h1⟩
def qXi : FS := fun FD _ => FD.rt .non
def qWq (fe : FE) : FS := fun FD ρ => fe ρ (fun _ => FD.nx ρ) (fun x => FD.ex x ρ)
def qC1 (fc : FT) (f g : FS) : FS := fun FD ρ => fc ρ (fun b => if b = true then f FD ρ else g FD ρ) (fun x => FD.ex x ρ)
theorem qBl {tc : TT} {t u : TS} {fc : FT} {f g : FS} (hs : Sub owx ow) (hc : STt K Ta ow E tc fc) (h1 : SS K Ta ow ow' owb owx E t f) (h2 : SS K Ta ow ow' owb owx E u g) : SS K Ta ow ow' owb owx E (tIfS tc t u) (qC1 fc f g) := by
  intro w H σ ρ N FD e h k
  refine hc w H σ ρ _ _ _ e h (fun b H' hb g => ?_) (k.px e hs)
  cases b with
  | true => exact h1 w H' σ ρ N FD (e.grow g) hb k
  | false => exact h2 w H' σ ρ N FD (e.grow g) hb k
def fBrk : FS := fun FD ρ => FD.bk ρ
def fCnt : FS := fun FD ρ => FD.ct ρ
theorem qAq3 (hs : Sub owb ow) : SS K Ta ow ow' owb owx E tBreak fBrk := fun w H σ ρ N FD e h k => k.bk ρ σ H h (e.free hs)
theorem qArp (hs : Sub owb ow) : SS K Ta ow ow' owb owx E tCont fCnt := fun w H σ ρ N FD e h k => k.ct ρ σ H h (e.free hs)
def qXo : FS := fun _ _ => False
theorem qQg : SS K Ta ow ow' owb owx E tNever qXo := fun w H σ ρ N FD e h k => h.elim
/-! ### owned lists -/
theorem REnv.lstAt {i : Nat} {ds : List D} (e : REnv K Ta w ow H σ ρ) (hi : i ∈ ow) (hd : ρ[i]? = some (some (.lst ds))) : ∃ p vs, σ[i]? = some (some (.ref p)) ∧ H p = some (.lst vs) ∧ Reps K w.F (w.Mx ow σ) H ds vs := by
  obtain ⟨p, o, d, h1, h2, h3, h4, h5, h6⟩ := e.own i hi
  rw [h2] at hd; cases hd
  obtain ⟨vs, rfl, r⟩ := h4
  exact ⟨p, vs, h1, h3, r⟩
def qQc (i : Nat) (fe : FE) : FS := fun FD ρ => ∃ ds, ρ[i]? = some (some (.lst ds)) ∧ fe ρ (fun d => ds.length < sizeLine ∧ FD.nx (ρ.set i (some (.lst (ds ++ [d]))))) (fun x => FD.ex x ρ)
theorem qK1 {i : Nat} {te : TE} {fe : FE} (hi : i ∈ ow) (hs : Sub owx ow) (he : SE K Ta ow E te fe) : SS K Ta ow ow owb owx E (tDrop (tBM K "list" rAppend (tVar i) (tCons te tNil))) (qQc i fe) := by
  intro w H σ ρ N FD e h k
  obtain ⟨ds, hd, h⟩ := h
  obtain ⟨p, vs, h1, h2, h3⟩ := e.lstAt hi hd
  refine ⟨_, h1, .inl ⟨rfl, _, SqL.of h2⟩, ?_⟩
  refine he w H σ ρ _ _ _ e h (fun d v H' hd' g r => ?_) (k.px e hs)
  have e' := e.grow g
  obtain ⟨p', vs', k1, k2, k3⟩ := e'.lstAt hi hd
  rw [h1] at k1; cases k1
  refine ⟨p, vs', v, rfl, rfl, k2, by rw [k3.length]; exact hd'.1, k.nx _ _ _ hd'.2 (e'.chg hi h1 ⟨_, rfl, k3.append (.one r)⟩)⟩
/-- x[j] = e -/
def qLx (i : Nat) (fe fj : FE) : FS := fun FD ρ => fe ρ (fun d => fj ρ (fun j => ∃ ds n m, ρ[i]? = some (some (.lst ds)) ∧ j = .int n ∧ ixN ds.length n = some m ∧ FD.nx (ρ.set i (some (.lst (ds.set m d))))) (fun x => FD.ex x ρ)) (fun x => FD.ex x ρ)
theorem qAbj {i : Nat} {te tj : TE} {fe fj : FE} (hi : i ∈ ow) (hs : Sub owx ow) (he : SE K Ta ow E te fe) (hj : SE K Ta ow E tj fj) : SS K Ta ow ow owb owx E (tAsg te (gSub (tVar i) tj rSetL)) (qLx i fe fj) := by
  intro w H σ ρ N FD e h k
  refine he w H σ ρ _ _ _ e h (fun d v H' hd g r => ?_) (k.px e hs)
  have e' := e.grow g
  obtain ⟨p, o, d0, z1, _⟩ := e'.own i hi
  refine ⟨_, z1, ?_⟩
  refine hj w H' σ ρ _ _ _ e' hd (fun dj vj H2 hd2 g2 r2 => ?_) (k.px e' hs)
  have e2 := e'.grow g2
  obtain ⟨ds, n, m, hds, rfl, hm, nx⟩ := hd2
  obtain ⟨p', vs', k1, k2, k3⟩ := e2.lstAt hi hds
  rw [z1] at k1; cases k1
  refine ⟨p, vs', n, m, rfl, r2, k2, by rw [k3.length]; exact hm, k.nx _ _ _ nx (e2.chg hi z1 ⟨_, rfl, k3.set (Rep.goes g2.goes _ _ r)⟩)⟩
/-- x[j], x owned -/
def oIx : O2 := fun a b P _ => ∃ ds n d, (a = .lst ds ∨ a = .tup ds) ∧ b = .int n ∧ atI ds n = some d ∧ P d
theorem qAbp {F : Fd} {M : Addr → Prop} {ds : List D} {vs : List V} {n : Int} {d : D} (r : Reps K F M H ds vs) (h : atI ds n = some d) : ∃ v, atI vs n = some v ∧ Rep K F M H d v := by
  unfold atI at h ⊢
  rw [r.length]
  cases z : ixN ds.length n with
  | none => rw [z] at h; cases h
  | some j =>
    rw [z] at h
    exact r.get h
theorem qZ7 {i : Nat} {tj : TE} {fj : FE} (hi : i ∈ ow) (hj : SE K Ta ow E tj fj) : SE K Ta ow E (tOp (rIxL K) (tVar i) tj) (fOp oIx (qAe i) fj) := by
  intro w H σ ρ P X Q e h q x
  obtain ⟨d, hd, h⟩ := h
  obtain ⟨p, o, d0, z1, z2, z3, z4, _⟩ := e.own i hi
  refine ⟨_, z1, hj w H σ ρ _ _ _ e h (fun dj vj H' hd' g r => ?_) x⟩
  have e' := e.grow g
  obtain ⟨ds, n, dr, hl, rfl, ha, hp⟩ := hd'
  rw [z2] at hd; cases hd
  rcases hl with rfl | rfl
  · obtain ⟨p', vs', k1, k2, k3⟩ := e'.lstAt hi z2
    rw [z1] at k1; cases k1
    obtain ⟨v, a1, a2⟩ := qAbp k3 ha
    exact ⟨p, vs', n, v, rfl, r, SqL.of k2, a1, q dr v H' hp g a2⟩
  · exact z4.elim
/-! ### for -/
abbrev FI := Env → (List D → Prop) → XP → Prop
abbrev FG := D → Env → (Env → Prop) → Prop
/-- the iterator yields the data ds, as long as what was usable at the start stands -/
def ItOk (K : PySem.W.Frag) (F : Fd) (M : Addr → Prop) (H1 : Hp) (J : It) (ds : List D) : Prop :=
  ∀ (M2 : Addr → Prop) (H2 : Hp) (i : Nat), Goes F M H1 M2 H2 → Lv K F M2 H2 → (ds.length ≤ i → J.stop i H2) ∧ (∀ d, ds[i]? = some d → J.go i H2 ∧ ∀ x H3, J.yld i H2 x H3 → Gr K F H2 H3 ∧ Rep K F M2 H3 d x)
def SI (K : PySem.W.Frag) (Ta : List (Addr × Str)) (ow : List Nat) (E : L2.St → XK) (wi : TI) (fi : FI) : Prop :=
  ∀ (w : Wd) (H : Hp) (σ : L2.St) (ρ : Env) (P : List D → Prop) (X : XP) (R : It → Hp → Prop), REnv K Ta w ow H σ ρ → fi ρ P X → (∀ ds J H1, P ds → Gr K w.F H H1 → ItOk K w.F (w.Mx ow σ) H1 J ds → R J H1) → PostX K w.F H X (E σ) → wi σ H R
/-- a target; sl: its slots -/
def SG (K : PySem.W.Frag) (Ta : List (Addr × Str)) (ow sl : List Nat) (g : TG) (g' : FG) : Prop :=
  ∀ (w : Wd) (H : Hp) (σ : L2.St) (ρ : Env) (d : D) (v : V) (R : Env → Prop) (Q : L2.St → Hp → Prop), REnv K Ta w ow H σ ρ → Rep K w.F (w.Mx ow σ) H d v → g' d ρ R → (∀ ρ' σ', R ρ' → REnv K Ta w ow H σ' ρ' → σ'.length = σ.length → (∀ i, i ∉ sl → σ'[i]? = σ[i]?) → Q σ' H) → g v σ H Q
def qBf (i : Nat) : FG := fun d ρ R => R (ρ.set i (some d))
theorem qBy {i : Nat} (hi : i ∉ ow) : SG K Ta ow [i] (gName i) (qBf i) := by
  intro w H σ ρ d v R Q e r h k
  refine k _ _ h (e.put hi r) (by rw [List.length_set]) fun j hj => ?_
  rw [qCf, if_neg (fun z => hj (by rw [z]; exact List.mem_singleton_self _))]
abbrev FGs := List D → Env → (Env → Prop) → Prop
def SGs (K : PySem.W.Frag) (Ta : List (Addr × Str)) (ow sl : List Nat) (g : TGs) (g' : FGs) : Prop :=
  ∀ (w : Wd) (H : Hp) (σ : L2.St) (ρ : Env) (ds : List D) (vs : List V) (R : Env → Prop) (Q : L2.St → Hp → Prop), REnv K Ta w ow H σ ρ → Reps K w.F (w.Mx ow σ) H ds vs → g' ds ρ R → (∀ ρ' σ', R ρ' → REnv K Ta w ow H σ' ρ' → σ'.length = σ.length → (∀ i, i ∉ sl → σ'[i]? = σ[i]?) → Q σ' H) → g vs σ H Q
def qUj : List Nat → FGs
  | [] => fun ds ρ R => ds = [] ∧ R ρ
  | i :: is => fun ds ρ R => ∃ d r, ds = d :: r ∧ qUj is r (ρ.set i (some d)) R
theorem qJi : SGs K Ta ow [] gNil (qUj []) := by
  intro w H σ ρ ds vs R Q e r h k
  obtain ⟨rfl, h⟩ := h
  exact ⟨r, k _ _ h e rfl fun _ _ => rfl⟩
theorem qDg {i : Nat} {is : List Nat} {g : TGs} (hi : i ∉ ow) (hg : SGs K Ta ow is g (qUj is)) : SGs K Ta ow (i :: is) (gCons (gName i) g) (qUj (i :: is)) := by
  intro w H σ ρ ds vs R Q e r h k
  obtain ⟨d, rr, rfl, h⟩ := h
  obtain ⟨v, us, rfl, r1, r2⟩ := r
  refine ⟨v, us, rfl, hg w H _ _ rr us R Q (e.put hi r1) (Reps.goes (fun p o h _ m => ⟨h, fun z => m ?_⟩) _ _ r2) h fun ρ' σ' a1 a2 a3 a4 => k ρ' σ' a1 a2 (by rw [a3, List.length_set]) fun j hj => ?_⟩
  · exact z.elim .inl fun y => .inr ((qAgm hi p).mp y)
  · simp only [List.mem_cons, not_or] at hj
    rw [a4 j hj.2, qCf, if_neg (Ne.symm hj.1)]
def qF7 (is : List Nat) : FG := fun d ρ R => ∃ ds, d = .tup ds ∧ ds.length = is.length ∧ qUj is ds ρ R
theorem qPt {is : List Nat} {n : Nat} {g : TGs} (hn : is.length = n) (hg : SGs K Ta ow is g (qUj is)) : SG K Ta ow is (gTup K n g) (qF7 is) := by
  intro w H σ ρ d v R Q e r h k
  obtain ⟨ds, rfl, hl, h⟩ := h
  obtain ⟨p, vs, rfl, ok, hp, r⟩ := r
  exact ⟨p, vs, rfl, SqT.of hp, by rw [r.length, hl, hn], hg w H σ ρ ds vs R Q e r h k⟩
/-- the turns -/
def qCk (g : FG) (fb : FS) (FD : FEnds) : List D → Env → Prop
  | [], ρ => FD.nx ρ
  | d :: ds, ρ => g d ρ fun ρ' => fb { FD with nx := qCk g fb FD ds, ct := qCk g fb FD ds, bk := FD.nx } ρ'
def qGn (fi : FI) (g : FG) (fb : FS) : FS := fun FD ρ => fi ρ (fun ds => qCk g fb FD ds ρ) (fun x => FD.ex x ρ)
theorem qE5 {wi : TI} {g : TG} {tb : TS} {fi : FI} {g' : FG} {fb : FS} {sl : List Nat} (hs : Sub owx ow) (hi : SI K Ta ow E wi fi) (hg : SG K Ta ow sl g g') (hb : SS K Ta ow ow ow owx E tb fb) : SS K Ta ow ow owb owx E (tFor wi g tb) (qGn fi g' fb) := by
  intro w H σ ρ N FD e h k
  refine hi w H σ ρ _ _ _ e h (fun ds J H1 hd g1 it => ?_) (k.px e hs)
  have e1 := e.grow g1
  refine ⟨fun i m σ2 H2 => ∃ ρ2, REnv K Ta (w.re (Mo ow σ) H1) ow H2 σ2 ρ2 ∧ m = ds.length - i ∧ i ≤ ds.length ∧ qCk g' fb FD (ds.drop i) ρ2, ⟨ds.length, ρ, e1.re, rfl, Nat.zero_le _, hd⟩, ?_⟩
  rintro i m σ2 H2 ⟨ρ2, e2, rfl, hle, go⟩
  obtain ⟨st, yl⟩ := it _ H2 i e2.goes e2.lv
  by_cases hlt : i < ds.length
  · right
    obtain ⟨dd, hdd⟩ : ∃ dd, ds[i]? = some dd := ⟨_, List.getElem?_eq_getElem hlt⟩
    obtain ⟨j1, j2⟩ := yl dd hdd
    have hdrop : ds.drop i = dd :: ds.drop (i + 1) := by
      rw [List.drop_eq_getElem_cons hlt]
      rw [List.getElem?_eq_getElem hlt] at hdd
      cases hdd; rfl
    rw [hdrop] at go
    refine ⟨j1, fun σ' H' => ∃ ρ', REnv K Ta (w.re (Mo ow σ) H1) ow H' σ' ρ' ∧ qCk g' fb FD (ds.drop (i + 1)) ρ', fun σ' H' ⟨ρ', a, b⟩ => ⟨ds.length - (i + 1), by omega, ρ', a, rfl, hlt, b⟩, fun x H3 y => ?_⟩
    obtain ⟨g3, r3⟩ := j2 x H3 y
    refine hg _ H3 σ2 ρ2 dd x _ _ (e2.grow g3) r3 go fun ρ' σ' hr e3 _ _ => ?_
    refine hb _ H3 σ' ρ' _ _ e3 hr ⟨fun ρ4 σ4 H4 h4 e4 => ⟨ρ4, e4, h4⟩, fun d v H4 h4 g4 r4 => k.rt d v H4 h4 ((qAgv e1).trans g4) r4, fun ρ4 σ4 H4 h4 e4 => k.nx _ _ _ h4 (e1.un e4), fun ρ4 σ4 H4 h4 e4 => ⟨ρ4, e4, h4⟩, fun x ρ4 σ4 H4 cls dd h4 e4 r4 => k.ex x ρ4 σ4 H4 cls dd h4 (e1.un e4) r4, fun d v H4 h4 g4 r4 => k.rf d v H4 h4 ((qAgv e1).trans g4) (r4.un e1)⟩
  · left
    have : i = ds.length := by omega
    rw [this, List.drop_length] at go
    exact ⟨st (by omega), k.nx _ _ _ go (e1.un e2)⟩
/-! ### while -/
def qAen (fc : FT) (fb : FS) : FS := fun FD ρ => ∃ W : Nat → Env → Prop, (∃ m, W m ρ) ∧ ∀ m ρ, W m ρ → fc ρ (fun b => if b = true then fb { FD with nx := fun ρ' => ∃ m', m' < m ∧ W m' ρ', ct := fun ρ' => ∃ m', m' < m ∧ W m' ρ', bk := FD.nx } ρ else FD.nx ρ) (fun x => FD.ex x ρ)
theorem qAeb {tc : TT} {tb : TS} {fc : FT} {fb : FS} (hs : Sub owx ow) (hc : STt K Ta ow E tc fc) (hb : SS K Ta ow ow ow owx E tb fb) : SS K Ta ow ow owb owx E (tWhile tc tb) (qAen fc fb) := by
  intro w H σ ρ N FD e h k
  obtain ⟨W, ⟨m0, w0⟩, turn⟩ := h
  refine ⟨fun m σ2 H2 => ∃ ρ2, REnv K Ta w ow H2 σ2 ρ2 ∧ W m ρ2, ⟨m0, ρ, e, w0⟩, ?_⟩
  rintro m σ2 H2 ⟨ρ2, e2, w2⟩
  refine hc w H2 σ2 ρ2 _ _ _ e2 (turn m ρ2 w2) (fun b H3 h3 g3 => ?_) (k.px e2 hs)
  cases b with
  | false => exact k.nx _ _ _ h3 (e2.grow g3)
  | true =>
    refine ⟨fun σ' H' => ∃ m' ρ', m' < m ∧ REnv K Ta w ow H' σ' ρ' ∧ W m' ρ', fun σ' H' ⟨m', ρ', a, b, c⟩ => ⟨m', a, ρ', b, c⟩, ?_⟩
    exact hb w H3 σ2 ρ2 _ _ (e2.grow g3) h3 ⟨fun ρ4 σ4 H4 ⟨m', a, b⟩ e4 => ⟨m', ρ4, a, e4, b⟩, k.rt, k.nx, fun ρ4 σ4 H4 ⟨m', a, b⟩ e4 => ⟨m', ρ4, a, e4, b⟩, k.ex, k.rf⟩
/-! ### what a loop walks -/
def itD : D → Option (List D)
  | .lst ds => some ds
  | .tup ds => some ds
  | _ => none
def fIt (fe : FE) : FI := fun ρ P X => fe ρ (fun d => ∃ ds, itD d = some ds ∧ P ds) X
def qQz (fe : FE) : FI := fun ρ P X => fe ρ (fun d => ∃ ds, d = .lst ds ∧ P ds) X
def fItT (fe : FE) : FI := fun ρ P X => fe ρ (fun d => ∃ ds, d = .tup ds ∧ P ds) X
theorem qIt {te : TE} {fe : FE} (he : SE K Ta ow E te fe) : SI K Ta ow E (iList K te) (qQz fe) := by
  intro w H σ ρ P X R e h k x
  refine he w H σ ρ _ X _ e h (fun d v H1 hd g r => ?_) x
  obtain ⟨ds, rfl, p⟩ := hd
  obtain ⟨a, vs, rfl, ok, ha, rs⟩ := r
  refine ⟨a, rfl, ⟨vs, SqL.of ha⟩, k ds _ H1 p g fun M2 H2 i go lv => ?_⟩
  obtain ⟨ha2, _⟩ := go a _ ha ok.1 ok.2
  have rs2 := Reps.goes go _ _ rs
  refine ⟨fun hl => ⟨vs, SqL.of ha2, by rw [rs.length]; exact hl⟩, fun d hd => ?_⟩
  obtain ⟨v, hv, rv⟩ := rs2.get hd
  refine ⟨⟨vs, v, SqL.of ha2, hv⟩, fun y H3 hy => ?_⟩
  obtain ⟨rfl, hy⟩ := hy
  have := hy vs (SqL.of ha2)
  rw [hv] at this; cases this
  exact ⟨.refl, rv⟩
theorem qAq9 {te : TE} {fe : FE} (he : SE K Ta ow E te fe) : SI K Ta ow E (iTup K te) (fItT fe) := by
  intro w H σ ρ P X R e h k x
  refine he w H σ ρ _ X _ e h (fun d v H1 hd g r => ?_) x
  obtain ⟨ds, rfl, p⟩ := hd
  obtain ⟨a, vs, rfl, ok, ha, rs⟩ := r
  refine ⟨a, rfl, ⟨vs, SqT.of ha⟩, k ds _ H1 p g fun M2 H2 i go lv => ?_⟩
  obtain ⟨ha2, _⟩ := go a _ ha ok.1 ok.2
  have rs2 := Reps.goes go _ _ rs
  refine ⟨fun hl => ⟨vs, SqT.of ha2, by rw [rs.length]; exact hl⟩, fun d hd => ?_⟩
  obtain ⟨v, hv, rv⟩ := rs2.get hd
  refine ⟨⟨vs, v, SqT.of ha2, hv⟩, fun y H3 hy => ?_⟩
  obtain ⟨rfl, hy⟩ := hy
  have := hy vs (SqT.of ha2)
  rw [hv] at this; cases this
  exact ⟨.refl, rv⟩
def qKx (lo : Int) (n : Nat) : List D := (List.range n).map fun (k : Nat) => D.int (lo + (k : Int))
theorem qAio {lo : Int} {n i : Nat} {d : D} (h : (qKx lo n)[i]? = some d) : i < n ∧ d = .int (lo + (i : Int)) := by
  unfold qKx at h
  rw [List.getElem?_map] at h
  by_cases hi : i < n
  · rw [List.getElem?_range hi] at h
    cases h; exact ⟨hi, rfl⟩
  · rw [List.getElem?_eq_none (by simp; omega)] at h
    cases h
def qFa (fa : FA) : FI := fun ρ P X => fa ρ (fun as => ∃ j : Int, as = [.int j] ∧ -(2 ^ 62) ≤ j ∧ j < 2 ^ 62 ∧ P (qKx 0 j.toNat)) X
theorem qFo {ta : TA} {fa : FA} (ha : SA K Ta ow E ta fa) : SI K Ta ow E (iRng1 ta) (qFa fa) := by
  intro w H σ ρ P X R e h k x
  refine ha w H σ ρ _ X _ e h (fun ds vs H1 hd g r => ?_) x
  obtain ⟨j, rfl, j0, j1, p⟩ := hd
  have := Reps.ints (ns := [j]) r
  refine ⟨j, this, j0, j1, k _ _ H1 p g fun M2 H2 i go lv => ⟨fun hl => ?_, fun d hd => ?_⟩⟩
  · simp only [qKx, List.length_map, List.length_range] at hl; exact hl
  · obtain ⟨h1, rfl⟩ := qAio hd
    exact ⟨h1, fun y H3 ⟨h3, hy⟩ => by subst h3; exact ⟨.refl, hy⟩⟩
def qAb9 (fa : FA) : FI := fun ρ P X => fa ρ (fun as => ∃ i j : Int, as = [.int i, .int j] ∧ (-(2 ^ 62) ≤ i ∧ i < 2 ^ 62 ∧ -(2 ^ 62) ≤ j ∧ j < 2 ^ 62) ∧ P (qKx i (j - i).toNat)) X
theorem qAit {ta : TA} {fa : FA} (ha : SA K Ta ow E ta fa) : SI K Ta ow E (iRng2 ta) (qAb9 fa) := by
  intro w H σ ρ P X R e h k x
  refine ha w H σ ρ _ X _ e h (fun ds vs H1 hd g r => ?_) x
  obtain ⟨i', j, rfl, j0, p⟩ := hd
  have := Reps.ints (ns := [i', j]) r
  refine ⟨i', j, this, j0, k _ _ H1 p g fun M2 H2 i go lv => ⟨fun hl => ?_, fun d hd => ?_⟩⟩
  · simp only [qKx, List.length_map, List.length_range] at hl; exact hl
  · obtain ⟨h1, rfl⟩ := qAio hd
    exact ⟨h1, fun y H3 ⟨h3, hy⟩ => by subst h3; exact ⟨.refl, hy⟩⟩
end
end MR

set_option Elab.async false
set_option linter.all false
set_option maxRecDepth 100000
set_option maxHeartbeats 4000000
/-! MR: lists or tuples -/
namespace MR
open PySem PySem.Spec PyProof.Rows L2
def rIxA (K : PySem.W.Frag) : R2 := fun x y H Q => rIxL K x y H Q ∨ rIxT K x y H Q
theorem qAh9 {X : Cx} : IxR X (rIxA X.K) := by
  intro value slice pins s σ H x y v u Q I rx ry h hs
  rcases h with h | h
  · exact ix_list value slice pins s σ H x y v u Q I rx ry h hs
  · exact ix_tup value slice pins s σ H x y v u Q I rx ry h hs
def iSeq (K : PySem.W.Frag) (tl : TE) : TI := fun σ H R => tl σ H fun x H1 => ∃ a, x = .ref a ∧ (((∃ xs, SqL K H1 a xs) ∧ R (Itl K a) H1) ∨ ((∃ xs, SqT K H1 a xs) ∧ R (Itt K a) H1))
theorem qAgy {X : Cx} {tg l : Expr} {tl : TE} (hl : PE X l tl) : PI X tg l (iSeq X.K tl) := by
  refine ⟨fun pins s σ H R I h => ?_⟩
  refine thn (hl.run pins s σ H _ I h) fun v s1 ⟨x, H1, I1, r1, q1⟩ => ?_
  obtain ⟨a, e, q1⟩ := q1
  subst e
  cases r1
  rcases q1 with ⟨⟨xs, hq⟩, q⟩ | ⟨⟨xs, hq⟩, q⟩
  · obtain ⟨its, rv, p, hz⟩ := I1.list hq
    refine wpAny_pyIter_list p.isList ?_
    refine ⟨s1.heap.objs.size, [s1.heap.objs.size], _, _, H1, rfl, I1.kept (t' := s1.toks) fun b o e => Heap.get?_push_of_some _ e, turn_list a _, ⟨_, Heap.get?_push_size _ rfl, rfl, rfl⟩, fun b hb => ?_, q⟩
    have e : b = s1.heap.objs.size := by simpa using hb
    subst e
    exact I1.fpOk (Nat.le_refl _) (I1.hok.fresh (Nat.le_refl _))
  · obtain ⟨its, rv, p, hz⟩ := I1.tuple hq
    refine wpAny_pyIter_tuple (show s1.heap.IsTuple a its.toArray from p) ?_
    refine ⟨s1.heap.objs.size, [s1.heap.objs.size], _, _, H1, rfl, I1.kept (t' := s1.toks) fun b o e => Heap.get?_push_of_some _ e, turn_tuple a _, ⟨_, Heap.get?_push_size _ rfl, rfl, rfl⟩, fun b hb => ?_, q⟩
    have e : b = s1.heap.objs.size := by simpa using hb
    subst e
    exact I1.fpOk (Nat.le_refl _) (I1.hok.fresh (Nat.le_refl _))
def qSg (K : PySem.W.Frag) (ta : TA) : TI := fun σ H R => ta σ H fun vs H1 => ∃ a xs, vs = [.ref a] ∧ ((SqL K H1 a xs ∧ R (Ite K a) H1) ∨ (SqT K H1 a xs ∧ R (ItE K a) H1))
theorem qNe {X : Cx} {e : Expr} {ta : TA} {p pos tpos : Pos} {elts : List Expr} {kk : Nat} (hg : Gl X "enumerate") (hm : X.mg "enumerate" = none) (ha : PA X [e] ta) (hs : starEach [e] X.env = [(false, eval e X.env)] := by rfl) :
    PI X (.Tuple elts kk tpos) (.Call (.Name "enumerate" p) [e] [] pos) (qSg X.K ta) := by
  refine ⟨fun pins s σ H R I h => ?_⟩
  refine Call_ (ld_blt I hg hm boot_enumerate (PyProof.Rows.callWith_type1 (thn (ha.run pos pins s σ H _ I h) fun us s1 ⟨vs, H1, I1, r1, q1⟩ => ?_) hs rfl))
  obtain ⟨a, xs, ex, q1⟩ := q1
  subst ex
  cases r1 with
  | cons r rr =>
    cases rr
    cases r
    have fin : ∀ b, b ∈ [s1.heap.objs.size + 1, s1.heap.objs.size] → FpOk X pins H1 b := fun b hb => by
      have e' : b = s1.heap.objs.size + 1 ∨ b = s1.heap.objs.size := by simpa using hb
      have hle : s1.heap.objs.size ≤ b := by
        rcases e' with z | z
        · rw [z]; exact Nat.le_add_right _ _
        · rw [z]; exact Nat.le_refl _
      exact I1.fpOk hle (I1.hok.fresh hle)
    rcases q1 with ⟨hq, q⟩ | ⟨hq, q⟩
    · obtain ⟨its, rv, p', hz⟩ := I1.list hq
      refine call_enumerate_list p'.isList fun h' he hit hsz hk => wpAny_pyIter_enum he ?_
      have I2 : Inv X pins σ H1 { s1 with heap := h' } := I1.kept (t' := s1.toks) hk
      exact ⟨s1.heap.objs.size + 1, [s1.heap.objs.size + 1, s1.heap.objs.size], _, _, H1, rfl, I2, turn_enum a (s1.heap.objs.size + 1) s1.heap.objs.size, ⟨⟨.none, he⟩, hit, Nat.succ_ne_self _⟩, fin, q⟩
    · obtain ⟨its, rv, p', hz⟩ := I1.tuple hq
      have hT0 : s1.heap.IsTuple a its.toArray := p'
      refine qYp (begins_tuple a its.toArray) hT0 fun h' he hit hsz hk => wpAny_pyIter_enum he ?_
      have I2 : Inv X pins σ H1 { s1 with heap := h' } := I1.kept (t' := s1.toks) hk
      exact ⟨s1.heap.objs.size + 1, [s1.heap.objs.size + 1, s1.heap.objs.size], _, _, H1, rfl, I2, qAfp a (s1.heap.objs.size + 1) s1.heap.objs.size, ⟨⟨.none, he⟩, ⟨_, hit, rfl, rfl⟩, Nat.succ_ne_self _⟩, fin, q⟩
end MR

set_option Elab.async false
set_option linter.all false
set_option maxRecDepth 100000
set_option maxHeartbeats 4000000
set_option exponentiation.threshold 20000
/-! FL: iterations, comprehensions, slices -/
namespace MR
open PySem PySem.Spec PyProof.Rows L2
section
variable {K : PySem.W.Frag} {w : Wd} {ow ow' ow1 owb owx : List Nat} {H H' : Hp} {σ : L2.St} {ρ : Env} {E : L2.St → XK} {N : L2.Ends} {FD : FEnds}
theorem qAr1 {F : Fd} {M : Addr → Prop} {a : Addr} {vs : List V} {ds : List D} (ok : Ok F M a) (ha : H a = some (.lst vs)) (rs : Reps K F M H ds vs) : ItOk K F M H (Itl K a) ds := by
  intro M2 H2 i go lv
  obtain ⟨ha2, _⟩ := go a _ ha ok.1 ok.2
  have rs2 := Reps.goes go _ _ rs
  refine ⟨fun hl => ⟨vs, SqL.of ha2, by rw [rs.length]; exact hl⟩, fun d hd => ?_⟩
  obtain ⟨v, hv, rv⟩ := rs2.get hd
  refine ⟨⟨vs, v, SqL.of ha2, hv⟩, fun y H3 hy => ?_⟩
  obtain ⟨rfl, hy⟩ := hy
  have := hy vs (SqL.of ha2)
  rw [hv] at this; cases this
  exact ⟨.refl, rv⟩
theorem qAr7 {F : Fd} {M : Addr → Prop} {a : Addr} {vs : List V} {ds : List D} (ok : Ok F M a) (ha : H a = some (.tup vs)) (rs : Reps K F M H ds vs) : ItOk K F M H (Itt K a) ds := by
  intro M2 H2 i go lv
  obtain ⟨ha2, _⟩ := go a _ ha ok.1 ok.2
  have rs2 := Reps.goes go _ _ rs
  refine ⟨fun hl => ⟨vs, SqT.of ha2, by rw [rs.length]; exact hl⟩, fun d hd => ?_⟩
  obtain ⟨v, hv, rv⟩ := rs2.get hd
  refine ⟨⟨vs, v, SqT.of ha2, hv⟩, fun y H3 hy => ?_⟩
  obtain ⟨rfl, hy⟩ := hy
  have := hy vs (SqT.of ha2)
  rw [hv] at this; cases this
  exact ⟨.refl, rv⟩
theorem qAhv {te : TE} {fe : FE} (he : SE K Ta ow E te fe) : SI K Ta ow E (iSeq K te) (fIt fe) := by
  intro w H σ ρ P X R e h k x
  refine he w H σ ρ _ X _ e h (fun d v H1 hd g r => ?_) x
  obtain ⟨ds, hds, p⟩ := hd
  cases d with
  | lst es =>
    cases hds
    obtain ⟨a, vs, rfl, ok, ha, rs⟩ := r
    exact ⟨a, rfl, .inl ⟨⟨vs, SqL.of ha⟩, k _ _ H1 p g (qAr1 ok ha rs)⟩⟩
  | tup es =>
    cases hds
    obtain ⟨a, vs, rfl, ok, ha, rs⟩ := r
    exact ⟨a, rfl, .inr ⟨⟨vs, SqT.of ha⟩, k _ _ H1 p g (qAr7 ok ha rs)⟩⟩
  | _ => cases hds
def enD (ds : List D) (k : Nat) : List D := match ds with
  | [] => []
  | d :: r => .tup [.int (k : Nat), d] :: enD r (k + 1)
theorem qAi5 : ∀ (ds : List D) (k : Nat), (enD ds k).length = ds.length
  | [], _ => rfl
  | d :: r, k => by
    unfold enD
    rw [List.length_cons, List.length_cons, qAi5 r]
theorem qAho : ∀ (ds : List D) (k i : Nat) (d : D), (enD ds k)[i]? = some d → ∃ e, ds[i]? = some e ∧ d = .tup [.int ((k + i : Nat) : Int), e]
  | [], k, i, d, h => by simp [enD] at h
  | e :: r, k, 0, d, h => by
    simp only [enD, List.getElem?_cons_zero, Option.some.injEq] at h
    exact ⟨e, rfl, h.symm⟩
  | e :: r, k, i + 1, d, h => by
    simp only [enD, List.getElem?_cons_succ] at h ⊢
    obtain ⟨e', h1, h2⟩ := qAho r (k + 1) i d h
    refine ⟨e', h1, ?_⟩
    rw [h2]
    have : k + 1 + i = k + (i + 1) := by omega
    rw [this]
def fEn (fa : FA) : FI := fun ρ P X => fa ρ (fun as => ∃ d ds, as = [d] ∧ itD d = some ds ∧ P (enD ds 0)) X
theorem qAdr {F : Fd} {M : Addr → Prop} {T : Addr} {x y : V} {a b : D} (lv : Lv K F M H) (nT : H T = none) (ra : Rep K F M H a x) (rb : Rep K F M H b y) : Rep K F M (upd H T (.tup [x, y])) (.tup [a, b]) (.ref T) := qRg lv nT (.cons ra (.one rb))
theorem qAhg {ta : TA} {fa : FA} (ha : SA K Ta ow E ta fa) : SI K Ta ow E (qSg K ta) (fEn fa) := by
  intro w H σ ρ P X R e h k x
  refine ha w H σ ρ _ X _ e h (fun as vs H1 hd g r => ?_) x
  obtain ⟨d, ds, rfl, hds, p⟩ := hd
  obtain ⟨v, us, rfl, r, hn⟩ := r
  rw [show us = [] from hn]
  cases d with
  | lst es =>
    cases hds
    obtain ⟨a, vs, rfl, ok, ha, rs⟩ := r
    refine ⟨a, vs, rfl, .inl ⟨SqL.of ha, k _ _ H1 p g fun M2 H2 i go lv => ?_⟩⟩
    obtain ⟨ha2, _⟩ := go a _ ha ok.1 ok.2
    have rs2 := Reps.goes go _ _ rs
    refine ⟨fun hl => ⟨vs, SqL.of ha2, by rw [rs.length]; rw [qAi5] at hl; exact hl⟩, fun d hd => ?_⟩
    obtain ⟨e', h1, rfl⟩ := qAho _ _ _ _ hd
    obtain ⟨v, hv, rv⟩ := rs2.get h1
    refine ⟨⟨vs, v, SqL.of ha2, hv⟩, fun y H3 hy => ?_⟩
    obtain ⟨T, x', rfl, nT, rfl, hx⟩ := hy
    have := hx vs (SqL.of ha2)
    rw [hv] at this; cases this
    rw [Nat.zero_add]
    exact ⟨.new nT, qAdr lv nT rfl rv⟩
  | tup es =>
    cases hds
    obtain ⟨a, vs, rfl, ok, ha, rs⟩ := r
    refine ⟨a, vs, rfl, .inr ⟨SqT.of ha, k _ _ H1 p g fun M2 H2 i go lv => ?_⟩⟩
    obtain ⟨ha2, _⟩ := go a _ ha ok.1 ok.2
    have rs2 := Reps.goes go _ _ rs
    refine ⟨fun hl => ⟨vs, SqT.of ha2, by rw [rs.length]; rw [qAi5] at hl; exact hl⟩, fun d hd => ?_⟩
    obtain ⟨e', h1, rfl⟩ := qAho _ _ _ _ hd
    obtain ⟨v, hv, rv⟩ := rs2.get h1
    refine ⟨⟨vs, v, SqT.of ha2, hv⟩, fun y H3 hy => ?_⟩
    obtain ⟨T, x', rfl, nT, rfl, hx⟩ := hy
    have := hx vs (SqT.of ha2)
    rw [hv] at this; cases this
    rw [Nat.zero_add]
    exact ⟨.new nT, qAdr lv nT rfl rv⟩
  | _ => cases hds
/-! ### slices -/
abbrev FO := Env → (Option Int → Prop) → XP → Prop
def SO (K : PySem.W.Frag) (Ta : List (Addr × Str)) (ow : List Nat) (E : L2.St → XK) (to : TO) (fo : FO) : Prop :=
  ∀ (w : Wd) (H : Hp) (σ : L2.St) (ρ : Env) (P : Option Int → Prop) (X : XP) (Q : Option Int → Hp → Prop), REnv K Ta w ow H σ ρ → fo ρ P X → (∀ i H', P i → Gr K w.F H H' → Q i H') → PostX K w.F H X (E σ) → to σ H Q
def qF9 : FO := fun _ P _ => P none
def qQq (fe : FE) : FO := fun ρ P X => fe ρ (fun d => ∃ i, d = .int i ∧ P (some i)) X
theorem qAi3 : SO K Ta ow E tNoPart qF9 := fun w H σ ρ P X Q e h q x => q _ _ h .refl
theorem qAjl {te : TE} {fe : FE} (he : SE K Ta ow E te fe) : SO K Ta ow E (tPart te) (qQq fe) := by
  intro w H σ ρ P X Q e h q x
  refine he w H σ ρ _ X _ e h (fun d v H1 hd g r => ?_) x
  obtain ⟨i, rfl, p⟩ := hd
  exact ⟨i, r, q _ H1 p g⟩
def cutD {α : Type} (xs : List α) (lo hi : Option Int) : List α := (xs.drop (HT.sIx xs.length 0 lo)).take (HT.sIx xs.length xs.length hi - HT.sIx xs.length 0 lo)
end
end MR

set_option Elab.async false
set_option linter.all false
set_option maxRecDepth 100000
set_option maxHeartbeats 4000000
set_option exponentiation.threshold 20000
/-! FL: comprehensions, slices, operators -/
namespace MR
open PySem PySem.Spec PyProof.Rows L2
section
variable {K : PySem.W.Frag} {w : Wd} {ow ow' ow1 owb owx : List Nat} {H H' : Hp} {σ : L2.St} {ρ : Env} {E : L2.St → XK} {N : L2.Ends} {FD : FEnds}
/-! ### comprehensions -/
def qIv (ρ : Env) : List Nat → Env
  | [] => ρ
  | v :: vs => (qIv ρ vs).set v none
theorem REnv.clr {i : Nat} (e : REnv K Ta w ow H σ ρ) (hi : i ∉ ow) : REnv K Ta w ow H (σ.set i none) (ρ.set i none) := by
  have mm : ∀ p, w.Mx ow (σ.set i none) p ↔ w.Mx ow σ p := fun p => or_congr .rfl (qAgm hi p)
  have go : Goes w.F (w.Mx ow σ) H (w.Mx ow (σ.set i none)) H := fun p o h _ m => ⟨h, fun z => m ((mm p).mp z)⟩
  have same : ∀ j, j ∈ ow → (σ.set i none)[j]? = σ[j]? ∧ (ρ.set i none)[j]? = ρ[j]? := fun j hj => by
    have : i ≠ j := fun z => hi (by rw [z]; exact hj)
    rw [qCf, qCf, if_neg this, if_neg this]
    exact ⟨rfl, rfl⟩
  refine ⟨e.gr, e.live, e.nf, fun j hj => ?_, fun j hj => ?_, fun j hj k hk n p => ?_, fun f hf => ?_, e.tab, e.ts⟩
  · rw [qCf, qCf]
    have z := e.imm j hj
    split
    · rename_i h
      have hl := z.len
      by_cases hlt : j < ρ.length
      · rw [if_pos hlt, if_pos (hl.mp hlt)]
        trivial
      · rw [if_neg hlt, if_neg (fun y => hlt (hl.mpr y))]
        trivial
    · exact z.mono fun d' v' => Rep.goes go d' v'
  · obtain ⟨p, o, d', h1, h2, h3, h4, h5⟩ := e.own j hj
    exact ⟨p, o, d', by rw [(same j hj).1]; exact h1, by rw [(same j hj).2]; exact h2, h3, h4.goes go, h5⟩
  · rw [(same j hj).1, (same k hk).1]
    exact e.inj j hj k hk n p
  · obtain ⟨c, h1, h2⟩ := e.feed f hf
    exact ⟨c, h1, fun z => h2 ((mm c).mp z)⟩
theorem REnv.wipe (e : REnv K Ta w ow H σ ρ) : ∀ {vs : List Nat}, (∀ i, i ∈ vs → i ∉ ow) → REnv K Ta w ow H (L2.wipe σ vs) (qIv ρ vs)
  | [], _ => e
  | v :: vs, h => (REnv.wipe e fun i hi => h i (List.mem_cons_of_mem _ hi)).clr (h v List.mem_cons_self)
theorem qKl (σ : L2.St) (j : Nat) : ∀ vs : List Nat, (L2.wipe σ vs)[j]? = if j ∈ vs then (if j < σ.length then some none else none) else σ[j]?
  | [] => by simp [L2.wipe]
  | v :: vs => by
    unfold L2.wipe
    rw [qCf, wipe_length, qKl σ j vs]
    by_cases h : v = j
    · subst h; simp
    · rw [if_neg h]
      have : j ∈ v :: vs ↔ j ∈ vs := by simp [List.mem_cons, Ne.symm h]
      simp only [this]
theorem qAn6 {vs : List Nat} (h : ∀ i, i ∈ vs → i ∉ ow) (p : Addr) : Mo ow (L2.wipe σ vs) p ↔ Mo ow σ p := by
  have : ∀ j, j ∈ ow → (L2.wipe σ vs)[j]? = σ[j]? := fun j hj => by rw [qKl, if_neg (fun z => h j z hj)]
  exact ⟨fun ⟨j, hj, z⟩ => ⟨j, hj, by rw [← this j hj]; exact z⟩, fun ⟨j, hj, z⟩ => ⟨j, hj, by rw [this j hj]; exact z⟩⟩
abbrev X0 : XP := fun _ => False
def lcGo (g : FG) (ft : FT) (fe : FE) (ρ0 : Env) (P : D → Prop) : List D → List D → Prop
  | [], acc => P (.lst acc)
  | d :: ds, acc => g d ρ0 fun ρ2 => ft ρ2 (fun b => if b = true then fe ρ2 (fun y => acc.length < sizeLine ∧ lcGo g ft fe ρ0 P ds (acc ++ [y])) X0 else lcGo g ft fe ρ0 P ds acc) X0
def fLc (fi : FI) (g : FG) (ft : FT) (fe : FE) (vs : List Nat) : FE := fun ρ P X => fi ρ (fun ds => lcGo g ft fe (qIv ρ vs) P ds []) X
def qI8 : FT := fun _ P _ => P true
theorem qH5 : STt K Ta ow E tYes qI8 := fun w H σ ρ P X Q e h q x => q _ _ h .refl
/-- the world with one more owned place -/
def Wd.own1 (w : Wd) (p : Addr) (H : Hp) : Wd := { w with M := fun q => w.M q ∨ q = p, H0 := H }
/-- an environment beside an object that is being made at p -/
theorem REnv.beside {p : Addr} {o : HO} (e : REnv K Ta w ow H σ ρ) (np : H p = none) : REnv K Ta ((w.re (Mo ow σ) H).own1 p (upd (w.re (Mo ow σ) H).H0 p o)) ow (upd H p o) σ ρ := by
  have ok := e.lv.ok np
  have nm : ¬ Mo ow σ p := fun z => ok.2 (.inr z)
  have g : Gr K w.F H (upd H p o) := .new np
  have e1 := e.re
  have go : Goes w.F (w.Mx ow σ) H (((w.re (Mo ow σ) H).own1 p (upd (w.re (Mo ow σ) H).H0 p o)).Mx ow σ) (upd H p o) := fun q u h nf m => by
    have ne : q ≠ p := fun z => by rw [z, np] at h; cases h
    refine ⟨by rw [upd_ne ne]; exact h, fun z => ?_⟩
    rcases z with (z | z) | z
    · exact m (.inl z)
    · exact ne z
    · exact m (.inr z)
  have n0 : (w.re (Mo ow σ) H).H0 p = none := by rw [qG2 nm]; exact np
  refine ⟨⟨fun b u h n => ?_, fun f c hf h => ?_, fun _ => g.tab e.tab⟩, fun q m => ?_, fun q m => ?_, fun i hi => (e.imm i hi).mono fun d v => Rep.goes go d v, fun i hi => ?_, e.inj, fun f hf => ?_, g.tab e.tab, e.ts⟩
  · by_cases hb : b = p
    · subst hb
      have h' : upd (w.re (Mo ow σ) H).H0 b o b = some u := h
      rw [upd_same] at h'
      rw [upd_same]; exact h'
    · have h' : upd (w.re (Mo ow σ) H).H0 p o b = some u := h
      rw [upd_ne hb] at h'
      rw [upd_ne hb]
      exact e1.gr.old b u h' n
  · obtain ⟨ns, a1, a2, a3, a4, a5, o', G, e'⟩ := h
    have fp : f ≠ p := fun z => ok.1.1 (by rw [← z]; exact hf)
    have hf0 : (w.re (Mo ow σ) H).H0 f = _ := (upd_ne fp).symm.trans G.ob
    obtain ⟨c', k1, k2⟩ := e.feed f hf
    have hc' : c' = c := by
      obtain ⟨_, _, _, _, _, _, _, G', _⟩ := k1
      have nf : ¬ Mo ow σ f := fun ⟨i, hi, z⟩ => by
        obtain ⟨p', o', d', h1, _, _, _, h5, _⟩ := e.own i hi
        rw [h1] at z; cases z
        exact h5.1 hf
      rw [qG2 nf, G'.ob] at hf0
      simp only [Option.some.injEq, HO.lst.injEq, List.cons.injEq, V.ref.injEq] at hf0
      exact hf0.1
    subst hc'
    have cp : c' ≠ p := fun z => by
      obtain ⟨_, _, _, _, _, _, _, _, e''⟩ := k1
      rw [z, np] at e''; cases e''
    have nf : ¬ Mo ow σ f := fun ⟨i, hi, z⟩ => by
      obtain ⟨p', o', d', h1, _, _, _, h5, _⟩ := e.own i hi
      rw [h1] at z; cases z
      exact h5.1 hf
    exact k1.keep (Ne.symm fp) (Ne.symm cp)
  · rcases m with m | m
    · obtain ⟨u, h⟩ := e1.live q m
      exact ⟨u, (upd_ne (fun z => by rw [z, n0] at h; cases h)).trans h⟩
    · exact ⟨o, by rw [m]; exact upd_same⟩
  · rcases m with m | m
    · exact e.nf q m
    · rw [m]; exact ok.1
  · obtain ⟨q, u, d, h1, h2, h3, h4, h5, h6⟩ := e1.own i hi
    have ne : q ≠ p := fun z => by rw [z, np] at h3; cases h3
    exact ⟨q, u, d, h1, h2, by rw [upd_ne ne]; exact h3, h4.goes go, h5, (upd_ne ne).trans h6⟩
  · obtain ⟨c, k1, k2⟩ := e.feed f hf
    refine ⟨c, g.feed f c hf k1, fun z => ?_⟩
    rcases z with (z | z) | z
    · exact k2 (.inl z)
    · obtain ⟨_, _, _, _, _, _, _, _, e''⟩ := k1
      rw [z, np] at e''; cases e''
    · exact k2 (.inr z)
theorem qArc {w : Wd} {M : Addr → Prop} {F : Fd} : Gr K F (w.re M H).H0 H := by
  have out : ∀ {b : Addr} {u : HO}, (w.re M H).H0 b = some u → H b = some u := fun {b u} h => by
    by_cases hm : M b
    · rw [qAhh hm] at h; cases h
    · rw [qG2 hm] at h; exact h
  refine ⟨fun b o h n => out h, fun f c hf h => ?_, fun h => h.ext fun b o => out⟩
  obtain ⟨ns, a1, a2, a3, a4, a5, o', G, e'⟩ := h
  refine ⟨ns, a1, a2, a3, a4, a5, o', ⟨out G.ob, ?_, G.ne, G.nn, G.p0, G.b0, G.l0, G.n0, G.s0⟩, out e'⟩
  rcases G.cs with (h | ⟨o, h⟩) | h
  · exact .inl (.inl (out h))
  · exact .inl (.inr ⟨o, out h⟩)
  · exact .inr h
/-- the object being made changes -/
theorem REnv.amb {p : Addr} {o o' : HO} (e : REnv K Ta w ow H σ ρ) (mp : w.M p) (hp : H p = some o) (hpl : Pl o) : REnv K Ta (w.re (Mo ow σ) (upd H p o')) ow (upd H p o') σ ρ := by
  have mx : w.Mx ow σ p := .inl mp
  have np : w.F.no p := e.nf p mp
  have go : Goes w.F (w.Mx ow σ) H (w.Mx ow σ) (upd H p o') := fun q u h nf m => ⟨by rw [upd_ne (fun z => m (by rw [z]; exact mx))]; exact h, m⟩
  obtain ⟨op, hop⟩ := e.live p mp
  have nmp : ¬ Mo ow σ p := e.nM hop
  have keepf : ∀ f c, w.F.f = some f → FeedC K H f c → FeedC K (upd H p o') f c := fun f c hf k => by
    obtain ⟨c', k1, k2⟩ := e.feed f hf
    have := qWg k1 k
    subst this
    exact k.keep (fun z => np.1 (by rw [z]; exact hf)) (fun z => k2 (by rw [← z]; exact mx))
  refine ⟨qArc, fun q m => ?_, e.nf, fun i hi => (e.imm i hi).mono fun d v => Rep.goes go d v, fun i hi => ?_, e.inj, fun f hf => ?_, qNu e.tab hp hpl, e.ts⟩
  · by_cases hq : q = p
    · rw [hq]; exact ⟨o', by rw [qG2 nmp]; exact upd_same⟩
    · obtain ⟨u, h⟩ := e.live q m
      refine ⟨u, ?_⟩
      rw [qG2 (e.nM h), upd_ne hq]
      exact e.gr.old _ _ h (e.nf q m)
  · obtain ⟨q, u, d, h1, h2, h3, h4, h5, h6⟩ := e.own i hi
    have ne : q ≠ p := fun z => by rw [z, hop] at h6; cases h6
    exact ⟨q, u, d, h1, h2, by rw [upd_ne ne]; exact h3, h4.goes go, h5, qAhh ⟨i, hi, h1⟩⟩
  · obtain ⟨c, k1, k2⟩ := e.feed f hf
    exact ⟨c, keepf f c hf k1, k2⟩
theorem qO5 {wi : TI} {g : TG} {tt : TT} {te : TE} {vs sl : List Nat} {fi : FI} {g' : FG} {ft : FT} {fe : FE} (hv : ∀ i, i ∈ vs → i ∉ ow) (hsl : ∀ i, i ∈ sl → i ∈ vs) (hi : SI K Ta ow E wi fi) (hg : SG K Ta ow sl g g') (ht : STt K Ta ow (fun _ => E0) tt ft) (he : SE K Ta ow (fun _ => E0) te fe) :
    SF K Ta ow E (tLc wi g tt te vs) (fLc fi g' ft fe vs) := by
  intro w H σ ρ P X Q e h q x
  refine hi w H σ ρ _ _ _ e h (fun ds J H1 hd g1 it p np => ?_) x
  have e1 := e.grow g1
  have okp := e1.lv.ok np
  have n0 : H p = none := by
    cases z : H p with
    | none => rfl
    | some o => rw [g1.old p o z okp.1] at np; cases np
  have mw : ∀ q, Mo ow (L2.wipe σ vs) q ↔ Mo ow σ q := qAn6 hv
  let M3 : Addr → Prop := fun q => w.M q ∨ q = p
  refine ⟨fun i m H2 => ∃ (H0 : Hp) (ad : List D) (av : List V), REnv K Ta ⟨w.F, M3, H0⟩ ow H2 (L2.wipe σ vs) (qIv ρ vs) ∧ H2 p = some (.lst av) ∧ Reps K w.F (fun q => M3 q ∨ Mo ow σ q) H2 ad av ∧ Gr K w.F H1 H2 ∧ m = ds.length - i ∧ i ≤ ds.length ∧ lcGo g' ft fe (qIv ρ vs) P (ds.drop i) ad, ⟨ds.length, _, [], [], (e1.wipe hv).beside (o := .lst []) np, upd_same, rfl, .new np, rfl, Nat.zero_le _, hd⟩, ?_⟩
  rintro i m H2 ⟨H0, ad, av, e2, hp, ra, g2, rfl, hle, go⟩
  have mx : ∀ q, (⟨w.F, M3, H0⟩ : Wd).Mx ow (L2.wipe σ vs) q ↔ (M3 q ∨ Mo ow σ q) := fun q => or_congr .rfl (mw q)
  have goes : Goes w.F (w.Mx ow σ) H1 ((⟨w.F, M3, H0⟩ : Wd).Mx ow (L2.wipe σ vs)) H2 := fun a u h nf n => ⟨g2.old a u h nf, fun z => by
    rcases (mx a).mp z with (z | z) | z
    · exact n (.inl z)
    · rw [z, np] at h; cases h
    · exact n (.inr z)⟩
  obtain ⟨st, yl⟩ := it _ H2 i goes e2.lv
  by_cases hlt : i < ds.length
  · right
    obtain ⟨dd, hdd⟩ : ∃ dd, ds[i]? = some dd := ⟨_, List.getElem?_eq_getElem hlt⟩
    obtain ⟨j1, j2⟩ := yl dd hdd
    have hdrop : ds.drop i = dd :: ds.drop (i + 1) := by
      rw [List.drop_eq_getElem_cons hlt]
      rw [List.getElem?_eq_getElem hlt] at hdd
      cases hdd; rfl
    rw [hdrop] at go
    refine ⟨j1, fun H' => ∃ (H0 : Hp) (ad : List D) (av : List V), REnv K Ta ⟨w.F, M3, H0⟩ ow H' (L2.wipe σ vs) (qIv ρ vs) ∧ H' p = some (.lst av) ∧ Reps K w.F (fun q => M3 q ∨ Mo ow σ q) H' ad av ∧ Gr K w.F H1 H' ∧ lcGo g' ft fe (qIv ρ vs) P (ds.drop (i + 1)) ad, ?_, fun y H3 hy => ?_⟩
    · rintro H' ⟨H0', ad', av', a1, a2, a3, a4, a5⟩
      exact ⟨ds.length - (i + 1), by omega, H0', ad', av', a1, a2, a3, a4, rfl, hlt, a5⟩
    · obtain ⟨g3, r3⟩ := j2 y H3 hy
      have e3 := e2.grow g3
      refine hg _ H3 _ _ dd y _ _ e3 r3 go fun ρ2 σ2 hr e4 hl4 hs4 => ⟨?_, ?_⟩
      · refine List.ext_getElem? fun j => ?_
        rw [qKl, qKl, hl4, wipe_length]
        by_cases hj : j ∈ vs
        · rw [if_pos hj, if_pos hj]
        · rw [if_neg hj, if_neg hj, hs4 j (fun z => hj (hsl j z)), qKl, if_neg hj]
      · have mo4 : ∀ q, Mo ow σ2 q ↔ Mo ow σ q := fun q => by
          have : ∀ j, j ∈ ow → σ2[j]? = σ[j]? := fun j hj => by
            have hjv : j ∉ vs := fun z => hv j z hj
            rw [hs4 j (fun z => hjv (hsl j z)), qKl, if_neg hjv]
          exact ⟨fun ⟨j, hj, z⟩ => ⟨j, hj, by rw [← this j hj]; exact z⟩, fun ⟨j, hj, z⟩ => ⟨j, hj, by rw [this j hj]; exact z⟩⟩
        have hp3 : H3 p = some (.lst av) := g3.old _ _ hp okp.1
        refine ht _ H3 σ2 ρ2 _ _ _ e4 hr (fun b H4 hb g4 => ?_) (fun _ _ _ _ z _ _ => z)
        have e5 := e3.grow g4
        have hp4 : H4 p = some (.lst av) := g4.old _ _ hp3 okp.1
        have ra4 := Reps.goes (g3.trans g4).goes _ _ ra
        cases b with
        | false => exact ⟨_, ad, av, e5, hp4, ra4, (g2.trans g3).trans g4, hb⟩
        | true =>
          refine he _ H4 σ2 ρ2 _ _ _ (e4.grow g4) hb (fun d v H5 hd5 g5 r5 => ?_) (fun _ _ _ _ z _ _ => z)
          have hp5 : H5 p = some (.lst av) := g5.old _ _ hp4 okp.1
          have ra5 := Reps.goes g5.goes _ _ ra4
          refine ⟨av, hp5, by rw [ra5.length]; exact hd5.1, ?_⟩
          have e6 := (e5.grow g5).amb (o' := .lst (av ++ [v])) (.inr rfl) hp5 trivial
          refine ⟨_, ad ++ [d], av ++ [v], e6, upd_same, ?_, ?_, hd5.2⟩
          · refine Reps.goes (M := fun q => M3 q ∨ Mo ow σ q) (H := H5) (fun a u h nf n => ⟨by rw [upd_ne (fun z => n (.inl (.inr z)))]; exact h, n⟩) _ _ (ra5.append (.one ?_))
            exact Rep.goes (fun a u h nf n => ⟨h, fun z => n (z.elim .inl fun y => .inr ((mo4 a).mpr y))⟩) _ _ r5
          · have gg := ((g2.trans g3).trans g4).trans g5
            refine ⟨fun b u h n => ?_, fun f c hf hc => ?_, fun z => qNu (gg.tab z) hp5 trivial⟩
            · rw [upd_ne (fun z => by rw [z, np] at h; cases h)]
              exact gg.old b u h n
            · refine (gg.feed f c hf hc).keep (fun z => okp.1.1 (by rw [z]; exact hf)) (fun z => ?_)
              obtain ⟨_, _, _, _, _, _, _, _, e''⟩ := hc
              rw [← z, np] at e''; cases e''
  · left
    have : i = ds.length := by omega
    rw [this, List.drop_length] at go
    refine ⟨st (by omega), q _ p _ H2 go (g1.trans g2) n0 hp ⟨av, rfl, ?_⟩⟩
    refine Reps.goes (fun a u h nf n => ⟨h, fun z => n ?_⟩) _ _ ra
    rcases z with (z | z) | z
    · exact .inl (.inl z)
    · exact .inr z
    · exact .inl (.inr z)
end
end MR

set_option Elab.async false
set_option linter.all false
set_option maxRecDepth 100000
set_option maxHeartbeats 4000000
/-! MR: X(), X an own exception class without an __init__ of its own -/
namespace MR
open PySem PySem.Spec PyProof.Rows L2
theorem qAk4 {X : Cx} {C : Addr} {bmB : List Value} {B newId initId : String} {x : Str} {p pos : Pos} (F : ExcBaseFacts B newId initId bmB) (q : PySem.W.excIn X.K C bmB newId = true) (gC : X.mg x = some (.ref C))
    (kC : PySem.W.keepIn X.K (.ref C) = true) (r : Raises X (.ref C)) (hg : Gl X x) (hdb : (x == ("__debug__" : Str)) = false := by decide) :
    PMk X (.Call (.Name x p) [] [] pos) (fun σ H Q => Q (.ref C) none H) := by
  intro pins s σ H Q I h
  refine wpAny_Call_Name_kw (ld_glob I hg gC ?_ hdb)
  refine PySem.W.callWith_K0 I.kIn kC ?_
  show wpAny _ _ (call (.ref C) []) _ _ _
  obtain ⟨bm, N, nm, qn, bs, hdct, sn, sub, ab, col, dd, k0, k1, k2, k3, k5, mN, hC, hN, hni, T⟩ := exc_obj I.kIn q
  refine wpAny_call_exc_subT F T hC hN hni (fun h' e hm => ?_) (Nat.zero_le _)
  exact mk_of I hm r h (I.hok.gone hm.new)
end MR

set_option Elab.async false
set_option linter.all false
set_option maxRecDepth 100000
set_option maxHeartbeats 4000000
set_option exponentiation.threshold 20000
/-! FL: slices, operators by values -/
namespace MR
open PySem PySem.Spec PyProof.Rows L2
section
variable {K : PySem.W.Frag} {w : Wd} {ow ow' ow1 owb owx : List Nat} {H H' : Hp} {σ : L2.St} {ρ : Env} {E : L2.St → XK} {E1 : XK} {N : L2.Ends} {FD : FEnds} {F : Fd} {M : Addr → Prop}
/-! ### slices of lists -/
theorem Reps.cut {ds : List D} {vs : List V} {lo hi : Option Int} (r : Reps K F M H ds vs) : Reps K F M H (cutD ds lo hi) (cutV vs lo hi) := by
  unfold cutD cutV
  rw [r.length]
  exact (r.drop _).take _
def fSl (fe : FE) (fl fh : FO) : FE := fun ρ P X => fe ρ (fun d => fl ρ (fun l => fh ρ (fun h => ∃ ds, d = .lst ds ∧ P (.lst (cutD ds l h))) X) X) X
theorem qU1 {p : Addr} {ds : List D} {vs : List V} (np : H p = none) (r : Reps K F M H ds vs) : RepO K F (fun q => M q ∨ q = p) (upd H p (.lst vs)) (.lst ds) (.lst vs) := by
  refine ⟨vs, rfl, Reps.goes (fun a u h nf m => ?_) _ _ r⟩
  have ne : a ≠ p := fun z => by rw [z, np] at h; cases h
  exact ⟨by rw [upd_ne ne]; exact h, fun z => z.elim m ne⟩
theorem newer {p : Addr} (lv : Lv K F M H') (g : Gr K F H H') (np : H' p = none) : H p = none := by
  cases z : H p with
  | none => rfl
  | some o => rw [g.old p o z (lv.ok np).1] at np; cases np
theorem qArv {te : TE} {tl th : TO} {fe : FE} {fl fh : FO} (he : SE K Ta ow E te fe) (hl : SO K Ta ow E tl fl) (hh : SO K Ta ow E th fh) : SF K Ta ow E (tSl (rSlL K) te tl th) (fSl fe fl fh) := by
  intro w H σ ρ P X Q e h q x
  refine he w H σ ρ _ X _ e h (fun d v H1 hd g1 r => ?_) x
  have e1 := e.grow g1
  refine hl w H1 σ ρ _ X _ e1 hd (fun l H2 hd2 g2 => ?_) (x.gr g1)
  have e2 := e1.grow g2
  refine hh w H2 σ ρ _ X _ e2 hd2 (fun hh H3 hd3 g3 => ?_) (x.gr (g1.trans g2))
  have e3 := e2.grow g3
  obtain ⟨ds, rfl, p⟩ := hd3
  obtain ⟨a, vs, rfl, ok, ha, rs⟩ := Rep.goes (g2.trans g3).goes _ _ r
  refine ⟨a, vs, rfl, SqL.of ha, fun pp np => ?_⟩
  exact q _ pp _ _ p (((g1.trans g2).trans g3).trans (.new np)) (newer e3.lv ((g1.trans g2).trans g3) np) upd_same (qU1 np rs.cut)
/-! ### ints -/
def oI (C : Int → Int → Prop) (g : Int → Int → D) : O2 := fun a b P _ => match a, b with
  | .int i, .int j => C i j ∧ P (g i j)
  | _, _ => False
def oI0 (g : Int → Int → D) : O2 := fun a b P _ => match a, b with
  | .int i, .int j => P (g i j)
  | _, _ => False
theorem os_I {C : Int → Int → Prop} {g : Int → Int → V} {g' : Int → Int → D} (hg : ∀ i j (F : Fd) (M : Addr → Prop) (H : Hp), Rep K F M H (g' i j) (g i j)) : OpS K E1 (rI C g) (oI C g') := by
  intro F M H x y a b P X Q lv ra rb h q x'
  cases a <;> cases b <;> first | exact h.elim | skip
  exact ⟨_, _, ra, rb, h.1, q _ _ _ h.2 .refl (hg _ _ _ _ _)⟩
theorem qAjm {g : Int → Int → V} {g' : Int → Int → D} (hg : ∀ i j (F : Fd) (M : Addr → Prop) (H : Hp), Rep K F M H (g' i j) (g i j)) : OpS K E1 (rI0 g) (oI0 g') := by
  intro F M H x y a b P X Q lv ra rb h q x'
  cases a <;> cases b <;> first | exact h.elim | skip
  exact ⟨_, _, ra, rb, q _ _ _ h .refl (hg _ _ _ _ _)⟩
abbrev qKu : O2 := oI0 fun i j => .int (i + j)
abbrev qXp : O2 := oI0 fun i j => .int (i - j)
abbrev qQ6 : O2 := oI IntMulOk fun i j => .int (i * j)
abbrev oMod : O2 := oI (fun _ j => j ≠ 0) fun i j => .int (i.fmod j)
abbrev oPow : O2 := oI CPow fun i j => .int (i ^ j.toNat)
abbrev oLt : O2 := oI0 fun i j => .bl (decide (i < j))
abbrev oLe : O2 := oI0 fun i j => .bl (decide (i ≤ j))
abbrev oGt : O2 := oI0 fun i j => .bl (decide (j < i))
theorem qD1 : OpS K E1 qEf qKu := qAjm fun _ _ _ _ _ => rfl
theorem qJ2 : OpS K E1 qNi qXp := qAjm fun _ _ _ _ _ => rfl
theorem qEt : OpS K E1 qFp qQ6 := os_I fun _ _ _ _ _ => rfl
theorem qArf : OpS K E1 qZa oMod := os_I fun _ _ _ _ _ => rfl
theorem qArw : OpS K E1 qApg oPow := os_I fun _ _ _ _ _ => rfl
theorem qAfy : OpS K E1 rLt0 oLt := qAjm fun _ _ _ _ _ => rfl
theorem qAsb : OpS K E1 rLe0 oLe := qAjm fun _ _ _ _ _ => rfl
theorem qY2 : OpS K E1 rGt0 oGt := qAjm fun _ _ _ _ _ => rfl
def eqD : D → D → Option Bool
  | .int i, .int j => some (decide (i = j))
  | .str i, .str j => some (decide (i = j))
  | .bl i, .bl j => some (decide (i = j))
  | .non, .non => some true
  | .non, .int _ => some false
  | .int _, .non => some false
  | .non, .str _ => some false
  | .str _, .non => some false
  | .non, .bl _ => some false
  | .bl _, .non => some false
  | .int _, .str _ => some false
  | .str _, .int _ => some false
  | _, _ => none
theorem qAii {a b : D} {x y : V} {k : Bool} (ra : Rep K F M H a x) (rb : Rep K F M H b y) (h : eqD a b = some k) : scal x y = true ∧ decide (x = y) = k := by
  cases a <;> cases b <;> first | (cases h; done) | skip
  all_goals
    simp only [Rep] at ra rb
    subst ra rb
    simp only [eqD, Option.some.injEq] at h
    subst h
    refine ⟨rfl, ?_⟩
    simp
def oEq : O2 := fun a b P _ => ∃ k, eqD a b = some k ∧ P (.bl k)
def oNe : O2 := fun a b P _ => ∃ k, eqD a b = some k ∧ P (.bl !k)
theorem qQy : OpS K E1 rEq oEq := by
  intro F M H x y a b P X Q lv ra rb h q x'
  obtain ⟨k, hk, p⟩ := h
  obtain ⟨h1, h2⟩ := qAii ra rb hk
  exact ⟨h1, by rw [h2]; exact q _ _ _ p .refl rfl⟩
theorem qAbc : OpS K E1 rNe oNe := by
  intro F M H x y a b P X Q lv ra rb h q x'
  obtain ⟨k, hk, p⟩ := h
  obtain ⟨h1, h2⟩ := qAii ra rb hk
  exact ⟨h1, by rw [h2]; exact q _ _ _ p .refl rfl⟩
def isN : D → Bool
  | .non => true
  | _ => false
theorem qAni {a : D} {x : V} (r : Rep K F M H a x) : decide (x = .non) = isN a := by
  cases a with
  | non => rw [show x = .non from r]; rfl
  | bl b => rw [show x = .bl b from r]; rfl
  | int b => rw [show x = .int b from r]; rfl
  | str b => rw [show x = .str b from r]; rfl
  | rat q => obtain ⟨p, rfl, _⟩ := r; rfl
  | poly q => obtain ⟨p, _, _, _, _, rfl, _⟩ := r; rfl
  | lst q => obtain ⟨p, _, rfl, _⟩ := r; rfl
  | tup q => obtain ⟨p, _, rfl, _⟩ := r; rfl
  | ins C ns q => obtain ⟨p, _, _, rfl, _⟩ := r; rfl
  | feed => obtain ⟨p, _, rfl⟩ := r; rfl
  | exc => obtain ⟨p, rfl⟩ := r; rfl
  | adr p => rw [show x = .ref p from r]; rfl
  | scr ns => obtain ⟨a, rfl, _⟩ := r; rfl
  | dct ks q => obtain ⟨p, _, rfl, _⟩ := r; rfl
  | exn C ns q => obtain ⟨p, _, _, rfl, _⟩ := r; rfl
def qRf : O2 := fun a b P _ => b = .non ∧ P (.bl (isN a))
def qJc : O2 := fun a b P _ => b = .non ∧ P (.bl (!isN a))
theorem qH0 : OpS K E1 qJ0 qRf := by
  intro F M H x y a b P X Q lv ra rb h q x'
  obtain ⟨rfl, p⟩ := h
  exact ⟨rb, by rw [qAni ra]; exact q _ _ _ p .refl rfl⟩
theorem qOv : OpS K E1 qK4 qJc := by
  intro F M H x y a b P X Q lv ra rb h q x'
  obtain ⟨rfl, p⟩ := h
  exact ⟨rb, by rw [qAni ra]; exact q _ _ _ p .refl rfl⟩
def qQ7 : O1 := fun a P _ => match a with
  | .int i => P (.int (-i))
  | _ => False
theorem qK0 : UnS K E1 qO2 qQ7 := by
  intro F M H x a P X Q lv ra h q x'
  cases a <;> first | exact h.elim | skip
  exact ⟨_, ra, q _ _ _ h .refl rfl⟩
/-! ### subscripts -/
theorem qAz : OpS K E1 (rIxL K) (fun a b P X => (∃ ds, a = .lst ds) ∧ oIx a b P X) := by
  intro F M H x y a b P X Q lv ra rb h q x'
  obtain ⟨⟨_, rfl⟩, ds, n, d, hl, rfl, ha, p⟩ := h
  rcases hl with z | z <;> cases z
  obtain ⟨p', vs, rfl, ok, hp, rs⟩ := ra
  obtain ⟨v, h1, h2⟩ := qAbp rs ha
  exact ⟨p', vs, n, v, rfl, rb, SqL.of hp, h1, q _ _ _ p .refl h2⟩
theorem qDk : OpS K E1 (rIxT K) (fun a b P X => (∃ ds, a = .tup ds) ∧ oIx a b P X) := by
  intro F M H x y a b P X Q lv ra rb h q x'
  obtain ⟨⟨_, rfl⟩, ds, n, d, hl, rfl, ha, p⟩ := h
  rcases hl with z | z <;> cases z
  obtain ⟨p', vs, rfl, ok, hp, rs⟩ := ra
  obtain ⟨v, h1, h2⟩ := qAbp rs ha
  exact ⟨p', vs, n, v, rfl, rb, SqT.of hp, h1, q _ _ _ p .refl h2⟩
theorem qAjb : OpS K E1 (rIxA K) oIx := by
  intro F M H x y a b P X Q lv ra rb h q x'
  obtain ⟨ds, n, d, hl, hb, ha, p⟩ := h
  rcases hl with rfl | rfl
  · exact .inl (qAz (E1 := E1) F M H x y _ _ P X Q lv ra rb ⟨⟨_, rfl⟩, ds, n, d, .inl rfl, hb, ha, p⟩ q x')
  · exact .inr (qDk (E1 := E1) F M H x y _ _ P X Q lv ra rb ⟨⟨_, rfl⟩, ds, n, d, .inr rfl, hb, ha, p⟩ q x')
/-! ### built-ins -/
def oAbs : OL := fun as P _ => match as with
  | [.int i] => P (.int (i.natAbs : Nat))
  | _ => False
theorem qMr {ds : D} {vs : List V} (r : Reps K F M H [ds] vs) : ∃ v, vs = [v] ∧ Rep K F M H ds v := by
  obtain ⟨v, us, rfl, h, z⟩ := r
  rw [show us = [] from z]
  exact ⟨v, rfl, h⟩
theorem qArj {a b : D} {vs : List V} (r : Reps K F M H [a, b] vs) : ∃ v u, vs = [v, u] ∧ Rep K F M H a v ∧ Rep K F M H b u := by
  obtain ⟨v, us, rfl, h, z⟩ := r
  obtain ⟨u, rfl, h2⟩ := qMr z
  exact ⟨v, u, rfl, h, h2⟩
def oMax : OL := fun as P _ => match as with
  | [.int i, .int j] => P (.int (max i j))
  | _ => False
theorem qAns : LsS K E1 qAlm oMax := by
  intro F M H xs as P X Q lv ra h q x'
  match as, h with
  | [.int i, .int j], h =>
    obtain ⟨v, u, rfl, r, r2⟩ := qArj ra
    refine ⟨i, j, by rw [show v = .int i from r, show u = .int j from r2], q (.int (max i j)) _ _ h .refl ?_⟩
    show V.int _ = V.int _
    congr 1
    split <;> omega
def oMin : OL := fun as P _ => match as with
  | [.int i, .int j] => P (.int (min i j))
  | _ => False
def qXq : OL := fun as P _ => match as with
  | [.int i] => P (.int i)
  | [.bl b] => P (.int (if b then 1 else 0))
  | _ => False
theorem qAdm : LsS K E1 qTi qXq := by
  intro F M H xs as P X Q lv ra h q x'
  match as, h with
  | [.int i], h =>
    obtain ⟨v, rfl, r⟩ := qMr ra
    exact .inl ⟨i, by rw [show v = .int i from r], q _ _ _ h .refl rfl⟩
  | [.bl i], h =>
    obtain ⟨v, rfl, r⟩ := qMr ra
    exact .inr ⟨i, by rw [show v = .bl i from r], q _ _ _ h .refl rfl⟩
def qIx : OL := fun as P _ => match as with
  | [.lst ds] => P (.int (ds.length : Nat))
  | [.tup ds] => P (.int (ds.length : Nat))
  | [.str x] => x.length ≤ sizeLine ∧ P (.int (x.length : Nat))
  | _ => False
theorem qD0 : LsS K E1 (qFq K) qIx := by
  intro F M H xs as P X Q lv ra h q x'
  match as, h with
  | [.lst ds], h =>
    obtain ⟨v, rfl, r⟩ := qMr ra
    obtain ⟨p, vs, rfl, ok, hp, rs⟩ := r
    exact ⟨.ref p, ds.length, rfl, .inl ⟨vs, SqL.of hp, rs.length.symm⟩, q _ _ _ h .refl rfl⟩
  | [.tup ds], h =>
    obtain ⟨v, rfl, r⟩ := qMr ra
    obtain ⟨p, vs, rfl, ok, hp, rs⟩ := r
    exact ⟨.ref p, ds.length, rfl, .inr ⟨vs, SqT.of hp, rs.length.symm⟩, q _ _ _ h .refl rfl⟩
  | [.str z], h =>
    obtain ⟨v, rfl, r⟩ := qMr ra
    exact ⟨v, z.length, rfl, by rw [show v = .str z from r]; exact ⟨h.1, rfl⟩, q _ _ _ h.2 .refl rfl⟩
def qQh : OL := fun as P _ => match as with
  | [.lst ds] => P (.lst ds)
  | [.tup ds] => P (.lst ds)
  | _ => False
theorem qYk {ta : TA} {fa : FA} (ha : SA K Ta ow E ta fa) : SF K Ta ow E (tCB (qUv K) ta) (fLs qQh fa) := by
  intro w H σ ρ P X Q e h q x
  refine ha w H σ ρ _ X _ e h (fun as vs H1 hd g r => ?_) x
  have e1 := e.grow g
  match as, hd with
  | [.lst ds], hd =>
    obtain ⟨v, rfl, r1⟩ := qMr r
    obtain ⟨p, vs, rfl, ok, hp, rs⟩ := r1
    exact ⟨p, vs, rfl, .inl (SqL.of hp), fun pp np => q _ pp _ _ hd (g.trans (.new np)) (newer e1.lv g np) upd_same (qU1 np rs)⟩
  | [.tup ds], hd =>
    obtain ⟨v, rfl, r1⟩ := qMr r
    obtain ⟨p, vs, rfl, ok, hp, rs⟩ := r1
    exact ⟨p, vs, rfl, .inr (SqT.of hp), fun pp np => q _ pp _ _ hd (g.trans (.new np)) (newer e1.lv g np) upd_same (qU1 np rs)⟩
abbrev qAb5 (K : PySem.W.Frag) : List V → Hp → VK → Prop := fun xs H Q => ∃ p ys, xs = [.ref p] ∧ ((SqL K H p ys ∧ ∀ l, H l = none → Q (.ref l) (upd H l (.tup ys))) ∨ (SqT K H p ys ∧ Q (.ref p) H))
def qJp : OL := fun as P _ => match as with
  | [.lst ds] => P (.tup ds)
  | [.tup ds] => P (.tup ds)
  | _ => False
theorem qAmw : LsS K E1 (qAb5 K) qJp := by
  intro F M H xs as P X Q lv ra h q x'
  match as, h with
  | [.lst ds], h =>
    obtain ⟨v, rfl, r⟩ := qMr ra
    obtain ⟨p, vs, rfl, ok, hp, rs⟩ := r
    exact ⟨p, vs, rfl, .inl ⟨SqL.of hp, fun pp np => q _ _ _ h (.new np) (qRg lv np rs)⟩⟩
  | [.tup ds], h =>
    obtain ⟨v, rfl, r⟩ := qMr ra
    obtain ⟨p, vs, rfl, ok, hp, rs⟩ := r
    exact ⟨p, vs, rfl, .inr ⟨SqT.of hp, q _ _ _ h .refl ⟨p, vs, rfl, ok, hp, rs⟩⟩⟩
def oCat : O2 := fun a b P _ => match a, b with
  | .lst x, .lst y => x.length + y.length ≤ sizeLine ∧ P (.lst (x ++ y))
  | _, _ => False
theorem qAr5 : OpS K E1 rCat oCat := by
  intro F M H x y a b P X Q lv ra rb h q x'
  cases a <;> cases b <;> first | exact h.elim | skip
  obtain ⟨p, vs, rfl, ok, hp, rs⟩ := ra
  obtain ⟨p2, vs2, rfl, ok2, hp2, rs2⟩ := rb
  exact ⟨p, p2, vs, vs2, rfl, rfl, hp, hp2, by rw [rs.length, rs2.length]; exact h.1, fun pp np => q _ _ _ h.2 (.new np) (qAem lv np (rs.append rs2))⟩
theorem Reps.rep {ds : List D} {vs : List V} (r : Reps K F M H ds vs) : ∀ n : Nat, Reps K F M H (List.replicate n ds).flatten (List.replicate n vs).flatten
  | 0 => rfl
  | n + 1 => by
    rw [List.replicate_succ, List.replicate_succ, List.flatten_cons, List.flatten_cons]
    exact r.append (Reps.rep r n)
/-! ### isinstance -/
inductive Cl where
  | ty (n : String) | own (C : Str)
def Cl.v (K : PySem.W.Frag) : Cl → V
  | .ty n => .ty n
  | .own C => .ref (He.ga K C)
def Cl.u (K : PySem.W.Frag) : Cl → Value
  | .ty n => .type n
  | .own C => .ref (He.ga K C)
def tyN : D → Option String
  | .non => some "NoneType"
  | .bl _ => some "bool"
  | .int _ => some "int"
  | .str _ => some "str"
  | .lst _ => some "list"
  | .tup _ => some "tuple"
  | .dct _ _ => some "dict"
  | _ => none
def subN (a b : String) : Bool := a == b || (a == "bool" && b == "int")
def isD (cs : List Str) (c : Cl) (d : D) : Option Bool :=
  match tyN d with
  | some t => (match c with
    | .ty n => if n ∈ ["int", "bool", "str", "list", "tuple"] then some (subN t n) else none
    | .own C => if C ∈ cs then some false else none)
  | none => (match qN9 d with
    | some C => if C ∈ cs then (match c with
      | .ty n => if n ∈ ["int", "bool", "str", "list", "tuple"] then some false else none
      | .own C' => if C' ∈ cs then some (decide (C = C')) else none) else none
    | none => none)
/-- what the written part says of the own classes cs -/
structure KT (K : PySem.W.Frag) (cs : List Str) : Prop where
  own : ∀ C, C ∈ cs → OwnC K (He.ga K C)
  ob : ∀ C, C ∈ cs → ∀ n, n ∈ ["int", "bool", "str", "list", "tuple"] → PySem.W.kitOne K (.ref (He.ga K C)) (.type n) = some false
  bo : ∀ C, C ∈ cs → ∀ n, n ∈ ["NoneType", "int", "bool", "str", "list", "tuple", "dict"] → PySem.W.kitOne K (.type n) (.ref (He.ga K C)) = some false
  oo : ∀ C, C ∈ cs → ∀ C', C' ∈ cs → PySem.W.kitOne K (.ref (He.ga K C)) (.ref (He.ga K C')) = some (decide (C = C'))
theorem qAnx {d : D} {v : V} {t : String} (r : Rep K F M H d v) (h : tyN d = some t) : TyX K H v (.type t) ∧ t ∈ ["NoneType", "int", "bool", "str", "list", "tuple", "dict"] := by
  cases d <;> first | (cases h; done) | skip
  · cases h; rw [show v = .non from r]; exact ⟨.base .non, by simp⟩
  · cases h; rw [show v = _ from r]; exact ⟨.base (.bl _), by simp⟩
  · cases h; rw [show v = _ from r]; exact ⟨.base (.int _), by simp⟩
  · cases h; rw [show v = _ from r]; exact ⟨.base (.str _), by simp⟩
  · cases h; obtain ⟨p, vs, rfl, _, e, _⟩ := r; exact ⟨.base (.lst e), by simp⟩
  · cases h; obtain ⟨p, vs, rfl, _, e, _⟩ := r; exact ⟨.base (.tup e), by simp⟩
  · cases h; obtain ⟨p, gs, rfl, _, e, _⟩ := r; exact ⟨.base (.dK e), by simp⟩
theorem qAka {cs : List Str} {d : D} {v : V} {C : Str} (T : KT K cs) (r : Rep K F M H d v) (h : qN9 d = some C) (hC : C ∈ cs) : TyX K H v (.ref (He.ga K C)) := by
  cases d <;> first | (cases h; done) | skip
  · cases h; obtain ⟨p, rfl, _, dx, e⟩ := r; exact (T.own _ hC).ty e
  · cases h; obtain ⟨p, dx, t, l, vs, rfl, _, e, _⟩ := r; exact (T.own _ hC).ty e
  · cases h; obtain ⟨p, dx, gs, rfl, _, e, _⟩ := r; exact (T.own _ hC).ty e
theorem qAnb {a b : String} (ha : a ∈ ["NoneType", "int", "bool", "str", "list", "tuple", "dict"]) (hb : b ∈ ["int", "bool", "str", "list", "tuple"]) : PySem.W.kitOne K (.type a) (.type b) = some (subN a b) := by
  simp only [List.mem_cons, List.not_mem_nil, or_false] at ha hb
  rcases ha with rfl | rfl | rfl | rfl | rfl | rfl | rfl <;> rcases hb with rfl | rfl | rfl | rfl | rfl <;> exact kit_ty (by decide +kernel)
theorem qAm9 {cs : List Str} {c : Cl} {d : D} {v : V} {b : Bool} (T : KT K cs) (r : Rep K F M H d v) (h : isD cs c d = some b) : ∃ t, TyX K H v t ∧ PySem.W.kitOne K t (c.u K) = some b := by
  unfold isD at h
  cases ht : tyN d with
  | some t =>
    rw [ht] at h
    obtain ⟨h1, h2⟩ := qAnx r ht
    cases c with
    | ty n =>
      dsimp only at h
      split at h
      · rename_i hn
        cases h
        exact ⟨_, h1, qAnb h2 hn⟩
      · cases h
    | own C =>
      dsimp only at h
      split at h
      · rename_i hn
        cases h
        exact ⟨_, h1, T.bo C hn t h2⟩
      · cases h
  | none =>
    rw [ht] at h
    dsimp only at h
    cases hc : qN9 d with
    | none => rw [hc] at h; cases h
    | some C =>
      rw [hc] at h
      dsimp only at h
      split at h
      · rename_i hC
        have h1 := qAka T r hc hC
        cases c with
        | ty n =>
          dsimp only at h
          split at h
          · rename_i hn
            cases h
            exact ⟨_, h1, T.ob C hC n hn⟩
          · cases h
        | own C' =>
          dsimp only at h
          split at h
          · rename_i hn
            cases h
            exact ⟨_, h1, T.oo C hC C' hn⟩
          · cases h
      · cases h
def qUl (cs : List Str) (c : Cl) (fe : FE) : FE := fun ρ P X => fe ρ (fun d => ∃ b, isD cs c d = some b ∧ P (.bl b)) X
theorem qAo0 (c : Cl) : ClsV (c.v K) (c.u K) := by
  cases c with
  | ty n => exact .ty n
  | own C => exact .own _
theorem qK6 {cs : List Str} {c : Cl} {te : TE} {fe : FE} (T : KT K cs) (he : SE K Ta ow E te fe) : SE K Ta ow E (tCB (rIsi K) (tCons te (tCons (tC (c.v K)) tNil))) (qUl cs c fe) := by
  intro w H σ ρ P X Q e h q x
  refine he w H σ ρ _ X _ e h (fun d v H1 hd g r => ?_) x
  obtain ⟨b, hb, p⟩ := hd
  obtain ⟨t, h1, h2⟩ := qAm9 T r hb
  exact ⟨v, _, t, c.u K, b, rfl, qAo0 c, h1, h2, q _ _ _ p g rfl⟩
/-- isinstance(e, (list, tuple)) -/
def qQo (cs : List Str) (fe : FE) : FE := fun ρ P X => fe ρ (fun d => ∃ b b', isD cs (.ty "list") d = some b ∧ isD cs (.ty "tuple") d = some b' ∧ P (.bl (b || b'))) X
theorem qAg1 {cs : List Str} {c c' : Cl} {d : D} {v : V} {b b' : Bool} (T : KT K cs) (r : Rep K F M H d v) (h : isD cs c d = some b) (h' : isD cs c' d = some b') : ∃ t, TyX K H v t ∧ PySem.W.kitOne K t (c.u K) = some b ∧ PySem.W.kitOne K t (c'.u K) = some b' := by
  have key : ∀ {c : Cl} {b : Bool}, isD cs c d = some b → (∃ t, tyN d = some t) ∨ ∃ C, C ∈ cs ∧ qN9 d = some C := fun {c b} h => by
    unfold isD at h
    cases ht : tyN d with
    | some t => exact .inl ⟨t, rfl⟩
    | none =>
      rw [ht] at h
      dsimp only at h
      cases hc : qN9 d with
      | none => rw [hc] at h; cases h
      | some C =>
        rw [hc] at h
        dsimp only at h
        split at h
        · rename_i hC; exact .inr ⟨C, hC, rfl⟩
        · cases h
  have uniq : ∃ t, TyX K H v t ∧ ∀ {c : Cl} {b : Bool}, isD cs c d = some b → PySem.W.kitOne K t (c.u K) = some b := by
    rcases key h with ⟨t, ht⟩ | ⟨C, hC, hc⟩
    · obtain ⟨h1, h2⟩ := qAnx r ht
      refine ⟨_, h1, fun {c b} h => ?_⟩
      unfold isD at h
      rw [ht] at h
      cases c with
      | ty n =>
        dsimp only at h
        split at h
        · rename_i hn; cases h; exact qAnb h2 hn
        · cases h
      | own C =>
        dsimp only at h
        split at h
        · rename_i hn; cases h; exact T.bo C hn t h2
        · cases h
    · refine ⟨_, qAka T r hc hC, fun {c b} h => ?_⟩
      have ht : tyN d = none := by cases d <;> first | rfl | cases hc
      unfold isD at h
      rw [ht, hc] at h
      dsimp only at h
      rw [if_pos hC] at h
      cases c with
      | ty n =>
        dsimp only at h
        split at h
        · rename_i hn; cases h; exact T.ob C hC n hn
        · cases h
      | own C' =>
        dsimp only at h
        split at h
        · rename_i hn; cases h; exact T.oo C hC C' hn
        · cases h
  obtain ⟨t, h1, h2⟩ := uniq
  exact ⟨t, h1, h2 h, h2 h'⟩
theorem qAhn {cs : List Str} {te : TE} {fe : FE} (T : KT K cs) (he : SE K Ta ow E te fe) : SE K Ta ow E (tCB (rIsiT K) (tCons te (tCons (tTup (tCons (tC (.ty "list")) (tCons (tC (.ty "tuple")) tNil))) tNil))) (qQo cs fe) := by
  intro w H σ ρ P X Q e h q x
  refine he w H σ ρ _ X _ e h (fun d v H1 hd g r => ?_) x
  obtain ⟨b, b', hb, hb', p⟩ := hd
  refine ⟨by decide, fun tp np => ?_⟩
  have g2 := g.trans (Gr.new (K := K) (F := w.F) (o := .tup [.ty "list", .ty "tuple"]) np)
  obtain ⟨t, h1, h2, h3⟩ := qAg1 T (Rep.goes (Gr.new (K := K) np).goes _ _ r) hb hb'
  refine ⟨v, tp, [.ty "list", .ty "tuple"], t, [.type "list", .type "tuple"], b || b', rfl, upd_same, .cons (.ty _) (.cons (.ty _) .nil), h1, ?_, q _ _ _ p g2 rfl⟩
  have h2' : PySem.W.kitOne K t (.type "list") = some b := h2
  have h3' : PySem.W.kitOne K t (.type "tuple") = some b' := h3
  simp only [PySem.W.kitAny, h2', h3']
  cases b <;> cases b' <;> rfl
end
end MR

set_option Elab.async false
set_option linter.all false
set_option maxRecDepth 100000
set_option maxHeartbeats 4000000
set_option exponentiation.threshold 20000
/-! FL: own operators, raise, try, whole defs -/
namespace MR
open PySem PySem.Spec PyProof.Rows L2
section
variable {K : PySem.W.Frag} {w : Wd} {ow ow' ow1 owb owx : List Nat} {H H' : Hp} {σ : L2.St} {ρ : Env} {E : L2.St → XK} {E1 : XK} {N : L2.Ends} {FD : FEnds} {F : Fd} {M : Addr → Prop}
theorem qLv {d : D} {v : V} {C : Str} (r : Rep K F M H d v) (h : qN9 d = some C) : ∃ p dx fs, v = .ref p ∧ H p = some (.ins (He.ga K C) dx fs) := by
  cases d <;> first | (cases h; done) | skip
  · cases h; obtain ⟨p, rfl, _, dx, e⟩ := r; exact ⟨p, dx, _, rfl, e⟩
  · cases h; obtain ⟨p, dx, t, l, vs, rfl, _, e, _⟩ := r; exact ⟨p, dx, _, rfl, e⟩
  · cases h; obtain ⟨p, dx, gs, rfl, _, e, _⟩ := r; exact ⟨p, dx, _, rfl, e⟩
def qAa2 : D → Prop
  | .int _ => True
  | _ => False
def oOwn (C : Str) (fsp : FSp) : O2 := fun a b P X => qN9 a = some C ∧ (qAa2 b ∨ qN9 b = some C) ∧ fsp [a, b] P X
def qBk (C : Str) (fsp : FSp) : O2 := fun a b P X => qN9 a = some C ∧ (qAa2 b ∨ qN9 b = some C) ∧ fsp [a, b] P X0
def oRfl (C : Str) (fsp : FSp) : O2 := fun a b P X => qAa2 a ∧ qN9 b = some C ∧ fsp [b, a] P X
def qLf (C : Str) (fsp : FSp) : O2 := fun a b P X => qAa2 a ∧ qN9 b = some C ∧ fsp [b, a] P X0
theorem qWw {b : D} {y : V} (h : qAa2 b) (r : Rep K F M H b y) : ∃ n, y = .int n := by
  cases b <;> first | exact h.elim | skip
  exact ⟨_, r⟩
theorem qAq8 {C : Str} {sp : Sp} {fsp : FSp} (L : Lift K sp fsp) : OpS K E1 (qIo (He.ga K C) sp E1) (oOwn C fsp) := by
  intro F M H x y a b P X Q lv ra rb h q x'
  obtain ⟨h1, h2, h3⟩ := h
  obtain ⟨p, dx, fs, rfl, e⟩ := qLv ra h1
  refine ⟨p, dx, fs, rfl, e, ?_, L _ _ _ _ ⟨F, M, [a, b], P, X, lv, .cons ra (.one rb), h3, q, x'⟩⟩
  rcases h2 with h2 | h2
  · exact .inl (qWw h2 rb)
  · obtain ⟨p', dx', fs', rfl, e'⟩ := qLv rb h2
    exact .inr ⟨p', dx', fs', rfl, e'⟩
theorem px0 : PostX K F H X0 E0 := fun x cls dd H' hx _ _ => hx
theorem qBe {C : Str} {sp : Sp} {fsp : FSp} (L : Lift K sp fsp) : OpS K E1 (qIo (He.ga K C) sp E0) (qBk C fsp) := fun F M H x y a b P X Q lv ra rb h q _ => qAq8 (E1 := E0) L F M H x y a b P X0 Q lv ra rb h q px0
theorem qAqg {C : Str} {sp : Sp} {fsp : FSp} (L : Lift K sp fsp) : OpS K E1 (qAb1 (He.ga K C) sp E1) (oRfl C fsp) := by
  intro F M H x y a b P X Q lv ra rb h q x'
  obtain ⟨h1, h2, h3⟩ := h
  obtain ⟨p, dx, fs, rfl, e⟩ := qLv rb h2
  obtain ⟨n, rfl⟩ := qWw h1 ra
  exact ⟨n, p, dx, fs, rfl, rfl, e, L _ _ _ _ ⟨F, M, [b, a], P, X, lv, .cons rb (.one ra), h3, q, x'⟩⟩
theorem qWv {C : Str} {sp : Sp} {fsp : FSp} (L : Lift K sp fsp) : OpS K E1 (qAb1 (He.ga K C) sp E0) (qLf C fsp) := fun F M H x y a b P X Q lv ra rb h q _ => qAqg (E1 := E0) L F M H x y a b P X0 Q lv ra rb h q px0
def qAbs (C : Str) (fsp : FSp) : O1 := fun a P X => qN9 a = some C ∧ fsp [a] P X0
theorem qAco {C : Str} {sp : Sp} {fsp : FSp} (L : Lift K sp fsp) : UnS K E1 (qAjc (He.ga K C) sp E0) (qAbs C fsp) := by
  intro F M H x a P X Q lv ra h q x'
  obtain ⟨h1, h3⟩ := h
  obtain ⟨p, dx, fs, rfl, e⟩ := qLv ra h1
  exact ⟨p, dx, fs, rfl, e, L _ _ _ _ ⟨F, M, [a], P, X0, lv, .one ra, h3, q, px0⟩⟩
def qAsu (C : Str) (fsp : FSp) : OL := fun as P X => ∃ a, as = [a] ∧ qN9 a = some C ∧ fsp [a] P X0
/-! ### a chain of two comparisons -/
def qNd (o o' : O2) (fa fb fc : FE) : FE := fun ρ P X => fa ρ (fun a => fb ρ (fun b => o a b (toB fun k => if k = true then fc ρ (fun c => o' b c P X) X else P (.bl false)) X) X) X
/-! ### raise -/
def qEq (C p : Str) (fe : FE) : FS := fun FD ρ => fe ρ (fun d => FD.ex ⟨C, [(p, d)]⟩ ρ) (fun x => FD.ex x ρ)
theorem qHd {C p : Str} {te : TE} {fe : FE} (hs : Sub owx ow) (he : SE K Ta ow E te fe) : SS K Ta ow ow' owb owx E (qEn (He.ga K C) p (fun cls d σ H => E σ cls d H) (tCons te tNil)) (qEq C p fe) := by
  intro w H σ ρ N FD e h k
  refine he w H σ ρ _ _ _ e h (fun d v H1 hd g r => ?_) (k.px e hs)
  refine ⟨v, rfl, fun a na => ?_⟩
  have e1 := e.grow g
  have g2 : Gr K w.F H1 (upd H1 a (.xd [(p, v)])) := .new na
  refine k.ex _ ρ σ _ _ _ hd ((e1.grow g2).free hs) ⟨rfl, .inr ⟨a, _, rfl, (e1.lv.ok na).1, upd_same, v, [], rfl, ?_, rfl⟩⟩
  exact Rep.goes (fun q o h nf m => ⟨h, fun z => z⟩) _ _ (Rep.goes g2.goes _ _ r)
def qOl (C : Addr) (W : WX) : TS := fun _ σ H => W (.ref C) none σ H
def qFm (C : Str) : FS := fun FD ρ => FD.ex ⟨C, []⟩ ρ
theorem qZh {C : Str} (hs : Sub owx ow) : SS K Ta ow ow' owb owx E (qOl (He.ga K C) (fun cls d σ H => E σ cls d H)) (qFm C) := fun w H σ ρ N FD e h k => k.ex _ ρ σ H _ _ h (e.free hs) ⟨rfl, .inl ⟨rfl, rfl⟩⟩
/-! ### try -/
/-- an expression of an except suite; the error at a, named by slot i -/
def SEH (K : PySem.W.Frag) (Ta : List (Addr × Str)) (ow : List Nat) (i : Nat) (a : Addr) (cls : Value) (dd : Option Addr) (x : Exn) (ta : TE) (fa : FE) : Prop :=
  ∀ (w : Wd) (H : Hp) (σ : L2.St) (ρ : Env) (P : D → Prop) (Q : VK), REnv K Ta w ow H σ ρ → RepX K w.F H cls dd x → σ[i]? = some (some (.ref a)) → fa ρ P X0 → Post K w.F (w.Mx ow σ) H P Q → ta σ H Q
theorem SE.sh {i : Nat} {a : Addr} {cls : Value} {dd : Option Addr} {x : Exn} {ta : TE} {fa : FE} (h : SE K Ta ow (fun _ => E0) ta fa) : SEH K Ta ow i a cls dd x ta fa := fun w H σ ρ P Q e _ _ hf q => h w H σ ρ P X0 Q e hf q px0
/-! ### whole defs -/
def qA0 (n : Nat) (ds : List D) : Env := ds.map some ++ List.replicate (n - ds.length) none
def qFj (P : D → Prop) (X : XP) : FEnds := ⟨fun _ => P .non, P, fun _ => False, fun _ => False, fun x _ => X x, P⟩
/-- the ends of a def that hands back new objects only -/
def topN (P : D → Prop) (X : XP) : FEnds := ⟨fun _ => False, fun _ => False, fun _ => False, fun _ => False, fun x _ => X x, P⟩
theorem qVo {R : D → V → Prop} : ∀ {ds : List D} {vs : List V} (k i : Nat), Reps K F M H ds vs → (∀ d v, Rep K F M H d v → R d v) → Sl R (ds.map some ++ List.replicate k none)[i]? (vs.map some ++ List.replicate k none)[i]?
  | [], vs, k, i, r, h => by
    rw [show vs = [] from r]
    simp only [List.map_nil, List.nil_append]
    rw [List.getElem?_replicate, List.getElem?_replicate]
    split
    · trivial
    · trivial
  | d :: ds, vs, k, i, r, h => by
    obtain ⟨v, us, rfl, r1, r2⟩ := r
    cases i with
    | zero => exact h d v r1
    | succ i =>
      simp only [List.map_cons, List.cons_append, List.getElem?_cons_succ]
      exact qVo k i r2 h
theorem New.rep {H0 : Hp} {d : D} {v : V} (lv : Lv K F M H0) (h : New K F M H0 H d v) : Rep K F M H d v := by
  obtain ⟨p, o, rfl, h0, hn, h1, h2⟩ := h
  have ok : Ok F M p := ⟨hn, fun m => by obtain ⟨u, z⟩ := lv.m p m; rw [h0] at z; cases z⟩
  exact RepO.rep (h2.goes fun q u hq _ m => ⟨hq, fun z => m (.inl z)⟩) ok h1
theorem qSt {names : List Str} {n : Nat} {ds : List D} {vs : List V} (lv : Lv K F M H) (r : Reps K F M H ds vs) (hn : names.length = n) : REnv K F.T ⟨F, M, H⟩ [] H (start names vs) (qA0 n ds) := by
  refine ⟨.refl, lv.m, lv.nf, fun i _ => ?_, fun i hi => (nomatch hi), fun i hi => (nomatch hi), fun f hf => ?_, lv.t, rfl⟩
  · unfold L2.start qA0
    rw [hn, r.length]
    exact qVo _ _ r fun d v h => Rep.goes (fun p o h _ m => ⟨h, fun z => m (z.elim id fun ⟨_, y, _⟩ => (nomatch y))⟩) _ _ h
  · obtain ⟨c, h1, h2⟩ := lv.f f hf
    exact ⟨c, h1, fun z => h2 (z.elim id fun ⟨_, y, _⟩ => (nomatch y))⟩
theorem qU4 {names : List Str} {n : Nat} {fsp : FSp} {t : XK → TS} {fb : FS} (hn : names.length = n) (h : ∀ {Ta : List (Addr × Str)} (E : XK), SS K Ta [] [] [] [] (fun _ => E) (t E) fb) (pure : ∀ ds P X, fsp ds P X → fb (qFj P X) (qA0 n ds)) (vs : List V) (H : Hp) (Q : VK) (E : XK) (l : lift K fsp vs H Q E) :
    t E { nx := fun _ H' => Q .non H', rt := Q } (start names vs) H := by
  obtain ⟨F, M, ds, P, X, lv, r, hs, q, x⟩ := l
  refine h E ⟨F, M, H⟩ H _ _ _ _ (qSt lv r hn) (pure ds P X hs) ⟨fun ρ σ H' hp e => q _ _ _ hp e.gr rfl, fun d v H' hd g r => q d v H' hd g r, fun _ _ _ z => z.elim, fun _ _ _ z => z.elim, fun x' ρ σ H' cls dd hx e r => x x' cls dd H' hx e.gr r, fun d v H' hd g r => q d v H' hd g (New.rep lv r)⟩
theorem qCx {names : List Str} {n : Nat} {fsp : FSp} {t : TS} {fb : FS} (hn : names.length = n) (h : ∀ {Ta : List (Addr × Str)}, SS K Ta [] [] [] [] (fun _ => E0) t fb) (pure : ∀ ds P X, fsp ds P X → fb (qFj P X0) (qA0 n ds)) (vs : List V) (H : Hp) (Q : VK) (E : XK) (l : lift K fsp vs H Q E) :
    t { nx := fun _ H' => Q .non H', rt := Q } (start names vs) H := by
  obtain ⟨F, M, ds, P, X, lv, r, hs, q, x⟩ := l
  refine h ⟨F, M, H⟩ H _ _ _ _ (qSt lv r hn) (pure ds P X hs) ⟨fun ρ σ H' hp e => q _ _ _ hp e.gr rfl, fun d v H' hd g r => q d v H' hd g r, fun _ _ _ z => z.elim, fun _ _ _ z => z.elim, fun x' ρ σ H' cls dd hx e r => hx.elim, fun d v H' hd g r => q d v H' hd g (New.rep lv r)⟩
/-- a promise of a def that hands back a new object -/
def qNa (K : PySem.W.Frag) (fsp : FSp) : Sp := fun vs H Q E => ∃ (F : Fd) (M : Addr → Prop) (ds : List D) (P : D → Prop) (X : XP), Lv K F M H ∧ Reps K F M H ds vs ∧ fsp ds P X ∧ (∀ d v H', P d → Gr K F H H' → New K F M H H' d v → Q v H') ∧ PostX K F H X E
theorem qAib {names : List Str} {n : Nat} {fsp : FSp} {t : TS} {fb : FS} (hn : names.length = n) (h : ∀ {Ta : List (Addr × Str)}, SS K Ta [] [] [] [] (fun _ => E0) t fb) (pure : ∀ ds P X, fsp ds P X → fb (topN P X0) (qA0 n ds)) (vs : List V) (H : Hp) (Q : VK) (E : XK) (l : qNa K fsp vs H Q E) :
    t { nx := fun _ H' => Q .non H', rt := Q } (start names vs) H := by
  obtain ⟨F, M, ds, P, X, lv, r, hs, q, x⟩ := l
  refine h ⟨F, M, H⟩ H _ _ _ _ (qSt lv r hn) (pure ds P X hs) ⟨fun _ _ _ z => z.elim, fun _ _ _ z => z.elim, fun _ _ _ z => z.elim, fun _ _ _ z => z.elim, fun x' ρ σ H' cls dd hx e r => hx.elim, fun d v H' hd g r => q d v H' hd g r⟩
/-! ### Ratio(..) -/
theorem qAcp : MkL K (CR K) (qA8 K) (fun ds P X => ∃ a b : Int, ds = [.int a, .int b] ∧ b ≠ 0 ∧ Sml b ∧ P (.rat (Rat.divInt a b))) := by
  intro F M H ds vs P X Q E x dx lv r h q px nx nd ne
  obtain ⟨a, b, rfl, hb, h9, p⟩ := h
  have := Reps.ints (ns := [a, b]) r
  subst this
  refine qAqx nx nd hb h9 fun H' s R => q _ _ _ p (.same s) ⟨x, rfl, lv.ok nx, R⟩
/-! ### fields of an object in the making -/
theorem qN3 {te : TE} {fe : FE} {f : Str} {x C dx : Addr} {gs : List (Str × V)} {P : D → Prop} {X : XP} (he : SE K Ta [] E te fe) (e : REnv K Ta w [] H σ ρ) (m : w.M x) (hx : H x = some (.ins C dx gs)) (hσ : σ[0]? = some (some (.ref x))) (cl : Cls K C) (na : NoAttr K C f) (hl : gs.length < 1000) (hf : fe ρ P X) (px : PostX K w.F H X (E σ))
    (k : ∀ (d : D) (v : V) (H1 : Hp) (w' : Wd), P d → Gr K w.F H H1 → w'.F = w.F → w'.M = w.M → Rep K w.F w.M (upd H1 x (.ins C dx (putF f v gs))) d v → (∀ d' v', Rep K w.F w.M H d' v' → Rep K w.F w.M (upd H1 x (.ins C dx (putF f v gs))) d' v') → REnv K Ta w' [] (upd H1 x (.ins C dx (putF f v gs))) σ ρ → N.nx σ (upd H1 x (.ins C dx (putF f v gs)))) :
    sFld K (tVar 0) te f N σ H := by
  refine he w H σ ρ P X _ e hf (fun d v H1 hd g r => ?_) px
  have hx1 : H1 x = some (.ins C dx gs) := g.old _ _ hx (e.nf x m)
  refine ⟨_, hσ, x, C, dx, gs, rfl, hx1, cl, na, hl, ?_⟩
  have e1 := (e.grow g).amb (o' := .ins C dx (putF f v gs)) m hx1 trivial
  have go : Goes w.F w.M H1 w.M (upd H1 x (.ins C dx (putF f v gs))) := fun q u h nf n => ⟨by rw [upd_ne (fun z => n (by rw [z]; exact m))]; exact h, n⟩
  have r' : Rep K w.F w.M H1 d v := Rep.goes (fun q u h _ n => ⟨h, fun z => n (.inl z)⟩) _ _ r
  exact k d v H1 (w.re (Mo [] σ) (upd H1 x (.ins C dx (putF f v gs)))) hd g rfl rfl (Rep.goes go _ _ r') (fun d' v' r0 => Rep.goes go _ _ (Rep.goes g.goes _ _ r0)) e1
end
end MR

set_option Elab.async false
set_option linter.all false
set_option maxRecDepth 100000
set_option maxHeartbeats 4000000
set_option exponentiation.threshold 20000
/-! FL: the draws -/
namespace MR
open PySem PySem.Spec PyProof.Rows L2
def qAps (K : PySem.W.Frag) (H : Hp) (f c : Addr) : Prop := ∃ ns p b l n s, FeedAt K H f c ns p b l n s
def qAke (K : PySem.W.Frag) : Sp := fun vs H Q _ => ∃ (f : Addr) (z : Int) (c : Addr), vs = [.ref f, .int z] ∧ qAps K H f c ∧ 0 < z ∧ Sml z ∧ ∀ (d : Int) (H' : Hp), 0 ≤ d → d < z → qAps K H' f c → Keep f H H' → Q (.int d) H'
theorem qJ9 {K : PySem.W.Frag} {H H0 : Hp} {f c : Addr} {ns : List Int} {p b l n s z : Int} {v2 v3 v4 : Option V} {D : L2.Ends} (F : FeedAt K H f c ns p b l n s) (hz : 0 < z) (hz9 : Sml z) (kp : Keep f H0 H)
    (k : ∀ (d : Int) (H' : Hp), 0 ≤ d → d < z → qAps K H' f c → Keep f H0 H' → D.rt (.int d) H') : qAi1 K D [some (.ref f), some (.int z), v2, v3, v4] H := by
  have ob := F.ob
  refine ⟨_, rfl, f, _, _, _, rfl, rfl, SqL.of ob, rfl, _, _, rfl, rfl, _, rfl, ?_⟩
  refine ite2 (fun c1 => ?_) (fun c1 => ?_)
  · refine ⟨_, rfl, f, _, _, _, rfl, rfl, SqL.of ob, rfl, .inl ⟨_, rfl, _, rfl, _, _, rfl, rfl, (by omega), ?_⟩⟩
    refine ⟨_, rfl, f, _, _, _, rfl, rfl, SqL.of ob, rfl, _, rfl, _, _, rfl, rfl, cdiv (by omega), _, rfl, f, _, _, 2, rfl, rfl, ob, rfl, ?_⟩
    refine ⟨_, rfl, ?_⟩
    have hq : 0 ≤ b.fdiv z := Int.fdiv_nonneg F.b0 (by omega)
    exact k _ _ (qOr hz).1 (qOr hz).2 ⟨ns, p, b.fdiv z, l, n, s, F.upd F.p0 hq F.l0 F.n0 F.s0⟩ (kp.trans qGk)
  · refine ⟨_, rfl, f, _, _, _, rfl, rfl, SqL.of ob, rfl, _, _, rfl, rfl, _, _, rfl, _, rfl, f, _, _, 3, rfl, rfl, ob, rfl, ?_⟩
    have hl : 0 ≤ (if l - 1 > 0 then l - 1 else 0) := by omega
    have F1 := F.upd F.p0 F.b0 hl F.n0 F.s0
    have k1 : Keep f H0 _ := kp.trans (qGk (f := f) (H := H) (o := .lst [.ref c, .int p, .int b, .int (if l - 1 > 0 then l - 1 else 0), .int n, .int s]))
    have ob1 := F1.ob
    have m7 : ∀ x : Int, IntMulOk 7919 x := fun x => qVk (by decide)
    have m4 : ∀ x : Int, IntMulOk x 48271 := fun x => qAos (by decide)
    refine ⟨_, rfl, f, _, _, _, rfl, rfl, SqL.of ob1, rfl, _, rfl, f, _, _, _, rfl, rfl, SqL.of ob1, rfl, _, _, rfl, rfl, m7 _, _, _, rfl, rfl, _, _, rfl, rfl, _, _, rfl, rfl, m4 _, .inl ⟨_, rfl, _, _, rfl, rfl, (by decide : (2147483647 : Int) ≠ 0), ?_⟩⟩
    have step : ∀ (y m1 m2 m3 : Int), 0 ≤ y → y < 2147483647 → 0 < m1 → 0 < m2 → 0 ≤ y.fdiv m1 + m2 ∧ IntMulOk y (y.fdiv m1 + m2) := fun y m1 m2 m3 h0 h1 h2 h3 => by
      have hq : 0 ≤ y.fdiv m1 := Int.fdiv_nonneg h0 (by omega)
      exact ⟨by omega, qVk (by omega)⟩
    have hy2 := qOr (a := (s + 7919 * n + 1) * 48271) (z := 2147483647) (by decide)
    refine ⟨_, rfl, _, rfl, _, _, rfl, rfl, cdiv (by decide), _, _, rfl, rfl, _, _, rfl, rfl, (step _ 1009 69621 0 hy2.1 hy2.2 (by decide) (by decide)).2, .inl ⟨_, rfl, _, _, rfl, rfl, (by decide : (2147483647 : Int) ≠ 0), ?_⟩⟩
    have hu2 := qOr (a := ((s + 7919 * n + 1) * 48271).fmod 2147483647 * ((((s + 7919 * n + 1) * 48271).fmod 2147483647).fdiv 1009 + 69621)) (z := 2147483647) (by decide)
    refine ⟨_, rfl, _, rfl, _, _, rfl, rfl, cdiv (by decide), _, _, rfl, rfl, _, _, rfl, rfl, (step _ 2003 40692 0 hu2.1 hu2.2 (by decide) (by decide)).2, .inl ⟨_, rfl, _, _, rfl, rfl, (by decide : (2147483399 : Int) ≠ 0), ?_⟩⟩
    refine ⟨_, rfl, _, rfl, _, _, rfl, rfl, (by omega), ?_⟩
    exact k _ _ (qOr hz).1 (qOr hz).2 ⟨ns, _, _, _, _, _, F1⟩ k1
theorem qAga {K : PySem.W.Frag} (vs : List V) (H : Hp) (Q : VK) (E : XK) (h : qAke K vs H Q E) : qLp K { nx := fun _ H' => Q .non H', rt := Q } (start ["_law_feed_here", "_law_size_here", "_law_number_here", "_law_cell", "_law_digit"] vs) H := by
  obtain ⟨f, z, c, rfl, ⟨ns, p, b, l, n, s, F⟩, hz, hz9, k⟩ := h
  refine ⟨_, rfl, f, _, _, _, rfl, rfl, (by decide), SqL.of F.ob, rfl, _, _, rfl, rfl, f, _, _, 4, rfl, rfl, F.ob, rfl, ?_⟩
  have F1 := F.upd F.p0 F.b0 F.l0 (n' := n + 1) (by have := F.n0; omega) F.s0
  have k1 : Keep f H _ := qGk (f := f) (H := H) (o := .lst [.ref c, .int p, .int b, .int l, .int (n + 1), .int s])
  have ob := F1.ob
  refine ⟨_, rfl, f, _, _, _, rfl, rfl, SqL.of ob, rfl, rfl, _, rfl, ?_⟩
  refine ite2 (fun _ => ?_) (fun _ => iteF (qJ9 F1 hz hz9 k1 k))
  refine ⟨_, rfl, f, _, _, _, rfl, rfl, SqL.of ob, rfl, rfl, _, rfl, ?_⟩
  refine ite2 (fun _ => ?_) (fun _ => iteF (qJ9 F1 hz hz9 k1 k))
  refine ⟨_, rfl, f, _, _, _, rfl, rfl, SqL.of ob, rfl, _, rfl, f, _, _, _, rfl, rfl, SqL.of ob, rfl, .ref c, (ns.map V.int).length, rfl, .inl ⟨_, F1.cs, rfl⟩, _, _, rfl, rfl, _, rfl, ?_⟩
  refine ite2 (fun c3 => ?_) (fun _ => qJ9 F1 hz hz9 k1 k)
  have hlt : p < ns.length := by
    have e := of_decide_eq_true c3
    rw [List.length_map] at e
    exact e
  have p0 := F.p0
  obtain ⟨x, hx⟩ : ∃ x, ns[p.toNat]? = some x := ⟨_, List.getElem?_eq_getElem (by omega)⟩
  have hx0 : 0 ≤ x := F.nn x (List.mem_of_getElem? hx)
  have hat : atI (ns.map V.int) p = some (.int x) := by
    have e : p = ((p.toNat : Nat) : Int) := by omega
    rw [e]
    exact atI_nat (by rw [List.getElem?_map, hx]; rfl)
  refine ⟨_, rfl, f, _, _, _, rfl, rfl, SqL.of ob, rfl, _, rfl, f, _, _, _, rfl, rfl, SqL.of ob, rfl, c, _, p, _, rfl, rfl, F1.cs, hat, ?_⟩
  refine ⟨_, rfl, f, _, _, _, rfl, rfl, (by decide), SqL.of ob, rfl, _, _, rfl, rfl, f, _, _, 1, rfl, rfl, ob, rfl, ?_⟩
  have F2 := F1.upd (p' := p + 1) (by omega) F.b0 F.l0 F1.n0 F.s0
  have k2 := k1.trans (qGk (f := f) (H := _) (o := .lst [.ref c, .int (p + 1), .int b, .int l, .int (n + 1), .int s]))
  have ob2 := F2.ob
  refine ⟨_, rfl, _, _, rfl, rfl, ⟨by decide, by decide, by decide⟩, _, _, rfl, rfl, _, rfl, ?_⟩
  refine ite2 (fun _ => ?_) (fun _ => ?_)
  · refine ⟨_, rfl, _, rfl, f, _, _, 2, rfl, rfl, ob2, rfl, ?_⟩
    exact qJ9 (F2.upd F2.p0 hx0 F.l0 F1.n0 F.s0) hz hz9 (k2.trans qGk) k
  · refine ⟨_, rfl, f, _, _, 3, rfl, rfl, ob2, rfl, ?_⟩
    have F3 := F2.upd F2.p0 F.b0 (l' := 7) (by decide) F1.n0 F.s0
    refine ⟨_, rfl, f, _, _, _, rfl, rfl, SqL.of F3.ob, rfl, _, rfl, _, _, rfl, rfl, _, rfl, f, _, _, 5, rfl, rfl, F3.ob, rfl, ?_⟩
    exact qJ9 (F3.upd F2.p0 F.b0 F3.l0 F1.n0 (s' := s + x) (by have := F.s0; omega)) hz hz9 ((k2.trans qGk).trans qGk) k
/-- _law_take(feed, size) -/
def qBp : FSp := fun ds P _ => ∃ z : Int, ds = [.feed, .int z] ∧ 0 < z ∧ Sml z ∧ ∀ d : Int, 0 ≤ d → d < z → P (.int d)
theorem qAg7 {K : PySem.W.Frag} : Lift K (qAke K) qBp := by
  intro vs H Q E h
  obtain ⟨F, M, ds, P, X, lv, r, ⟨z, rfl, hz, h9, hp⟩, q, x⟩ := h
  obtain ⟨v, u, rfl, r1, r2⟩ := qArj r
  obtain ⟨f, hf, rfl⟩ := r1
  obtain ⟨c, ⟨ns, a1, a2, a3, a4, a5, o, G, e⟩, hc⟩ := lv.f f hf
  refine ⟨f, z, c, by rw [show u = .int z from r2], ⟨ns, a1, a2, a3, a4, a5, G⟩, hz, h9, fun d H' d0 d1 X' kp => q _ _ _ (hp d d0 d1) ⟨fun b o h n => kp b o h (fun y => n.1 (by rw [y]; exact hf)), fun f' c' hf' h' => ?_, fun t => qSm t fun b o h n => kp b o h (fun y => n (by rw [y, G.ob] at h; cases h; trivial))⟩ rfl⟩
  have ef : f' = f := by rw [hf] at hf'; cases hf'; rfl
  subst ef
  have hcc : c' = c := qWg h' ⟨ns, a1, a2, a3, a4, a5, o, G, e⟩
  subst hcc
  obtain ⟨ns', b1, b2, b3, b4, b5, G'⟩ := X'
  exact ⟨ns', b1, b2, b3, b4, b5, o, G', kp _ _ e G.ne⟩
theorem qS6 {K : PySem.W.Frag} (vs : List V) (H : Hp) (Q : VK) (E : XK) (h : lift K qBp vs H Q E) : qLp K { nx := fun _ H' => Q .non H', rt := Q } (start ["_law_feed_here", "_law_size_here", "_law_number_here", "_law_cell", "_law_digit"] vs) H := qAga vs H Q E (qAg7 vs H Q E h)
def qOd (K : PySem.W.Frag) : Sp := fun vs H Q _ => ∃ (a : Addr) (ns : List Int), vs = [.ref a] ∧ SqL K H a (ns.map V.int) ∧ ns.length ≤ 63 ∧ ∀ (f : Addr) (H' : Hp), H f = none → Same H H' → (∃ c, FeedC K H' f c) → Q (.ref f) H'
theorem qAf0 {K : PySem.W.Frag} (vs : List V) (H : Hp) (Q : VK) (E : XK) (h : qOd K vs H Q E) : qSa K { nx := fun _ H' => Q .non H', rt := Q } (start ["_law_script", "_law_cell"] vs) H := by
  obtain ⟨a, ns, rfl, hS, hl, k⟩ := h
  refine ⟨_, rfl, _, rfl, a, _, rfl, hS, fun p0 np => ?_⟩
  obtain ⟨ms, em, hm⟩ := qAlq ns none (some 63)
  rw [em]
  have s0 : Same H (upd H p0 (.lst (ms.map V.int))) := qWe np
  refine ⟨p0, rfl, ⟨_, SqL.of upd_same⟩, fun D hD => ?_⟩
  have nD : H D = none := s0.free hD
  have ne : D ≠ p0 := fun e => by rw [e, upd_same] at hD; cases hD
  refine lc_list (K := K) (a := p0) (xs := ms.map V.int) (fun i H' => Same H H' ∧ H' p0 = some (.lst (ms.map V.int)) ∧ H' D = some (.lst ((ms.take i).map fun z => V.int (z.natAbs : Nat))))
    ⟨fun b o e => ?_, ?_, upd_same⟩ (fun i H' _ q => SqL.of q.2.1) ?_ ?_
  · rw [upd_ne (ne_of_none e nD)]
    exact s0 b o e
  · rw [upd_ne (Ne.symm ne), upd_same]
  · rintro i x H' hx ⟨s1, q1, q2⟩
    obtain ⟨z, hz, rfl⟩ := qAoo hx
    have hi : i < ms.length := (List.getElem?_eq_some_iff.mp hz).1
    refine ⟨rfl, _, rfl, .inl ⟨_, rfl, _, rfl, _, q2, ?_, ?_, ?_, ?_⟩⟩
    · rw [List.length_map, List.length_take]
      exact small1000 (by omega)
    · intro b o e
      rw [upd_ne (ne_of_none e nD)]
      exact s1 b o e
    · rw [upd_ne (Ne.symm ne)]
      exact q1
    · rw [upd_same, qWj hz, List.map_append, qAi6]
      rfl
  · rintro H' ⟨s1, q1, q2⟩
    rw [List.length_map, List.take_length] at q2
    refine ⟨(by show 6 ≤ sizeLine; decide), fun f nf => ?_⟩
    have s2 : Same H' _ := qWe (o := .lst [.ref D, .int 0, .int 0, .int 0, .int 0, .int 0]) nf
    refine k f _ (s1.free nf) (s1.trans s2) ⟨D, ms.map (fun z => ((z.natAbs : Nat) : Int)), 0, 0, 0, 0, 0, _, ⟨upd_same, ?_, ne_of_none q2 nf, ?_, by decide, by decide, by decide, by decide, by decide⟩, s2 _ _ q2⟩
    · rw [List.map_map]
      exact SqL.of (s2 _ _ q2)
    · intro x hx
      obtain ⟨z, _, rfl⟩ := List.mem_map.mp hx
      omega
def qAkz (K : PySem.W.Frag) : Sp := fun vs H Q _ => ∃ (a : Addr) (ns : List Int), vs = [.ref a] ∧ SqL K H a (ns.map V.int) ∧ ns.length ≤ 63 ∧ ∀ H', Q (.bl true) H'
def yes : D → Prop := fun d => d = .bl true
/-- .. with tables of code objects -/
def qAqw (K : PySem.W.Frag) (T : List (Addr × Str)) : Sp := fun vs H Q _ => ∃ (a : Addr) (ns : List Int), vs = [.ref a] ∧ SqL K H a (ns.map V.int) ∧ ns.length ≤ 63 ∧ LamX.Tabs T H ∧ ∀ H', Q (.bl true) H'
theorem qApr {K : PySem.W.Frag} {T : List (Addr × Str)} {names : List Str} {n : Nat} {t : TS} {f : FS} (hn : names.length = n + 2) (hs : SS K T [] [] [] [] (fun _ => E0) t f) (hp : f (qFj yes X0) (some .exc :: some .feed :: List.replicate n none)) (vs : List V) (H : Hp) (Q : VK) (E : XK) (h : qAqw K T vs H Q E) :
    tSeq (tAsg (tCall (qOd K) [] E0 (tCons (tVar 0) tNil)) (gName 1)) t { nx := fun _ H' => Q .non H', rt := Q } (start names vs) H := by
  obtain ⟨a, ns, rfl, hS, hl, ht, q⟩ := h
  have es : L2.start names [.ref a] = some (.ref a) :: none :: List.replicate n none := by
    unfold L2.start
    rw [hn]
    show some (V.ref a) :: List.replicate (n + 1) none = _
    rw [List.replicate_succ]
  rw [es]
  refine ⟨_, rfl, a, ns, rfl, hS, hl, fun fa H' nf sm ⟨c, hc⟩ => ?_⟩
  have ht' : LamX.Tabs T H' := ht.ext sm
  have lv : Lv K ⟨some fa, T⟩ (fun _ => False) H' := ⟨fun _ z => z.elim, fun f' hf => by cases hf; exact ⟨c, hc, fun z => z⟩, fun _ z => z.elim, ht'⟩
  refine hs ⟨⟨some fa, T⟩, fun _ => False, H'⟩ H' _ _ _ _ ?_ hp ⟨fun ρ σ H2 hx e => ?_, fun d v H2 hd g r => ?_, fun _ _ _ z => z.elim, fun _ _ _ z => z.elim, fun _ _ _ _ _ _ z => z.elim, fun d v H2 hd _ r => ?_⟩
  · refine ⟨.refl, lv.m, lv.nf, fun i _ => ?_, fun i hi => (nomatch hi), fun i hi => (nomatch hi), fun f' hf => ?_, ht', rfl⟩
    · show Sl _ (some D.exc :: some D.feed :: List.replicate n none)[i]? (some (V.ref a) :: some (V.ref fa) :: List.replicate n none)[i]?
      match i with
      | 0 => exact ⟨a, rfl⟩
      | 1 => exact ⟨fa, rfl, rfl⟩
      | i + 2 =>
        simp only [List.getElem?_cons_succ]
        rw [List.getElem?_replicate, List.getElem?_replicate]
        split <;> trivial
    · cases hf
      exact ⟨c, hc, fun z => z.elim id fun ⟨_, y, _⟩ => (nomatch y)⟩
  · cases hx
  · cases hd
    rw [show v = .bl true from r]
    exact q H2
  · cases hd
    obtain ⟨_, _, _, _, _, _, r⟩ := r
    exact r.elim
theorem qArd {K : PySem.W.Frag} {names : List Str} {n : Nat} {t : TS} {f : FS} (hn : names.length = n + 2) (hs : SS K [] [] [] [] [] (fun _ => E0) t f) (hp : f (qFj yes X0) (some .exc :: some .feed :: List.replicate n none)) (vs : List V) (H : Hp) (Q : VK) (E : XK) (h : qAkz K vs H Q E) :
    tSeq (tAsg (tCall (qOd K) [] E0 (tCons (tVar 0) tNil)) (gName 1)) t { nx := fun _ H' => Q .non H', rt := Q } (start names vs) H := by
  obtain ⟨a, ns, rfl, hS, hl, q⟩ := h
  exact qApr (T := []) hn hs hp _ _ _ E ⟨a, ns, rfl, hS, hl, (fun _ z => nomatch z), q⟩
end MR

set_option Elab.async false
set_option linter.all false
set_option maxRecDepth 100000
set_option maxHeartbeats 4000000
set_option exponentiation.threshold 20000
/-! FL: further rules -/
namespace MR
open PySem PySem.Spec PyProof.Rows L2
def fBr (ow : List Nat) (fa : FE) : FE := fun ρ P X => qAsh ow ρ ∧ fBor fa ρ P X
def qS9 (i : Nat) (fe : FE) : FS := fun FD ρ => i < ρ.length ∧ qCu i fe FD ρ
def qBu : O2 := fun a b P X => (∃ ds, a = .lst ds) ∧ oIx a b P X
def qEw : O2 := fun a b P X => (∃ ds, a = .tup ds) ∧ oIx a b P X
def qQ2 (C : Str) : List Str :=
  if C = "Ratio" then ["top", "bottom"] else if C = "Poly" then ["coefficients", "degree", "lead"] else if C = "Place" then ["low", "high"] else if C = "Lot" then ["poly", "begin", "count"] else if C = "Bar" then ["factor", "base", "other"] else []
structure KF (K : PySem.W.Frag) (cs : List Str) : Prop extends KT K cs where
  fld : ∀ C, C ∈ cs → ∀ f, f ∈ qQ2 C → FldOk K C f
section
variable {K : PySem.W.Frag} {w : Wd} {ow ow' ow1 owb owx : List Nat} {H H' : Hp} {σ : L2.St} {ρ : Env} {E : L2.St → XK} {E1 : XK} {N : L2.Ends} {FD : FEnds} {F : Fd} {M : Addr → Prop}
def fAsg (fe : FE) (g : FG) : FS := fun FD ρ => fe ρ (fun d => g d ρ FD.nx) (fun x => FD.ex x ρ)
theorem qAgr {te : TE} {fe : FE} {g : TG} {g' : FG} {sl : List Nat} (hs : Sub owx ow) (he : SE K Ta ow E te fe) (hg : SG K Ta ow sl g g') : SS K Ta ow ow owb owx E (tAsg te g) (fAsg fe g') := by
  intro w H σ ρ N FD e h k
  exact he w H σ ρ _ _ _ e h (fun d v H' hd g r => hg w H' σ ρ d v _ _ (e.grow g) r hd fun ρ' σ' h' e' _ _ => k.nx _ _ _ h' e') (k.px e hs)
def fAug (i : Nat) (g : Int → Int → Int) (fe : FE) : FS := fun FD ρ => ∃ a, ρ[i]? = some (some (.int a)) ∧ fe ρ (fun d => ∃ b, d = .int b ∧ FD.nx (ρ.set i (some (.int (g a b))))) (fun x => FD.ex x ρ)
def oIsB : O2 := fun a b P _ => match a, b with
  | .bl i, .bl j => P (.bl (decide (i = j)))
  | _, _ => False
def qW0 : O2 := fun a b P _ => match a, b with
  | .bl i, .bl j => P (.bl (!decide (i = j)))
  | _, _ => False
/-! ### except suites -/
section
variable {i : Nat} {a : Addr} {cls : Value} {dd : Option Addr} {x : Exn}
def fLen (i : Nat) (fe : FE) : FE := fun ρ P X => i < ρ.length ∧ fe ρ P X
theorem SEH.len {ta : TE} {fa : FE} (h : SEH K Ta ow i a cls dd x ta fa) : SEH K Ta ow i a cls dd x ta (fLen i fa) := fun w H σ ρ P Q e r hi hf q => h w H σ ρ P Q e r hi hf.2 q
theorem RepXs.gr (g : Gr K F H H') : ∀ {fs : List (Str × D)} {gs : List (Str × V)}, RepXs K F H fs gs → RepXs K F H' fs gs
  | [], _, h => h
  | (n, d) :: r, _, h => by
    obtain ⟨v, gr, rfl, r1, r2⟩ := h
    exact ⟨v, gr, rfl, Rep.goes g.goes _ _ r1, RepXs.gr g r2⟩
theorem RepX.gr (g : Gr K F H H') (h : RepX K F H cls dd x) : RepX K F H' cls dd x := by
  refine ⟨h.1, ?_⟩
  rcases h.2 with h | ⟨ad, gs, h1, h2, h3, h4⟩
  · exact .inl h
  · exact .inr ⟨ad, gs, h1, h2, g.old _ _ h3 h2, h4.gr g⟩
end
end
end MR

set_option linter.all false
/-! FL: what readings are at known data -/
namespace MR
open PySem PySem.Spec PyProof.Rows L2
section
variable {P : D → Prop} {X : XP} {fsp : FSp} {ρ : Env} {R : Env → Prop} {a b c d : D} {q r : Rat} {cs es : List Rat} {n : Int} {C : Str} {i j k : Nat}
theorem qGi : qN9 (.rat q) = some ("Ratio" : Str) := rfl
theorem qFi : qN9 (.poly cs) = some ("Poly" : Str) := rfl
theorem qM1 : qBk "Ratio" fsp (.rat q) (.rat r) P X ↔ fsp [.rat q, .rat r] P X0 := ⟨fun h => h.2.2, fun h => ⟨rfl, .inr rfl, h⟩⟩
theorem qM7 : qBk "Ratio" fsp (.rat q) (.int n) P X ↔ fsp [.rat q, .int n] P X0 := ⟨fun h => h.2.2, fun h => ⟨rfl, .inl trivial, h⟩⟩
theorem qN1 : qBk "Poly" fsp (.poly cs) (.poly es) P X ↔ fsp [.poly cs, .poly es] P X0 := ⟨fun h => h.2.2, fun h => ⟨rfl, .inr rfl, h⟩⟩
theorem qM6 : qBk "Poly" fsp (.poly cs) (.int n) P X ↔ fsp [.poly cs, .int n] P X0 := ⟨fun h => h.2.2, fun h => ⟨rfl, .inl trivial, h⟩⟩
theorem qMz : qLf "Ratio" fsp (.int n) (.rat q) P X ↔ fsp [.rat q, .int n] P X0 := ⟨fun h => h.2.2, fun h => ⟨trivial, rfl, h⟩⟩
theorem qNg : qLf "Poly" fsp (.int n) (.poly cs) P X ↔ fsp [.poly cs, .int n] P X0 := ⟨fun h => h.2.2, fun h => ⟨trivial, rfl, h⟩⟩
theorem qTc : qAbs "Ratio" fsp (.rat q) P X ↔ fsp [.rat q] P X0 := ⟨fun h => h.2, fun h => ⟨rfl, h⟩⟩
theorem qU7 : qAbs "Poly" fsp (.poly cs) P X ↔ fsp [.poly cs] P X0 := ⟨fun h => h.2, fun h => ⟨rfl, h⟩⟩
theorem qWn : qAsu "Ratio" fsp [.rat q] P X ↔ fsp [.rat q] P X0 := ⟨fun ⟨_, h1, h⟩ => by cases h1; exact h.2, fun h => ⟨_, rfl, rfl, h⟩⟩
theorem qTp : qF7 [i, j] (.tup [a, b]) ρ R ↔ R ((ρ.set i (some a)).set j (some b)) := by
  constructor
  · rintro ⟨ds, h, _, d1, r1, h1, d2, r2, h2, h3, hR⟩
    cases h; cases h1; cases h2; exact hR
  · exact fun h => ⟨_, rfl, rfl, _, _, rfl, _, _, rfl, rfl, h⟩
theorem qW6 {l : Nat} : qF7 [i, j, k, l] (.tup [a, b, c, d]) ρ R ↔ R ((((ρ.set i (some a)).set j (some b)).set k (some c)).set l (some d)) := by
  constructor
  · rintro ⟨ds, h, _, d1, r1, h1, d2, r2, h2, d3, r3, h3, d4, r4, h4, h5, hR⟩
    cases h; cases h1; cases h2; cases h3; cases h4; exact hR
  · exact fun h => ⟨_, rfl, rfl, _, _, rfl, _, _, rfl, _, _, rfl, _, _, rfl, rfl, h⟩
/-- x = e with a datum known at slot i -/
theorem qXb {ds : List D} {Q : List D → Prop} : (∃ es, D.lst ds = D.lst es ∧ Q es) ↔ Q ds := by
  constructor
  · rintro ⟨es, h, q⟩; cases h; exact q
  · exact fun h => ⟨_, rfl, h⟩
theorem qV3 {ds : List D} {Q : List D → Prop} : (∃ es, D.tup ds = D.tup es ∧ Q es) ↔ Q ds := by
  constructor
  · rintro ⟨es, h, q⟩; cases h; exact q
  · exact fun h => ⟨_, rfl, h⟩
theorem qVu {ds : List D} : (∃ es, D.lst ds = D.lst es) ↔ True := ⟨fun _ => trivial, fun _ => ⟨_, rfl⟩⟩
theorem qW3 {ds : List D} : (∃ es, D.tup ds = D.tup es) ↔ True := ⟨fun _ => trivial, fun _ => ⟨_, rfl⟩⟩
theorem qUu {Q : Int → Prop} : (∃ i, D.int n = D.int i ∧ Q i) ↔ Q n := by
  constructor
  · rintro ⟨es, h, q⟩; cases h; exact q
  · exact fun h => ⟨_, rfl, h⟩
theorem qNl {ds : List D} {Q : List D → Prop} : (∃ es, [D.lst ds] = [D.lst es] ∧ Q es) ↔ Q ds := by
  constructor
  · rintro ⟨es, h, q⟩; cases h; exact q
  · exact fun h => ⟨_, rfl, h⟩
theorem qM3 {ds fs : List D} {Q : List D → List D → Prop} : (∃ es gs, [D.lst ds, D.lst fs] = [D.lst es, D.lst gs] ∧ Q es gs) ↔ Q ds fs := by
  constructor
  · rintro ⟨es, gs, h, q⟩; cases h; exact q
  · exact fun h => ⟨_, _, rfl, h⟩
theorem qN5 {Q : Int → Prop} : (∃ i, [D.int n] = [D.int i] ∧ Q i) ↔ Q n := by
  constructor
  · rintro ⟨es, h, q⟩; cases h; exact q
  · exact fun h => ⟨_, rfl, h⟩
theorem qNm {m : Int} {Q : Int → Int → Prop} : (∃ i j, [D.int n, D.int m] = [D.int i, D.int j] ∧ Q i j) ↔ Q n m := by
  constructor
  · rintro ⟨es, gs, h, q⟩; cases h; exact q
  · exact fun h => ⟨_, _, rfl, h⟩
theorem qTs {Q : List D → Prop} : (∃ d ds, [a] = [d] ∧ itD d = some ds ∧ Q ds) ↔ ∃ ds, itD a = some ds ∧ Q ds := by
  constructor
  · rintro ⟨d, ds, h, q⟩; cases h; exact ⟨ds, q⟩
  · exact fun ⟨ds, h⟩ => ⟨_, ds, rfl, h⟩
theorem qGl {ds : List D} {P : D → Prop} {X : XP} : qIx [.lst ds] P X ↔ P (.int (ds.length : Nat)) := Iff.rfl
theorem qGo {ds : List D} {P : D → Prop} {X : XP} : qIx [.tup ds] P X ↔ P (.int (ds.length : Nat)) := Iff.rfl
theorem qH9 {ds : List D} : truD (.lst ds) = some !ds.isEmpty := rfl
theorem qIl {ds : List D} : truD (.tup ds) = some !ds.isEmpty := rfl
theorem qIg : truD (.int n) = some (n != 0) := rfl
theorem qMx {b : Bool} : truD (.bl b) = some b := rfl
theorem qIf : truD .non = some false := rfl
theorem qMt {ds : List D} : itD (.lst ds) = some ds := rfl
theorem qNy {ds : List D} : itD (.tup ds) = some ds := rfl
theorem itEx {ds : List D} {Q : List D → Prop} (h : itD a = some ds) : (∃ es, itD a = some es ∧ Q es) ↔ Q ds := by
  constructor
  · rintro ⟨es, h2, q⟩
    rw [h] at h2; cases h2; exact q
  · exact fun q => ⟨_, h, q⟩
theorem qVb {ds : List D} {Q : List D → Int → Nat → Prop} : (∃ es m l, D.lst ds = D.lst es ∧ D.int n = D.int m ∧ ixN es.length m = some l ∧ Q es m l) ↔ ∃ l, ixN ds.length n = some l ∧ Q ds n l := by
  constructor
  · rintro ⟨es, m, l, h1, h2, h3, q⟩; cases h1; cases h2; exact ⟨l, h3, q⟩
  · exact fun ⟨l, h, q⟩ => ⟨_, _, l, rfl, rfl, h, q⟩
end
end MR

local macro_rules | `(tactic| simp_arith [$ls,*]) => `(tactic| simp only [MR.qAy, MR.qC1, MR.fB, MR.qUl, MR.qAe, MR.fC, MR.fOp, MR.fUn, MR.fLs, MR.qCr, MR.qXi, MR.qFc, MR.qAg, MR.qAc, MR.qAm, MR.qAv, MR.qXo, MR.qCy, MR.qCu, MR.qS9, MR.qWq, MR.fAsg, MR.fPar, MR.qGq, MR.qRh, MR.fOr, MR.qMy, MR.fOrV, MR.qUz, MR.fIf, MR.fTru, MR.qF1, MR.qRs, MR.qU9, MR.qFb, MR.qBf, MR.qEq, MR.qFm, MR.fBr, MR.fBor, MR.qQc, MR.qLx, MR.fAug, MR.qNd, MR.qI8, MR.fSl, MR.qF9, MR.qQq, MR.qQz, MR.fItT, MR.fIt, MR.qQo, MR.fBrk, MR.fCnt, MR.qFj, MR.qA0, MR.toB, MR.oI, MR.oI0, MR.qQ7, MR.oAbs, MR.oMax, MR.oMin, MR.qXq, MR.qGl, MR.qGo, MR.qQh, MR.qJp, MR.oCat, MR.oIsB, MR.qW0, MR.oEq, MR.oNe, MR.eqD, MR.qRf, MR.qJc, MR.isN, MR.qM1, MR.qM7, MR.qN1, MR.qM6, MR.qMz, MR.qNg, MR.qTc, MR.qU7, MR.qWn, MR.qH9, MR.qIl, MR.qIg, MR.qMx, MR.qIf, MR.qTp, MR.qW6, MR.qXb, MR.qV3, MR.qVu, MR.qW3, MR.qUu, MR.qNl, MR.qM3, MR.qN5, MR.qNm, MR.qTs, MR.qVb, MR.qMt, MR.qNy, MR.qBu, MR.qEw, MR.InsD, List.map_cons, List.map_nil, List.cons_append, List.nil_append, List.length_cons, List.length_nil, List.getElem?_cons_zero, List.getElem?_cons_succ, List.set_cons_zero, List.set_cons_succ, List.replicate_succ, List.replicate_zero, Option.some.injEq, exists_eq_left', MR.qGi, MR.qFi, if_true, if_false, List.append_nil, true_and, and_true, true_or, or_true, Bool.false_eq_true, Bool.true_eq_false, reduceCtorEq, Nat.add_one_sub_one, Nat.reduceSub, Nat.reduceAdd, Nat.sub_self, Nat.zero_add, Nat.add_sub_cancel, $ls,*])
set_option Elab.async false
set_option linter.all false
set_option maxRecDepth 100000
set_option maxHeartbeats 4000000
/-! MR: calls with keywords -/
namespace MR
open PySem PySem.Spec PyProof.Rows L2
section
variable {X : Cx} {k n : Nat} {sp : Sp} {E : XK} {x : Str} {p pos : Pos} {e : Expr} {es : List Expr} {kws : List Keyword} {t tk : TA} {ks : List Str} {gV : List V → List V → List V}
end
section
variable {K : PySem.W.Frag} {ow : List Nat} {E : L2.St → XK} {E1 : XK}
end
theorem qAr {K : PySem.W.Frag} {fsp : FSp} {n : Nat} (h : ∀ ds P X, fsp ds P X → ds.length = n) {vs : List V} {H : Hp} {Q : VK} {E : XK} (l : lift K fsp vs H Q E) : vs.length = n := by
  obtain ⟨F, M, ds, P, X, lv, r, hs, _⟩ := l
  rw [r.length]
  exact h ds P X hs
end MR

set_option Elab.async false
set_option linter.all false
set_option maxRecDepth 100000
set_option maxHeartbeats 4000000
set_option exponentiation.threshold 20000
/-! FR: Ratio, without a heap -/
namespace MR
open PySem PySem.Spec PyProof.Rows L2
def qHv : FSp := fun ds P X => ∃ a b : Int, ds = [.int a, .int b] ∧ b ≠ 0 ∧ Sml b ∧ P (.rat (Rat.divInt a b))
theorem qFk {K : PySem.W.Frag} : MkL K (CR K) (qA8 K) qHv := qAcp
def intD (cs : List Str) (d : D) : Option Bool := match isD cs (.ty "int") d with
  | some true => (isD cs (.ty "bool") d).map fun b => !b
  | some false => some false
  | none => none
def qI9 (cs : List Str) : FSp := fun ds P _ => ∃ d b, ds = [d] ∧ intD cs d = some b ∧ P (.bl b)
theorem qAoq {K : PySem.W.Frag} {cs : List Str} {F : Fd} {M : Addr → Prop} {H : Hp} {d : D} {v : V} {b : Bool} (T : KT K cs) (r : Rep K F M H d v) (h : intD cs d = some b) : IntQ K H v b := by
  unfold intD at h
  cases h1 : isD cs (.ty "int") d with
  | none => rw [h1] at h; cases h
  | some b1 =>
    rw [h1] at h
    cases b1 with
    | false =>
      cases h
      obtain ⟨t, ty, k⟩ := qAm9 T r h1
      exact ⟨t, false, ty, k, fun _ => rfl, fun z => by cases z⟩
    | true =>
      cases h2 : isD cs (.ty "bool") d with
      | none => rw [h2] at h; cases h
      | some b2 =>
        rw [h2] at h
        have hb : (!b2) = b := Option.some.inj h
        subst hb
        obtain ⟨t, ty, k1, k2⟩ := qAg1 T r h1 h2
        exact ⟨t, true, ty, k1, (fun z => by cases z), fun _ => ⟨b2, k2, rfl⟩⟩
theorem qDw {K : PySem.W.Frag} {cs : List Str} (T : KT K cs) : Lift K (qEl K) (qI9 cs) := by
  intro vs H Q E h
  obtain ⟨F, M, ds, P, X, lv, r, ⟨d, b, rfl, hb, p⟩, q, x⟩ := h
  obtain ⟨v, rfl, rv⟩ := qMr r
  exact ⟨v, b, rfl, qAoq T rv hb, q _ _ _ p .refl rfl⟩
def qMf (a b : Rat) : Prop := ∃ n m, Sz n a ∧ Sz m b ∧ n + m ≤ 900000
def fR2 (f : Rat → Rat → Rat) : FSp := fun ds P _ => match ds with
  | [.rat a, .rat b] => qMf a b ∧ P (.rat (f a b))
  | [.rat a, .int n] => qMf a n ∧ P (.rat (f a n))
  | _ => False
def fRI (f : Rat → Rat → Rat) : FSp := fun ds P _ => match ds with
  | [.rat a, .int n] => qMf a n ∧ P (.rat (f a n))
  | _ => False
def fR1 (f : Rat → Rat) : FSp := fun ds P _ => match ds with
  | [.rat a] => (∃ n, Sz n a ∧ n ≤ 900000) ∧ P (.rat (f a))
  | _ => False
def fRB (f : Rat → Rat → Bool) : FSp := fun ds P _ => match ds with
  | [.rat a, .rat b] => qMf a b ∧ P (.bl (f a b))
  | [.rat a, .int n] => qMf a n ∧ P (.bl (f a n))
  | _ => False
/-- is it a number? -/
def qTa (cs : List Str) (d : D) : Option Bool := match isD cs (.own "Ratio") d with
  | some true => some true
  | some false => intD cs d
  | none => none
def qEu (cs : List Str) : FSp := fun ds P _ => ∃ d b, ds = [d] ∧ qTa cs d = some b ∧ P (.bl b)
def qCv (cs : List Str) : FSp := fun ds P X => ∃ d w b, ds = [d, .str w] ∧ qTa cs d = some b ∧ (b = false → X ⟨"NoNumber", [("word", .str w)]⟩) ∧ (b = true → match d with
  | .rat q => P (.rat q)
  | .int n => P (.rat (n : Rat))
  | _ => False)
def qTj : FSp := fun ds P X => match ds with
  | [.rat a, .rat b] => qMf a b ∧ (b = 0 → X ⟨"NoRatio", [("word", .str "zero")]⟩) ∧ (b ≠ 0 → P (.rat (a / b)))
  | [.rat a, .int n] => qMf a n ∧ (n = 0 → X ⟨"NoRatio", [("word", .str "zero")]⟩) ∧ (n ≠ 0 → P (.rat (a / n)))
  | _ => False
def qJu (K : PySem.W.Frag) (cs : List Str) : TS :=
  (tSeq (tIfS (tB (tCB (rIsi K) (tCons (tVar 1) (tCons (tC (.ref (He.ga K "Ratio"))) tNil)))) (tRet (tMake (He.ga K "Ratio") (qA8 K) [] E0 (tCons (tOp qEf (tOp qFp (tFld K (tVar 0) "top") (tFld K (tVar 1) "bottom")) (tOp qFp (tFld K (tVar 1) "top") (tFld K (tVar 0) "bottom"))) (tCons (tOp qFp (tFld K (tVar 0) "bottom") (tFld K (tVar 1) "bottom")) tNil)))) tNext)
  (tSeq (tIfS (tB (tCall (qEl K) [] E0 (tCons (tVar 1) tNil))) (tRet (tMake (He.ga K "Ratio") (qA8 K) [] E0 (tCons (tOp qEf (tFld K (tVar 0) "top") (tOp qFp (tVar 1) (tFld K (tVar 0) "bottom"))) (tCons (tFld K (tVar 0) "bottom") tNil)))) tNext)
  tNever))
def qIw (cs : List Str) : FS :=
  (qAy (qC1 (fB (qUl cs (.own "Ratio") (qAe 1))) (qCr (qAg qHv [] (qAc (fOp qKu (fOp qQ6 (qCy "Ratio" "top" (qAe 0)) (qCy "Ratio" "bottom" (qAe 1))) (fOp qQ6 (qCy "Ratio" "top" (qAe 1)) (qCy "Ratio" "bottom" (qAe 0)))) (qAc (fOp qQ6 (qCy "Ratio" "bottom" (qAe 0)) (qCy "Ratio" "bottom" (qAe 1))) qAm)))) qAv)
  (qAy (qC1 (fB (qAg (qI9 cs) [] (qAc (qAe 1) qAm))) (qCr (qAg qHv [] (qAc (fOp qKu (qCy "Ratio" "top" (qAe 0)) (fOp qQ6 (qAe 1) (qCy "Ratio" "bottom" (qAe 0)))) (qAc (qCy "Ratio" "bottom" (qAe 0)) qAm)))) qAv)
  qXo))
theorem qAa3 {K : PySem.W.Frag} {cs : List Str} (T : KF K cs) (hRatio : ("Ratio" : Str) ∈ cs) : SS K Ta [] [] [] [] (fun _ => E0) (qJu K cs) (qIw cs) :=
  (qAl (ow1 := []) (qBl (by decide) (qOh (qK6 (c := (.own "Ratio")) T.toKT (qAb (by decide)))) (qAq (by decide) (qA2 qFk qAf (qAa (qAi (fun _ => qD1) (qAi (fun _ => qEt) (qAo (T.fld _ hRatio _ (by decide)) (qAb (by decide))) (qAo (T.fld _ hRatio _ (by decide)) (qAb (by decide)))) (qAi (fun _ => qEt) (qAo (T.fld _ hRatio _ (by decide)) (qAb (by decide))) (qAo (T.fld _ hRatio _ (by decide)) (qAb (by decide))))) (qAa (qAi (fun _ => qEt) (qAo (T.fld _ hRatio _ (by decide)) (qAb (by decide))) (qAo (T.fld _ hRatio _ (by decide)) (qAb (by decide)))) qAd)))) (qAn (by decide)))
  (qAl (ow1 := []) (qBl (by decide) (qOh (qAk (qDw T.toKT) qAf (qAa (qAb (by decide)) qAd))) (qAq (by decide) (qA2 qFk qAf (qAa (qAi (fun _ => qD1) (qAo (T.fld _ hRatio _ (by decide)) (qAb (by decide))) (qAi (fun _ => qEt) (qAb (by decide)) (qAo (T.fld _ hRatio _ (by decide)) (qAb (by decide))))) (qAa (qAo (T.fld _ hRatio _ (by decide)) (qAb (by decide))) qAd)))) (qAn (by decide)))
  qQg))
def qIc (K : PySem.W.Frag) (cs : List Str) : TS :=
  (tSeq (tIfS (tB (tCall (qEl K) [] E0 (tCons (tVar 1) tNil))) (tRet (tMake (He.ga K "Ratio") (qA8 K) [] E0 (tCons (tOp qEf (tOp qFp (tVar 1) (tFld K (tVar 0) "bottom")) (tFld K (tVar 0) "top")) (tCons (tFld K (tVar 0) "bottom") tNil)))) tNext)
  tNever)
def qKb (cs : List Str) : FS :=
  (qAy (qC1 (fB (qAg (qI9 cs) [] (qAc (qAe 1) qAm))) (qCr (qAg qHv [] (qAc (fOp qKu (fOp qQ6 (qAe 1) (qCy "Ratio" "bottom" (qAe 0))) (qCy "Ratio" "top" (qAe 0))) (qAc (qCy "Ratio" "bottom" (qAe 0)) qAm)))) qAv)
  qXo)
theorem qXr {K : PySem.W.Frag} {cs : List Str} (T : KF K cs) (hRatio : ("Ratio" : Str) ∈ cs) : SS K Ta [] [] [] [] (fun _ => E0) (qIc K cs) (qKb cs) :=
  (qAl (ow1 := []) (qBl (by decide) (qOh (qAk (qDw T.toKT) qAf (qAa (qAb (by decide)) qAd))) (qAq (by decide) (qA2 qFk qAf (qAa (qAi (fun _ => qD1) (qAi (fun _ => qEt) (qAb (by decide)) (qAo (T.fld _ hRatio _ (by decide)) (qAb (by decide)))) (qAo (T.fld _ hRatio _ (by decide)) (qAb (by decide)))) (qAa (qAo (T.fld _ hRatio _ (by decide)) (qAb (by decide))) qAd)))) (qAn (by decide)))
  qQg)
def qJj (K : PySem.W.Frag) (cs : List Str) : TS :=
  (tSeq (tIfS (tB (tCB (rIsi K) (tCons (tVar 1) (tCons (tC (.ref (He.ga K "Ratio"))) tNil)))) (tRet (tMake (He.ga K "Ratio") (qA8 K) [] E0 (tCons (tOp qFp (tFld K (tVar 0) "top") (tFld K (tVar 1) "top")) (tCons (tOp qFp (tFld K (tVar 0) "bottom") (tFld K (tVar 1) "bottom")) tNil)))) tNext)
  (tSeq (tIfS (tB (tCall (qEl K) [] E0 (tCons (tVar 1) tNil))) (tRet (tMake (He.ga K "Ratio") (qA8 K) [] E0 (tCons (tOp qFp (tFld K (tVar 0) "top") (tVar 1)) (tCons (tFld K (tVar 0) "bottom") tNil)))) tNext)
  tNever))
def qIi (cs : List Str) : FS :=
  (qAy (qC1 (fB (qUl cs (.own "Ratio") (qAe 1))) (qCr (qAg qHv [] (qAc (fOp qQ6 (qCy "Ratio" "top" (qAe 0)) (qCy "Ratio" "top" (qAe 1))) (qAc (fOp qQ6 (qCy "Ratio" "bottom" (qAe 0)) (qCy "Ratio" "bottom" (qAe 1))) qAm)))) qAv)
  (qAy (qC1 (fB (qAg (qI9 cs) [] (qAc (qAe 1) qAm))) (qCr (qAg qHv [] (qAc (fOp qQ6 (qCy "Ratio" "top" (qAe 0)) (qAe 1)) (qAc (qCy "Ratio" "bottom" (qAe 0)) qAm)))) qAv)
  qXo))
theorem qAaz {K : PySem.W.Frag} {cs : List Str} (T : KF K cs) (hRatio : ("Ratio" : Str) ∈ cs) : SS K Ta [] [] [] [] (fun _ => E0) (qJj K cs) (qIi cs) :=
  (qAl (ow1 := []) (qBl (by decide) (qOh (qK6 (c := (.own "Ratio")) T.toKT (qAb (by decide)))) (qAq (by decide) (qA2 qFk qAf (qAa (qAi (fun _ => qEt) (qAo (T.fld _ hRatio _ (by decide)) (qAb (by decide))) (qAo (T.fld _ hRatio _ (by decide)) (qAb (by decide)))) (qAa (qAi (fun _ => qEt) (qAo (T.fld _ hRatio _ (by decide)) (qAb (by decide))) (qAo (T.fld _ hRatio _ (by decide)) (qAb (by decide)))) qAd)))) (qAn (by decide)))
  (qAl (ow1 := []) (qBl (by decide) (qOh (qAk (qDw T.toKT) qAf (qAa (qAb (by decide)) qAd))) (qAq (by decide) (qA2 qFk qAf (qAa (qAi (fun _ => qEt) (qAo (T.fld _ hRatio _ (by decide)) (qAb (by decide))) (qAb (by decide))) (qAa (qAo (T.fld _ hRatio _ (by decide)) (qAb (by decide))) qAd)))) (qAn (by decide)))
  qQg))
def qIe (K : PySem.W.Frag) (cs : List Str) : TS :=
  (tSeq (tIfS (tB (tCall (qEl K) [] E0 (tCons (tVar 1) tNil))) (tRet (tMake (He.ga K "Ratio") (qA8 K) [] E0 (tCons (tOp qFp (tFld K (tVar 0) "top") (tVar 1)) (tCons (tFld K (tVar 0) "bottom") tNil)))) tNext)
  tNever)
def qJf (cs : List Str) : FS :=
  (qAy (qC1 (fB (qAg (qI9 cs) [] (qAc (qAe 1) qAm))) (qCr (qAg qHv [] (qAc (fOp qQ6 (qCy "Ratio" "top" (qAe 0)) (qAe 1)) (qAc (qCy "Ratio" "bottom" (qAe 0)) qAm)))) qAv)
  qXo)
theorem qZy {K : PySem.W.Frag} {cs : List Str} (T : KF K cs) (hRatio : ("Ratio" : Str) ∈ cs) : SS K Ta [] [] [] [] (fun _ => E0) (qIe K cs) (qJf cs) :=
  (qAl (ow1 := []) (qBl (by decide) (qOh (qAk (qDw T.toKT) qAf (qAa (qAb (by decide)) qAd))) (qAq (by decide) (qA2 qFk qAf (qAa (qAi (fun _ => qEt) (qAo (T.fld _ hRatio _ (by decide)) (qAb (by decide))) (qAb (by decide))) (qAa (qAo (T.fld _ hRatio _ (by decide)) (qAb (by decide))) qAd)))) (qAn (by decide)))
  qQg)
def qJx (K : PySem.W.Frag) (cs : List Str) : TS :=
  (tRet (tMake (He.ga K "Ratio") (qA8 K) [] E0 (tCons (tUn qO2 (tFld K (tVar 0) "top")) (tCons (tFld K (tVar 0) "bottom") tNil))))
def qLk (cs : List Str) : FS :=
  (qCr (qAg qHv [] (qAc (fUn qQ7 (qCy "Ratio" "top" (qAe 0))) (qAc (qCy "Ratio" "bottom" (qAe 0)) qAm))))
theorem qAas {K : PySem.W.Frag} {cs : List Str} (T : KF K cs) (hRatio : ("Ratio" : Str) ∈ cs) : SS K Ta [] [] [] [] (fun _ => E0) (qJx K cs) (qLk cs) :=
  (qAq (by decide) (qA2 qFk qAf (qAa (qOg (fun _ => qK0) (qAo (T.fld _ hRatio _ (by decide)) (qAb (by decide)))) (qAa (qAo (T.fld _ hRatio _ (by decide)) (qAb (by decide))) qAd))))
def qLd (K : PySem.W.Frag) (cs : List Str) : TS :=
  (tSeq (tIfS (tB (tCB (rIsi K) (tCons (tVar 1) (tCons (tC (.ref (He.ga K "Ratio"))) tNil)))) (tRet (tAndV (tOp rEq (tFld K (tVar 0) "top") (tFld K (tVar 1) "top")) (tOp rEq (tFld K (tVar 0) "bottom") (tFld K (tVar 1) "bottom")))) tNext)
  (tSeq (tIfS (tB (tCall (qEl K) [] E0 (tCons (tVar 1) tNil))) (tRet (tAndV (tOp rEq (tFld K (tVar 0) "bottom") (tC (.int 1))) (tOp rEq (tFld K (tVar 0) "top") (tVar 1)))) tNext)
  (tRet (tC (.bl false)))))
def qKh (cs : List Str) : FS :=
  (qAy (qC1 (fB (qUl cs (.own "Ratio") (qAe 1))) (qCr (qMy (fOp oEq (qCy "Ratio" "top" (qAe 0)) (qCy "Ratio" "top" (qAe 1))) (fOp oEq (qCy "Ratio" "bottom" (qAe 0)) (qCy "Ratio" "bottom" (qAe 1))))) qAv)
  (qAy (qC1 (fB (qAg (qI9 cs) [] (qAc (qAe 1) qAm))) (qCr (qMy (fOp oEq (qCy "Ratio" "bottom" (qAe 0)) (fC (.int 1))) (fOp oEq (qCy "Ratio" "top" (qAe 0)) (qAe 1)))) qAv)
  (qCr (fC (.bl false)))))
theorem qAfs {K : PySem.W.Frag} {cs : List Str} (T : KF K cs) (hRatio : ("Ratio" : Str) ∈ cs) : SS K Ta [] [] [] [] (fun _ => E0) (qLd K cs) (qKh cs) :=
  (qAl (ow1 := []) (qBl (by decide) (qOh (qK6 (c := (.own "Ratio")) T.toKT (qAb (by decide)))) (qAq (by decide) (qAa7 (qAi (fun _ => qQy) (qAo (T.fld _ hRatio _ (by decide)) (qAb (by decide))) (qAo (T.fld _ hRatio _ (by decide)) (qAb (by decide)))) (qAi (fun _ => qQy) (qAo (T.fld _ hRatio _ (by decide)) (qAb (by decide))) (qAo (T.fld _ hRatio _ (by decide)) (qAb (by decide)))))) (qAn (by decide)))
  (qAl (ow1 := []) (qBl (by decide) (qOh (qAk (qDw T.toKT) qAf (qAa (qAb (by decide)) qAd))) (qAq (by decide) (qAa7 (qAi (fun _ => qQy) (qAo (T.fld _ hRatio _ (by decide)) (qAb (by decide))) qAj) (qAi (fun _ => qQy) (qAo (T.fld _ hRatio _ (by decide)) (qAb (by decide))) (qAb (by decide))))) (qAn (by decide)))
  (qAq (by decide) qJl)))
def qL0 (K : PySem.W.Frag) (cs : List Str) : TS :=
  (tSeq (tIfS (tB (tCB (rIsi K) (tCons (tVar 1) (tCons (tC (.ref (He.ga K "Ratio"))) tNil)))) (tRet (tOp rLt0 (tOp qFp (tFld K (tVar 0) "top") (tFld K (tVar 1) "bottom")) (tOp qFp (tFld K (tVar 1) "top") (tFld K (tVar 0) "bottom")))) tNext)
  (tSeq (tIfS (tB (tCall (qEl K) [] E0 (tCons (tVar 1) tNil))) (tRet (tOp rLt0 (tFld K (tVar 0) "top") (tOp qFp (tVar 1) (tFld K (tVar 0) "bottom")))) tNext)
  tNever))
def qKp (cs : List Str) : FS :=
  (qAy (qC1 (fB (qUl cs (.own "Ratio") (qAe 1))) (qCr (fOp oLt (fOp qQ6 (qCy "Ratio" "top" (qAe 0)) (qCy "Ratio" "bottom" (qAe 1))) (fOp qQ6 (qCy "Ratio" "top" (qAe 1)) (qCy "Ratio" "bottom" (qAe 0))))) qAv)
  (qAy (qC1 (fB (qAg (qI9 cs) [] (qAc (qAe 1) qAm))) (qCr (fOp oLt (qCy "Ratio" "top" (qAe 0)) (fOp qQ6 (qAe 1) (qCy "Ratio" "bottom" (qAe 0))))) qAv)
  qXo))
theorem qAf1 {K : PySem.W.Frag} {cs : List Str} (T : KF K cs) (hRatio : ("Ratio" : Str) ∈ cs) : SS K Ta [] [] [] [] (fun _ => E0) (qL0 K cs) (qKp cs) :=
  (qAl (ow1 := []) (qBl (by decide) (qOh (qK6 (c := (.own "Ratio")) T.toKT (qAb (by decide)))) (qAq (by decide) (qAi (fun _ => qAfy) (qAi (fun _ => qEt) (qAo (T.fld _ hRatio _ (by decide)) (qAb (by decide))) (qAo (T.fld _ hRatio _ (by decide)) (qAb (by decide)))) (qAi (fun _ => qEt) (qAo (T.fld _ hRatio _ (by decide)) (qAb (by decide))) (qAo (T.fld _ hRatio _ (by decide)) (qAb (by decide)))))) (qAn (by decide)))
  (qAl (ow1 := []) (qBl (by decide) (qOh (qAk (qDw T.toKT) qAf (qAa (qAb (by decide)) qAd))) (qAq (by decide) (qAi (fun _ => qAfy) (qAo (T.fld _ hRatio _ (by decide)) (qAb (by decide))) (qAi (fun _ => qEt) (qAb (by decide)) (qAo (T.fld _ hRatio _ (by decide)) (qAb (by decide)))))) (qAn (by decide)))
  qQg))
def qLn (K : PySem.W.Frag) (cs : List Str) : TS :=
  (tSeq (tIfS (tB (tCB (rIsi K) (tCons (tVar 1) (tCons (tC (.ref (He.ga K "Ratio"))) tNil)))) (tRet (tOp rGt0 (tOp qFp (tFld K (tVar 0) "top") (tFld K (tVar 1) "bottom")) (tOp qFp (tFld K (tVar 1) "top") (tFld K (tVar 0) "bottom")))) tNext)
  (tSeq (tIfS (tB (tCall (qEl K) [] E0 (tCons (tVar 1) tNil))) (tRet (tOp rGt0 (tFld K (tVar 0) "top") (tOp qFp (tVar 1) (tFld K (tVar 0) "bottom")))) tNext)
  tNever))
def qKe (cs : List Str) : FS :=
  (qAy (qC1 (fB (qUl cs (.own "Ratio") (qAe 1))) (qCr (fOp oGt (fOp qQ6 (qCy "Ratio" "top" (qAe 0)) (qCy "Ratio" "bottom" (qAe 1))) (fOp qQ6 (qCy "Ratio" "top" (qAe 1)) (qCy "Ratio" "bottom" (qAe 0))))) qAv)
  (qAy (qC1 (fB (qAg (qI9 cs) [] (qAc (qAe 1) qAm))) (qCr (fOp oGt (qCy "Ratio" "top" (qAe 0)) (fOp qQ6 (qAe 1) (qCy "Ratio" "bottom" (qAe 0))))) qAv)
  qXo))
theorem qAfg {K : PySem.W.Frag} {cs : List Str} (T : KF K cs) (hRatio : ("Ratio" : Str) ∈ cs) : SS K Ta [] [] [] [] (fun _ => E0) (qLn K cs) (qKe cs) :=
  (qAl (ow1 := []) (qBl (by decide) (qOh (qK6 (c := (.own "Ratio")) T.toKT (qAb (by decide)))) (qAq (by decide) (qAi (fun _ => qY2) (qAi (fun _ => qEt) (qAo (T.fld _ hRatio _ (by decide)) (qAb (by decide))) (qAo (T.fld _ hRatio _ (by decide)) (qAb (by decide)))) (qAi (fun _ => qEt) (qAo (T.fld _ hRatio _ (by decide)) (qAb (by decide))) (qAo (T.fld _ hRatio _ (by decide)) (qAb (by decide)))))) (qAn (by decide)))
  (qAl (ow1 := []) (qBl (by decide) (qOh (qAk (qDw T.toKT) qAf (qAa (qAb (by decide)) qAd))) (qAq (by decide) (qAi (fun _ => qY2) (qAo (T.fld _ hRatio _ (by decide)) (qAb (by decide))) (qAi (fun _ => qEt) (qAb (by decide)) (qAo (T.fld _ hRatio _ (by decide)) (qAb (by decide)))))) (qAn (by decide)))
  qQg))
def qJz (K : PySem.W.Frag) (cs : List Str) : TS :=
  (tRet (tOrV (tCB (rIsi K) (tCons (tVar 0) (tCons (tC (.ref (He.ga K "Ratio"))) tNil))) (tCall (qEl K) [] E0 (tCons (tVar 0) tNil))))
def qMc (cs : List Str) : FS :=
  (qCr (fOrV (qUl cs (.own "Ratio") (qAe 0)) (qAg (qI9 cs) [] (qAc (qAe 0) qAm))))
theorem qAa4 {K : PySem.W.Frag} {cs : List Str} (T : KF K cs) (hRatio : ("Ratio" : Str) ∈ cs) : SS K Ta [] [] [] [] (fun _ => E0) (qJz K cs) (qMc cs) :=
  (qAq (by decide) (qAqb (qK6 (c := (.own "Ratio")) T.toKT (qAb (by decide))) (qAk (qDw T.toKT) qAf (qAa (qAb (by decide)) qAd))))
def qIp (K : PySem.W.Frag) (cs : List Str) (E : XK) : TS :=
  (tSeq (tIfS (tB (tCB (rIsi K) (tCons (tVar 0) (tCons (tC (.ref (He.ga K "Ratio"))) tNil)))) (tRet (tVar 0)) tNext)
  (tSeq (tIfS (tB (tCall (qEl K) [] E0 (tCons (tVar 0) tNil))) (tRet (tMake (He.ga K "Ratio") (qA8 K) [.int 1] E (tCons (tVar 0) tNil))) tNext)
  (qEn (He.ga K "NoNumber") "word" (fun cls d _ H => E cls d H) (tCons (tVar 1) tNil))))
def qO6 (cs : List Str) : FS :=
  (qAy (qC1 (fB (qUl cs (.own "Ratio") (qAe 0))) (qCr (qAe 0)) qAv)
  (qAy (qC1 (fB (qAg (qI9 cs) [] (qAc (qAe 0) qAm))) (qCr (qFc qHv [.int 1] (qAc (qAe 0) qAm))) qAv)
  (qEq "NoNumber" "word" (qAe 1))))
theorem qAfc {K : PySem.W.Frag} {cs : List Str} (T : KF K cs) (hRatio : ("Ratio" : Str) ∈ cs) (E : XK) : SS K Ta [] [] [] [] (fun _ => E) (qIp K cs E) (qO6 cs) :=
  (qAl (ow1 := []) (qBl (by decide) (qOh (qK6 (c := (.own "Ratio")) T.toKT (qAb (by decide)))) (qAq (by decide) (qAb (by decide))) (qAn (by decide)))
  (qAl (ow1 := []) (qBl (by decide) (qOh (qAk (qDw T.toKT) qAf (qAa (qAb (by decide)) qAd))) (qAq (by decide) (qL5 qFk (qD8 qAf) (qAa (qAb (by decide)) qAd))) (qAn (by decide)))
  (qHd (by decide) (qAb (by decide)))))
def qGh (K : PySem.W.Frag) (cs : List Str) (E : XK) : TS :=
  (tSeq (tAsg (tIf (tB (tCB (rIsi K) (tCons (tVar 1) (tCons (tC (.ref (He.ga K "Ratio"))) tNil)))) (tVar 1) (tMake (He.ga K "Ratio") (qA8 K) [.int 1] E (tCons (tVar 1) tNil))) (gName 2))
  (tSeq (tIfS (tTest (tOp rEq (tFld K (tVar 2) "top") (tC (.int 0)))) (qEn (He.ga K "NoRatio") "word" (fun cls d _ H => E cls d H) (tCons (tC (.str "zero")) tNil)) tNext)
  (tRet (tMake (He.ga K "Ratio") (qA8 K) [] E (tCons (tOp qFp (tFld K (tVar 0) "top") (tFld K (tVar 2) "bottom")) (tCons (tOp qFp (tFld K (tVar 0) "bottom") (tFld K (tVar 2) "top")) tNil))))))
def qG7 (cs : List Str) : FS :=
  (qAy (qCu 2 (fIf (fB (qUl cs (.own "Ratio") (qAe 1))) (qAe 1) (qFc qHv [.int 1] (qAc (qAe 1) qAm))))
  (qAy (qC1 (fB (fOp oEq (qCy "Ratio" "top" (qAe 2)) (fC (.int 0)))) (qEq "NoRatio" "word" (fC (.str "zero"))) qAv)
  (qCr (qFc qHv [] (qAc (fOp qQ6 (qCy "Ratio" "top" (qAe 0)) (qCy "Ratio" "bottom" (qAe 2))) (qAc (fOp qQ6 (qCy "Ratio" "bottom" (qAe 0)) (qCy "Ratio" "top" (qAe 2))) qAm))))))
theorem qZ1 {K : PySem.W.Frag} {cs : List Str} (T : KF K cs) (hRatio : ("Ratio" : Str) ∈ cs) (E : XK) : SS K Ta [] [] [] [] (fun _ => E) (qGh K cs E) (qG7 cs) :=
  (qAl (ow1 := []) (qAx (by decide) (by decide) (qQl (qOh (qK6 (c := (.own "Ratio")) T.toKT (qAb (by decide)))) (qAb (by decide)) (qL5 qFk (qD8 qAf) (qAa (qAb (by decide)) qAd))))
  (qAl (ow1 := []) (qBl (by decide) (qAp (qAi (fun _ => qQy) (qAo (T.fld _ hRatio _ (by decide)) (qAb (by decide))) qAj)) (qHd (by decide) qGd) (qAn (by decide)))
  (qAq (by decide) (qL5 qFk qAf (qAa (qAi (fun _ => qEt) (qAo (T.fld _ hRatio _ (by decide)) (qAb (by decide))) (qAo (T.fld _ hRatio _ (by decide)) (qAb (by decide)))) (qAa (qAi (fun _ => qEt) (qAo (T.fld _ hRatio _ (by decide)) (qAb (by decide))) (qAo (T.fld _ hRatio _ (by decide)) (qAb (by decide)))) qAd))))))
theorem qDy {cs : List Str} (h : ("Ratio" : Str) ∈ cs) (q : Rat) : isD cs (.own "Ratio") (.rat q) = some true := by
  simp only [isD, tyN, qN9, if_pos h, decide_true]
theorem qDx {cs : List Str} (h : ("Ratio" : Str) ∈ cs) (i : Int) : isD cs (.own "Ratio") (.int i) = some false := by
  simp only [isD, tyN, if_pos h]
theorem qAey (cs : List Str) (i : Int) : intD cs (.int i) = some true := rfl
theorem qBt {cs : List Str} {i : Int} {P : D → Prop} {X : XP} : qI9 cs [.int i] P X ↔ P (.bl true) := by
  constructor
  · rintro ⟨d, b, h, hb, p⟩
    cases h
    rw [qAey] at hb
    cases hb
    exact p
  · exact fun p => ⟨_, _, rfl, qAey cs i, p⟩
theorem qD6 (q : Rat) : fldD "top" (.rat q) = some (.int q.num) := by simp [fldD]
theorem qE2 (q : Rat) : fldD "bottom" (.rat q) = some (.int (q.den : Nat)) := by
  have h : ¬ (("bottom" : Str) = "top") := qAqt
  simp only [fldD, if_neg h, if_true]
theorem qPp {a b : Int} {P : D → Prop} {X : XP} : qHv [.int a, .int b] P X ↔ (b ≠ 0 ∧ Sml b ∧ P (.rat (Rat.divInt a b))) := by
  constructor
  · rintro ⟨a', b', h, h1, h2, h3⟩
    cases h
    exact ⟨h1, h2, h3⟩
  · exact fun ⟨h1, h2, h3⟩ => ⟨a, b, rfl, h1, h2, h3⟩
theorem szI {m : Nat} {k : Int} (h : Sz m (k : Rat)) : k.natAbs < 2 ^ m := h.num
theorem dsz {n : Nat} {a : Rat} (h : Sz n a) : ((a.den : Nat) : Int).natAbs < 2 ^ n := by rw [Int.natAbs_natCast]; exact h.den
theorem qAr6 (a b : Rat) : ((a.den : Nat) : Int) * ((b.den : Nat) : Int) ≠ 0 := Int.ne_of_gt (Int.mul_pos (den_pos a) (den_pos b))
theorem d_ne (a : Rat) : ((a.den : Nat) : Int) ≠ 0 := Int.ne_of_gt (den_pos a)
theorem qAqi {n m : Nat} {a b : Rat} (h1 : Sz n a) (h2 : Sz m b) (hs : n + m ≤ 900000) : Sml (((a.den : Nat) : Int) * ((b.den : Nat) : Int)) := trivial
theorem d_sz {n m : Nat} {a : Rat} (h1 : Sz n a) (hs : n + m ≤ 900000) : Sml ((a.den : Nat) : Int) := trivial
theorem mok {i j : Int} {n m : Nat} {a b : Rat} (h1 : Sz n a) (h2 : Sz m b) (hs : n + m ≤ 900000) (hi : i.natAbs < 2 ^ n) (hj : j.natAbs < 2 ^ m) : IntMulOk i j := qAnf hi hj h1.pos h2.pos (by omega)
theorem qAc1 {cs : List Str} (hR : ("Ratio" : Str) ∈ cs) (ds : List D) (P : D → Prop) (X : XP) (h : fR2 (fun a b => a + b) ds P X) : qIw cs (qFj P X0) (qA0 2 ds) := by
  match ds, h with
  | [.rat a, .rat b], ⟨⟨n, m, ha, hb, hs⟩, p⟩ =>
    simp_arith [qIw, qDy hR, qDx hR, qBt, qD6, qE2, qPp]
    exact ⟨mok ha hb hs ha.num (dsz hb), mok hb ha (by omega) hb.num (dsz ha), mok ha hb hs (dsz ha) (dsz hb), qAr6 a b, qAqi ha hb hs, by rw [qAnw]; exact p⟩
  | [.rat a, .int k], ⟨⟨n, m, ha, hb, hs⟩, p⟩ =>
    simp_arith [qIw, qDy hR, qDx hR, qBt, qD6, qE2, qPp]
    exact ⟨mok hb ha (by omega) (szI hb) (dsz ha), d_ne a, d_sz ha hs, by rw [qAi2]; exact p⟩
theorem qAb0 {cs : List Str} (hR : ("Ratio" : Str) ∈ cs) (ds : List D) (P : D → Prop) (X : XP) (h : fR2 (fun a b => a * b) ds P X) : qIi cs (qFj P X0) (qA0 2 ds) := by
  match ds, h with
  | [.rat a, .rat b], ⟨⟨n, m, ha, hb, hs⟩, p⟩ =>
    simp_arith [qIi, qDy hR, qDx hR, qBt, qD6, qE2, qPp]
    exact ⟨mok ha hb hs ha.num hb.num, mok ha hb hs (dsz ha) (dsz hb), qAr6 a b, qAqi ha hb hs, by rw [qAno]; exact p⟩
  | [.rat a, .int k], ⟨⟨n, m, ha, hb, hs⟩, p⟩ =>
    simp_arith [qIi, qDy hR, qDx hR, qBt, qD6, qE2, qPp]
    exact ⟨mok ha hb hs ha.num (szI hb), d_ne a, d_sz ha hs, by rw [qAih]; exact p⟩
theorem qZf {cs : List Str} (hR : ("Ratio" : Str) ∈ cs) (ds : List D) (P : D → Prop) (X : XP) (h : fRI (fun a b => b + a) ds P X) : qKb cs (qFj P X0) (qA0 2 ds) := by
  match ds, h with
  | [.rat a, .int k], ⟨⟨n, m, ha, hb, hs⟩, p⟩ =>
    simp_arith [qKb, qDy hR, qDx hR, qBt, qD6, qE2, qPp]
    exact ⟨mok hb ha (by omega) (szI hb) (dsz ha), d_ne a, d_sz ha hs, by rw [qAmh]; exact p⟩
theorem qZs {cs : List Str} (hR : ("Ratio" : Str) ∈ cs) (ds : List D) (P : D → Prop) (X : XP) (h : fRI (fun a b => b * a) ds P X) : qJf cs (qFj P X0) (qA0 2 ds) := by
  match ds, h with
  | [.rat a, .int k], ⟨⟨n, m, ha, hb, hs⟩, p⟩ =>
    simp_arith [qJf, qDy hR, qDx hR, qBt, qD6, qE2, qPp]
    exact ⟨mok ha hb hs ha.num (szI hb), d_ne a, d_sz ha hs, by rw [qAih, Rat.mul_comm]; exact p⟩
theorem qAap {cs : List Str} (hR : ("Ratio" : Str) ∈ cs) (ds : List D) (P : D → Prop) (X : XP) (h : fR1 (fun a => -a) ds P X) : qLk cs (qFj P X0) (qA0 1 ds) := by
  match ds, h with
  | [.rat a], ⟨⟨n, ha, hs⟩, p⟩ =>
    simp_arith [qLk, qDy hR, qDx hR, qBt, qD6, qE2, qPp]
    exact ⟨d_ne a, d_sz (m := 0) ha (by omega), by rw [qArz]; exact p⟩
theorem qO3 (a b : Rat) : a = b ↔ a.num = b.num ∧ a.den = b.den := ⟨fun h => by rw [h]; exact ⟨rfl, rfl⟩, fun ⟨h1, h2⟩ => Rat.ext h1 h2⟩
theorem qAj4 (a : Rat) (k : Int) : a = (k : Rat) ↔ a.den = 1 ∧ a.num = k := by
  rw [qO3, Rat.num_intCast, Rat.den_intCast]
  exact And.comm
theorem ifP {P : D → Prop} {c : Bool} {x y z : D} (h1 : c = true → x = z) (h2 : c = false → y = z) (p : P z) : if c = true then P x else P y := by
  cases c with
  | true => rw [if_pos rfl, h1 rfl]; exact p
  | false => rw [if_neg (by decide), h2 rfl]; exact p
theorem qAe7 {cs : List Str} (hR : ("Ratio" : Str) ∈ cs) (ds : List D) (P : D → Prop) (X : XP) (h : fRB (fun a b => decide (a = b)) ds P X) : qKh cs (qFj P X0) (qA0 2 ds) := by
  match ds, h with
  | [.rat a, .rat b], ⟨⟨n, m, ha, hb, hs⟩, p⟩ =>
    simp_arith [qKh, qDy hR, qDx hR, qBt, qD6, qE2, qPp]
    refine ifP (fun h => ?_) (fun h => ?_) p
    · have h := of_decide_eq_true h
      congr 1
      exact decide_eq_decide.mpr (by rw [qO3]; constructor
                                     · intro z; exact ⟨h, by omega⟩
                                     · intro z; omega)
    · have h := of_decide_eq_false h
      congr 1
      exact (decide_eq_false (by rw [qO3]; exact fun z => h z.1)).symm
  | [.rat a, .int k], ⟨⟨n, m, ha, hb, hs⟩, p⟩ =>
    simp_arith [qKh, qDy hR, qDx hR, qBt, qD6, qE2, qPp]
    refine ifP (fun h => ?_) (fun h => ?_) p
    · have h := of_decide_eq_true h
      congr 1
      exact decide_eq_decide.mpr (by rw [qAj4]; constructor
                                     · intro z; exact ⟨by omega, z⟩
                                     · intro z; exact z.2)
    · have h := of_decide_eq_false h
      congr 1
      exact (decide_eq_false (by rw [qAj4]; exact fun z => h (by omega))).symm
theorem qAf3 {cs : List Str} (hR : ("Ratio" : Str) ∈ cs) (ds : List D) (P : D → Prop) (X : XP) (h : fRB (fun a b => decide (a < b)) ds P X) : qKp cs (qFj P X0) (qA0 2 ds) := by
  match ds, h with
  | [.rat a, .rat b], ⟨⟨n, m, ha, hb, hs⟩, p⟩ =>
    simp_arith [qKp, qDy hR, qDx hR, qBt, qD6, qE2, qPp]
    refine ⟨mok ha hb hs ha.num (dsz hb), mok hb ha (by omega) hb.num (dsz ha), ?_⟩
    rw [decide_eq_decide.mpr (Rat.lt_iff a b).symm]; exact p
  | [.rat a, .int k], ⟨⟨n, m, ha, hb, hs⟩, p⟩ =>
    simp_arith [qKp, qDy hR, qDx hR, qBt, qD6, qE2, qPp]
    refine ⟨mok hb ha (by omega) (szI hb) (dsz ha), ?_⟩
    rw [decide_eq_decide.mpr (qAo1 a k).symm]; exact p
theorem qAfh {cs : List Str} (hR : ("Ratio" : Str) ∈ cs) (ds : List D) (P : D → Prop) (X : XP) (h : fRB (fun a b => decide (b < a)) ds P X) : qKe cs (qFj P X0) (qA0 2 ds) := by
  match ds, h with
  | [.rat a, .rat b], ⟨⟨n, m, ha, hb, hs⟩, p⟩ =>
    simp_arith [qKe, qDy hR, qDx hR, qBt, qD6, qE2, qPp]
    refine ⟨mok ha hb hs ha.num (dsz hb), mok hb ha (by omega) hb.num (dsz ha), ?_⟩
    rw [decide_eq_decide.mpr (Rat.lt_iff b a).symm]; exact p
  | [.rat a, .int k], ⟨⟨n, m, ha, hb, hs⟩, p⟩ =>
    simp_arith [qKe, qDy hR, qDx hR, qBt, qD6, qE2, qPp]
    refine ⟨mok hb ha (by omega) (szI hb) (dsz ha), ?_⟩
    rw [decide_eq_decide.mpr (qAp0 k a).symm]; exact p
theorem qAaw {cs : List Str} (hR : ("Ratio" : Str) ∈ cs) (ds : List D) (P : D → Prop) (X : XP) (h : qEu cs ds P X) : qMc cs (qFj P X0) (qA0 1 ds) := by
  obtain ⟨d, b, rfl, hb, p⟩ := h
  simp_arith [qMc]
  unfold qTa at hb
  cases h1 : isD cs (.own "Ratio") d with
  | none => rw [h1] at hb; cases hb
  | some k =>
    rw [h1] at hb
    refine ⟨k, rfl, ?_⟩
    cases k with
    | true => cases hb; exact p
    | false => exact ⟨d, b, rfl, hb, p⟩
theorem qAdu (n : Int) : ((n : Int) : Rat) = Rat.divInt n 1 := by
  rw [Rat.divInt_eq_div]
  show (n : Rat) = (n : Rat) / 1
  grind
theorem qSv {n : Int} {P : D → Prop} {X : XP} : qHv [.int n, .int 1] P X ↔ P (.rat (n : Rat)) := by
  rw [qPp, ← qAdu]
  constructor
  · exact fun h => h.2.2
  · exact fun h => ⟨by decide, by decide, h⟩
theorem qAfx {cs : List Str} (hR : ("Ratio" : Str) ∈ cs) (ds : List D) (P : D → Prop) (X : XP) (h : qCv cs ds P X) : qO6 cs (qFj P X) (qA0 2 ds) := by
  obtain ⟨d, w, b, rfl, hb, h0, h1⟩ := h
  simp_arith [qO6]
  unfold qTa at hb
  cases hk : isD cs (.own "Ratio") d with
  | none => rw [hk] at hb; cases hb
  | some k =>
    rw [hk] at hb
    refine ⟨k, rfl, ?_⟩
    cases k with
    | true =>
      cases hb
      have h1 := h1 rfl
      cases d with
      | rat q => exact h1
      | int n => rw [qDx hR] at hk; cases hk
      | _ => exact h1.elim
    | false =>
      refine ⟨d, b, rfl, hb, ?_⟩
      cases b with
      | false => exact h0 rfl
      | true =>
        have h1 := h1 rfl
        cases d with
        | rat q => rw [qDy hR] at hk; cases hk
        | int n => exact (qSv (X := X)).mpr h1
        | _ => exact h1.elim
theorem qApl {a b : Rat} (hb : b ≠ 0) : Rat.divInt (a.num * b.den) (a.den * b.num) = a / b := by
  have h1 := qP9 a
  have h2 := qP9 b
  have h3 : ((b.num : Int) : Rat) ≠ 0 := fun h => hb (by rw [← qI4 b, h, Rat.div_def, Rat.zero_mul])
  have e1 := qI4 a
  have e2 := qI4 b
  rw [Rat.divInt_eq_div, Rat.intCast_mul, Rat.intCast_mul]
  grind
theorem qAg8 {a b : Rat} {n m : Nat} {P : D → Prop} {X : XP} {cs : List Str} (ha : Sz n a) (hb : Sz m b) (hs : n + m ≤ 900000) (h0 : b = 0 → X ⟨"NoRatio", [("word", .str "zero")]⟩) (h1 : b ≠ 0 → P (.rat (a / b))) :
    if decide (b.num = 0) = true then X ⟨"NoRatio", [("word", .str "zero")]⟩ else IntMulOk a.num ((b.den : Nat) : Int) ∧ IntMulOk ((a.den : Nat) : Int) b.num ∧ ((a.den : Nat) : Int) * b.num ≠ 0 ∧ Sml (((a.den : Nat) : Int) * b.num) ∧ P (.rat (Rat.divInt (a.num * (b.den : Nat)) ((a.den : Nat) * b.num))) := by
  by_cases h : b.num = 0
  · rw [if_pos (decide_eq_true h)]
    exact h0 (Rat.num_eq_zero.mp h)
  · rw [if_neg (fun z => h (of_decide_eq_true z))]
    have nb : b ≠ 0 := fun z => h (by rw [z]; rfl)
    refine ⟨mok ha hb hs ha.num (dsz hb), mok ha hb hs (dsz ha) hb.num, Int.mul_ne_zero (d_ne a) h, ?_, by rw [qApl nb]; exact h1 nb⟩
    trivial
theorem qYs {cs : List Str} (hR : ("Ratio" : Str) ∈ cs) (ds : List D) (P : D → Prop) (X : XP) (h : qTj ds P X) : qG7 cs (qFj P X) (qA0 3 ds) := by
  match ds, h with
  | [.rat a, .rat b], ⟨⟨n, m, ha, hb, hs⟩, p0, p1⟩ =>
    simp_arith [qG7, qDy hR, qDx hR, qBt, qD6, qE2, qPp]
    exact qAg8 (cs := cs) ha hb hs p0 p1
  | [.rat a, .int k], ⟨⟨n, m, ha, hb, hs⟩, p0, p1⟩ =>
    simp_arith [qG7, qDy hR, qDx hR, qBt, qD6, qE2, qPp]
    refine ⟨by decide, by decide, ?_⟩
    rw [← qAdu]
    exact qAg8 (cs := cs) ha hb hs (fun h => p0 (by
      have := (Rat.intCast_inj (a := k) (b := 0)).mp h
      exact this)) (fun h => p1 fun z => h (by rw [z]; rfl))
theorem qVw {K : PySem.W.Frag} {cs : List Str} (vs : List V) (H : Hp) (Q : VK) (E : XK) (h : (lift K (fR2 fun a b => a + b)) vs H Q E) : vs.length = 2 := qAr (fun ds P X h => by unfold fR2 at h; first | ((repeat (first | (obtain ⟨rfl, _⟩ := h; exact rfl) | obtain ⟨_, h⟩ := h)); done) | (split at h <;> first | rfl | exact h.elim)) h
theorem qYx {K : PySem.W.Frag} {cs : List Str} (T : KF K cs) (hRatio : ("Ratio" : Str) ∈ cs) (vs : List V) (H : Hp) (Q : VK) (E : XK) (h : (lift K (fR2 fun a b => a + b)) vs H Q E) : qJu K cs { nx := fun _ H' => Q .non H', rt := Q } (start ["self", "other"] vs) H :=
  qCx rfl (qAa3 T hRatio) (qAc1 hRatio) vs H Q E h
theorem qTw {K : PySem.W.Frag} {cs : List Str} (vs : List V) (H : Hp) (Q : VK) (E : XK) (h : (lift K (fRI fun a b => b + a)) vs H Q E) : vs.length = 2 := qAr (fun ds P X h => by unfold fRI at h; first | ((repeat (first | (obtain ⟨rfl, _⟩ := h; exact rfl) | obtain ⟨_, h⟩ := h)); done) | (split at h <;> first | rfl | exact h.elim)) h
theorem qXf {K : PySem.W.Frag} {cs : List Str} (T : KF K cs) (hRatio : ("Ratio" : Str) ∈ cs) (vs : List V) (H : Hp) (Q : VK) (E : XK) (h : (lift K (fRI fun a b => b + a)) vs H Q E) : qIc K cs { nx := fun _ H' => Q .non H', rt := Q } (start ["self", "other"] vs) H :=
  qCx rfl (qXr T hRatio) (qZf hRatio) vs H Q E h
theorem qWd {K : PySem.W.Frag} {cs : List Str} (vs : List V) (H : Hp) (Q : VK) (E : XK) (h : (lift K (fR2 fun a b => a * b)) vs H Q E) : vs.length = 2 := qAr (fun ds P X h => by unfold fR2 at h; first | ((repeat (first | (obtain ⟨rfl, _⟩ := h; exact rfl) | obtain ⟨_, h⟩ := h)); done) | (split at h <;> first | rfl | exact h.elim)) h
theorem qX0 {K : PySem.W.Frag} {cs : List Str} (T : KF K cs) (hRatio : ("Ratio" : Str) ∈ cs) (vs : List V) (H : Hp) (Q : VK) (E : XK) (h : (lift K (fR2 fun a b => a * b)) vs H Q E) : qJj K cs { nx := fun _ H' => Q .non H', rt := Q } (start ["self", "other"] vs) H :=
  qCx rfl (qAaz T hRatio) (qAb0 hRatio) vs H Q E h
theorem qT3 {K : PySem.W.Frag} {cs : List Str} (vs : List V) (H : Hp) (Q : VK) (E : XK) (h : (lift K (fRI fun a b => b * a)) vs H Q E) : vs.length = 2 := qAr (fun ds P X h => by unfold fRI at h; first | ((repeat (first | (obtain ⟨rfl, _⟩ := h; exact rfl) | obtain ⟨_, h⟩ := h)); done) | (split at h <;> first | rfl | exact h.elim)) h
theorem qWo {K : PySem.W.Frag} {cs : List Str} (T : KF K cs) (hRatio : ("Ratio" : Str) ∈ cs) (vs : List V) (H : Hp) (Q : VK) (E : XK) (h : (lift K (fRI fun a b => b * a)) vs H Q E) : qIe K cs { nx := fun _ H' => Q .non H', rt := Q } (start ["self", "other"] vs) H :=
  qCx rfl (qZy T hRatio) (qZs hRatio) vs H Q E h
theorem qWr {K : PySem.W.Frag} {cs : List Str} (vs : List V) (H : Hp) (Q : VK) (E : XK) (h : (lift K (fR1 fun a => -a)) vs H Q E) : vs.length = 1 := qAr (fun ds P X h => by unfold fR1 at h; first | ((repeat (first | (obtain ⟨rfl, _⟩ := h; exact rfl) | obtain ⟨_, h⟩ := h)); done) | (split at h <;> first | rfl | exact h.elim)) h
theorem qYf {K : PySem.W.Frag} {cs : List Str} (T : KF K cs) (hRatio : ("Ratio" : Str) ∈ cs) (vs : List V) (H : Hp) (Q : VK) (E : XK) (h : (lift K (fR1 fun a => -a)) vs H Q E) : qJx K cs { nx := fun _ H' => Q .non H', rt := Q } (start ["self"] vs) H :=
  qCx rfl (qAas T hRatio) (qAap hRatio) vs H Q E h
theorem qZg {K : PySem.W.Frag} {cs : List Str} (vs : List V) (H : Hp) (Q : VK) (E : XK) (h : (lift K (fRB fun a b => decide (a = b))) vs H Q E) : vs.length = 2 := qAr (fun ds P X h => by unfold fRB at h; first | ((repeat (first | (obtain ⟨rfl, _⟩ := h; exact rfl) | obtain ⟨_, h⟩ := h)); done) | (split at h <;> first | rfl | exact h.elim)) h
theorem qAcl {K : PySem.W.Frag} {cs : List Str} (T : KF K cs) (hRatio : ("Ratio" : Str) ∈ cs) (vs : List V) (H : Hp) (Q : VK) (E : XK) (h : (lift K (fRB fun a b => decide (a = b))) vs H Q E) : qLd K cs { nx := fun _ H' => Q .non H', rt := Q } (start ["self", "other"] vs) H :=
  qCx rfl (qAfs T hRatio) (qAe7 hRatio) vs H Q E h
theorem qAai {K : PySem.W.Frag} {cs : List Str} (vs : List V) (H : Hp) (Q : VK) (E : XK) (h : (lift K (fRB fun a b => decide (a < b))) vs H Q E) : vs.length = 2 := qAr (fun ds P X h => by unfold fRB at h; first | ((repeat (first | (obtain ⟨rfl, _⟩ := h; exact rfl) | obtain ⟨_, h⟩ := h)); done) | (split at h <;> first | rfl | exact h.elim)) h
theorem qAbi {K : PySem.W.Frag} {cs : List Str} (T : KF K cs) (hRatio : ("Ratio" : Str) ∈ cs) (vs : List V) (H : Hp) (Q : VK) (E : XK) (h : (lift K (fRB fun a b => decide (a < b))) vs H Q E) : qL0 K cs { nx := fun _ H' => Q .non H', rt := Q } (start ["self", "other"] vs) H :=
  qCx rfl (qAf1 T hRatio) (qAf3 hRatio) vs H Q E h
theorem qYd {K : PySem.W.Frag} {cs : List Str} (vs : List V) (H : Hp) (Q : VK) (E : XK) (h : (lift K (fRB fun a b => decide (b < a))) vs H Q E) : vs.length = 2 := qAr (fun ds P X h => by unfold fRB at h; first | ((repeat (first | (obtain ⟨rfl, _⟩ := h; exact rfl) | obtain ⟨_, h⟩ := h)); done) | (split at h <;> first | rfl | exact h.elim)) h
theorem qAb7 {K : PySem.W.Frag} {cs : List Str} (T : KF K cs) (hRatio : ("Ratio" : Str) ∈ cs) (vs : List V) (H : Hp) (Q : VK) (E : XK) (h : (lift K (fRB fun a b => decide (b < a))) vs H Q E) : qLn K cs { nx := fun _ H' => Q .non H', rt := Q } (start ["self", "other"] vs) H :=
  qCx rfl (qAfg T hRatio) (qAfh hRatio) vs H Q E h
theorem qVs {K : PySem.W.Frag} {cs : List Str} (vs : List V) (H : Hp) (Q : VK) (E : XK) (h : (lift K (qEu cs)) vs H Q E) : vs.length = 1 := qAr (fun ds P X h => by unfold qEu at h; first | ((repeat (first | (obtain ⟨rfl, _⟩ := h; exact rfl) | obtain ⟨_, h⟩ := h)); done) | (split at h <;> first | rfl | exact h.elim)) h
theorem qAaf {K : PySem.W.Frag} {cs : List Str} (T : KF K cs) (hRatio : ("Ratio" : Str) ∈ cs) (vs : List V) (H : Hp) (Q : VK) (E : XK) (h : (lift K (qEu cs)) vs H Q E) : qJz K cs { nx := fun _ H' => Q .non H', rt := Q } (start ["value"] vs) H :=
  qCx rfl (qAa4 T hRatio) (qAaw hRatio) vs H Q E h
theorem qZ8 {K : PySem.W.Frag} {cs : List Str} (vs : List V) (H : Hp) (Q : VK) (E : XK) (h : (lift K (qCv cs)) vs H Q E) : vs.length = 2 := qAr (fun ds P X h => by unfold qCv at h; first | ((repeat (first | (obtain ⟨rfl, _⟩ := h; exact rfl) | obtain ⟨_, h⟩ := h)); done) | (split at h <;> first | rfl | exact h.elim)) h
theorem qAbv {K : PySem.W.Frag} {cs : List Str} (T : KF K cs) (hRatio : ("Ratio" : Str) ∈ cs) (vs : List V) (H : Hp) (Q : VK) (E : XK) (h : (lift K (qCv cs)) vs H Q E) : qIp K cs E { nx := fun _ H' => Q .non H', rt := Q } (start ["value", "word"] vs) H :=
  qU4 (t := fun E => qIp K cs E) rfl (qAfc T hRatio) (qAfx hRatio) vs H Q E h
theorem qTu {K : PySem.W.Frag} {cs : List Str} (vs : List V) (H : Hp) (Q : VK) (E : XK) (h : (lift K qTj) vs H Q E) : vs.length = 2 := qAr (fun ds P X h => by unfold qTj at h; first | ((repeat (first | (obtain ⟨rfl, _⟩ := h; exact rfl) | obtain ⟨_, h⟩ := h)); done) | (split at h <;> first | rfl | exact h.elim)) h
theorem qUs {K : PySem.W.Frag} {cs : List Str} (T : KF K cs) (hRatio : ("Ratio" : Str) ∈ cs) (vs : List V) (H : Hp) (Q : VK) (E : XK) (h : (lift K qTj) vs H Q E) : qGh K cs E { nx := fun _ H' => Q .non H', rt := Q } (start ["self", "other", "divisor"] vs) H :=
  qU4 (t := fun E => qGh K cs E) rfl (qZ1 T hRatio) (qYs hRatio) vs H Q E h
end MR

set_option Elab.async false
set_option linter.all false
set_option maxRecDepth 100000
set_option maxHeartbeats 4000000
set_option exponentiation.threshold 20000
/-! FP: Poly, without a heap -/
namespace MR
open PySem PySem.Spec PyProof.Rows L2
theorem qJh {d : D} {ds : List D} (h : itD d = some ds) : d = .lst ds ∨ d = .tup ds := by
  cases d <;> first | (cases h; done) | skip
  · exact .inl (by cases h; rfl)
  · exact .inr (by cases h; rfl)
theorem qFs {d : D} {ds : List D} {P : D → Prop} {X : XP} (h : itD d = some ds) : qIx [d] P X ↔ P (.int (ds.length : Nat)) := by
  rcases qJh h with rfl | rfl <;> exact Iff.rfl
theorem qQa {d : D} {ds : List D} (h : itD d = some ds) : truD d = some !ds.isEmpty := by
  rcases qJh h with rfl | rfl <;> rfl
theorem qEx {d : D} {ds : List D} {e : D} {k : Nat} {P : D → Prop} {X : XP} (h : itD d = some ds) (hk : ds[k]? = some e) (p : P e) : oIx d (.int (k : Nat)) P X := by
  rcases qJh h with rfl | rfl
  · exact ⟨ds, _, e, .inl rfl, rfl, atI_nat hk, p⟩
  · exact ⟨ds, _, e, .inr rfl, rfl, atI_nat hk, p⟩
def qBj (cs : List Rat) : List D := cs.map D.rat
theorem qBq (cs : List Rat) : (qBj cs).length = cs.length := List.length_map ..
theorem qHh {cs : List Rat} {k : Nat} (h : k < cs.length) : (qBj cs)[k]? = some (.rat (coef cs k)) := by
  unfold qBj
  rw [List.getElem?_map, qRk h]
  rfl
theorem qGj (lo : Int) (n : Nat) : qKx lo (n + 1) = .int lo :: qKx (lo + 1) n := by
  unfold qKx
  rw [List.range_succ_eq_map, List.map_cons, List.map_map]
  congr 1
  · congr 1; omega
  · refine List.map_congr_left fun k _ => ?_
    show D.int (lo + ((k + 1 : Nat) : Int)) = D.int (lo + 1 + (k : Int))
    congr 1; omega
/-- the sizes of a row -/
def SzL (n : Nat) (cs : List Rat) : Prop := ∀ c, c ∈ cs → Sz n c
theorem qOp : Sz 1 (0 : Rat) := ⟨by decide, by decide⟩
theorem SzL.coef {n : Nat} {cs : List Rat} (h : SzL n cs) (hn : 0 < n) (k : Nat) : Sz n (coef cs k) := by
  by_cases hk : k < cs.length
  · exact h _ (List.mem_of_getElem? (qRk hk))
  · rw [qBb (by omega)]
    exact qOp.mono hn
def qNf : FSp := fun ds P _ => ∃ cs, ds = [.lst (qBj cs)] ∧ P (.lst (qBj (strip cs)))
/-- the coefficients of a Poly or a number -/
def pcoef : D → Option (List Rat)
  | .poly cs => some cs
  | .rat q => some (if q = 0 then [] else [q])
  | .int n => some (if n = 0 then [] else [(n : Rat)])
  | _ => none
def qJ4 (cs : List Str) : FSp := fun ds P _ => ∃ d qs, ds = [d] ∧ pcoef d = some qs ∧ P (.lst (qBj qs))
def qPq : FSp := fun ds P _ => ∃ d1 d2 cs es n m, ds = [d1, d2] ∧ itD d1 = some (qBj cs) ∧ itD d2 = some (qBj es) ∧ SzL n cs ∧ SzL m es ∧ 0 < n ∧ 0 < m ∧ n + m ≤ 900000 ∧ cs.length ≤ 1000 ∧ es.length ≤ 1000 ∧ P (.lst (qBj (qVj cs es)))
/-- sizes for a product of two rows, sum by sum -/
structure MulSz (cs es : List Rat) : Prop where
  prod : ∀ i j, i < cs.length → j < es.length → qMf (coef cs i) (coef es j)
  sum : ∀ i j, i < cs.length → j < es.length → qMf (conv (coef cs) (coef es) i (i + j)) (coef cs i * coef es j)
def qJw : FSp := fun ds P _ => ∃ d1 d2 cs es, ds = [d1, d2] ∧ itD d1 = some (qBj cs) ∧ itD d2 = some (qBj es) ∧ cs.length ≤ 9000 ∧ es.length ≤ 1000 ∧ MulSz cs es ∧ P (.lst (qBj (qF5 cs es)))
def numV : D → Option Rat
  | .rat q => some q
  | .int n => some (n : Rat)
  | _ => none
def qEp : List D → Option (List Rat)
  | [] => some []
  | d :: ds => match numV d, qEp ds with
    | some q, some qs => some (q :: qs)
    | _, _ => none
theorem qDs {cs : List Str} (hR : ("Ratio" : Str) ∈ cs) {d : D} {q : Rat} (h : numV d = some q) : qTa cs d = some true := by
  cases d <;> first | (cases h; done) | skip
  · unfold qTa; rw [qDx hR]; rfl
  · unfold qTa; rw [qDy hR]
/-- Poly(..): numbers; or an item that is none, behind numbers; or neither a list nor a tuple -/
def qB1 (cs : List Str) : FSp := fun ds P X => ∃ d, ds = [d] ∧ ((∃ items qs, itD d = some items ∧ items.length ≤ 100000 ∧ qEp items = some qs ∧ P (.poly (strip qs))) ∨
  (∃ items pre b post, itD d = some items ∧ items.length ≤ 100000 ∧ items = pre ++ b :: post ∧ (∃ qs, qEp pre = some qs) ∧ qTa cs b = some false ∧ X ⟨"NoPoly", []⟩) ∨
  (isD cs (.ty "list") d = some false ∧ isD cs (.ty "tuple") d = some false ∧ X ⟨"NoPoly", []⟩))
/-- the promise of an __init__ -/
def qG6 (K : PySem.W.Frag) (C : Str) (fsp : FSp) : Sp := fun vs H Q E => ∃ (F : Fd) (M : Addr → Prop) (H1 : Hp) (ds : List D) (us : List V) (P : D → Prop) (X : XP) (x dx : Addr), vs = .ref x :: us ∧ H = upd (upd H1 dx (.own x)) x (.ins (He.ga K C) dx []) ∧ H1 x = none ∧ H1 dx = none ∧ dx ≠ x ∧
  Lv K F M H1 ∧ Reps K F M H1 ds us ∧ fsp ds P X ∧ (∀ d H', P d → Gr K F H1 H' → Rep K F M H' d (.ref x) → Q .non H') ∧ PostX K F H1 X E
theorem qEi {K : PySem.W.Frag} {C : Str} {fsp : FSp} : MkL K (He.ga K C) (qG6 K C fsp) fsp := fun F M H ds vs P X Q E x dx lv r h q px n1 n2 ne =>
  ⟨F, M, H, ds, vs, P, X, x, dx, rfl, rfl, n1, n2, ne, lv, r, h, fun d H' hd g rd => ⟨rfl, q d _ H' hd g rd⟩, px⟩
def qQt (cs : List Str) : FSp := fun ds P _ => ∃ a d es n m, ds = [.poly a, d] ∧ pcoef d = some es ∧ SzL n a ∧ SzL m es ∧ 0 < n ∧ 0 < m ∧ n + m ≤ 900000 ∧ a.length ≤ 1000 ∧ es.length ≤ 1000 ∧ P (.poly (strip (qVj a (qOx es))))
def qIq (cs : List Str) : FSp := fun ds P _ => ∃ a d es, ds = [.poly a, d] ∧ pcoef d = some es ∧ a.length ≤ 9000 ∧ es.length ≤ 1000 ∧ MulSz a es ∧ P (.poly (strip (qF5 a es)))
def qF8 (K : PySem.W.Frag) (cs : List Str) : TS :=
  (tSeq (tAsg (tCB (qFq K) (tCons (tVar 0) tNil)) (gName 1))
  (tSeq (tWhile (tAnd (tTest (tOp rGt0 (tVar 1) (tC (.int 0)))) (tTest (tOp rEq (tFld K (tOp (rIxL K) (tVar 0) (tOp qNi (tVar 1) (tC (.int 1)))) "top") (tC (.int 0))))) (tAsg (tOp qNi (tVar 1) (tC (.int 1))) (gName 1)))
  (tRet (tSl (rSlL K) (tVar 0) tNoPart (tPart (tVar 1))))))
def qG0 (cs : List Str) : FS :=
  (qAy (qCu 1 (fLs qIx (qAc (qAe 0) qAm)))
  (qAy (qAen (qRh (fB (fOp oGt (qAe 1) (fC (.int 0)))) (fB (fOp oEq (qCy "Ratio" "top" (fOp qBu (qAe 0) (fOp qXp (qAe 1) (fC (.int 1))))) (fC (.int 0))))) (qCu 1 (fOp qXp (qAe 1) (fC (.int 1)))))
  (qCr (fSl (qAe 0) qF9 (qQq (qAe 1))))))
theorem qS3 {K : PySem.W.Frag} {cs : List Str} (T : KF K cs) (hRatio : ("Ratio" : Str) ∈ cs) (hPoly : ("Poly" : Str) ∈ cs) : SS K Ta [] [] [] [] (fun _ => E0) (qF8 K cs) (qG0 cs) :=
  (qAl (ow1 := []) (qAx (by decide) (by decide) (qEg (fun _ => qD0) (qAa (qAb (by decide)) qAd)))
  (qAl (ow1 := []) (qAeb (by decide) (qPw (qAp (qAi (fun _ => qY2) (qAb (by decide)) qAj)) (qAp (qAi (fun _ => qQy) (qAo (T.fld _ hRatio _ (by decide)) (qAi (fun _ => qAz) (qAb (by decide)) (qAi (fun _ => qJ2) (qAb (by decide)) qAj))) qAj))) (qAx (by decide) (by decide) (qAi (fun _ => qJ2) (qAb (by decide)) qAj)))
  (qAq (by decide) (SF.se (qArv (qAb (by decide)) qAi3 (qAjl (qAb (by decide))))))))
def qFf (K : PySem.W.Frag) (cs : List Str) : TS :=
  (tSeq (tIfS (tB (tCB (rIsi K) (tCons (tVar 0) (tCons (tC (.ref (He.ga K "Poly"))) tNil)))) (tRet (tCB (qUv K) (tCons (tFld K (tVar 0) "coefficients") tNil))) tNext)
  (tSeq (tIfS (tB (tCB (rIsi K) (tCons (tVar 0) (tCons (tC (.ref (He.ga K "Ratio"))) tNil)))) (tRet (tIf (tTest (tOp rNe (tFld K (tVar 0) "top") (tC (.int 0)))) (tLst (tCons (tVar 0) tNil)) (tLst tNil))) tNext)
  (tSeq (tIfS (tB (tCall (qEl K) [] E0 (tCons (tVar 0) tNil))) (tRet (tIf (tTest (tOp rNe (tVar 0) (tC (.int 0)))) (tLst (tCons (tMake (He.ga K "Ratio") (qA8 K) [.int 1] E0 (tCons (tVar 0) tNil)) tNil)) (tLst tNil))) tNext)
  (tRet (tC .non)))))
def qDj (cs : List Str) : FS :=
  (qAy (qC1 (fB (qUl cs (.own "Poly") (qAe 0))) (qCr (fLs qQh (qAc (qCy "Poly" "coefficients" (qAe 0)) qAm))) qAv)
  (qAy (qC1 (fB (qUl cs (.own "Ratio") (qAe 0))) (qCr (fIf (fB (fOp oNe (qCy "Ratio" "top" (qAe 0)) (fC (.int 0)))) (qF1 (qAc (qAe 0) qAm)) (qF1 qAm))) qAv)
  (qAy (qC1 (fB (qAg (qI9 cs) [] (qAc (qAe 0) qAm))) (qCr (fIf (fB (fOp oNe (qAe 0) (fC (.int 0)))) (qF1 (qAc (qAg qHv [.int 1] (qAc (qAe 0) qAm)) qAm)) (qF1 qAm))) qAv)
  (qCr (fC .non)))))
theorem qOi {K : PySem.W.Frag} {cs : List Str} (T : KF K cs) (hRatio : ("Ratio" : Str) ∈ cs) (hPoly : ("Poly" : Str) ∈ cs) : SS K Ta [] [] [] [] (fun _ => E0) (qFf K cs) (qDj cs) :=
  (qAl (ow1 := []) (qBl (by decide) (qOh (qK6 (c := (.own "Poly")) T.toKT (qAb (by decide)))) (qAq (by decide) (SF.se (qYk (qAa (qAo (T.fld _ hPoly _ (by decide)) (qAb (by decide))) qAd)))) (qAn (by decide)))
  (qAl (ow1 := []) (qBl (by decide) (qOh (qK6 (c := (.own "Ratio")) T.toKT (qAb (by decide)))) (qAq (by decide) (qQl (qAp (qAi (fun _ => qAbc) (qAo (T.fld _ hRatio _ (by decide)) (qAb (by decide))) qAj)) (qD2 (qAa (qAb (by decide)) qAd)) (qD2 qAd))) (qAn (by decide)))
  (qAl (ow1 := []) (qBl (by decide) (qOh (qAk (qDw T.toKT) qAf (qAa (qAb (by decide)) qAd))) (qAq (by decide) (qQl (qAp (qAi (fun _ => qAbc) (qAb (by decide)) qAj)) (qD2 (qAa (qA2 qFk (qD8 qAf) (qAa (qAb (by decide)) qAd)) qAd)) (qD2 qAd))) (qAn (by decide)))
  (qAq (by decide) qCl))))
def qW5 (K : PySem.W.Frag) (cs : List Str) : TS :=
  (tSeq (tAsg (tLst tNil) (gName 2))
  (tSeq (tFor (iRng1 (tCons (tCB qAlm (tCons (tCB (qFq K) (tCons (tVar 0) tNil)) (tCons (tCB (qFq K) (tCons (tVar 1) tNil)) tNil))) tNil)) (gName 3) (tSeq (tAsg (tIf (tTest (tOp rLt0 (tVar 3) (tCB (qFq K) (tCons (tVar 0) tNil)))) (tOp (rIxA K) (tVar 0) (tVar 3)) (tMake (He.ga K "Ratio") (qA8 K) [.int 1] E0 (tCons (tC (.int 0)) tNil))) (gName 4))
  (tSeq (tIfS (tTest (tOp rLt0 (tVar 3) (tCB (qFq K) (tCons (tVar 1) tNil)))) (tAsg (tOp (qIo (He.ga K "Ratio") (lift K (fR2 fun a b => a + b)) E0) (tVar 4) (tOp (rIxA K) (tVar 1) (tVar 3))) (gName 4)) tNext)
  (tDrop (tBM K "list" rAppend (tVar 2) (tCons (tVar 4) tNil))))))
  (tRet (tVar 2))))
def qAbt (cs : List Str) : FS :=
  (qAy (qS9 2 (qF1 qAm))
  (qAy (qGn (qFa (qAc (fLs oMax (qAc (fLs qIx (qAc (qAe 0) qAm)) (qAc (fLs qIx (qAc (qAe 1) qAm)) qAm))) qAm)) (qBf 3) (qAy (qCu 4 (fIf (fB (fOp oLt (qAe 3) (fLs qIx (qAc (qAe 0) qAm)))) (fOp oIx (qAe 0) (qAe 3)) (qAg qHv [.int 1] (qAc (fC (.int 0)) qAm))))
  (qAy (qC1 (fB (fOp oLt (qAe 3) (fLs qIx (qAc (qAe 1) qAm)))) (qCu 4 (fOp (qBk "Ratio" (fR2 fun a b => a + b)) (qAe 4) (fOp oIx (qAe 1) (qAe 3)))) qAv)
  (qQc 2 (qAe 4)))))
  (qCr (qAe 2))))
theorem qAp4 {K : PySem.W.Frag} {cs : List Str} (T : KF K cs) (hRatio : ("Ratio" : Str) ∈ cs) (hPoly : ("Poly" : Str) ∈ cs) : SS K Ta [] [] [] [] (fun _ => E0) (qW5 K cs) (qAbt cs) :=
  (qAl (ow1 := [2]) (qJn (by decide) (by decide) (qQe qAd))
  (qAl (ow1 := [2]) (qE5 (by decide) (qFo (qAa (qEg (fun _ => qAns) (qAa (qEg (fun _ => qD0) (qAa (qAb (by decide)) qAd)) (qAa (qEg (fun _ => qD0) (qAa (qAb (by decide)) qAd)) qAd))) qAd)) (qBy (by decide)) (qAl (ow1 := [2]) (qAx (by decide) (by decide) (qQl (qAp (qAi (fun _ => qAfy) (qAb (by decide)) (qEg (fun _ => qD0) (qAa (qAb (by decide)) qAd)))) (qAi (fun _ => qAjb) (qAb (by decide)) (qAb (by decide))) (qA2 qFk (qD8 qAf) (qAa qAj qAd))))
  (qAl (ow1 := [2]) (qBl (by decide) (qAp (qAi (fun _ => qAfy) (qAb (by decide)) (qEg (fun _ => qD0) (qAa (qAb (by decide)) qAd)))) (qAx (by decide) (by decide) (qAi (fun _ => (qBe Lift.refl)) (qAb (by decide)) (qAi (fun _ => qAjb) (qAb (by decide)) (qAb (by decide))))) (qAn (by decide)))
  (qK1 (by decide) (by decide) (qAb (by decide))))))
  (qL4 (ow1 := []) (by decide) (qAq (by decide) (qAb (by decide))))))
def qI3 (K : PySem.W.Frag) (cs : List Str) : TS :=
  (tSeq (tIfS (tOr (tNot (qAbh K (tVar 0))) (tNot (qAbh K (tVar 1)))) (tRet (tLst tNil)) tNext)
  (tSeq (tAsg (tLc (iRng1 (tCons (tOp qNi (tOp qEf (tCB (qFq K) (tCons (tVar 0) tNil)) (tCB (qFq K) (tCons (tVar 1) tNil))) (tC (.int 1))) tNil)) (gName 5) tYes (tMake (He.ga K "Ratio") (qA8 K) [.int 1] E0 (tCons (tC (.int 0)) tNil)) [5]) (gName 2))
  (tSeq (tFor (qSg K (tCons (tVar 0) tNil)) (gTup K 2 (gCons (gName 3) (gCons (gName 4) gNil))) (tFor (qSg K (tCons (tVar 1) tNil)) (gTup K 2 (gCons (gName 6) (gCons (gName 7) gNil))) (tAsg (tOp (qIo (He.ga K "Ratio") (lift K (fR2 fun a b => a + b)) E0) (tOp (rIxL K) (tVar 2) (tOp qEf (tVar 3) (tVar 6))) (tOp (qIo (He.ga K "Ratio") (lift K (fR2 fun a b => a * b)) E0) (tVar 4) (tVar 7))) (gSub (tVar 2) (tOp qEf (tVar 3) (tVar 6)) rSetL))))
  (tRet (tVar 2)))))
def qF0 (cs : List Str) : FS :=
  (qAy (qC1 (fOr (qGq (fTru (qAe 0))) (qGq (fTru (qAe 1)))) (qCr (qF1 qAm)) qAv)
  (qAy (qS9 2 (fLc (qFa (qAc (fOp qXp (fOp qKu (fLs qIx (qAc (qAe 0) qAm)) (fLs qIx (qAc (qAe 1) qAm))) (fC (.int 1))) qAm)) (qBf 5) qI8 (qAg qHv [.int 1] (qAc (fC (.int 0)) qAm)) [5]))
  (qAy (qGn (fEn (qAc (qAe 0) qAm)) (qF7 [3, 4]) (qGn (fEn (qAc (qAe 1) qAm)) (qF7 [6, 7]) (qLx 2 (fOp (qBk "Ratio" (fR2 fun a b => a + b)) (fOp oIx (qAe 2) (fOp qKu (qAe 3) (qAe 6))) (fOp (qBk "Ratio" (fR2 fun a b => a * b)) (qAe 4) (qAe 7))) (fOp qKu (qAe 3) (qAe 6)))))
  (qCr (qAe 2)))))
theorem qYa {K : PySem.W.Frag} {cs : List Str} (T : KF K cs) (hRatio : ("Ratio" : Str) ∈ cs) (hPoly : ("Poly" : Str) ∈ cs) : SS K Ta [] [] [] [] (fun _ => E0) (qI3 K cs) (qF0 cs) :=
  (qAl (ow1 := []) (qBl (by decide) (qAcx (qEb (qXv (qAb (by decide)))) (qEb (qXv (qAb (by decide))))) (qAq (by decide) (qD2 qAd)) (qAn (by decide)))
  (qAl (ow1 := [2]) (qJn (by decide) (by decide) (qO5 (by decide) (by decide) (qFo (qAa (qAi (fun _ => qJ2) (qAi (fun _ => qD1) (qEg (fun _ => qD0) (qAa (qAb (by decide)) qAd)) (qEg (fun _ => qD0) (qAa (qAb (by decide)) qAd))) qAj) qAd)) (qBy (by decide)) qH5 (qA2 qFk (qD8 qAf) (qAa qAj qAd))))
  (qAl (ow1 := [2]) (qE5 (by decide) (qAhg (qAa (qAb (by decide)) qAd)) (qPt rfl (qDg (by decide) (qDg (by decide) qJi))) (qE5 (by decide) (qAhg (qAa (qAb (by decide)) qAd)) (qPt rfl (qDg (by decide) (qDg (by decide) qJi))) (qAbj (by decide) (by decide) (qAi (fun _ => (qBe Lift.refl)) (qZ7 (by decide) (qAi (fun _ => qD1) (qAb (by decide)) (qAb (by decide)))) (qAi (fun _ => (qBe Lift.refl)) (qAb (by decide)) (qAb (by decide)))) (qAi (fun _ => qD1) (qAb (by decide)) (qAb (by decide))))))
  (qL4 (ow1 := []) (by decide) (qAq (by decide) (qAb (by decide)))))))
def qMb (K : PySem.W.Frag) (cs : List Str) : TS :=
  (tSeq (tAsg (tCall (lift K (qJ4 cs)) [] E0 (tCons (tVar 1) tNil)) (gName 2))
  (tSeq (tIfS (tTest (tOp qJ0 (tVar 2) (tC .non))) tNever tNext)
  (tRet (tMake (He.ga K "Poly") (qG6 K "Poly" (qB1 cs)) [] E0 (tCons (tCall (lift K qPq) [] E0 (tCons (tFld K (tVar 0) "coefficients") (tCons (tLc (iList K (tVar 2)) (gName 3) tYes (tUn (qAjc (He.ga K "Ratio") (lift K (fR1 fun a => -a)) E0) (tVar 3)) [3]) tNil))) tNil)))))
def qOo (cs : List Str) : FS :=
  (qAy (qCu 2 (qAg (qJ4 cs) [] (qAc (qAe 1) qAm)))
  (qAy (qC1 (fB (fOp qRf (qAe 2) (fC .non))) qXo qAv)
  (qCr (qAg (qB1 cs) [] (qAc (qAg qPq [] (qAc (qCy "Poly" "coefficients" (qAe 0)) (qAc (fLc (qQz (qAe 2)) (qBf 3) qI8 (fUn (qAbs "Ratio" (fR1 fun a => -a)) (qAe 3)) [3]) qAm))) qAm)))))
theorem qAf8 {K : PySem.W.Frag} {cs : List Str} (T : KF K cs) (hRatio : ("Ratio" : Str) ∈ cs) (hPoly : ("Poly" : Str) ∈ cs) : SS K Ta [] [] [] [] (fun _ => E0) (qMb K cs) (qOo cs) :=
  (qAl (ow1 := []) (qAx (by decide) (by decide) (qAk Lift.refl qAf (qAa (qAb (by decide)) qAd)))
  (qAl (ow1 := []) (qBl (by decide) (qAp (qAi (fun _ => qH0) (qAb (by decide)) qCl)) qQg (qAn (by decide)))
  (qAq (by decide) (qA2 qEi qAf (qAa (qAk Lift.refl qAf (qAa (qAo (T.fld _ hPoly _ (by decide)) (qAb (by decide))) (qAa (SF.se (qO5 (by decide) (by decide) (qIt (qAb (by decide))) (qBy (by decide)) qH5 (qOg (fun _ => (qAco Lift.refl)) (qAb (by decide))))) qAd))) qAd)))))
def qLb (K : PySem.W.Frag) (cs : List Str) : TS :=
  (tSeq (tAsg (tCall (lift K (qJ4 cs)) [] E0 (tCons (tVar 1) tNil)) (gName 2))
  (tSeq (tIfS (tTest (tOp qJ0 (tVar 2) (tC .non))) tNever tNext)
  (tRet (tMake (He.ga K "Poly") (qG6 K "Poly" (qB1 cs)) [] E0 (tCons (tCall (lift K qJw) [] E0 (tCons (tFld K (tVar 0) "coefficients") (tCons (tVar 2) tNil))) tNil)))))
def qOk (cs : List Str) : FS :=
  (qAy (qCu 2 (qAg (qJ4 cs) [] (qAc (qAe 1) qAm)))
  (qAy (qC1 (fB (fOp qRf (qAe 2) (fC .non))) qXo qAv)
  (qCr (qAg (qB1 cs) [] (qAc (qAg qJw [] (qAc (qCy "Poly" "coefficients" (qAe 0)) (qAc (qAe 2) qAm))) qAm)))))
theorem qAff {K : PySem.W.Frag} {cs : List Str} (T : KF K cs) (hRatio : ("Ratio" : Str) ∈ cs) (hPoly : ("Poly" : Str) ∈ cs) : SS K Ta [] [] [] [] (fun _ => E0) (qLb K cs) (qOk cs) :=
  (qAl (ow1 := []) (qAx (by decide) (by decide) (qAk Lift.refl qAf (qAa (qAb (by decide)) qAd)))
  (qAl (ow1 := []) (qBl (by decide) (qAp (qAi (fun _ => qH0) (qAb (by decide)) qCl)) qQg (qAn (by decide)))
  (qAq (by decide) (qA2 qEi qAf (qAa (qAk Lift.refl qAf (qAa (qAo (T.fld _ hPoly _ (by decide)) (qAb (by decide))) (qAa (qAb (by decide)) qAd))) qAd)))))
def qQk (K : PySem.W.Frag) (cs : List Str) (E : XK) : TS :=
  (tSeq (tIfS (tNot (tB (tCB (rIsiT K) (tCons (tVar 1) (tCons (tTup (tCons (tC (.ty "list")) (tCons (tC (.ty "tuple")) tNil))) tNil))))) (qOl (He.ga K "NoPoly") (fun cls d _ H => E cls d H)) tNext)
  (tSeq (tFor (iSeq K (tVar 1)) (gName 2) (tIfS (tNot (tB (tCall (lift K (qEu cs)) [] E0 (tCons (tVar 2) tNil)))) (qOl (He.ga K "NoPoly") (fun cls d _ H => E cls d H)) tNext))
  (tAsg (tCall (lift K qNf) [] E0 (tCons (tLc (iSeq K (tVar 1)) (gName 2) tYes (tCall (lift K (qCv cs)) [] E0 (tCons (tVar 2) (tCons (tC (.str "coefficient")) tNil))) [2]) tNil)) (gName 3))))
def qDi (cs : List Str) : FS :=
  (qAy (qC1 (qGq (fB (qQo cs (qAe 1)))) (qFm "NoPoly") qAv)
  (qAy (qGn (fIt (qAe 1)) (qBf 2) (qC1 (qGq (fB (qAg (qEu cs) [] (qAc (qAe 2) qAm)))) (qFm "NoPoly") qAv))
  (qCu 3 (qAg qNf [] (qAc (fLc (fIt (qAe 1)) (qBf 2) qI8 (qAg (qCv cs) [] (qAc (qAe 2) (qAc (fC (.str "coefficient")) qAm))) [2]) qAm)))))
theorem qRt {K : PySem.W.Frag} {cs : List Str} (T : KF K cs) (hRatio : ("Ratio" : Str) ∈ cs) (hPoly : ("Poly" : Str) ∈ cs) (E : XK) : SS K Ta [] [] [] [] (fun _ => E) (qQk K cs E) (qDi cs) :=
  (qAl (ow1 := []) (qBl (by decide) (qEb (qOh (qAhn T.toKT (qAb (by decide))))) (qZh (by decide)) (qAn (by decide)))
  (qAl (ow1 := []) (qE5 (by decide) (qAhv (qAb (by decide))) (qBy (by decide)) (qBl (by decide) (qEb (qOh (qAk Lift.refl qAf (qAa (qAb (by decide)) qAd)))) (qZh (by decide)) (qAn (by decide))))
  (qAx (by decide) (by decide) (qAk Lift.refl qAf (qAa (SF.se (qO5 (by decide) (by decide) (qAhv (qAb (by decide))) (qBy (by decide)) qH5 (qAk Lift.refl qAf (qAa (qAb (by decide)) (qAa qGd qAd))))) qAd)))))
def qHm (K : PySem.W.Frag) (cs : List Str) (E : XK) : TE :=
  (tCB (qAb5 K) (tCons (tVar 3) tNil))
def qE9 (cs : List Str) : FE :=
  (fLs qJp (qAc (qAe 3) qAm))
theorem qHw {K : PySem.W.Frag} {cs : List Str} (T : KF K cs) (hRatio : ("Ratio" : Str) ∈ cs) (hPoly : ("Poly" : Str) ∈ cs) (E : XK) : SE K Ta [] (fun _ => E) (qHm K cs E) (qE9 cs) :=
  (qEg (fun _ => qAmw) (qAa (qAb (by decide)) qAd))
def qLm (K : PySem.W.Frag) (cs : List Str) (E : XK) : TE :=
  (tOp qNi (tCB (qFq K) (tCons (tVar 3) tNil)) (tC (.int 1)))
def qHb (cs : List Str) : FE :=
  (fOp qXp (fLs qIx (qAc (qAe 3) qAm)) (fC (.int 1)))
theorem qM8 {K : PySem.W.Frag} {cs : List Str} (T : KF K cs) (hRatio : ("Ratio" : Str) ∈ cs) (hPoly : ("Poly" : Str) ∈ cs) (E : XK) : SE K Ta [] (fun _ => E) (qLm K cs E) (qHb cs) :=
  (qAi (fun _ => qJ2) (qEg (fun _ => qD0) (qAa (qAb (by decide)) qAd)) qAj)
def qOn (K : PySem.W.Frag) (cs : List Str) (E : XK) : TE :=
  (tIf (qAbh K (tVar 3)) (tOp (rIxL K) (tVar 3) (tUn qO2 (tC (.int 1)))) (tMake (He.ga K "Ratio") (qA8 K) [.int 1] E (tCons (tC (.int 0)) tNil)))
def qGa (cs : List Str) : FE :=
  (fIf (fTru (qAe 3)) (fOp qBu (qAe 3) (fUn qQ7 (fC (.int 1)))) (qFc qHv [.int 1] (qAc (fC (.int 0)) qAm)))
theorem qQ0 {K : PySem.W.Frag} {cs : List Str} (T : KF K cs) (hRatio : ("Ratio" : Str) ∈ cs) (hPoly : ("Poly" : Str) ∈ cs) (E : XK) : SE K Ta [] (fun _ => E) (qOn K cs E) (qGa cs) :=
  (qQl (qXv (qAb (by decide))) (qAi (fun _ => qAz) (qAb (by decide)) (qOg (fun _ => qK0) qAj)) (qL5 qFk (qD8 qAf) (qAa qAj qAd)))
def qP0 (K : PySem.W.Frag) (cs : List Str) (E : XK) : TS :=
  (tSeq (tIfS (tNot (tB (tCB (rIsiT K) (tCons (tVar 1) (tCons (tTup (tCons (tC (.ty "list")) (tCons (tC (.ty "tuple")) tNil))) tNil))))) (qOl (He.ga K "NoPoly") (fun cls d _ H => E cls d H)) tNext)
  (tSeq (tFor (iSeq K (tVar 1)) (gName 2) (tIfS (tNot (tB (tCall (lift K (qEu cs)) [] E0 (tCons (tVar 2) tNil)))) (qOl (He.ga K "NoPoly") (fun cls d _ H => E cls d H)) tNext))
  (tSeq (tAsg (tCall (lift K qNf) [] E0 (tCons (tLc (iSeq K (tVar 1)) (gName 2) tYes (tCall (lift K (qCv cs)) [] E0 (tCons (tVar 2) (tCons (tC (.str "coefficient")) tNil))) [2]) tNil)) (gName 3))
  (tSeq (sFld K (tVar 0) (tCB (qAb5 K) (tCons (tVar 3) tNil)) "coefficients")
  (tSeq (sFld K (tVar 0) (tOp qNi (tCB (qFq K) (tCons (tVar 3) tNil)) (tC (.int 1))) "degree")
  (sFld K (tVar 0) (tIf (qAbh K (tVar 3)) (tOp (rIxL K) (tVar 3) (tUn qO2 (tC (.int 1)))) (tMake (He.ga K "Ratio") (qA8 K) [.int 1] E (tCons (tC (.int 0)) tNil))) "lead"))))))
theorem qCg {n : Nat} (h : n ≤ 100000) : n < sizeLine := by
  have : sizeLine = 2 ^ 24 := rfl
  omega
/-- Ratio + Ratio -/
theorem qDo {f : Rat → Rat → Rat} {a b : Rat} {P : D → Prop} {X : XP} : fR2 f [.rat a, .rat b] P X ↔ (qMf a b ∧ P (.rat (f a b))) := Iff.rfl
theorem qAcf {f : Rat → Rat} {a : Rat} {P : D → Prop} {X : XP} : fR1 f [.rat a] P X ↔ ((∃ n, Sz n a ∧ n ≤ 900000) ∧ P (.rat (f a))) := Iff.rfl
theorem qJ6 {f : Rat → Rat → Bool} {a b : Rat} {P : D → Prop} {X : XP} : fRB f [.rat a, .rat b] P X ↔ (qMf a b ∧ P (.bl (f a b))) := Iff.rfl
theorem qO1 {f : Rat → Rat → Bool} {a : Rat} {n : Int} {P : D → Prop} {X : XP} : fRB f [.rat a, .int n] P X ↔ (qMf a n ∧ P (.bl (f a n))) := Iff.rfl
theorem qT8 {d1 d2 : D} {cs es : List Rat} {n m : Nat} {FD : FEnds} {body : FS} (h1 : itD d1 = some (qBj cs)) (h2 : itD d2 = some (qBj es)) (l1 : cs.length ≤ 1000) (l2 : es.length ≤ 1000) (z1 : SzL n cs) (z2 : SzL m es) (n0 : 0 < n) (m0 : 0 < m) (hs : n + m ≤ 900000)
    (hb : body = qAy (qCu 4 (fIf (fB (fOp oLt (qAe 3) (fLs qIx (qAc (qAe 0) qAm)))) (fOp oIx (qAe 0) (qAe 3)) (qAg qHv [.int 1] (qAc (fC (.int 0)) qAm))))
      (qAy (qC1 (fB (fOp oLt (qAe 3) (fLs qIx (qAc (qAe 1) qAm)))) (qCu 4 (fOp (qBk "Ratio" (fR2 fun a b => a + b)) (qAe 4) (fOp oIx (qAe 1) (qAe 3)))) qAv) (qQc 2 (qAe 4))))
    (k : ∀ v3 v4, FD.nx [some d1, some d2, some (.lst (qBj (qVj cs es))), v3, v4]) :
    ∀ (r i : Nat) (v3 v4 : Option D), i + r = max cs.length es.length → qCk (qBf 3) body FD (qKx (i : Nat) r) [some d1, some d2, some (.lst (qBj ((List.range i).map fun j => coef cs j + coef es j))), v3, v4]
  | 0, i, v3, v4, hi => by
    have : i = max cs.length es.length := by omega
    subst this
    exact k v3 v4
  | r + 1, i, v3, v4, hi => by
    have ih := qT8 h1 h2 l1 l2 z1 z2 n0 m0 hs hb k r (i + 1)
    rw [qGj]
    unfold qCk
    have fin : ∀ q, q = coef cs i + coef es i → ∀ v3 : Option D, (List.range i).length < sizeLine ∧ qCk (qBf 3) body FD (qKx ((i : Int) + 1) r) [some d1, some d2, some (.lst (qBj ((List.range i).map fun j => coef cs j + coef es j) ++ [.rat q])), v3, some (.rat q)] := fun q hq v3 => by
      refine ⟨by rw [List.length_range]; exact qCg (by omega), ?_⟩
      have e := ih v3 (some (.rat q)) (by omega)
      have e2 : qBj ((List.range (i + 1)).map fun j => coef cs j + coef es j) = qBj ((List.range i).map fun j => coef cs j + coef es j) ++ [.rat q] := by
        unfold qBj
        rw [List.range_succ, List.map_append, List.map_append, hq]
        rfl
      rw [e2] at e
      exact e
    have dl : ∀ xs : List Rat, (i < xs.length → decide ((i : Int) < ((qBj xs).length : Nat)) = true) ∧ (¬ i < xs.length → decide ((i : Int) < ((qBj xs).length : Nat)) = false) := fun xs => by
      rw [qBq]
      exact ⟨fun h => decide_eq_true (by omega), fun h => decide_eq_false (by omega)⟩
    have zz : ∀ j, qMf (coef cs j) (coef es j) := fun j => ⟨n, m, z1.coef n0 j, z2.coef m0 j, hs⟩
    have c0 : ¬ i < cs.length → coef cs i = 0 := fun h => qBb (by omega)
    have e0 : ¬ i < es.length → coef es i = 0 := fun h => qBb (by omega)
    rw [hb]
    by_cases a : i < cs.length
    · by_cases b : i < es.length
      · simp_arith [qFs h1, qFs h2, (dl cs).1 a, (dl es).1 b]
        refine qEx h1 (qHh a) ?_
        refine qEx h2 (qHh b) ?_
        simp_arith [qDo]
        rw [← hb]
        exact ⟨zz i, by rw [qBq, List.length_map]; exact (fin _ rfl none).1, (fin _ rfl _).2⟩
      · simp_arith [qFs h1, qFs h2, (dl cs).1 a, (dl es).2 b]
        refine qEx h1 (qHh a) ?_
        rw [← hb]
        have f := fin (coef cs i) (by rw [e0 b, Rat.add_zero])
        exact ⟨by rw [qBq, List.length_map]; exact (f none).1, (f _).2⟩
    · have b : i < es.length := by omega
      simp_arith [qFs h1, qFs h2, (dl cs).2 a, (dl es).1 b, qSv, Rat.intCast_zero]
      refine qEx h2 (qHh b) ?_
      simp_arith [qDo]
      rw [← hb]
      have f := fin (0 + coef es i) (by rw [c0 a])
      have zi := zz i
      rw [c0 a] at zi
      exact ⟨zi, by rw [qBq, List.length_map]; exact (f none).1, (f _).2⟩
theorem qApv {cs : List Str} (hR : ("Ratio" : Str) ∈ cs) (hP : ("Poly" : Str) ∈ cs) (ds : List D) (P : D → Prop) (X : XP) (h : qPq ds P X) : qAbt cs (qFj P X0) (qA0 5 ds) := by
  obtain ⟨d1, d2, xs, es, n, m, rfl, h1, h2, z1, z2, n0, m0, hs, l1, l2, p⟩ := h
  simp_arith [qAbt, qGn, qFa, qFs h1, qFs h2, qBq]
  refine ⟨by decide, by decide, by omega, by omega, ?_⟩
  have e : (max (xs.length : Int) (es.length : Int)).toNat = max xs.length es.length := by omega
  rw [e]
  refine qT8 (n := n) (m := m) h1 h2 l1 l2 z1 z2 n0 m0 hs rfl (fun v3 v4 => ?_) _ 0 none none (by omega)
  simp_arith []
  exact p
theorem qG9 (q : Rat) : q.num = 0 ↔ q = 0 := Rat.num_eq_zero
theorem qAo2 {cs : List Rat} {k : Nat} {P : D → Prop} {X : XP} (h : k < cs.length) (p : P (.rat (coef cs k))) : oIx (.lst (qBj cs)) (.int (k : Nat)) P X := qEx rfl (qHh h) p
theorem qAdl {α : Type} (xs : List α) (k : Nat) : cutD xs none (some (k : Int)) = xs.take k := by
  unfold cutD
  rw [HT.sIx_none, HT.sIx_nat, List.drop_zero, Nat.sub_zero]
  rw [Nat.min_def]
  split
  · rfl
  · rename_i h
    rw [List.take_length, List.take_of_length_le (by omega)]
theorem qZk (cs : List Rat) (k : Nat) : (qBj cs).take k = qBj (cs.take k) := by
  unfold qBj
  rw [List.map_take]
theorem qSw {cs : List Str} (hR : ("Ratio" : Str) ∈ cs) (hP : ("Poly" : Str) ∈ cs) (ds : List D) (P : D → Prop) (X : XP) (h : qNf ds P X) : qG0 cs (qFj P X0) (qA0 2 ds) := by
  obtain ⟨xs, rfl, p⟩ := h
  simp_arith [qG0, qAen, qBq]
  refine ⟨fun m ρ => m ≤ xs.length ∧ ρ = [some (.lst (qBj xs)), some (.int (m : Nat))] ∧ szN (coef xs) xs.length = szN (coef xs) m, ⟨xs.length, Nat.le_refl _, rfl, rfl⟩, ?_⟩
  rintro m ρ ⟨hm, rfl, hz⟩
  simp_arith []
  cases m with
  | zero =>
    simp_arith [Int.lt_irrefl, decide_false, Int.ofNat_zero, Int.natCast_zero]
    have e : cutD (qBj xs) none (some ((0 : Nat) : Int)) = qBj (strip xs) := by
      rw [qAdl, qZk]
      unfold strip
      rw [hz]
      rfl
    rw [show (some (0 : Int)) = some ((0 : Nat) : Int) from rfl, e]
    exact p
  | succ m =>
    have d : decide ((0 : Int) < ((m + 1 : Nat) : Int)) = true := decide_eq_true (by omega)
    simp_arith [d]
    have e1 : ((m + 1 : Nat) : Int) - 1 = ((m : Nat) : Int) := by omega
    rw [e1]
    refine qAo2 (by omega) ?_
    simp_arith [qD6]
    by_cases hz2 : coef xs m = 0
    · rw [decide_eq_true ((qG9 _).mpr hz2), if_pos rfl]
      refine ⟨m, by omega, by omega, rfl, ?_⟩
      rw [hz]
      show (if coef xs m = 0 then _ else _) = _
      rw [if_pos hz2]
    · rw [decide_eq_false (fun z => hz2 ((qG9 _).mp z)), if_neg (by decide)]
      rw [qAdl, qZk]
      have : szN (coef xs) (m + 1) = m + 1 := by
        show (if coef xs m = 0 then _ else _) = _
        rw [if_neg hz2]
      unfold strip at p
      rw [hz, this] at p
      exact p
theorem qAkn {cs : List Str} (h : ("Poly" : Str) ∈ cs) (q : List Rat) : isD cs (.own "Poly") (.poly q) = some true := by
  simp only [isD, tyN, qN9, if_pos h, decide_true]
theorem qApn {cs : List Str} (h : ("Poly" : Str) ∈ cs) (i : Int) : isD cs (.own "Poly") (.int i) = some false := by
  simp only [isD, tyN, if_pos h]
theorem qAp5 {cs : List Str} (hR : ("Ratio" : Str) ∈ cs) (h : ("Poly" : Str) ∈ cs) (q : Rat) : isD cs (.own "Poly") (.rat q) = some false := by
  have : ¬ (("Ratio" : Str) = "Poly") := by decide +kernel
  simp only [isD, tyN, qN9, if_pos h, if_pos hR, decide_eq_false this]
theorem qSz (q : List Rat) : fldD "coefficients" (.poly q) = some (.tup (qBj q)) := by simp [fldD, qBj]
theorem qAhz (q : List Rat) : fldD "degree" (.poly q) = some (.int ((q.length : Int) - 1)) := by
  have h : ¬ (("degree" : Str) = "coefficients") := by decide +kernel
  simp only [fldD, if_neg h, if_true]
theorem qOa {cs : List Str} (hR : ("Ratio" : Str) ∈ cs) (hP : ("Poly" : Str) ∈ cs) (ds : List D) (P : D → Prop) (X : XP) (h : qJ4 cs ds P X) : qDj cs (qFj P X0) (qA0 1 ds) := by
  obtain ⟨d, qs, rfl, hd, p⟩ := h
  cases d <;> first | (cases hd; done) | skip
  · rename_i n
    simp_arith [qDj, qApn hP, qDx hR, qBt, qSv]
    by_cases h0 : n = 0
    · subst h0
      cases hd
      rw [show (!decide ((0 : Int) = 0)) = false from rfl, if_neg (by decide)]
      exact ⟨by decide, p⟩
    · have e : qs = [(n : Rat)] := by
        have := Option.some.inj hd
        rw [if_neg h0] at this
        exact this.symm
      subst e
      rw [decide_eq_false h0, if_pos (by decide)]
      exact ⟨by decide, p⟩
  · rename_i q
    simp_arith [qDj, qAp5 hR hP, qDy hR, qD6]
    by_cases h0 : q = 0
    · have e : qs = [] := by
        have := Option.some.inj hd
        rw [if_pos h0] at this
        exact this.symm
      subst e
      rw [decide_eq_true ((qG9 _).mpr h0), if_neg (by decide)]
      exact ⟨by decide, p⟩
    · have e : qs = [q] := by
        have := Option.some.inj hd
        rw [if_neg h0] at this
        exact this.symm
      subst e
      rw [decide_eq_false (fun z => h0 ((qG9 _).mp z)), if_pos (by decide)]
      exact ⟨by decide, p⟩
  · cases hd
    simp_arith [qDj, qAkn hP, qSz]
    exact p
/-! ### multiplied -/
theorem qMw {α β : Type} (l : List α) (c : β) : (l.map fun _ => c) = List.replicate l.length c := by
  induction l with
  | nil => rfl
  | cons a l ih => rw [List.map_cons, ih]; rfl
/-- a comprehension whose turns all give f d -/
theorem qMl {g : FG} {fe : FE} {ρ0 : Env} {P : D → Prop} (f : D → D) : ∀ (ds acc : List D), (∀ d, d ∈ ds → ∀ Q : D → Prop, Q (f d) → g d ρ0 fun ρ2 => fe ρ2 Q X0) → acc.length + ds.length < sizeLine → P (.lst (acc ++ ds.map f)) → lcGo g qI8 fe ρ0 P ds acc
  | [], acc, _, _, p => by
    rw [List.map_nil, List.append_nil] at p
    exact p
  | d :: ds, acc, h, hl, p => by
    unfold lcGo
    have h1 := h d List.mem_cons_self
    simp only [qI8, if_true]
    refine h1 _ ⟨by rw [List.length_cons] at hl; omega, ?_⟩
    refine qMl f ds (acc ++ [f d]) (fun d' hd' => h d' (List.mem_cons_of_mem _ hd')) ?_ ?_
    · rw [List.length_append, List.length_singleton]
      rw [List.length_cons] at hl
      omega
    · rw [List.append_assoc]
      exact p
/-- row after the first i rows and of row i the first j places -/
def cell (f g : Nat → Rat) (i j k : Nat) : Rat := conv f g i k + if i ≤ k ∧ k < i + j then f i * g (k - i) else 0
theorem qAhy (f g : Nat → Rat) (i k : Nat) : cell f g i 0 k = conv f g i k := by
  unfold cell
  rw [if_neg (by omega), Rat.add_zero]
theorem qZq (f g : Nat → Rat) (i j k : Nat) : cell f g i (j + 1) k = if k = i + j then cell f g i j k + f i * g j else cell f g i j k := by
  unfold cell
  by_cases h : k = i + j
  · rw [if_pos h, if_pos (by omega), if_neg (by omega), Rat.add_zero, show k - i = j by omega]
  · rw [if_neg h]
    by_cases h2 : i ≤ k ∧ k < i + j
    · rw [if_pos h2, if_pos (by omega)]
    · rw [if_neg h2, if_neg (by omega)]
theorem qAji {f g : Nat → Rat} {m : Nat} (hg : ∀ k, m ≤ k → g k = 0) (i k : Nat) : cell f g i m k = conv f g (i + 1) k := by
  unfold cell
  show _ = conv f g i k + if i ≤ k then f i * g (k - i) else 0
  by_cases h : i ≤ k
  · rw [if_pos h]
    by_cases h2 : k < i + m
    · rw [if_pos ⟨h, h2⟩]
    · rw [if_neg (by omega), hg _ (by omega), Rat.mul_zero]
  · rw [if_neg h, if_neg (by omega)]
theorem qAbl {cs es : List Rat} {n m : Nat} (z1 : SzL n cs) (z2 : SzL m es) (n0 : 0 < n) (m0 : 0 < m) : ∀ i k, Sz (1 + i * (n + m + 1)) (conv (coef cs) (coef es) i k)
  | 0, k => by
    show Sz _ 0
    rw [Nat.zero_mul]
    exact qOp
  | i + 1, k => by
    have ih := qAbl z1 z2 n0 m0 i k
    unfold conv
    split
    · refine (ih.add ((z1.coef n0 i).mul (z2.coef m0 (k - i)))).mono ?_
      rw [Nat.add_mul]; omega
    · rw [Rat.add_zero]
      refine ih.mono ?_
      rw [Nat.add_mul]; omega
theorem qRx {cs es : List Rat} {n m : Nat} (z1 : SzL n cs) (z2 : SzL m es) (n0 : 0 < n) (m0 : 0 < m) (hs : (cs.length + 1) * (n + m + 1) ≤ 900000) : MulSz cs es := by
  refine ⟨fun i j hi hj => ?_, fun i j hi hj => ?_⟩
  · have hb : (0 + 1) * (n + m + 1) ≤ 900000 := Nat.le_trans (Nat.mul_le_mul_right _ (by omega)) hs
    exact ⟨n, m, z1.coef n0 i, z2.coef m0 j, by omega⟩
  · have sm := (z1.coef n0 i).mul (z2.coef m0 j)
    have sc := qAbl z1 z2 n0 m0 i (i + j)
    have hb : (i + 1 + 1) * (n + m + 1) ≤ 900000 := Nat.le_trans (Nat.mul_le_mul_right _ (by omega)) hs
    refine ⟨_, _, sc, sm, ?_⟩
    rw [Nat.add_mul (i + 1) 1, Nat.add_mul i 1, Nat.one_mul] at hb
    omega
theorem qApd (f g : Nat → Rat) (i j : Nat) : cell f g i j (i + j) = conv f g i (i + j) := by
  unfold cell
  rw [if_neg (by omega), Rat.add_zero]
theorem qAoy {n i : Nat} {f g : Nat → D} (h : ∀ k, k < n → g k = if k = i then g i else f k) : ((List.range n).map f).set i (g i) = (List.range n).map g := by
  refine List.ext_getElem? fun k => ?_
  rw [List.getElem?_set, List.length_map, List.length_range]
  by_cases hk : k < n
  · rw [List.getElem?_map, List.getElem?_map, List.getElem?_range hk]
    by_cases hi : i = k
    · subst hi
      rw [if_pos rfl, if_pos hk]
      rfl
    · rw [if_neg hi]
      show some (f k) = some (g k)
      rw [h k hk, if_neg (Ne.symm hi)]
  · rw [List.getElem?_map, List.getElem?_map, List.getElem?_eq_none (l := List.range n) (by simp; omega)]
    split
    · rw [if_neg (by omega)]
      rfl
    · rfl
theorem qSp (d : D) (ds : List D) (k : Nat) : enD (d :: ds) k = .tup [.int (k : Nat), d] :: enD ds (k + 1) := rfl
theorem qJr (c : Rat) (cs : List Rat) : qBj (c :: cs) = .rat c :: qBj cs := rfl
theorem qMu {cs : List Rat} {i : Nat} (h : i < cs.length) : cs.drop i = coef cs i :: cs.drop (i + 1) := by
  have e := qRk h
  rw [List.getElem?_eq_getElem h] at e
  rw [List.drop_eq_getElem_cons h, Option.some.inj e]
abbrev mulB : FS := qLx 2 (fOp (qBk "Ratio" (fR2 fun a b => a + b)) (fOp oIx (qAe 2) (fOp qKu (qAe 3) (qAe 6))) (fOp (qBk "Ratio" (fR2 fun a b => a * b)) (qAe 4) (qAe 7))) (fOp qKu (qAe 3) (qAe 6))
theorem qWi {n k : Nat} {f : Nat → D} (h : k < n) : ((List.range n).map f)[k]? = some (f k) := by
  rw [List.getElem?_map, List.getElem?_range h]
  rfl
theorem qAha {n k : Nat} (h : k < n) : ixN n (k : Int) = some k := by
  unfold ixN
  rw [if_pos (by omega), if_pos (by omega)]
  simp
theorem qZp {d1 d2 : D} {cs es : List Rat} {i : Nat} {FD : FEnds} {v5 : Option D} (hi : i < cs.length) (hs : MulSz cs es)
    (k : ∀ v6 v7, FD.nx [some d1, some d2, some (.lst ((List.range (cs.length + es.length - 1)).map fun k => .rat (cell (coef cs) (coef es) i es.length k))), some (.int (i : Nat)), some (.rat (coef cs i)), v5, v6, v7]) :
    ∀ (r j : Nat) (v6 v7 : Option D), j + r = es.length → qCk (qF7 [6, 7]) mulB FD (enD (qBj (es.drop j)) j) [some d1, some d2, some (.lst ((List.range (cs.length + es.length - 1)).map fun k => .rat (cell (coef cs) (coef es) i j k))), some (.int (i : Nat)), some (.rat (coef cs i)), v5, v6, v7]
  | 0, j, v6, v7, hj => by
    have : j = es.length := by omega
    subst this
    rw [List.drop_length]
    exact k v6 v7
  | r + 1, j, v6, v7, hj => by
    have ih := qZp hi hs k r (j + 1)
    rw [qMu (by omega), qJr, qSp]
    unfold qCk
    simp_arith [qDo]
    have e1 : (i : Int) + (j : Int) = ((i + j : Nat) : Int) := by omega
    rw [e1]
    have hlt : i + j < cs.length + es.length - 1 := by omega
    refine qEx rfl (qWi hlt) ?_
    simp_arith [qDo]
    refine ⟨hs.prod i j hi (by omega), ?_, ?_⟩
    · rw [qApd]
      exact hs.sum i j hi (by omega)
    refine ⟨i + j, by rw [List.length_map, List.length_range]; exact qAha hlt, ?_⟩
    have e := ih (some (.int (j : Nat))) (some (.rat (coef es j))) (by omega)
    have e2 : ((List.range (cs.length + es.length - 1)).map fun k => D.rat (cell (coef cs) (coef es) i j k)).set (i + j) (.rat (cell (coef cs) (coef es) i j (i + j) + coef cs i * coef es j)) = (List.range (cs.length + es.length - 1)).map fun k => D.rat (cell (coef cs) (coef es) i (j + 1) k) := by
      have e3 : D.rat (cell (coef cs) (coef es) i j (i + j) + coef cs i * coef es j) = D.rat (cell (coef cs) (coef es) i (j + 1) (i + j)) := by
        rw [qZq, if_pos rfl]
      rw [e3]
      refine qAoy (g := fun k => D.rat (cell (coef cs) (coef es) i (j + 1) k)) fun k hk => ?_
      by_cases h : k = i + j
      · rw [if_pos h, h]
      · rw [if_neg h, qZq, if_neg h]
    rw [e2]
    exact e
theorem qYb {d1 d2 : D} {cs es : List Rat}  {FD : FEnds} {v5 : Option D} (h2 : itD d2 = some (qBj es)) (hs : MulSz cs es)
    (k : ∀ v3 v4 v6 v7, FD.nx [some d1, some d2, some (.lst ((List.range (cs.length + es.length - 1)).map fun k => .rat (conv (coef cs) (coef es) cs.length k))), v3, v4, v5, v6, v7]) :
    ∀ (r i : Nat) (v3 v4 v6 v7 : Option D), i + r = cs.length → qCk (qF7 [3, 4]) (qGn (fEn (qAc (qAe 1) qAm)) (qF7 [6, 7]) mulB) FD (enD (qBj (cs.drop i)) i) [some d1, some d2, some (.lst ((List.range (cs.length + es.length - 1)).map fun k => .rat (conv (coef cs) (coef es) i k))), v3, v4, v5, v6, v7]
  | 0, i, v3, v4, v6, v7, hi => by
    have : i = cs.length := by omega
    subst this
    rw [List.drop_length]
    exact k v3 v4 v6 v7
  | r + 1, i, v3, v4, v6, v7, hi => by
    have ih := qYb h2 hs k r (i + 1)
    rw [qMu (by omega), qJr, qSp]
    unfold qCk
    simp only [qTp, qGn, fEn, qTs, itEx h2, qAc, qAm, qAe, List.set_cons_succ, List.set_cons_zero, List.getElem?_cons_succ, List.getElem?_cons_zero, List.length_cons, List.length_nil]
    refine ⟨_, rfl, ?_⟩
    rw [itEx h2]
    have st := qZp (d1 := d1) (d2 := d2) (cs := cs) (es := es) (i := i) (v5 := v5) (FD := { FD with nx := qCk (qF7 [3, 4]) (qGn (fEn (qAc (qAe 1) qAm)) (qF7 [6, 7]) mulB) FD (enD (qBj (cs.drop (i + 1))) (i + 1)), ct := qCk (qF7 [3, 4]) (qGn (fEn (qAc (qAe 1) qAm)) (qF7 [6, 7]) mulB) FD (enD (qBj (cs.drop (i + 1))) (i + 1)), bk := FD.nx }) (by omega) hs (fun v6 v7 => ?_) es.length 0 v6 v7 (by omega)
    · have e0 : ((List.range (cs.length + es.length - 1)).map fun k => D.rat (cell (coef cs) (coef es) i 0 k)) = (List.range (cs.length + es.length - 1)).map fun k => D.rat (conv (coef cs) (coef es) i k) := List.map_congr_left fun k _ => by rw [qAhy]
      rw [e0] at st
      exact st
    · have e0 : ((List.range (cs.length + es.length - 1)).map fun k => D.rat (cell (coef cs) (coef es) i es.length k)) = (List.range (cs.length + es.length - 1)).map fun k => D.rat (conv (coef cs) (coef es) (i + 1) k) := List.map_congr_left fun k _ => by rw [qAji (fun k hk => qBb hk)]
      rw [e0]
      exact ih _ _ _ _ (by omega)
theorem qAaa {cs : List Str} (hR : ("Ratio" : Str) ∈ cs) (hP : ("Poly" : Str) ∈ cs) (ds : List D) (P : D → Prop) (X : XP) (h : qJw ds P X) : qF0 cs (qFj P X0) (qA0 8 ds) := by
  obtain ⟨d1, d2, xs, es, rfl, h1, h2, lx, l2, hs, p⟩ := h
  have em : ∀ l : List Rat, l ≠ [] → (qBj l).isEmpty = false := fun l h => by cases l with | nil => exact absurd rfl h | cons a l => rfl
  by_cases e1 : xs = []
  · subst e1
    have hx : (qBj []).isEmpty = true := rfl
    simp_arith [qF0, qQa h1, hx, Bool.not_true, Bool.not_false]
    exact ⟨by decide, p⟩
  · have hx := em xs e1
    by_cases e2 : es = []
    · subst e2
      have e : qF5 xs [] = [] := by simp [qF5]
      rw [e] at p
      have hx2 : (qBj []).isEmpty = true := rfl
      simp_arith [qF0, qQa h1, qQa h2, hx, hx2, Bool.not_true, Bool.not_false]
      exact ⟨by decide, p⟩
    · have hy := em es e2
      have px : 0 < xs.length := List.length_pos_iff.mpr e1
      have py : 0 < es.length := List.length_pos_iff.mpr e2
      simp_arith [qF0, qQa h1, qQa h2, hx, hy, Bool.not_true, Bool.not_false, fLc, qFa, qFs h1, qFs h2, qBq]
      refine ⟨by decide, by omega, by omega, ?_⟩
      refine qMl (fun _ => .rat 0) _ [] (fun d hd Q q => ?_) ?_ ?_
      · simp_arith [qSv, Rat.intCast_zero]
        exact q
      · simp only [qKx, List.length_map, List.length_range, List.length_nil]
        exact qCg (by omega)
      · rw [List.nil_append]
        simp_arith [qGn, fEn, itEx h1]
        have st := qYb (d1 := d1) (d2 := d2) (cs := xs) (es := es) (v5 := none) (FD := (⟨fun ρ => (∃ d, ρ[2]? = some (some d) ∧ P d), P, fun _ => False, fun _ => False, fun _ _ => False, P⟩ : FEnds)) h2 hs (fun v3 v4 v6 v7 => ?_) xs.length 0 none none none none (by omega)
        · have e0 : ((qKx 0 ((xs.length : Int) + (es.length : Int) - 1).toNat).map fun _ => D.rat 0) = (List.range (xs.length + es.length - 1)).map fun k => D.rat (conv (coef xs) (coef es) 0 k) := by
            rw [qMw, show (fun k => D.rat (conv (coef xs) (coef es) 0 k)) = fun _ => D.rat 0 from rfl, qMw]
            congr 1
            simp only [qKx, List.length_map, List.length_range]
            omega
          rw [e0]
          exact st
        · refine ⟨_, rfl, ?_⟩
          have e : qF5 xs es = (List.range (xs.length + es.length - 1)).map fun k => conv (coef xs) (coef es) xs.length k := by
            unfold qF5
            rw [if_neg (by omega)]
          rw [e] at p
          unfold qBj at p
          rw [List.map_map] at p
          exact p
/-! ### values -/
/-! ### operators -/
theorem SzL.neg {n : Nat} {cs : List Rat} (h : SzL n cs) : SzL n (qOx cs) := fun c hc => by
  unfold qOx at hc
  obtain ⟨d, hd, rfl⟩ := List.mem_map.mp hc
  exact (h d hd).neg
theorem qNh : ∀ cs : List Rat, qEp (qBj cs) = some cs
  | [] => rfl
  | c :: cs => by
    show (match numV (.rat c), qEp (qBj cs) with | some q, some qs => some (q :: qs) | _, _ => none) = _
    rw [qNh cs]
    rfl
theorem qR7 {cs : List Str} {es : List Rat} {P : D → Prop} {X : XP} (hl : es.length ≤ 100000) (p : P (.poly (strip es))) : qB1 cs [.lst (qBj es)] P X := ⟨_, rfl, .inl ⟨_, es, rfl, by rw [qBq]; exact hl, qNh es, p⟩⟩
theorem qAmd (cs es : List Rat) : (qF5 cs es).length ≤ cs.length + es.length := by
  unfold qF5
  split
  · simp
  · rw [List.length_map, List.length_range]
    omega
theorem qAdo {cs : List Str} {d : D} {es : List Rat} {P : D → Prop} {X : XP} (h : pcoef d = some es) (p : P (.lst (qBj es))) : qJ4 cs [d] P X := ⟨d, es, rfl, h, p⟩
theorem qAkt (es : List Rat) : (qBj es).map (fun d => match d with | .rat q => D.rat (-q) | e => e) = qBj (qOx es) := by
  unfold qBj qOx
  rw [List.map_map, List.map_map]
  rfl
theorem qArq {ρ0 : Env} {P : D → Prop} {i n : Nat} {es : List Rat} (hi : i < ρ0.length) (z : SzL n es) (hn : n ≤ 900000) (l : es.length ≤ 1000) (p : P (.lst (qBj (qOx es)))) : lcGo (qBf i) qI8 (fUn (qAbs "Ratio" (fR1 fun a => -a)) (qAe i)) ρ0 P (qBj es) [] := by
  refine qMl (fun d => match d with | .rat q => D.rat (-q) | e => e) _ [] (fun d hd Q q => ?_) ?_ ?_
  · obtain ⟨c, hc, rfl⟩ := List.mem_map.mp hd
    refine ⟨_, by rw [qCf, if_pos rfl, if_pos hi], ?_⟩
    refine qTc.mpr (qAcf.mpr ⟨⟨n, z c hc, hn⟩, q⟩)
  · rw [qBq]
    exact qCg (by simp; omega)
  · rw [qAkt]
    exact p
theorem qAfo {cs : List Str} (hR : ("Ratio" : Str) ∈ cs) (hP : ("Poly" : Str) ∈ cs) (ds : List D) (P : D → Prop) (X : XP) (h : qIq cs ds P X) : qOk cs (qFj P X0) (qA0 3 ds) := by
  obtain ⟨a, d, es, rfl, hd, l1, l2, hs, p⟩ := h
  simp_arith [qOk]
  refine qAdo hd ?_
  simp_arith [qSz]
  exact ⟨_, _, a, es, rfl, rfl, rfl, l1, l2, hs, qR7 (by have := qAmd a es; omega) p⟩
theorem qAfu {cs : List Str} (hR : ("Ratio" : Str) ∈ cs) (hP : ("Poly" : Str) ∈ cs) (ds : List D) (P : D → Prop) (X : XP) (h : qQt cs ds P X) : qOo cs (qFj P X0) (qA0 4 ds) := by
  obtain ⟨a, d, es, n, m, rfl, hd, z1, z2, n0, m0, hs, l1, l2, p⟩ := h
  simp_arith [qOo, fLc]
  refine qAdo hd ?_
  simp_arith [qSz]
  refine qArq (by simp [qIv]) z2 (by omega) l2 ?_
  exact ⟨_, _, a, qOx es, n, m, rfl, rfl, rfl, z1, z2.neg, n0, m0, hs, l1, by rw [qKn]; exact l2, qR7 (by rw [qMq, qKn]; omega) p⟩
/-! ### Poly(..) -/
theorem qAd1 {K : PySem.W.Frag} {F : Fd} {M : Addr → Prop} {H1 : Hp} {C x dx : Addr} {n : Nat} {ds : List D} {us : List V} {names : List Str} (lv : Lv K F M H1) (r : Reps K F M H1 ds us) (n1 : H1 x = none) (n2 : H1 dx = none) (ne : dx ≠ x) (hn : names.length = n + 1) :
    REnv K F.T ⟨F, fun p => M p ∨ p = x, upd (upd H1 dx (.own x)) x (.ins C dx [])⟩ [] (upd (upd H1 dx (.own x)) x (.ins C dx [])) (start names (.ref x :: us)) (some (.adr x) :: qA0 n ds) := by
  have old : ∀ {b : Addr} {o : HO}, H1 b = some o → b ≠ x ∧ upd (upd H1 dx (.own x)) x (.ins C dx []) b = some o := fun {b o} h => by
    have h1 : b ≠ x := ne_of_none h n1
    have h2 : b ≠ dx := ne_of_none h n2
    exact ⟨h1, by rw [upd_ne h1, upd_ne h2]; exact h⟩
  have sm : Same H1 (upd (upd H1 dx (.own x)) x (.ins C dx [])) := fun b o h => (old h).2
  have go : Goes F M H1 ((⟨F, fun p => M p ∨ p = x, upd (upd H1 dx (.own x)) x (.ins C dx [])⟩ : Wd).Mx [] (L2.start names (.ref x :: us))) (upd (upd H1 dx (.own x)) x (.ins C dx [])) := fun p o h nf m => ⟨(old h).2, fun z => by
    rcases z with (z | z) | ⟨_, y, _⟩
    · exact m z
    · exact (old h).1 z
    · cases y⟩
  refine ⟨.refl, fun p m => ?_, fun p m => ?_, fun i _ => ?_, fun i hi => (nomatch hi), fun i hi => (nomatch hi), fun f hf => ?_, lv.t.ext sm, rfl⟩
  · rcases m with m | m
    · obtain ⟨o, h⟩ := lv.m p m
      exact ⟨o, (old h).2⟩
    · exact ⟨_, by rw [m]; exact upd_same⟩
  · rcases m with m | m
    · exact lv.nf p m
    · rw [m]; exact (lv.ok n1).1
  · have es : L2.start names (.ref x :: us) = some (.ref x) :: (us.map some ++ List.replicate (n - us.length) none) := by
      unfold L2.start
      rw [hn, List.length_cons, List.map_cons, List.cons_append]
      congr 3
      omega
    have mx : ∀ q, (⟨F, fun p => M p ∨ p = x, upd (upd H1 dx (.own x)) x (.ins C dx [])⟩ : Wd).Mx [] (L2.start names (.ref x :: us)) q ↔ (M q ∨ q = x) := fun q => ⟨fun z => z.elim id fun ⟨_, y, _⟩ => (nomatch y), .inl⟩
    show Sl (Rep K F ((⟨F, fun p => M p ∨ p = x, upd (upd H1 dx (.own x)) x (.ins C dx [])⟩ : Wd).Mx [] (L2.start names (.ref x :: us))) _) _ _
    generalize hMx : (⟨F, fun p => M p ∨ p = x, upd (upd H1 dx (.own x)) x (.ins C dx [])⟩ : Wd).Mx [] (L2.start names (.ref x :: us)) = MM at go ⊢
    rw [es]
    cases i with
    | zero => exact rfl
    | succ i =>
      rw [List.getElem?_cons_succ, List.getElem?_cons_succ]
      unfold qA0
      rw [r.length]
      exact qVo (n - ds.length) i r fun d v h => Rep.goes go d v h
  · obtain ⟨c, h1, h2⟩ := lv.f f hf
    refine ⟨c, h1.same sm, fun z => ?_⟩
    rcases z with (z | z) | ⟨_, y, _⟩
    · exact h2 z
    · obtain ⟨_, _, _, _, _, _, o, _, hc⟩ := h1
      exact (old hc).1 z
    · cases y
/-- the numbers of a list: the looks at its items, the list of Ratios -/
theorem qSi {cs : List Str} {FD : FEnds} {hd : D} {C : Str} (hR : ("Ratio" : Str) ∈ cs) {v3 : Option D} {x : D}
    (body : FS) (hb : body = qC1 (qGq (fB (qAg (qEu cs) [] (qAc (qAe 2) qAm)))) (qFm C) qAv) :
    ∀ (items : List D) (v2 : Option D), ((∃ qs, qEp items = some qs) ∧ ∀ v2, FD.nx [some x, some hd, v2, v3]) ∨ (∃ pre b post, items = pre ++ b :: post ∧ (∃ qs, qEp pre = some qs) ∧ qTa cs b = some false ∧ ∀ ρ, FD.ex ⟨C, []⟩ ρ) → qCk (qBf 2) body FD items [some x, some hd, v2, v3]
  | [], v2, h => by
    rcases h with ⟨_, h⟩ | ⟨pre, b, post, h, _⟩
    · exact h v2
    · cases pre <;> cases h
  | d :: items, v2, h => by
    unfold qCk
    rw [hb]
    simp_arith []
    rw [← hb]
    rcases h with ⟨⟨qs, hq⟩, h⟩ | ⟨pre, b', post, h, ⟨qs, hq⟩, hn, hx⟩
    · have hv : ∃ q, numV d = some q ∧ ∃ qs, qEp items = some qs := by
        simp only [qEp] at hq
        split at hq
        · rename_i q' qs' h1 h2; exact ⟨_, h1, _, h2⟩
        · cases hq
      obtain ⟨q, hv, qs', hqs⟩ := hv
      refine ⟨d, true, rfl, qDs hR hv, ?_⟩
      simp_arith [Bool.not_true]
      exact qSi hR body hb items _ (.inl ⟨⟨qs', hqs⟩, h⟩)
    · cases pre with
      | nil =>
        simp only [List.nil_append, List.cons.injEq] at h
        obtain ⟨rfl, rfl⟩ := h
        refine ⟨d, false, rfl, hn, ?_⟩
        simp_arith [Bool.not_false]
        exact hx _
      | cons e pre =>
        simp only [List.cons_append, List.cons.injEq] at h
        obtain ⟨rfl, rfl⟩ := h
        have hv : ∃ q, numV d = some q ∧ ∃ qs, qEp pre = some qs := by
          simp only [qEp] at hq
          split at hq
          · rename_i q' qs' h1 h2; exact ⟨_, h1, _, h2⟩
          · cases hq
        obtain ⟨q, hv, qs', hqs⟩ := hv
        refine ⟨d, true, rfl, qDs hR hv, ?_⟩
        simp_arith [Bool.not_true]
        exact qSi hR body hb _ _ (.inr ⟨pre, b', post, rfl, ⟨qs', hqs⟩, hn, hx⟩)
def qAlw (d : D) : D := match numV d with
  | some q => .rat q
  | none => d
theorem qUm : ∀ {items : List D} {qs : List Rat}, qEp items = some qs → items.map qAlw = qBj qs
  | [], qs, h => by cases h; rfl
  | d :: items, qs, h => by
    simp only [qEp] at h
    split at h
    · rename_i q qs' h1 h2
      cases h
      rw [List.map_cons, qUm h2, qJr]
      unfold qAlw
      rw [h1]
    · cases h
theorem qXx {d : D} : ∀ {items : List D} {qs : List Rat}, qEp items = some qs → d ∈ items → ∃ q, numV d = some q
  | [], _, _, h => by cases h
  | e :: items, qs, h, hd => by
    simp only [qEp] at h
    split at h
    · rename_i q qs' h1 h2
      rcases List.mem_cons.mp hd with rfl | hd
      · exact ⟨q, h1⟩
      · exact qXx h2 hd
    · cases h
theorem qX8 : ∀ {items : List D} {qs : List Rat}, qEp items = some qs → items.length = qs.length
  | [], _, h => by cases h; rfl
  | e :: items, qs, h => by
    simp only [qEp] at h
    split at h
    · rename_i q qs' h1 h2
      cases h
      rw [List.length_cons, List.length_cons, qX8 h2]
    · cases h
theorem qU2 {cs : List Str} (hR : ("Ratio" : Str) ∈ cs) {d : D} {q : Rat} {w : Str} {P : D → Prop} {X : XP} (h : numV d = some q) (p : P (.rat q)) : qCv cs [d, .str w] P X := by
  refine ⟨d, w, true, rfl, qDs hR h, (fun z => by cases z), fun _ => ?_⟩
  cases d <;> first | (cases h; done) | skip
  · cases h; exact p
  · cases h; exact p
theorem qAir {cs : List Str} (hR : ("Ratio" : Str) ∈ cs) {ρ0 : Env} {P : D → Prop} {i : Nat} {w : Str} {items : List D} {qs : List Rat} (hi : i < ρ0.length) (hq : qEp items = some qs) (hl : items.length ≤ 100000) (p : P (.lst (qBj qs))) : lcGo (qBf i) qI8 (qAg (qCv cs) [] (qAc (qAe i) (qAc (fC (.str w)) qAm))) ρ0 P items [] := by
  refine qMl qAlw _ [] (fun d hd Q q => ?_) ?_ ?_
  · obtain ⟨v, hv⟩ := qXx hq hd
    refine ⟨_, by rw [qCf, if_pos rfl, if_pos hi], ?_⟩
    show qCv cs [d, .str w] Q X0
    refine qU2 hR hv ?_
    unfold qAlw at q
    rw [hv] at q
    exact q
  · exact qCg (by simp; omega)
  · rw [qUm hq]
    exact p
theorem qAoz {cs : List Rat} (h : cs ≠ []) : atI (qBj cs) (-1) = some (.rat (qI5 cs)) := by
  have hl : 0 < cs.length := List.length_pos_iff.mpr h
  unfold atI ixN
  rw [if_neg (by decide), qBq, if_pos (by omega)]
  show (qBj cs)[(-1 + (cs.length : Int)).toNat]? = _
  rw [show (-1 + (cs.length : Int)).toNat = cs.length - 1 by omega, qHh (by omega)]
  rfl
theorem qAlb {cs : List Str} (hR : ("Ratio" : Str) ∈ cs) {d : D} {s : D} {P : D → Prop} {X : XP} {FD : FEnds} (h : qB1 cs [d] P X) (hn : ∀ v2 qs, P (.poly (strip qs)) → FD.nx [some s, some d, v2, some (.lst (qBj (strip qs)))]) (hx : ∀ ρ, X ⟨"NoPoly", []⟩ → FD.ex ⟨"NoPoly", []⟩ ρ) :
    qDi cs FD [some s, some d, none, none] := by
  obtain ⟨d', e, h⟩ := h
  cases e
  have isl : ∀ items, itD d = some items → ∃ b b', isD cs (.ty "list") d = some b ∧ isD cs (.ty "tuple") d = some b' ∧ (b || b') = true := fun items h => by
    rcases qJh h with rfl | rfl
    · exact ⟨true, false, by simp [isD, tyN, subN], by simp [isD, tyN, subN], rfl⟩
    · exact ⟨false, true, by simp [isD, tyN, subN], by simp [isD, tyN, subN], rfl⟩
  have main : ∀ items, itD d = some items → items.length ≤ 100000 → ((∃ qs, qEp items = some qs ∧ P (.poly (strip qs))) ∨ (∃ pre b post, items = pre ++ b :: post ∧ (∃ qs, qEp pre = some qs) ∧ qTa cs b = some false ∧ X ⟨"NoPoly", []⟩)) → qDi cs FD [some s, some d, none, none]   := fun items hi hl h => by
    obtain ⟨b, b', h1, h2, h3⟩ := isl items hi
    simp_arith [qDi, qGn, itEx hi]
    refine ⟨b, b', h1, h2, ?_⟩
    rw [h3]
    simp_arith [Bool.not_true]
    refine qSi hR _ rfl items none ?_
    rcases h with ⟨qs, hq, hp⟩ | ⟨pre, bb, post, h, hq, hb, hX⟩
    · refine .inl ⟨⟨qs, hq⟩, fun v2 => ?_⟩
      simp_arith [fLc, itEx hi]
      refine qAir hR (by simp [qIv]) hq hl ?_
      exact ⟨qs, rfl, hn v2 qs hp⟩
    · exact .inr ⟨pre, bb, post, h, hq, hb, fun ρ => hx ρ hX⟩
  rcases h with ⟨items, qs, hi, hl, hq, hp⟩ | ⟨items, pre, b, post, hi, hl, h1, h2, h3, h4⟩ | ⟨h1, h2, h3⟩
  · exact main items hi hl (.inl ⟨qs, hq, hp⟩)
  · exact main items hi hl (.inr ⟨pre, b, post, h1, h2, h3, h4⟩)
  · simp_arith [qDi]
    refine ⟨false, false, h1, h2, ?_⟩
    simp_arith [Bool.not_false, Bool.or_false]
    exact hx _ h3
theorem qUt {f g : Str} {v x : V} {r : List (Str × V)} (h : ¬ g = f) : putF f v ((g, x) :: r) = (g, x) :: putF f v r := by
  show (if g = f then _ else _) = _
  rw [if_neg h]
theorem Gr.updx {K : PySem.W.Frag} {F : Fd} {H1 Ha : Hp} {x : Addr} {o : HO} (g : Gr K F H1 Ha) (n : H1 x = none) (nf : F.no x) {u : HO} (hx : Ha x = some u) (hu : Pl u) : Gr K F H1 (upd Ha x o) := by
  refine ⟨fun b u h m => ?_, fun f c hf h => ?_, fun z => qNu (g.tab z) hx hu⟩
  · rw [upd_ne (ne_of_none h n)]
    exact g.old b u h m
  · refine (g.feed f c hf h).keep (fun z => nf.1 (by rw [z]; exact hf)) (fun z => ?_)
    obtain ⟨_, _, _, _, _, _, _, _, hc⟩ := h
    rw [← z, n] at hc; cases hc
theorem qAag {K : PySem.W.Frag} {cs : List Str} (T : KF K cs) (hRatio : ("Ratio" : Str) ∈ cs) (hPoly : ("Poly" : Str) ∈ cs) (vs : List V) (H : Hp) (Q : VK) (E : XK) (h : qG6 K "Poly" (qB1 cs) vs H Q E) : qP0 K cs E { nx := fun _ H' => Q .non H', rt := Q } (start ["self", "coefficients", "item", "kept"] vs) H := by
  obtain ⟨F, M, H1, ds, us, P, X, x, dx, rfl, rfl, n1, n2, ne, lv, r, hf, q, px⟩ := h
  obtain ⟨d, rfl, _⟩ := id hf
  have e0 := qAd1 (C := He.ga K "Poly") (n := 3) (names := ["self", "coefficients", "item", "kept"]) lv r n1 n2 ne rfl
  have sm0 : Gr K F H1 (upd (upd H1 dx (.own x)) x (.ins (He.ga K "Poly") dx [])) := .same fun b o h => by
    rw [upd_ne (ne_of_none h n1), upd_ne (ne_of_none h n2)]
    exact h
  generalize hH : upd (upd H1 dx (.own x)) x (.ins (He.ga K "Poly") dx []) = H0 at e0 sm0
  have hx0 : H0 x = some (.ins (He.ga K "Poly") dx []) := by rw [← hH]; exact upd_same
  let FD : FEnds := ⟨fun ρ => ∃ v2 qs, ρ = [some (.adr x), some d, v2, some (.lst (qBj (strip qs)))] ∧ P (.poly (strip qs)), fun _ => False, fun _ => False, fun _ => False, fun e _ => X e, fun _ => False⟩
  have hpre : qDi cs FD [some (.adr x), some d, none, none] := qAlb hRatio hf (fun v2 qs p => ⟨v2, qs, rfl, p⟩) (fun _ p => p)
  refine qRt T hRatio hPoly E _ H0 _ _ _ FD e0 hpre ⟨?_, fun _ _ _ z => z.elim, fun _ _ _ z => z.elim, fun _ _ _ z => z.elim, fun x' ρ σ H' cls dd hx' e rx => px x' cls dd H' hx' (sm0.trans e.gr) rx, fun _ _ _ z => z.elim⟩
  rintro ρ σ H2 ⟨v2, qs, rfl, hp⟩ e2
  have cl := (T.own _ hPoly).cl
  have fo : ∀ f, f ∈ qQ2 "Poly" → NoAttr K (He.ga K "Poly") f := fun f hf => (T.fld _ hPoly f hf).na
  have hσ : σ[0]? = some (some (.ref x)) := by
    have := e2.imm 0 (by simp)
    cases hv : σ[0]? with
    | none => rw [hv] at this; exact this.elim
    | some o =>
      rw [hv] at this
      cases o with
      | none => exact this.elim
      | some v => rw [show v = .ref x from this]
  have nfx : F.no x := (lv.ok n1).1
  have hx2 : H2 x = some (.ins (He.ga K "Poly") dx []) := e2.gr.old _ _ hx0 nfx
  have g02 : Gr K F H1 H2 := sm0.trans e2.gr
  have pX : ∀ {Ha : Hp}, Gr K F H1 Ha → PostX K F Ha X E := fun g => px.gr g
  generalize hks : strip qs = ks at hp e2
  have hN : Nrm ks := by rw [← hks]; exact qZ4 qs
  -- coefficients
  refine qN3 (w := ⟨F, fun p => M p ∨ p = x, H0⟩) (C := He.ga K "Poly") (dx := dx) (gs := []) (P := fun d => d = .tup (qBj ks)) (X := X) (qHw T hRatio hPoly E) e2 (.inr rfl) hx2 hσ cl (fo _ (by decide)) (by decide) ?_ (pX g02) ?_
  · simp_arith [qE9]
  · intro dc vc H3 w3 hdc g3 ef3 em3 rc keep3 e3
    subst hdc
    have x3 : Gr K F H1 (upd H3 x (.ins (He.ga K "Poly") dx (putF "coefficients" vc []))) := (g02.trans g3).updx n1 nfx (g3.old _ _ hx2 nfx) trivial
    refine qN3 (w := w3) (C := He.ga K "Poly") (dx := dx) (P := fun d => d = .int ((ks.length : Int) - 1)) (X := X) (qM8 T hRatio hPoly E) e3 (by rw [em3]; exact .inr rfl) upd_same hσ cl (fo _ (by decide)) (by show 1 < 1000; decide) ?_ (by rw [ef3]; exact pX x3) ?_
    · simp_arith [qHb, qBq]
    · intro dd vd H4 w4 hdd g4 ef4 em4 rd keep4 e4
      subst hdd
      rw [ef3, em3] at keep4 rd
      rw [ef3] at g4
      have x4 : Gr K F H1 (upd H4 x (.ins (He.ga K "Poly") dx (putF "degree" vd (putF "coefficients" vc [])))) := (x3.trans g4).updx n1 nfx (g4.old _ _ upd_same nfx) trivial
      refine qN3 (w := w4) (C := He.ga K "Poly") (dx := dx) (P := fun d => d = .rat (qI5 ks)) (X := X) (qQ0 T hRatio hPoly E) e4 (by rw [em4, em3]; exact .inr rfl) upd_same hσ cl (fo _ (by decide)) (by show 2 < 1000; decide) ?_ (by rw [ef4, ef3]; exact pX x4) ?_
      · by_cases hk : ks = []
        · subst hk
          simp_arith [qGa, qBj, List.isEmpty_nil, Bool.not_true, qSv, Rat.intCast_zero]
          rfl
        · have hx : (qBj ks).isEmpty = false := by cases ks with | nil => exact absurd rfl hk | cons a l => rfl
          simp_arith [qGa, hx, Bool.not_false]
          exact ⟨_, _, _, .inl rfl, rfl, qAoz hk, rfl⟩
      · intro dl vl H5 w5 hdl g5 ef5 em5 rl keep5 e5
        subst hdl
        rw [ef4, em4, ef3, em3] at keep5 rl
        rw [ef4, ef3] at g5
        have x5 : Gr K F H1 (upd H5 x (.ins (He.ga K "Poly") dx (putF "lead" vl (putF "degree" vd (putF "coefficients" vc []))))) := (x4.trans g5).updx n1 nfx (g5.old _ _ upd_same nfx) trivial
        refine q (.poly ks) _ hp x5 ?_
        have rc5 := keep5 _ _ (keep4 _ _ rc)
        obtain ⟨t, tv, rfl, okt, ht, rt⟩ := rc5
        obtain ⟨l, rfl, okl, hl⟩ := rl
        have evd : vd = .int ((ks.length : Int) - 1) := rd
        subst evd
        have eF : putF "lead" (.ref l) (putF "degree" (.int ((ks.length : Int) - 1)) (putF "coefficients" (.ref t) [])) = qAci t l ks.length := by
          have k1 : ¬ (("coefficients" : Str) = "degree") := by decide +kernel
          have k2 : ¬ (("coefficients" : Str) = "lead") := by decide +kernel
          have k3 : ¬ (("degree" : Str) = "lead") := by decide +kernel
          show putF "lead" _ (putF "degree" _ [("coefficients", _)]) = _
          rw [qUt k1, show putF "degree" (V.int ((ks.length : Int) - 1)) [] = [(("degree" : Str), V.int ((ks.length : Int) - 1))] from rfl, qUt k2, qUt k3]
          rfl
        have go : Goes F (fun p => M p ∨ p = x) (upd H5 x (.ins (He.ga K "Poly") dx (putF "lead" (.ref l) (putF "degree" (.int ((ks.length : Int) - 1)) (putF "coefficients" (.ref t) []))))) M (upd H5 x (.ins (He.ga K "Poly") dx (putF "lead" (.ref l) (putF "degree" (.int ((ks.length : Int) - 1)) (putF "coefficients" (.ref t) []))))) := fun p o h _ m => ⟨h, fun z => m (.inl z)⟩
        have rr : RRats K F M _ ks tv := (RRats.of rt).goes go
        have rl' : RRat K F M _ (qI5 ks) (.ref l) := RRat.goes go ⟨l, rfl, okl, hl⟩
        rw [eF] at ht rr rl' ⊢
        exact ⟨x, dx, t, l, tv, rfl, lv.ok n1, upd_same, ⟨okt.1, fun z => okt.2 (.inl z)⟩, ht, rr, rl', hN⟩
theorem qTh {cs : List Str} (ds : List D) (P : D → Prop) (X : XP) (h : qB1 cs ds P X) : ds.length = 1 := by
  obtain ⟨_, rfl, _⟩ := h
  rfl
theorem qOm {K : PySem.W.Frag} {cs : List Str} (vs : List V) (H : Hp) (Q : VK) (E : XK) (h : (lift K qNf) vs H Q E) : vs.length = 1 := qAr (fun ds P X h => by unfold qNf at h; first | ((repeat (first | (obtain ⟨rfl, _⟩ := h; exact rfl) | obtain ⟨_, h⟩ := h)); done) | (split at h <;> first | rfl | exact h.elim)) h
theorem qQs {K : PySem.W.Frag} {cs : List Str} (T : KF K cs) (hRatio : ("Ratio" : Str) ∈ cs) (hPoly : ("Poly" : Str) ∈ cs) (vs : List V) (H : Hp) (Q : VK) (E : XK) (h : (lift K qNf) vs H Q E) : qF8 K cs { nx := fun _ H' => Q .non H', rt := Q } (start ["row", "size"] vs) H :=
  qCx rfl (qS3 T hRatio hPoly) (qSw hRatio hPoly) vs H Q E h
theorem qLh {K : PySem.W.Frag} {cs : List Str} (vs : List V) (H : Hp) (Q : VK) (E : XK) (h : (lift K (qJ4 cs)) vs H Q E) : vs.length = 1 := qAr (fun ds P X h => by unfold qJ4 at h; first | ((repeat (first | (obtain ⟨rfl, _⟩ := h; exact rfl) | obtain ⟨_, h⟩ := h)); done) | (split at h <;> first | rfl | exact h.elim)) h
theorem qN2 {K : PySem.W.Frag} {cs : List Str} (T : KF K cs) (hRatio : ("Ratio" : Str) ∈ cs) (hPoly : ("Poly" : Str) ∈ cs) (vs : List V) (H : Hp) (Q : VK) (E : XK) (h : (lift K (qJ4 cs)) vs H Q E) : qFf K cs { nx := fun _ H' => Q .non H', rt := Q } (start ["value"] vs) H :=
  qCx rfl (qOi T hRatio hPoly) (qOa hRatio hPoly) vs H Q E h
theorem qAip {K : PySem.W.Frag} {cs : List Str} (vs : List V) (H : Hp) (Q : VK) (E : XK) (h : (lift K qPq) vs H Q E) : vs.length = 2 := qAr (fun ds P X h => by unfold qPq at h; first | ((repeat (first | (obtain ⟨rfl, _⟩ := h; exact rfl) | obtain ⟨_, h⟩ := h)); done) | (split at h <;> first | rfl | exact h.elim)) h
theorem qAld {K : PySem.W.Frag} {cs : List Str} (T : KF K cs) (hRatio : ("Ratio" : Str) ∈ cs) (hPoly : ("Poly" : Str) ∈ cs) (vs : List V) (H : Hp) (Q : VK) (E : XK) (h : (lift K qPq) vs H Q E) : qW5 K cs { nx := fun _ H' => Q .non H', rt := Q } (start ["one", "other", "row", "k", "total"] vs) H :=
  qCx rfl (qAp4 T hRatio hPoly) (qApv hRatio hPoly) vs H Q E h
theorem qT0 {K : PySem.W.Frag} {cs : List Str} (vs : List V) (H : Hp) (Q : VK) (E : XK) (h : (lift K qJw) vs H Q E) : vs.length = 2 := qAr (fun ds P X h => by unfold qJw at h; first | ((repeat (first | (obtain ⟨rfl, _⟩ := h; exact rfl) | obtain ⟨_, h⟩ := h)); done) | (split at h <;> first | rfl | exact h.elim)) h
theorem qW1 {K : PySem.W.Frag} {cs : List Str} (T : KF K cs) (hRatio : ("Ratio" : Str) ∈ cs) (hPoly : ("Poly" : Str) ∈ cs) (vs : List V) (H : Hp) (Q : VK) (E : XK) (h : (lift K qJw) vs H Q E) : qI3 K cs { nx := fun _ H' => Q .non H', rt := Q } (start ["one", "other", "row", "i", "a", "_", "j", "b"] vs) H :=
  qCx rfl (qYa T hRatio hPoly) (qAaa hRatio hPoly) vs H Q E h
theorem qX3 {K : PySem.W.Frag} {cs : List Str} (vs : List V) (H : Hp) (Q : VK) (E : XK) (h : (lift K (qQt cs)) vs H Q E) : vs.length = 2 := qAr (fun ds P X h => by unfold qQt at h; first | ((repeat (first | (obtain ⟨rfl, _⟩ := h; exact rfl) | obtain ⟨_, h⟩ := h)); done) | (split at h <;> first | rfl | exact h.elim)) h
theorem qAc0 {K : PySem.W.Frag} {cs : List Str} (T : KF K cs) (hRatio : ("Ratio" : Str) ∈ cs) (hPoly : ("Poly" : Str) ∈ cs) (vs : List V) (H : Hp) (Q : VK) (E : XK) (h : (lift K (qQt cs)) vs H Q E) : qMb K cs { nx := fun _ H' => Q .non H', rt := Q } (start ["self", "other", "row", "c"] vs) H :=
  qCx rfl (qAf8 T hRatio hPoly) (qAfu hRatio hPoly) vs H Q E h
theorem qYh {K : PySem.W.Frag} {cs : List Str} (vs : List V) (H : Hp) (Q : VK) (E : XK) (h : (lift K (qIq cs)) vs H Q E) : vs.length = 2 := qAr (fun ds P X h => by unfold qIq at h; first | ((repeat (first | (obtain ⟨rfl, _⟩ := h; exact rfl) | obtain ⟨_, h⟩ := h)); done) | (split at h <;> first | rfl | exact h.elim)) h
theorem qAb6 {K : PySem.W.Frag} {cs : List Str} (T : KF K cs) (hRatio : ("Ratio" : Str) ∈ cs) (hPoly : ("Poly" : Str) ∈ cs) (vs : List V) (H : Hp) (Q : VK) (E : XK) (h : (lift K (qIq cs)) vs H Q E) : qLb K cs { nx := fun _ H' => Q .non H', rt := Q } (start ["self", "other", "row"] vs) H :=
  qCx rfl (qAff T hRatio hPoly) (qAfo hRatio hPoly) vs H Q E h
end MR

set_option Elab.async false
set_option linter.all false
set_option maxRecDepth 100000
set_option maxHeartbeats 4000000
/-! FL: facts of the head -/
namespace MR
open PySem PySem.Spec PyProof.Rows L2 He
def ktF (cs : List Str) : Fct := fun K => cs.all fun C => ownF C K && ((["int", "bool", "str", "list", "tuple"].all fun n => qZo (PySem.W.kitOne K (.ref (ga K C)) (.type n)) false) && ((["NoneType", "int", "bool", "str", "list", "tuple", "dict"].all fun n => qZo (PySem.W.kitOne K (.type n) (.ref (ga K C))) false) &&
  ((cs.all fun C' => qZo (PySem.W.kitOne K (.ref (ga K C)) (.ref (ga K C'))) (decide (C = C'))) && (qQ2 C).all fun f => (Fa.noat C f).ok K)))
theorem qAqr {K : PySem.W.Frag} {cs : List Str} (h : ktF cs K = true) : KF K cs := by
  have h := List.all_eq_true.mp h
  refine ⟨⟨fun C hC => ?_, fun C hC n hn => ?_, fun C hC n hn => ?_, fun C hC C' hC' => ?_⟩, fun C hC f hf => ?_⟩ <;> obtain ⟨h1, h2⟩ := ba (h C hC) <;> obtain ⟨h2, h3⟩ := ba h2 <;> obtain ⟨h3, h4⟩ := ba h3 <;> obtain ⟨h4, h5⟩ := ba h4
  · exact qAj2 h1
  · exact qEk (List.all_eq_true.mp h2 n hn)
  · exact qEk (List.all_eq_true.mp h3 n hn)
  · exact qEk (List.all_eq_true.mp h4 C' hC')
  · exact ⟨(qAj2 h1).cl, noat_ok (List.all_eq_true.mp h5 f hf)⟩
abbrev bmV : List Value := [.type "ValueError", .type "Exception", .type "BaseException", .type "object"]
/-- an error class without an __init__ of its own -/
structure Ex0 (K : PySem.W.Frag) (C : Addr) : Prop where
  xin : PySem.W.excIn K C bmV "ValueError.__new__" = true
  kp : PySem.W.keepIn K (.ref C) = true
  bs : PySem.W.subIn K (.ref C) (.type "BaseException") = some true
  ty : PySem.W.typeIn K (.ref C) = some (.type "type")
def ex0F (x : Str) : Fct := fun K => PySem.W.excIn K (ga K x) bmV "ValueError.__new__" && (PySem.W.keepIn K (.ref (ga K x)) && (qZo (PySem.W.subIn K (.ref (ga K x)) (.type "BaseException")) true && qZo (PySem.W.typeIn K (.ref (ga K x))) (.type "type")))
theorem qApc {K : PySem.W.Frag} {x : Str} (h : ex0F x K = true) : Ex0 K (ga K x) := by
  obtain ⟨h1, h⟩ := ba h
  obtain ⟨h2, h⟩ := ba h
  obtain ⟨h3, h4⟩ := ba h
  exact ⟨h1, h2, qEk h3, qEk h4⟩
theorem mk0 {X : Cx} {C : Addr} {x : Str} {p pos : Pos} (T : Ex0 X.K C) (gC : X.mg x = some (.ref C)) (hg : Gl X x := by rfl) (hdb : (x == ("__debug__" : Str)) = false := by decide) : PMk X (.Call (.Name x p) [] [] pos) (fun σ H Q => Q (.ref C) none H) :=
  qAk4 PySem.F.excBase_ValueError T.xin gC T.kp (raises_own T.bs T.ty) hg hdb
theorem qUg {X : Cx} {C : Addr} {W : WX} {x : Str} {p1 pos pos2 : Pos} (hc : X.calm = true) (tk : Takes X W) (T : Ex0 X.K C) (gC : X.mg x = some (.ref C)) (hg : Gl X x := by rfl) (hdb : (x == ("__debug__" : Str)) = false := by decide) :
    PS X (.Raise (some (.Call (.Name x p1) [] [] pos)) none pos2) (qOl C W) := ps_raise hc tk (mk0 T gC hg hdb)
end MR

set_option Elab.async false
set_option linter.all false
set_option maxRecDepth 100000
set_option maxHeartbeats 4000000
set_option exponentiation.threshold 20000
/-! FLE: == of two lists (or tuples) of Ratios, the answer True -/
namespace MR
open PySem PySem.Spec PyProof.Rows L2
section
variable {X : Cx} {k : Nat} {E : XK}
end
section
variable {K : PySem.W.Frag} {E1 : XK}
/-! ### sum of a list of ints -/
def qMe (ns : List Int) : List D := ns.map D.int
theorem qGr (ns : List Int) : (qMe ns).length = ns.length := List.length_map ..
theorem qAdd {ns : List Int} {k : Nat} {n : Int} (h : ns[k]? = some n) : (qMe ns)[k]? = some (.int n) := by
  unfold qMe
  rw [List.getElem?_map, h]
  rfl
theorem qAde (ns : List Int) (n : Int) : qMe ns ++ [.int n] = qMe (ns ++ [n]) := by
  unfold qMe
  rw [List.map_append]
  rfl
theorem qMm {F : Fd} {M : Addr → Prop} {H : Hp} : ∀ {ns : List Int} {vs : List V}, Reps K F M H (qMe ns) vs → vs = ns.map V.int
  | [], _, h => h
  | n :: ns, _, h => by
    obtain ⟨v, us, rfl, h1, h2⟩ := h
    rw [show v = .int n from h1, qMm h2]
    rfl
def oSum : OL := fun as P _ => ∃ ns, as = [.lst (qMe ns)] ∧ P (.int ns.sum)
theorem qAqk : LsS K E1 (rSum K) oSum := by
  intro F M H xs as P X Q lv ra h q x'
  obtain ⟨ns, rfl, p⟩ := h
  obtain ⟨v, rfl, r⟩ := qMr ra
  obtain ⟨a, vs, rfl, ok, e, r⟩ := r
  rw [qMm r] at e
  exact ⟨a, ns, rfl, SqL.of e, q _ _ _ p .refl rfl⟩
end
end MR

set_option Elab.async false
set_option linter.all false
set_option maxRecDepth 100000
set_option maxHeartbeats 4000000
set_option exponentiation.threshold 20000
namespace MR
open PySem PySem.Spec PyProof.Rows L2
/-- a row: its numbers; or what is refused -/
def qC3 (cs : List Str) : FSp := fun ds P X => ∃ d n, ds = [d, .int n] ∧ (
  (∃ items qs, itD d = some items ∧ items ≠ [] ∧ (items.length : Int) ≤ n ∧ items.length ≤ 100000 ∧ qEp items = some qs ∧ P (.lst (qBj qs))) ∨
  (∃ items pre b post, itD d = some items ∧ (items.length : Int) ≤ n ∧ items = pre ++ b :: post ∧ (∃ qs, qEp pre = some qs) ∧ qTa cs b = some false ∧ X ⟨"NoRow", [("index", .int (pre.length : Nat))]⟩) ∨
  (∃ items, itD d = some items ∧ (items = [] ∨ n < (items.length : Int)) ∧ X ⟨"NoRow", [("index", .int (-1))]⟩) ∨
  (isD cs (.ty "list") d = some false ∧ isD cs (.ty "tuple") d = some false ∧ X ⟨"NoRow", [("index", .int (-1))]⟩))
/-- the sum of the first k products -/
def dotN (cs ms : List Rat) : Nat → Rat
  | 0 => 0
  | k + 1 => dotN cs ms k + coef cs k * coef ms k
/-- the means of p * x ** k -/
def shL (cs ms : List Rat) : List Rat := (List.range (ms.length - (cs.length - 1))).map fun k => dotN cs (ms.drop k) cs.length
def qHc (K : PySem.W.Frag) (cs : List Str) (E : XK) : TS :=
  (tSeq (tIfS (tOr (tNot (tB (tCB (rIsiT K) (tCons (tVar 0) (tCons (tTup (tCons (tC (.ty "list")) (tCons (tC (.ty "tuple")) tNil))) tNil))))) (tOr (tNot (qAbh K (tVar 0))) (tTest (tOp rGt0 (tCB (qFq K) (tCons (tVar 0) tNil)) (tVar 1))))) (qEn (He.ga K "NoRow") "index" (fun cls d _ H => E cls d H) (tCons (tUn qO2 (tC (.int 1))) tNil)) tNext)
  (tSeq (tFor (qSg K (tCons (tVar 0) tNil)) (gTup K 2 (gCons (gName 2) (gCons (gName 3) gNil))) (tIfS (tNot (tB (tCall (lift K (qEu cs)) [] E0 (tCons (tVar 3) tNil)))) (qEn (He.ga K "NoRow") "index" (fun cls d _ H => E cls d H) (tCons (tVar 2) tNil)) tNext))
  (tRet (tLc (iSeq K (tVar 0)) (gName 3) tYes (tCall (lift K (qCv cs)) [] E0 (tCons (tVar 3) (tCons (tC (.str "row")) tNil))) [3]))))
def qE0 (cs : List Str) : FS :=
  (qAy (qC1 (fOr (qGq (fB (qQo cs (qAe 0)))) (fOr (qGq (fTru (qAe 0))) (fB (fOp oGt (fLs qIx (qAc (qAe 0) qAm)) (qAe 1))))) (qEq "NoRow" "index" (fUn qQ7 (fC (.int 1)))) qAv)
  (qAy (qGn (fEn (qAc (qAe 0) qAm)) (qF7 [2, 3]) (qC1 (qGq (fB (qAg (qEu cs) [] (qAc (qAe 3) qAm)))) (qEq "NoRow" "index" (qAe 2)) qAv))
  (qCr (fLc (fIt (qAe 0)) (qBf 3) qI8 (qAg (qCv cs) [] (qAc (qAe 3) (qAc (fC (.str "row")) qAm))) [3]))))
theorem qAaq {K : PySem.W.Frag} {cs : List Str} (T : KF K cs) (hRatio : ("Ratio" : Str) ∈ cs) (E : XK) : SS K Ta [] [] [] [] (fun _ => E) (qHc K cs E) (qE0 cs) :=
  (qAl (ow1 := []) (qBl (by decide) (qAcx (qEb (qOh (qAhn T.toKT (qAb (by decide))))) (qAcx (qEb (qXv (qAb (by decide)))) (qAp (qAi (fun _ => qY2) (qEg (fun _ => qD0) (qAa (qAb (by decide)) qAd)) (qAb (by decide)))))) (qHd (by decide) (qOg (fun _ => qK0) qAj)) (qAn (by decide)))
  (qAl (ow1 := []) (qE5 (by decide) (qAhg (qAa (qAb (by decide)) qAd)) (qPt rfl (qDg (by decide) (qDg (by decide) qJi))) (qBl (by decide) (qEb (qOh (qAk Lift.refl qAf (qAa (qAb (by decide)) qAd)))) (qHd (by decide) (qAb (by decide))) (qAn (by decide))))
  (qAq (by decide) (SF.se (qO5 (by decide) (by decide) (qAhv (qAb (by decide))) (qBy (by decide)) qH5 (qAk Lift.refl qAf (qAa (qAb (by decide)) (qAa qGd qAd))))))))
theorem qAbr {cs : List Str} {d : D} {items : List D} (h : itD d = some items) : ∃ b b', isD cs (.ty "list") d = some b ∧ isD cs (.ty "tuple") d = some b' ∧ (b || b') = true := by
  rcases qJh h with rfl | rfl
  · exact ⟨true, false, by simp [isD, tyN, subN], by simp [isD, tyN, subN], rfl⟩
  · exact ⟨false, true, by simp [isD, tyN, subN], by simp [isD, tyN, subN], rfl⟩
abbrev rowB (cs : List Str) : FS := qC1 (qGq (fB (qAg (qEu cs) [] (qAc (qAe 3) qAm)))) (qEq "NoRow" "index" (qAe 2)) qAv
theorem qRb {cs : List Str} {FD : FEnds} {d n : D} (hR : ("Ratio" : Str) ∈ cs) :
    ∀ (items : List D) (k : Nat) (v2 v3 : Option D), ((∃ qs, qEp items = some qs) ∧ ∀ v2 v3, FD.nx [some d, some n, v2, v3]) ∨ (∃ pre b post, items = pre ++ b :: post ∧ (∃ qs, qEp pre = some qs) ∧ qTa cs b = some false ∧ ∀ ρ, FD.ex ⟨"NoRow", [("index", .int ((k + pre.length : Nat) : Int))]⟩ ρ) → qCk (qF7 [2, 3]) (rowB cs) FD (enD items k) [some d, some n, v2, v3]
  | [], k, v2, v3, h => by
    rcases h with ⟨_, h⟩ | ⟨pre, b, post, h, _⟩
    · exact h v2 v3
    · cases pre <;> cases h
  | e :: items, k, v2, v3, h => by
    rw [qSp]
    unfold qCk
    simp_arith []
    rcases h with ⟨⟨qs, hq⟩, h⟩ | ⟨pre, b', post, h, ⟨qs, hq⟩, hn, hx⟩
    · have hv : ∃ q, numV e = some q ∧ ∃ qs, qEp items = some qs := by
        simp only [qEp] at hq
        split at hq
        · rename_i q' qs' h1 h2; exact ⟨_, h1, _, h2⟩
        · cases hq
      obtain ⟨q, hv, qs', hqs⟩ := hv
      refine ⟨e, true, rfl, qDs hR hv, ?_⟩
      simp_arith [Bool.not_true]
      exact qRb hR items _ _ _ (.inl ⟨⟨qs', hqs⟩, h⟩)
    · cases pre with
      | nil =>
        simp only [List.nil_append, List.cons.injEq] at h
        obtain ⟨rfl, rfl⟩ := h
        refine ⟨e, false, rfl, hn, ?_⟩
        simp_arith [Bool.not_false]
        exact hx _
      | cons e' pre =>
        simp only [List.cons_append, List.cons.injEq] at h
        obtain ⟨rfl, rfl⟩ := h
        have hv : ∃ q, numV e = some q ∧ ∃ qs, qEp pre = some qs := by
          simp only [qEp] at hq
          split at hq
          · rename_i q' qs' h1 h2; exact ⟨_, h1, _, h2⟩
          · cases hq
        obtain ⟨q, hv, qs', hqs⟩ := hv
        refine ⟨e, true, rfl, qDs hR hv, ?_⟩
        simp_arith [Bool.not_true]
        refine qRb hR _ _ _ _ (.inr ⟨pre, b', post, rfl, ⟨qs', hqs⟩, hn, fun ρ => ?_⟩)
        have z := hx ρ
        rw [List.length_cons] at z
        rw [show k + 1 + pre.length = k + (pre.length + 1) by omega]
        exact z
theorem qAcw {cs : List Str} (hR : ("Ratio" : Str) ∈ cs) (ds : List D) (P : D → Prop) (X : XP) (h : qC3 cs ds P X) : qE0 cs (qFj P X) (qA0 4 ds) := by
  obtain ⟨d, n, rfl, h⟩ := h
  have good : ∀ items, itD d = some items → items ≠ [] → (items.length : Int) ≤ n → items.length ≤ 100000 → ((∃ qs, qEp items = some qs ∧ P (.lst (qBj qs))) ∨ (∃ pre b post, items = pre ++ b :: post ∧ (∃ qs, qEp pre = some qs) ∧ qTa cs b = some false ∧ X ⟨"NoRow", [("index", .int (pre.length : Nat))]⟩)) → qE0 cs (qFj P X) (qA0 4 [d, .int n]) := fun items hi he hn hl h => by
    obtain ⟨b, b', h1, h2, h3⟩ := qAbr (cs := cs) hi
    have em : items.isEmpty = false := by cases items with | nil => exact absurd rfl he | cons a l => rfl
    have dn : decide (n < (items.length : Int)) = false := decide_eq_false (by omega)
    simp_arith [qE0, qGn, fEn, itEx hi, qQa hi, qFs hi]
    refine ⟨b, b', h1, h2, ?_⟩
    rw [h3]
    simp_arith [em, Bool.not_true, Bool.not_false, dn]
    refine qRb hR items 0 none none ?_
    rcases h with ⟨qs, hq, hp⟩ | ⟨pre, bb, post, h, hq, hb, hX⟩
    · refine .inl ⟨⟨qs, hq⟩, fun v2 v3 => ?_⟩
      simp_arith [fLc, itEx hi]
      exact qAir hR (by simp [qIv]) hq hl hp
    · exact .inr ⟨pre, bb, post, h, hq, hb, fun ρ => by rw [Nat.zero_add]; exact hX⟩
  rcases h with ⟨items, qs, hi, he, hn, hl, hq, hp⟩ | ⟨items, pre, b, post, hi, hn, h1, h2, h3, h4⟩ | ⟨items, hi, he, h4⟩ | ⟨h1, h2, h3⟩
  · exact good items hi he hn hl (.inl ⟨qs, hq, hp⟩)
  · by_cases hl : items.length ≤ 100000
    · exact good items hi (by rw [h1]; simp) hn hl (.inr ⟨pre, b, post, h1, h2, h3, h4⟩)
    · obtain ⟨b0, b', k1, k2, k3⟩ := qAbr (cs := cs) hi
      have em : items.isEmpty = false := by cases items with | nil => simp at hl | cons a l => rfl
      have dn : decide (n < (items.length : Int)) = false := decide_eq_false (by omega)
      simp_arith [qE0, qGn, fEn, itEx hi, qQa hi, qFs hi]
      refine ⟨b0, b', k1, k2, ?_⟩
      rw [k3]
      simp_arith [em, Bool.not_true, Bool.not_false, dn]
      exact qRb hR items 0 none none (.inr ⟨pre, b, post, h1, h2, h3, fun ρ => by rw [Nat.zero_add]; exact h4⟩)
  · obtain ⟨b, b', h1, h2, h3⟩ := qAbr (cs := cs) hi
    simp_arith [qE0, qQa hi, qFs hi]
    refine ⟨b, b', h1, h2, ?_⟩
    rw [h3]
    simp_arith [Bool.not_true]
    by_cases e : items = []
    · subst e
      simp_arith [List.isEmpty_nil, Bool.not_true, Bool.not_false]
      exact h4
    · have em : items.isEmpty = false := by cases items with | nil => exact absurd rfl e | cons a l => rfl
      have dn : decide (n < (items.length : Int)) = true := decide_eq_true (by rcases he with he | he; exact absurd he e; exact he)
      simp_arith [em, Bool.not_true, Bool.not_false, dn]
      exact h4
  · simp_arith [qE0]
    refine ⟨false, false, h1, h2, ?_⟩
    simp_arith [Bool.not_false, Bool.or_false]
    exact h3
theorem qAmp {α : Type} (xs : List α) (k : Nat) : cutD xs (some (k : Int)) none = xs.drop k := by
  unfold cutD
  rw [HT.sIx_none, HT.sIx_nat]
  rw [List.take_of_length_le (by rw [List.length_drop]; omega)]
  rw [Nat.min_def]
  split
  · rfl
  · rename_i h
    rw [List.drop_of_length_le (Nat.le_refl _), List.drop_of_length_le (by omega)]
theorem qAgn (cs : List Rat) (k : Nat) : (qBj cs).drop k = qBj (cs.drop k) := by
  unfold qBj
  rw [List.map_drop]
def toSh (cs ms : List Rat) (d : D) : D := match d with
  | .int i => .rat (dotN cs (ms.drop i.toNat) cs.length)
  | e => e
theorem qWf {K : PySem.W.Frag} {cs : List Str} (vs : List V) (H : Hp) (Q : VK) (E : XK) (h : (lift K (qC3 cs)) vs H Q E) : vs.length = 2 := qAr (fun ds P X h => by unfold qC3 at h; first | ((repeat (first | (obtain ⟨rfl, _⟩ := h; exact rfl) | obtain ⟨_, h⟩ := h)); done) | (split at h <;> first | rfl | exact h.elim)) h
theorem qZ3 {K : PySem.W.Frag} {cs : List Str} (T : KF K cs) (hRatio : ("Ratio" : Str) ∈ cs) (vs : List V) (H : Hp) (Q : VK) (E : XK) (h : (lift K (qC3 cs)) vs H Q E) : qHc K cs E { nx := fun _ H' => Q .non H', rt := Q } (start ["row", "limit", "index", "item"] vs) H :=
  qU4 (t := fun E => qHc K cs E) rfl (qAaq T hRatio) (qAcw hRatio) vs H Q E h
end MR

set_option linter.all false
/-! NSeq: sequences of numbers, how moving acts on them; values over a common bottom -/
namespace MR
def shf (s : Rat) (f : Nat → Rat) (i : Nat) : Rat := f (i + 1) + s * f i
def itr (s : Rat) : Nat → (Nat → Rat) → Nat → Rat
  | 0, f => f
  | k + 1, f => shf s (itr s k f)
theorem qR0 {s : Rat} {f g : Nat → Rat} {n : Nat} (h : ∀ i, i < n → f i = g i) : ∀ k i, i + k < n → itr s k f i = itr s k g i
  | 0, i, hi => h i hi
  | k + 1, i, hi => by
    show itr s k f (i + 1) + s * itr s k f i = itr s k g (i + 1) + s * itr s k g i
    rw [qR0 h k (i + 1) (by omega), qR0 h k i (by omega)]
theorem qAhb (s : Rat) (f : Nat → Rat) : ∀ k, itr s k (shf s f) = itr s (k + 1) f
  | 0 => rfl
  | k + 1 => by
    show shf s (itr s k (shf s f)) = shf s (itr s (k + 1) f)
    rw [qAhb s f k]
theorem qAat (s c : Rat) (f g : Nat → Rat) : ∀ k i, itr s k (fun j => f j + c * g j) i = itr s k f i + c * itr s k g i
  | 0, i => rfl
  | k + 1, i => by
    show itr s k _ (i + 1) + s * itr s k _ i = (itr s k f (i + 1) + s * itr s k f i) + c * (itr s k g (i + 1) + s * itr s k g i)
    rw [qAat s c f g k (i + 1), qAat s c f g k i]
    grind
/-- the moved row -/
def qJ7 (s : Rat) (as : List Rat) : List Rat := (List.range as.length).map fun k => itr s k (coef as) 0
theorem qAgh (s : Rat) (as : List Rat) : (qJ7 s as).length = as.length := by simp [qJ7]
theorem qUh {s : Rat} {as : List Rat} {k : Nat} (h : k < as.length) : coef (qJ7 s as) k = itr s k (coef as) 0 := by
  unfold qJ7
  rw [qKc, if_pos h]
theorem qKk {cs : List Rat} {n : Nat} (hl : cs.length = n + 1) (h : coef cs n ≠ 0) : strip cs = cs := by
  unfold strip
  have : szN (coef cs) cs.length = n + 1 := by
    rw [hl]
    unfold szN
    rw [if_neg h]
  rw [this, List.take_of_length_le (by omega)]
/-! ### over a common bottom -/
/-- q = a / d with a at most N -/
def Ov (N : Nat) (d : Int) (q : Rat) : Prop := ∃ a : Int, q * (d : Rat) = (a : Rat) ∧ a.natAbs ≤ N
theorem Ov.mono {N M : Nat} {d : Int} {q : Rat} (h : Ov N d q) (hn : N ≤ M) : Ov M d q := let ⟨a, h1, h2⟩ := h; ⟨a, h1, by omega⟩
theorem Ov.div {N : Nat} {d : Int} {q : Rat} (h : Ov N d q) (hd : 0 < d) : ∃ a : Int, q = Rat.divInt a d ∧ a.natAbs ≤ N := by
  obtain ⟨a, h1, h2⟩ := h
  refine ⟨a, ?_, h2⟩
  have : (d : Rat) ≠ 0 := fun z => by
    have := Rat.intCast_inj.mp (z.trans Rat.intCast_zero.symm)
    omega
  rw [Rat.divInt_eq_div, ← h1]
  grind
theorem Ov.sz {N n m : Nat} {d : Int} {q : Rat} (h : Ov N d q) (hd : 0 < d) (hN : N < 2 ^ n) (hm : d.natAbs < 2 ^ m) : Sz (max n m) q := by
  obtain ⟨a, rfl, h2⟩ := h.div hd
  have h1 : 2 ^ n ≤ 2 ^ max n m := Nat.pow_le_pow_right (by decide) (Nat.le_max_left ..)
  have h3 : 2 ^ m ≤ 2 ^ max n m := Nat.pow_le_pow_right (by decide) (Nat.le_max_right ..)
  exact qNc (by omega) (by omega) (by omega)
theorem Ov.add {N M : Nat} {d : Int} {q r : Rat} (h1 : Ov N d q) (h2 : Ov M d r) : Ov (N + M) d (q + r) := by
  obtain ⟨a, e1, b1⟩ := h1
  obtain ⟨b, e2, b2⟩ := h2
  exact ⟨a + b, by rw [Rat.intCast_add, ← e1, ← e2]; grind, by omega⟩
theorem Ov.mul {N M : Nat} {d e : Int} {q r : Rat} (h1 : Ov N d q) (h2 : Ov M e r) : Ov (N * M) (d * e) (q * r) := by
  obtain ⟨a, e1, b1⟩ := h1
  obtain ⟨b, e2, b2⟩ := h2
  exact ⟨a * b, by rw [Rat.intCast_mul, Rat.intCast_mul, ← e1, ← e2]; grind, by rw [Int.natAbs_mul]; exact Nat.mul_le_mul b1 b2⟩
theorem Ov.lift {N : Nat} {d : Int} {q : Rat} (h : Ov N d q) (e : Int) : Ov (N * e.natAbs) (d * e) q := by
  obtain ⟨a, e1, b1⟩ := h
  exact ⟨a * e, by rw [Rat.intCast_mul, Rat.intCast_mul, ← e1]; grind, by rw [Int.natAbs_mul]; exact Nat.mul_le_mul_right _ b1⟩
theorem Ov.neg {N : Nat} {d : Int} {q : Rat} (h : Ov N d q) : Ov N d (-q) := by
  obtain ⟨a, e1, b1⟩ := h
  exact ⟨-a, by rw [Rat.intCast_neg, ← e1]; grind, by omega⟩
theorem Ov.of {a b : Int} (hb : b ≠ 0) : Ov a.natAbs b (Rat.divInt a b) := by
  refine ⟨a, ?_, Nat.le_refl _⟩
  have : (b : Rat) ≠ 0 := fun z => hb (Rat.intCast_inj.mp (z.trans Rat.intCast_zero.symm))
  rw [Rat.divInt_eq_div]
  grind
theorem Ov.zero {d : Int} {N : Nat} : Ov N d 0 := ⟨0, by rw [Rat.zero_mul]; rfl, Nat.zero_le _⟩
theorem Ov.int (a : Int) : Ov a.natAbs 1 (a : Rat) := ⟨a, by rw [Rat.intCast_one, Rat.mul_one], Nat.le_refl _⟩
/-- stages of moving over a common bottom -/
theorem qAe3 {N U n : Nat} {d t u : Int} {s : Rat} {f : Nat → Rat} (hs : s * (t : Rat) = (u : Rat)) (hu : u.natAbs ≤ U) (h : ∀ i, i < n → Ov N d (f i)) : ∀ k i, i + k < n → Ov (N * (t.natAbs + U) ^ k) (d * t ^ k) (itr s k f i)
  | 0, i, hi => by
    rw [Nat.pow_zero, Nat.mul_one, Int.pow_zero, Int.mul_one]
    exact h i hi
  | k + 1, i, hi => by
    have h1 := (qAe3 hs hu h k (i + 1) (by omega)).lift t
    have h2 := Ov.mul (show Ov U t s from ⟨u, hs, hu⟩) (qAe3 hs hu h k i (by omega))
    have e1 : d * t ^ k * t = d * t ^ (k + 1) := by rw [Int.pow_succ, Int.mul_assoc]
    have e2 : t * (d * t ^ k) = d * t ^ (k + 1) := by rw [Int.mul_comm, e1]
    rw [e1] at h1
    rw [e2] at h2
    refine (h1.add h2).mono ?_
    rw [Nat.pow_succ, Nat.mul_comm U, ← Nat.mul_add, Nat.mul_assoc]
    exact Nat.le_refl _
/-- fractions over the product of their bottoms -/
def botP : List (Int × Int) → Int
  | [] => 1
  | p :: ps => p.2 * botP ps
theorem qAbe {T : Nat} : ∀ {ps : List (Int × Int)}, (∀ p, p ∈ ps → 0 < p.2 ∧ p.2.natAbs ≤ T) → 0 < botP ps ∧ (botP ps).natAbs ≤ T ^ ps.length
  | [], _ => by simp [botP]
  | p :: ps, h => by
    obtain ⟨h1, h2⟩ := qAbe fun q hq => h q (List.mem_cons_of_mem _ hq)
    obtain ⟨h3, h4⟩ := h p (List.mem_cons_self ..)
    refine ⟨Int.mul_pos h3 h1, ?_⟩
    show (p.2 * botP ps).natAbs ≤ _
    rw [Int.natAbs_mul, List.length_cons, Nat.pow_succ, Nat.mul_comm]
    exact Nat.mul_le_mul h2 h4
theorem qAgu {T M : Nat} (hT : 0 < T) : ∀ {ps : List (Int × Int)}, (∀ p, p ∈ ps → 0 < p.2 ∧ p.2.natAbs ≤ T ∧ p.1.natAbs ≤ M) → ∀ p, p ∈ ps → Ov (M * T ^ ps.length) (botP ps) (Rat.divInt p.1 p.2)
  | [], _, p, hp => by cases hp
  | q :: ps, h, p, hp => by
    have hq := h q (List.mem_cons_self ..)
    obtain ⟨h1, h2⟩ := qAbe (T := T) (ps := ps) fun q hq => ⟨(h q (List.mem_cons_of_mem _ hq)).1, (h q (List.mem_cons_of_mem _ hq)).2.1⟩
    rcases List.mem_cons.mp hp with rfl | hp
    · refine ((Ov.of (a := p.1) (b := p.2) (by omega)).lift (botP ps)).mono ?_
      rw [List.length_cons]
      exact Nat.le_trans (Nat.mul_le_mul hq.2.2 h2) (Nat.mul_le_mul_left _ (Nat.pow_le_pow_right hT (by omega)))
    · have := (qAgu hT (ps := ps) (fun q hq => h q (List.mem_cons_of_mem _ hq)) p hp).lift q.2
      rw [Int.mul_comm] at this
      refine this.mono ?_
      rw [List.length_cons, Nat.pow_succ, ← Nat.mul_assoc]
      exact Nat.mul_le_mul_left _ hq.2.1
end MR


set_option Elab.async false
set_option linter.all false
set_option maxRecDepth 100000
set_option maxHeartbeats 4000000
set_option exponentiation.threshold 20000
/-! NStep: the steps of a row, and how great their numbers get -/
namespace MR
open PySem PySem.Spec PyProof.Rows L2
/-- a row over the common bottom d, all below 2 ^ n -/
structure Cd (n : Nat) (d : Int) (cs : List Rat) : Prop where
  pos : 0 < d
  le : d.natAbs ≤ 2 ^ n
  ov : ∀ i, Ov (2 ^ n) d (coef cs i)
theorem qAm0 {n m : Nat} (h : n < m) {a : Nat} (ha : a ≤ 2 ^ n) : a < 2 ^ m := Nat.lt_of_le_of_lt ha (Nat.pow_lt_pow_right (by decide) h)
theorem qE4 {n m : Nat} (h : n ≤ m) : 2 ^ n ≤ 2 ^ m := Nat.pow_le_pow_right (by decide) h
theorem qTr {n : Nat} {d : Int} {q : Rat} (h : Ov (2 ^ n) d q) (hd : 0 < d) (hl : d.natAbs ≤ 2 ^ n) : Sz (n + 1) q := by
  have := h.sz hd (qAm0 (Nat.lt_succ_self n) (Nat.le_refl _)) (qAm0 (Nat.lt_succ_self n) hl)
  rw [Nat.max_self] at this
  exact this
section
variable {n m : Nat} {d e : Int} {cs es : List Rat}
theorem Cd.mono (h : Cd n d cs) (hn : n ≤ m) : Cd m d cs := ⟨h.pos, Nat.le_trans h.le (qE4 hn), fun i => (h.ov i).mono (qE4 hn)⟩
theorem Cd.sz (h : Cd n d cs) (i : Nat) : Sz (n + 1) (coef cs i) := qTr (h.ov i) h.pos h.le
theorem Cd.szL (h : Cd n d cs) : SzL (n + 1) cs := fun c hc => by
  obtain ⟨i, hi, rfl⟩ := List.mem_iff_getElem.mp hc
  have := h.sz i
  rw [qRj (List.getElem?_eq_getElem hi)] at this
  exact this
theorem Cd.strip (h : Cd n d cs) : Cd n d (strip cs) := ⟨h.pos, h.le, fun i => by rw [qC2]; exact h.ov i⟩
theorem qAeo {f g : Nat → Rat} {N M : Nat} (hf : ∀ i, Ov N d (f i)) (hg : ∀ i, Ov M e (g i)) (k : Nat) : ∀ n, Ov (n * (N * M)) (d * e) (conv f g n k)
  | 0 => Ov.zero
  | n + 1 => by
    show Ov _ _ (conv f g n k + (if n ≤ k then f n * g (k - n) else 0))
    refine (Ov.add (M := N * M) (qAeo hf hg k n) ?_).mono (by rw [Nat.add_mul, Nat.one_mul]; exact Nat.le_refl _)
    split
    · exact (hf n).mul (hg (k - n))
    · exact Ov.zero
theorem qAja {N M : Nat} (hf : ∀ i, Ov N d (coef cs i)) (hg : ∀ i, Ov M e (coef es i)) : ∀ n, Ov (n * (N * M)) (d * e) (dotN cs es n)
  | 0 => Ov.zero
  | n + 1 => by
    show Ov _ _ (dotN cs es n + coef cs n * coef es n)
    exact (Ov.add (qAja hf hg n) ((hf n).mul (hg n))).mono (by rw [Nat.add_mul, Nat.one_mul]; exact Nat.le_refl _)
theorem qYe {k : Nat} (hk : k ≤ 16) : k * (2 ^ n * 2 ^ m) ≤ 2 ^ (n + m + 4) := by
  rw [Nat.pow_add, Nat.pow_add, Nat.mul_comm]
  exact Nat.mul_le_mul_left _ hk
theorem qCz {a b : Int} (ha : a.natAbs ≤ 2 ^ n) (hb : b.natAbs ≤ 2 ^ m) : (a * b).natAbs ≤ 2 ^ (n + m) := by
  rw [Int.natAbs_mul, Nat.pow_add]
  exact Nat.mul_le_mul ha hb
theorem Cd.conv (h : Cd n d cs) (g : Cd m e es) {j : Nat} (hj : j ≤ 16) (k : Nat) : Ov (2 ^ (n + m + 4)) (d * e) (conv (coef cs) (coef es) j k) := (qAeo h.ov g.ov k j).mono (qYe hj)
theorem Cd.dot (h : Cd n d cs) (g : Cd m e es) {j : Nat} (hj : j ≤ 16) : Ov (2 ^ (n + m + 4)) (d * e) (dotN cs es j) := (qAja h.ov g.ov j).mono (qYe hj)
theorem Cd.de (h : Cd n d cs) (g : Cd m e es) : (d * e).natAbs ≤ 2 ^ (n + m + 4) := Nat.le_trans (qCz h.le g.le) (qE4 (by omega))
theorem Cd.one (h : Cd n d cs) (g : Cd m e es) (i j : Nat) : Ov (2 ^ (n + m + 4)) (d * e) (coef cs i * coef es j) := ((h.ov i).mul (g.ov j)).mono (by rw [← Nat.pow_add]; exact qE4 (by omega))
theorem Cd.mul (h : Cd n d cs) (g : Cd m e es) (hl : cs.length ≤ 16) : Cd (n + m + 4) (d * e) (qF5 cs es) := ⟨Int.mul_pos h.pos g.pos, h.de g, fun i => by rw [qKj]; exact h.conv g hl i⟩
theorem Cd.mulSz (h : Cd n d cs) (g : Cd m e es) (hl : cs.length ≤ 16) (hs : 2 * (n + m + 5) ≤ 900000) : MulSz cs es := by
  have p := Int.mul_pos h.pos g.pos
  refine ⟨fun i j _ _ => ⟨_, _, h.sz i, g.sz j, by omega⟩, fun i j hi _ => ⟨_, _, qTr (h.conv g (by omega) (i + j)) p (h.de g), qTr (h.one g i j) p (h.de g), by omega⟩⟩
/-- the sizes of a mean, sum by sum -/
def qZ5 (cs ms : List Rat) : Prop := ∀ i, i < cs.length → qMf (coef cs i) (coef ms i) ∧ qMf (dotN cs ms i) (coef cs i * coef ms i)
theorem Cd.dotSz (h : Cd n d cs) (g : Cd m e es) (hl : cs.length ≤ 16) (hs : 2 * (n + m + 5) ≤ 900000) : qZ5 cs es := by
  have p := Int.mul_pos h.pos g.pos
  exact fun i hi => ⟨⟨_, _, h.sz i, g.sz i, by omega⟩, ⟨_, _, qTr (h.dot g (by omega)) p (h.de g), qTr (h.one g i i) p (h.de g), by omega⟩⟩
theorem qJs (cs : List Rat) (k i : Nat) : coef (cs.drop k) i = coef cs (k + i) := by
  unfold coef
  rw [List.getElem?_drop]
theorem Cd.drop (h : Cd n d cs) (k : Nat) : Cd n d (cs.drop k) := ⟨h.pos, h.le, fun i => by rw [qJs]; exact h.ov _⟩
theorem qAf6 (cs : List Rat) (k i : Nat) : coef (cs.take k) i = if i < k then coef cs i else 0 := by
  by_cases h : i < k
  · rw [if_pos h, qYo h]
  · rw [if_neg h, qBb (by rw [List.length_take]; omega)]
theorem Cd.take (h : Cd n d cs) (k : Nat) : Cd n d (cs.take k) := ⟨h.pos, h.le, fun i => by
  rw [qAf6]
  split
  · exact h.ov i
  · exact Ov.zero⟩
theorem Cd.sh (h : Cd n d cs) (g : Cd m e es) (hl : cs.length ≤ 16) : Cd (n + m + 4) (d * e) (shL cs es) := ⟨Int.mul_pos h.pos g.pos, h.de g, fun i => by
  unfold shL
  rw [qKc]
  split
  · exact h.dot (g.drop i) hl
  · exact Ov.zero⟩
end
/-! ### the steps of a row -/
abbrev PW := List Rat × Rat
def xL : List Rat := [0, 1]
def qTb (q : Rat) : List Rat := if q = 0 then [] else [q]
def qIm (p ms : List Rat) : Rat := dotN p ms p.length
def xpN (p : List Rat) : List Rat := strip (qF5 xL p)
def xppN (p : List Rat) : List Rat := strip (qF5 (xpN p) p)
def alN (ms p : List Rat) (w : Rat) : Rat := qIm (xppN p) ms / w
def qQ1 (ms p : List Rat) (w : Rat) : List Rat := strip (qVj xL (qOx (qTb (alN ms p w))))
def f1N (ms p : List Rat) (w : Rat) : List Rat := strip (qF5 (qQ1 ms p w) p)
def beN (w : Rat) (b : PW) : List Rat := strip (qF5 b.1 (qTb (w / b.2)))
def fN (ms p : List Rat) (w : Rat) : Option PW → List Rat
  | none => f1N ms p w
  | some b => strip (qVj (f1N ms p w) (qOx (beN w b)))
def sqN (p : List Rat) : List Rat := strip (qF5 p p)
def qAam (ms : List Rat) : Option PW → Option PW → PW
  | none, _ => ([1], coef ms 0)
  | some (p, w), b => (fN ms p w b, qIm (sqN (fN ms p w b)) ms)
/-- the k-th pair, and the one before -/
def chN (ms : List Rat) : Nat → PW × Option PW
  | 0 => (([1], coef ms 0), none)
  | k + 1 => (qAam ms (some (chN ms k).1) (chN ms k).2, some (chN ms k).1)
theorem qVn (ms : List Rat) (k : Nat) : chN ms (k + 1) = (qAam ms (some (chN ms k).1) (chN ms k).2, some (chN ms k).1) := rfl
theorem qFd (q : Rat) (i : Nat) : coef (qTb q) i = if i = 0 then q else 0 := by
  unfold qTb
  by_cases h : q = 0
  · rw [if_pos h, qBb (Nat.zero_le _)]
    subst h
    simp
  · rw [if_neg h]
    cases i with
    | zero => rfl
    | succ i => rw [qBb (by simp)]; simp
theorem qUy (q : Rat) : (qTb q).length ≤ 1 := by
  unfold qTb
  split <;> simp
theorem qDt (cs : List Rat) : (strip cs).length ≤ cs.length := by rw [qGy]; exact qZx _ _
theorem qIb (cs es : List Rat) : (qF5 cs es).length ≤ cs.length + es.length - 1 := by
  unfold qF5
  split
  · simp
  · simp
/-! ### lengths -/
theorem qAew (p : List Rat) : (xpN p).length ≤ p.length + 1 := by
  have h1 := qDt (qF5 xL p)
  have h2 := qIb xL p
  have : xL.length = 2 := rfl
  unfold xpN
  omega
theorem qAg3 (p : List Rat) : (xppN p).length ≤ 2 * p.length := by
  have h1 := qDt (qF5 (xpN p) p)
  have h2 := qIb (xpN p) p
  have h3 := qAew p
  unfold xppN
  omega
theorem qV8 (ms p : List Rat) (w : Rat) : (qQ1 ms p w).length ≤ 2 := by
  have h1 := qDt (qVj xL (qOx (qTb (alN ms p w))))
  have h2 := qMq xL (qOx (qTb (alN ms p w)))
  rw [qKn] at h2
  have h3 := qUy (alN ms p w)
  have : xL.length = 2 := rfl
  unfold qQ1
  omega
theorem qAiw (ms p : List Rat) (w : Rat) : (f1N ms p w).length ≤ p.length + 1 := by
  have h1 := qDt (qF5 (qQ1 ms p w) p)
  have h2 := qIb (qQ1 ms p w) p
  have h3 := qV8 ms p w
  unfold f1N
  omega
theorem qAj3 (w : Rat) (b : PW) : (beN w b).length ≤ b.1.length := by
  have h1 := qDt (qF5 b.1 (qTb (w / b.2)))
  have h2 := qIb b.1 (qTb (w / b.2))
  have h3 := qUy (w / b.2)
  unfold beN
  omega
theorem qAhi (p : List Rat) : (sqN p).length ≤ 2 * p.length - 1 := by
  have h1 := qDt (qF5 p p)
  have h2 := qIb p p
  unfold sqN
  omega
theorem qFr (ms : List Rat) : ∀ k, (chN ms k).1.1.length ≤ k + 1 ∧ ∀ b, (chN ms k).2 = some b → b.1.length ≤ k
  | 0 => ⟨Nat.le_refl _, fun b h => by cases h⟩
  | k + 1 => by
    obtain ⟨h1, h2⟩ := qFr ms k
    refine ⟨?_, fun b h => by cases h; exact h1⟩
    show (fN ms (chN ms k).1.1 (chN ms k).1.2 (chN ms k).2).length ≤ _
    -- the length of p may be smaller
    have e1 := qAiw ms (chN ms k).1.1 (chN ms k).1.2
    cases hb : (chN ms k).2 with
    | none =>
      show (f1N ms (chN ms k).1.1 (chN ms k).1.2).length ≤ _
      omega
    | some q =>
      have e2 := qAj3 (chN ms k).1.2 q
      have e3 := h2 q hb
      have e4 := qDt (qVj (f1N ms (chN ms k).1.1 (chN ms k).1.2) (qOx (beN (chN ms k).1.2 q)))
      have e5 := qMq (f1N ms (chN ms k).1.1 (chN ms k).1.2) (qOx (beN (chN ms k).1.2 q))
      rw [qKn] at e5
      show (strip (qVj (f1N ms (chN ms k).1.1 (chN ms k).1.2) (qOx (beN (chN ms k).1.2 q)))).length ≤ _
      omega
/-! ### only the first numbers count -/
end MR

set_option Elab.async false
set_option linter.all false
set_option maxRecDepth 100000
set_option maxHeartbeats 1000000
/-! NOrth: sums, the form of a row of numbers, orthogonality of the steps -/
namespace MR
open PySem PySem.Spec PyProof.Rows L2
abbrev Fu := Nat → Rat
def sm : Nat → Fu → Rat
  | 0, _ => 0
  | n + 1, F => sm n F + F n
theorem qA3 {F G : Fu} : ∀ {n : Nat}, (∀ i, i < n → F i = G i) → sm n F = sm n G
  | 0, _ => rfl
  | n + 1, h => by
    show sm n F + F n = sm n G + G n
    rw [qA3 fun i hi => h i (by omega), h n (by omega)]
theorem qP6 (F G : Fu) : ∀ n, sm n (fun i => F i + G i) = sm n F + sm n G
  | 0 => by show (0 : Rat) = 0 + 0; rw [Rat.add_zero]
  | n + 1 => by
    show sm n _ + (F n + G n) = (sm n F + F n) + (sm n G + G n)
    rw [qP6 F G n]
    grind
theorem qFz (c : Rat) (F : Fu) : ∀ n, sm n (fun i => c * F i) = c * sm n F
  | 0 => by show (0 : Rat) = c * 0; rw [Rat.mul_zero]
  | n + 1 => by
    show sm n _ + c * F n = c * (sm n F + F n)
    rw [qFz c F n, Rat.mul_add]
theorem qGc {F : Fu} : ∀ {n : Nat}, (∀ i, i < n → F i = 0) → sm n F = 0
  | 0, _ => rfl
  | n + 1, h => by
    show sm n F + F n = 0
    rw [qGc fun i hi => h i (by omega), h n (by omega), Rat.add_zero]
theorem qPe {F : Fu} {n : Nat} (h : ∀ i, n ≤ i → F i = 0) : ∀ m, n ≤ m → sm m F = sm n F
  | 0, hm => by rw [show n = 0 by omega]
  | m + 1, hm => by
    by_cases e : n = m + 1
    · rw [e]
    · show sm m F + F m = _
      rw [qPe h m (by omega), h m (by omega), Rat.add_zero]
theorem qH7 (F : Fu) : ∀ n, sm (n + 1) F = F 0 + sm n (fun i => F (i + 1))
  | 0 => by show 0 + F 0 = F 0 + 0; rw [Rat.zero_add, Rat.add_zero]
  | n + 1 => by
    show sm (n + 1) F + F (n + 1) = F 0 + (sm n (fun i => F (i + 1)) + F (n + 1))
    rw [qH7 F n, Rat.add_assoc]
theorem qVq (F : Nat → Nat → Rat) (m : Nat) : ∀ n, sm n (fun i => sm m (fun j => F i j)) = sm m (fun j => sm n (fun i => F i j))
  | 0 => by
    show (0 : Rat) = _
    rw [qGc]
    intro i _
    rfl
  | n + 1 => by
    show sm n (fun i => sm m (fun j => F i j)) + sm m (fun j => F n j) = _
    rw [qVq F m n, ← qP6]
    rfl
/-! ### polynomials as sequences of coefficients -/
/-- nothing from n on -/
def Dg (n : Nat) (f : Fu) : Prop := ∀ i, n ≤ i → f i = 0
theorem Dg.mono {n m : Nat} {f : Fu} (h : Dg n f) (hn : n ≤ m) : Dg m f := fun i hi => h i (by omega)
def xF (f : Fu) : Fu
  | 0 => 0
  | i + 1 => f i
theorem Dg.x {n : Nat} {f : Fu} (h : Dg n f) : Dg (n + 1) (xF f) := fun i hi => by
  cases i with
  | zero => rfl
  | succ i => exact h i (by omega)
theorem Dg.sub {n : Nat} {f g : Fu} (h : Dg n f) (h' : Dg n g) (c : Rat) : Dg n (fun i => f i - c * g i) := fun i hi => by
  show f i - c * g i = 0
  rw [h i hi, h' i hi, Rat.mul_zero, Rat.sub_eq_add_neg, Rat.neg_zero, Rat.add_zero]
/-- the form of the row m -/
def Bf (N : Nat) (m f g : Fu) : Rat := sm N fun i => sm N fun j => f i * g j * m (i + j)
section
variable {N : Nat} {m : Fu}
theorem qGz (f g : Fu) : Bf N m f g = Bf N m g f := by
  unfold Bf
  rw [qVq]
  refine qA3 fun i _ => qA3 fun j _ => ?_
  rw [Nat.add_comm j i, Rat.mul_comm (f j)]
theorem qHe {f f' g g' : Fu} (h : ∀ i, f i = f' i) (h' : ∀ i, g i = g' i) : Bf N m f g = Bf N m f' g' := by
  rw [show f = f' from funext h, show g = g' from funext h']
theorem qAjn (f f' g : Fu) : Bf N m (fun i => f i + f' i) g = Bf N m f g + Bf N m f' g := by
  unfold Bf
  rw [← qP6]
  refine qA3 fun i _ => ?_
  rw [← qP6]
  refine qA3 fun j _ => ?_
  grind
theorem qUe (c : Rat) (f g : Fu) : Bf N m (fun i => c * f i) g = c * Bf N m f g := by
  unfold Bf
  rw [← qFz]
  refine qA3 fun i _ => ?_
  rw [← qFz]
  refine qA3 fun j _ => ?_
  grind
theorem qYn (f f' g : Fu) (c : Rat) : Bf N m (fun i => f i - c * f' i) g = Bf N m f g - c * Bf N m f' g := by
  rw [show (fun i => f i - c * f' i) = (fun i => f i + (-c) * f' i) from funext fun i => by grind, qAjn, qUe]
  grind
theorem qAhs (g f f' : Fu) (c : Rat) : Bf N m g (fun i => f i - c * f' i) = Bf N m g f - c * Bf N m g f' := by
  rw [qGz, qYn, qGz f, qGz f']
theorem qAcm (g f f' : Fu) : Bf N m g (fun i => f i + f' i) = Bf N m g f + Bf N m g f' := by
  rw [qGz, qAjn, qGz f, qGz f']
theorem qPb (c : Rat) (g f : Fu) : Bf N m g (fun i => c * f i) = c * Bf N m g f := by
  rw [qGz, qUe, qGz f]
/-- x on the one side, x on the other -/
theorem Bf_x {f g : Fu} (hf : Dg N f) (hg : Dg N g) : Bf (N + 1) m (xF f) g = Bf (N + 1) m f (xF g) := by
  have e1 : Bf (N + 1) m (xF f) g = sm N fun i => sm N fun j => f i * g j * m (i + 1 + j) := by
    unfold Bf
    rw [qH7]
    rw [qGc (F := fun j => xF f 0 * g j * m (0 + j)) fun j _ => by show 0 * g j * _ = 0; rw [Rat.zero_mul, Rat.zero_mul], Rat.zero_add]
    refine qA3 fun i _ => ?_
    show sm N _ + xF f (i + 1) * g N * _ = _
    rw [hg N (Nat.le_refl _), Rat.mul_zero, Rat.zero_mul, Rat.add_zero]
    rfl
  have e2 : Bf (N + 1) m f (xF g) = sm N fun i => sm N fun j => f i * g j * m (i + 1 + j) := by
    unfold Bf
    show sm N _ + sm (N + 1) (fun j => f N * xF g j * m (N + j)) = _
    rw [qGc (F := fun j => f N * xF g j * m (N + j)) fun j _ => by rw [hf N (Nat.le_refl _), Rat.zero_mul, Rat.zero_mul], Rat.add_zero]
    refine qA3 fun i _ => ?_
    rw [qH7]
    show f i * 0 * _ + _ = _
    rw [Rat.mul_zero, Rat.zero_mul, Rat.zero_add]
    refine qA3 fun j _ => ?_
    show f i * g j * m (i + (j + 1)) = _
    rw [show i + (j + 1) = i + 1 + j by omega]
  rw [e1, e2]
theorem qUn {n : Nat} {f g m' : Fu} (hf : Dg n f) (hg : Dg n g) (h : ∀ i, i + 1 < 2 * n → m i = m' i) : Bf N m f g = Bf N m' f g := by
  unfold Bf
  refine qA3 fun i _ => qA3 fun j _ => ?_
  by_cases hi : i < n
  · by_cases hj : j < n
    · rw [h (i + j) (by omega)]
    · rw [hg j (by omega), Rat.mul_zero, Rat.zero_mul, Rat.zero_mul]
  · rw [hf i (by omega), Rat.zero_mul, Rat.zero_mul, Rat.zero_mul]
end
/-! ### a product's mean -/
theorem qOq (cs ms : List Rat) : ∀ n, dotN cs ms n = sm n fun i => coef cs i * coef ms i
  | 0 => rfl
  | n + 1 => by
    show dotN cs ms n + coef cs n * coef ms n = _
    rw [qOq cs ms n]
    rfl
theorem qL3 (cs : List Rat) : Dg cs.length (coef cs) := fun i hi => qBb hi
theorem qAku (cs ms : List Rat) {N : Nat} (h : cs.length ≤ N) : qIm cs ms = sm N fun i => coef cs i * coef ms i := by
  unfold qIm
  rw [qOq]
  exact (qPe (fun i hi => by rw [qBb hi, Rat.zero_mul]) N h).symm
theorem qAr4 (g m : Fu) (c : Rat) (n : Nat) {M : Nat} (hg : Dg M g) : ∀ K, n + M ≤ K → sm K (fun k => (if n ≤ k then c * g (k - n) else 0) * m k) = sm M (fun j => c * g j * m (n + j)) := by
  intro K hK
  have h1 : ∀ K, sm (n + K) (fun k => (if n ≤ k then c * g (k - n) else 0) * m k) = sm K (fun j => c * g j * m (n + j)) := by
    intro K
    induction K with
    | zero =>
      rw [Nat.add_zero]
      refine qGc fun i hi => ?_
      rw [if_neg (by omega), Rat.zero_mul]
    | succ K ih =>
      show sm (n + K) _ + (if n ≤ n + K then c * g (n + K - n) else 0) * m (n + K) = sm K _ + c * g K * m (n + K)
      rw [ih, if_pos (by omega), show n + K - n = K by omega]
  obtain ⟨d, rfl⟩ : ∃ d, K = n + (M + d) := ⟨K - n - M, by omega⟩
  rw [h1]
  exact qPe (fun i hi => by rw [hg i hi, Rat.mul_zero, Rat.zero_mul]) _ (by omega)
theorem qAg9 (f g m : Fu) {M : Nat} (hg : Dg M g) : ∀ n K, n + M ≤ K → sm K (fun k => conv f g n k * m k) = sm n (fun i => sm M (fun j => f i * g j * m (i + j)))
  | 0, K, _ => by
    rw [qGc fun i _ => by show (0 : Rat) * _ = 0; rw [Rat.zero_mul]]
    rfl
  | n + 1, K, h => by
    have e : ∀ k, conv f g (n + 1) k * m k = conv f g n k * m k + (if n ≤ k then f n * g (k - n) else 0) * m k := fun k => by
      show (conv f g n k + (if n ≤ k then f n * g (k - n) else 0)) * m k = _
      rw [Rat.add_mul]
    rw [qA3 fun k _ => e k, qP6, qAg9 f g m hg n K (by omega), qAr4 g m (f n) n hg K (by omega)]
    rfl
theorem qRc (a b ms : List Rat) {N : Nat} (ha : a.length ≤ N) (hb : b.length ≤ N) : qIm (strip (qF5 a b)) ms = Bf N (coef ms) (coef a) (coef b) := by
  have l1 := qDt (qF5 a b)
  have l2 := qIb a b
  rw [qAku _ _ (N := a.length + b.length) (by omega)]
  rw [qA3 (G := fun k => conv (coef a) (coef b) a.length k * coef ms k) fun k _ => by rw [qC2, qKj]]
  rw [qAg9 _ _ _ (qL3 b) _ _ (Nat.le_refl _)]
  unfold Bf
  rw [qPe (n := a.length) (fun i hi => qGc fun j _ => by rw [qBb hi, Rat.zero_mul, Rat.zero_mul]) N ha]
  refine qA3 fun i _ => ?_
  exact (qPe (fun j hj => by rw [qBb hj, Rat.mul_zero, Rat.zero_mul]) N hb).symm
/-! ### the steps as sequences -/
theorem qAql (p : List Rat) (i : Nat) : coef (xpN p) i = xF (coef p) i := by
  unfold xpN
  rw [qC2, qKj]
  show conv (coef xL) (coef p) 2 i = _
  show (0 + (if 0 ≤ i then coef xL 0 * coef p (i - 0) else 0)) + (if 1 ≤ i then coef xL 1 * coef p (i - 1) else 0) = _
  rw [show coef xL 0 = 0 from rfl, show coef xL 1 = 1 from rfl, if_pos (Nat.zero_le _), Rat.zero_mul, Rat.zero_add, Rat.zero_add]
  cases i with
  | zero => rfl
  | succ i =>
    rw [if_pos (by omega), Rat.one_mul]
    rfl
theorem qAll {q p : List Rat} {a : Rat} (h0 : coef q 0 = -a) (h1 : coef q 1 = 1) (h2 : ∀ i, 2 ≤ i → coef q i = 0) (i : Nat) : coef (strip (qF5 q p)) i = xF (coef p) i - a * coef p i := by
  rw [qC2, qKj]
  have e : conv (coef q) (coef p) q.length i = conv (coef q) (coef p) 2 i := by
    by_cases hq : q.length ≤ 2
    · exact (qZw (fun k hk => qBb hk) 2 hq i).symm
    · exact qZw h2 q.length (by omega) i
  rw [e]
  show (0 + (if 0 ≤ i then coef q 0 * coef p (i - 0) else 0)) + (if 1 ≤ i then coef q 1 * coef p (i - 1) else 0) = _
  rw [h0, h1, if_pos (Nat.zero_le _), Nat.sub_zero]
  cases i with
  | zero =>
    rw [if_neg (by omega)]
    show _ = 0 - a * coef p 0
    grind
  | succ i =>
    rw [if_pos (by omega)]
    show 0 + -a * coef p (i + 1) + 1 * coef p i = coef p i - a * coef p (i + 1)
    grind
theorem qAj9 (ms p : List Rat) (w : Rat) (i : Nat) : coef (f1N ms p w) i = xF (coef p) i - alN ms p w * coef p i := by
  refine qAll ?_ ?_ (fun i hi => ?_) i
  · unfold qQ1
    rw [qC2, qKg, qKo, qFd, if_pos rfl, show coef xL 0 = 0 from rfl, Rat.zero_add]
  · unfold qQ1
    rw [qC2, qKg, qKo, qFd, if_neg (by decide), show coef xL 1 = 1 from rfl, Rat.neg_zero, Rat.add_zero]
  · unfold qQ1
    rw [qC2, qKg, qKo, qFd, if_neg (by omega), qBb (show xL.length ≤ i from hi), Rat.neg_zero, Rat.add_zero]
theorem qAel {f g : Nat → Rat} (hg : ∀ j, g (j + 1) = 0) (k : Nat) : ∀ n, conv f g n k = if k < n then f k * g 0 else 0
  | 0 => by simp [conv]
  | n + 1 => by
    show conv f g n k + (if n ≤ k then f n * g (k - n) else 0) = _
    rw [qAel hg k n]
    by_cases h1 : k < n
    · rw [if_pos h1, if_neg (by omega), if_pos (by omega), Rat.add_zero]
    · rw [if_neg h1, Rat.zero_add]
      by_cases h2 : k = n
      · subst h2
        rw [if_pos (Nat.le_refl _), if_pos (by omega), Nat.sub_self]
      · rw [if_pos (by omega), if_neg (by omega)]
        obtain ⟨j, hj⟩ : ∃ j, k - n = j + 1 := ⟨k - n - 1, by omega⟩
        rw [hj, hg, Rat.mul_zero]
theorem qAoj (w : Rat) (b : PW) (i : Nat) : coef (beN w b) i = w / b.2 * coef b.1 i := by
  unfold beN
  rw [qC2, qKj, qAel (fun j => by rw [qFd, if_neg (by omega)]), qFd, if_pos rfl]
  split
  · exact Rat.mul_comm _ _
  · rw [qBb (by omega), Rat.mul_zero]
theorem qAml (ms : List Rat) (x : PW) (b : Option PW) : (qAam ms (some x) b).1 = fN ms x.1 x.2 b := by cases x; rfl
theorem qAms (ms : List Rat) (x : PW) (b : Option PW) : (qAam ms (some x) b).2 = qIm (sqN (fN ms x.1 x.2 b)) ms := by cases x; rfl
theorem ch1 (ms : List Rat) (k : Nat) : (chN ms (k + 1)).1.1 = fN ms (chN ms k).1.1 (chN ms k).1.2 (chN ms k).2 := by rw [qVn, qAml]
theorem ch2 (ms : List Rat) (k : Nat) : (chN ms (k + 1)).1.2 = qIm (sqN (chN ms (k + 1)).1.1) ms := by rw [ch1, qVn, qAms]
theorem chb (ms : List Rat) (k : Nat) : (chN ms (k + 1)).2 = some (chN ms k).1 := by rw [qVn]
theorem qAoh (ms p : List Rat) (w : Rat) (b : PW) : fN ms p w (some b) = strip (qVj (f1N ms p w) (qOx (beN w b))) := rfl
/-- the k-th polynomial of the row, and its worth -/
def pS (ms : List Rat) (k : Nat) : Fu := coef (chN ms k).1.1
def hS (ms : List Rat) (k : Nat) : Rat := (chN ms k).1.2
def aS (ms : List Rat) (k : Nat) : Rat := alN ms (chN ms k).1.1 (chN ms k).1.2
theorem qLi (ms : List Rat) (i : Nat) : pS ms 0 i = if i = 0 then 1 else 0 := by
  show coef [1] i = _
  cases i with
  | zero => rfl
  | succ i => rw [qBb (by simp)]; simp
theorem qS4 (ms : List Rat) (i : Nat) : pS ms 1 i = xF (pS ms 0) i - aS ms 0 * pS ms 0 i := qAj9 ms _ _ i
theorem qLc (ms : List Rat) (k i : Nat) : pS ms (k + 2) i = xF (pS ms (k + 1)) i - aS ms (k + 1) * pS ms (k + 1) i - hS ms (k + 1) / hS ms k * pS ms k i := by
  unfold pS hS aS
  rw [ch1 ms (k + 1), chb, qAoh, qC2, qKg, qKo, qAj9, qAoj, Rat.sub_eq_add_neg (_ - _)]
theorem qG5 (ms : List Rat) (k : Nat) : Dg (k + 1) (pS ms k) := fun i hi => qBb (Nat.le_trans (qFr ms k).1 hi)
theorem qZu (ms : List Rat) : ∀ k, pS ms k k = 1
  | 0 => by rw [qLi, if_pos rfl]
  | 1 => by
    rw [qS4]
    show pS ms 0 0 - aS ms 0 * pS ms 0 1 = 1
    rw [qLi, if_pos rfl, qLi, if_neg (by decide), Rat.mul_zero]
    grind
  | k + 2 => by
    rw [qLc]
    show pS ms (k + 1) (k + 1) - _ * pS ms (k + 1) (k + 2) - _ * pS ms k (k + 2) = 1
    rw [qZu ms (k + 1), qG5 ms (k + 1) (k + 2) (by omega), qG5 ms k (k + 2) (by omega), Rat.mul_zero, Rat.mul_zero]
    grind
theorem qJa (ms : List Rat) (k : Nat) {N : Nat} (hN : k + 1 ≤ N) : hS ms k = Bf N (coef ms) (pS ms k) (pS ms k) := by
  cases k with
  | zero =>
    have e := qRc [1] [1] ms (N := N) (by simpa using hN) (by simpa using hN)
    show coef ms 0 = Bf N (coef ms) (coef [1]) (coef [1])
    rw [← e]
    have e2 : strip (qF5 [1] [1]) = [(1 : Rat)] := by
      have : qF5 [(1 : Rat)] [1] = [1] := by
        unfold qF5 conv
        simp [coef, conv]
        grind
      rw [this]
      exact qKk (n := 0) rfl (by decide)
    rw [e2]
    show coef ms 0 = 0 + 1 * coef ms 0
    grind
  | succ k =>
    have l := (qFr ms (k + 1)).1
    unfold hS pS
    rw [ch2]
    exact qRc (chN ms (k + 1)).1.1 (chN ms (k + 1)).1.1 ms (by omega) (by omega)
theorem qAe8 (ms : List Rat) (k : Nat) {N : Nat} (hN : k + 2 ≤ N) : aS ms k = Bf N (coef ms) (xF (pS ms k)) (pS ms k) / hS ms k := by
  have l := (qFr ms k).1
  have l2 := qAew (chN ms k).1.1
  have e : qIm (xppN (chN ms k).1.1) ms = Bf N (coef ms) (coef (xpN (chN ms k).1.1)) (coef (chN ms k).1.1) := qRc _ _ ms (by omega) (by omega)
  show qIm (xppN (chN ms k).1.1) ms / hS ms k = _
  rw [e, qHe (fun i => qAql (chN ms k).1.1 i) (fun i => rfl)]
  rfl
end MR

set_option Elab.async false
set_option linter.all false
set_option maxRecDepth 100000
set_option maxHeartbeats 1000000
/-! NOrth2: the steps are orthogonal; the form tells a polynomial from 0 -/
namespace MR
open PySem PySem.Spec PyProof.Rows L2
section
variable {N : Nat} {ms : List Rat} {g f : Fu}
theorem qAo6 (g : Fu) : Bf N (coef ms) g (xF (pS ms 0)) = Bf N (coef ms) g (pS ms 1) + aS ms 0 * Bf N (coef ms) g (pS ms 0) := by
  have e : ∀ i, xF (pS ms 0) i = pS ms 1 i + aS ms 0 * pS ms 0 i := fun i => by rw [qS4]; grind
  rw [qHe (fun i => rfl) e, qAcm, qPb]
theorem qAob (g : Fu) (a : Nat) : Bf N (coef ms) g (xF (pS ms (a + 1))) = Bf N (coef ms) g (pS ms (a + 2)) + aS ms (a + 1) * Bf N (coef ms) g (pS ms (a + 1)) + hS ms (a + 1) / hS ms a * Bf N (coef ms) g (pS ms a) := by
  have e : ∀ i, xF (pS ms (a + 1)) i = (pS ms (a + 2) i + aS ms (a + 1) * pS ms (a + 1) i) + hS ms (a + 1) / hS ms a * pS ms a i := fun i => by
    rw [qLc ms a i]
    generalize hS ms (a + 1) / hS ms a = c
    grind
  rw [qHe (fun i => rfl) e, qAcm, qAcm, qPb, qPb]
theorem qAsn (g : Fu) : Bf N (coef ms) (pS ms 1) g = Bf N (coef ms) (xF (pS ms 0)) g - aS ms 0 * Bf N (coef ms) (pS ms 0) g := by
  rw [qHe (fun i => qS4 ms i) (fun i => rfl), qYn]
theorem qAqh (g : Fu) (k : Nat) : Bf N (coef ms) (pS ms (k + 2)) g = Bf N (coef ms) (xF (pS ms (k + 1))) g - aS ms (k + 1) * Bf N (coef ms) (pS ms (k + 1)) g - hS ms (k + 1) / hS ms k * Bf N (coef ms) (pS ms k) g := by
  rw [qHe (fun i => qLc ms k i) (fun i => rfl), qYn, qYn]
end
theorem sub0 (a : Rat) : a - 0 = a := by grind
theorem qQ3 {a b : Rat} (h : b ≠ 0) : a / b * b = a := by grind
theorem orth {ms : List Rat} {n N : Nat} (hN : n + 1 ≤ N) (h : ∀ k, k < n → hS ms k ≠ 0) : ∀ k, k ≤ n → ∀ a b, a < b → b ≤ k → Bf (N + 1) (coef ms) (pS ms b) (pS ms a) = 0
  | 0, _, a, b, h1, h2 => by omega
  | 1, hk, a, b, h1, h2 => by
    obtain rfl : b = 1 := by omega
    obtain rfl : a = 0 := by omega
    have h0 := h 0 (by omega)
    rw [qAsn, ← qJa ms 0 (by omega), qAe8 ms 0 (N := N + 1) (by omega), qQ3 h0, Rat.sub_self]
  | k + 2, hk, a, b, h1, h2 => by
    have ih := orth hN h (k + 1) (by omega)
    by_cases hb : b ≤ k + 1
    · exact ih a b h1 hb
    · obtain rfl : b = k + 2 := by omega
      have sy : ∀ i j, i < j → j ≤ k + 1 → Bf (N + 1) (coef ms) (pS ms i) (pS ms j) = 0 := fun i j hij hj => by rw [qGz]; exact ih i j hij hj
      rw [qAqh]
      have hk0 := h k (by omega)
      have hk1 := h (k + 1) (by omega)
      by_cases ha : a = k + 1
      · subst ha
        rw [← qJa ms (k + 1) (by omega), sy k (k + 1) (by omega) (by omega), qAe8 ms (k + 1) (N := N + 1) (by omega), qQ3 hk1, Rat.sub_self, Rat.mul_zero, Rat.sub_self]
      · rw [Bf_x ((qG5 ms (k + 1)).mono (by omega)) ((qG5 ms a).mono (by omega)), ih a (k + 1) (by omega) (by omega), Rat.mul_zero, sub0]
        cases a with
        | zero =>
          rw [qAo6, ih 0 (k + 1) (by omega) (by omega), Rat.mul_zero, Rat.add_zero]
          cases k with
          | zero =>
            rw [← qJa ms (0 + 1) (by omega), ← qJa ms 0 (by omega), qQ3 hk0, Rat.sub_self]
          | succ k =>
            rw [ih 1 (k + 1 + 1) (by omega) (by omega), ih 0 (k + 1) (by omega) (by omega), Rat.mul_zero, Rat.sub_self]
        | succ a =>
          rw [qAob, ih (a + 1) (k + 1) (by omega) (by omega), ih a (k + 1) (by omega) (by omega), Rat.mul_zero, Rat.add_zero, Rat.mul_zero, Rat.add_zero]
          by_cases hak : a + 1 = k
          · subst hak
            rw [← qJa ms (a + 1 + 1) (by omega), ← qJa ms (a + 1) (by omega), qQ3 hk0, Rat.sub_self]
          · rw [ih (a + 2) (k + 1) (by omega) (by omega), ih (a + 1) k (by omega) (by omega), Rat.mul_zero, Rat.sub_self]
/-- against all lower degrees -/
theorem qAkg {ms : List Rat} {M : Nat} {g : Fu} : ∀ {n : Nat}, (∀ i, i < n → Bf M (coef ms) g (pS ms i) = 0) → ∀ {f : Fu}, Dg n f → Bf M (coef ms) g f = 0
  | 0, _, f, hf => by
    unfold Bf
    exact qGc fun i _ => qGc fun j _ => by rw [hf j (by omega), Rat.mul_zero, Rat.zero_mul]
  | n + 1, h, f, hf => by
    have d : Dg n (fun i => f i - f n * pS ms n i) := fun i hi => by
      show f i - f n * pS ms n i = 0
      by_cases e : i = n
      · subst e
        rw [qZu, Rat.mul_one, Rat.sub_self]
      · rw [hf i (by omega), qG5 ms n i (by omega), Rat.mul_zero, Rat.sub_self]
    have := qAkg (fun i hi => h i (by omega)) d
    rw [qAhs, h n (by omega), Rat.mul_zero] at this
    grind
theorem qAlz {ms : List Rat} {n N : Nat} (hN : n + 1 ≤ N) (h : ∀ k, k < n → hS ms k ≠ 0) {f : Fu} (hf : Dg n f) : Bf (N + 1) (coef ms) (pS ms n) f = 0 := qAkg (fun i hi => orth hN h n (Nat.le_refl _) i n hi (Nat.le_refl _)) hf
/-- what is orthogonal to all degrees below n, and below degree n, is 0 -/
theorem nondeg {ms : List Rat} {N : Nat} : ∀ (n : Nat), n ≤ N → (∀ k, k < n → hS ms k ≠ 0) → ∀ {f : Fu}, Dg n f → (∀ i, i < n → Bf (N + 1) (coef ms) f (pS ms i) = 0) → ∀ i, f i = 0
  | 0, _, _, f, hf, _ => fun i => hf i (by omega)
  | n + 1, hN, h, f, hf, ho => by
    have hn := h n (by omega)
    have d : Dg n (fun i => f i - f n * pS ms n i) := fun i hi => by
      show f i - f n * pS ms n i = 0
      by_cases e : i = n
      · subst e
        rw [qZu, Rat.mul_one, Rat.sub_self]
      · rw [hf i (by omega), qG5 ms n i (by omega), Rat.mul_zero, Rat.sub_self]
    have e := qAlz (ms := ms) (n := n) (N := N) (by omega) (fun k hk => h k (by omega)) d
    rw [qAhs, ← qJa ms n (by omega), qGz, ho n (by omega)] at e
    have f0 : f n = 0 := by
      have : f n * hS ms n = 0 := by grind
      rcases Rat.mul_eq_zero.mp this with z | z
      · exact z
      · exact absurd z hn
    refine nondeg n (by omega) (fun k hk => h k (by omega)) (fun i hi => ?_) (fun i hi => ho i (by omega))
    by_cases e : i = n
    · rw [e, f0]
    · exact hf i (by omega)
end MR

set_option Elab.async false
set_option linter.all false
set_option maxRecDepth 100000
set_option maxHeartbeats 1000000
set_option exponentiation.threshold 20000
/-! NStep2: the sizes in a step -/
namespace MR
open PySem PySem.Spec PyProof.Rows L2
def qAh7 (a c : List Rat) : Prop := ∃ n m, SzL n a ∧ SzL m c ∧ 0 < n ∧ 0 < m ∧ n + m ≤ 900000
structure StepSz (ms p : List Rat) (w : Rat) (b : Option PW) : Prop where
  s1 : MulSz xL p
  s2 : MulSz (xpN p) p
  s3 : qZ5 (xppN p) ms
  s4 : qMf (qIm (xppN p) ms) w
  s5 : qAh7 xL (qTb (alN ms p w))
  s6 : MulSz (qQ1 ms p w) p
  s7 : ∀ q, b = some q → qMf w q.2 ∧ MulSz q.1 (qTb (w / q.2)) ∧ qAh7 (f1N ms p w) (beN w q)
  s8 : MulSz (fN ms p w b) (fN ms p w b)
  s9 : qZ5 (sqN (fN ms p w b)) ms
structure Lv2 (m : Nat) (M : Int) (b : Nat) (D : Int) (p : List Rat) (w : Rat) : Prop where
  cd : Cd b D p
  ov : Ov (2 ^ (2 * b + m + 8)) (D * D * M) w
theorem qAp7 : Cd 0 1 xL := ⟨by decide, by decide, fun i => by
  match i with
  | 0 => exact Ov.zero
  | 1 => exact ⟨1, by show (1 : Rat) * ((1 : Int) : Rat) = ((1 : Int) : Rat); rw [Rat.one_mul], by decide⟩
  | i + 2 => rw [qBb (show xL.length ≤ i + 2 by show 2 ≤ _; omega)]; exact Ov.zero⟩
theorem qAiv {n : Nat} {d : Int} {q : Rat} (hd : 0 < d) (hl : d.natAbs ≤ 2 ^ n) (h : Ov (2 ^ n) d q) : Cd n d (qTb q) := ⟨hd, hl, fun i => by
  rw [qFd]
  split
  · exact h
  · exact Ov.zero⟩
theorem qAh5 {f g : Nat → Rat} (hg : ∀ j, g (j + 1) = 0) (k : Nat) : ∀ n, conv f g n k = if k < n then f k * g 0 else 0
  | 0 => by simp [conv]
  | n + 1 => by
    show conv f g n k + (if n ≤ k then f n * g (k - n) else 0) = _
    rw [qAh5 hg k n]
    by_cases h1 : k < n
    · rw [if_pos h1, if_neg (by omega), if_pos (by omega), Rat.add_zero]
    · rw [if_neg h1, Rat.zero_add]
      by_cases h2 : k = n
      · subst h2
        rw [if_pos (Nat.le_refl _), if_pos (by omega), Nat.sub_self]
      · rw [if_pos (by omega), if_neg (by omega)]
        obtain ⟨j, hj⟩ : ∃ j, k - n = j + 1 := ⟨k - n - 1, by omega⟩
        rw [hj, hg, Rat.mul_zero]
theorem qAgq (a : List Rat) (q : Rat) (i : Nat) : coef (qF5 a (qTb q)) i = coef a i * q := by
  rw [qKj, qAh5 (fun j => by rw [qFd, if_neg (by omega)])]
  split
  · rw [qFd, if_pos rfl]
  · rw [qBb (by omega), Rat.zero_mul]
theorem qPh {a : Int} (h : 0 < a) : (a : Rat) ≠ 0 := fun z => by
  have := Rat.intCast_inj.mp (z.trans Rat.intCast_zero.symm)
  omega
theorem qAj7 {a : Int} : 0 < (a : Rat) ↔ 0 < a := by
  rw [← Rat.intCast_zero]
  exact Rat.intCast_lt_intCast
/-- a worth above 0 as a whole number over D * D * M -/
theorem qAd3 {n : Nat} {E : Int} {w : Rat} (h : Ov (2 ^ n) E w) (hE : 0 < E) (hw : 0 < w) : ∃ W : Int, w * (E : Rat) = (W : Rat) ∧ 0 < W ∧ W.natAbs ≤ 2 ^ n := by
  obtain ⟨W, e, l⟩ := h
  exact ⟨W, e, qAj7.mp (by rw [← e]; exact Rat.mul_pos hw (qAj7.mpr hE)), l⟩
theorem qAn0 {m b b' B : Nat} {M D : Int} {ms p : List Rat} {w : Rat} {bf : Option PW} (hm : Cd m M ms) (h : Lv2 m M b D p w) (w0 : 0 < w) (lp : p.length ≤ 7)
    (hb : ∀ q, bf = some q → q.1.length ≤ 8 ∧ 0 < q.2 ∧ ∃ D', Lv2 m M b' D' q.1 q.2) (hB : 4 * b + 2 * b' + 2 * m + 25 ≤ B) (hs : 4 * B + 2 * m + 60 ≤ 900000) :
    StepSz ms p w bf ∧ ∃ D', Lv2 m M B D' (fN ms p w bf) (qIm (sqN (fN ms p w bf)) ms) := by
  have lx : xL.length ≤ 16 := by decide
  have l1 := qAew p
  have l2 := qAg3 p
  have l3 := qV8 ms p w
  have c1 : Cd (b + 4) (1 * D) (xpN p) := ((qAp7.mul h.cd lx).strip).mono (by omega)
  have c2 : Cd (2 * b + 8) (1 * D * D) (xppN p) := ((c1.mul h.cd (by omega)).strip).mono (by omega)
  have c3 : Ov (2 ^ (2 * b + m + 12)) (1 * D * D * M) (qIm (xppN p) ms) := (c2.dot hm (by omega)).mono (qE4 (by omega))
  have pDD : 0 < D * D := Int.mul_pos h.cd.pos h.cd.pos
  have pE : 0 < D * D * M := Int.mul_pos pDD hm.pos
  obtain ⟨W, eW, pW, lW⟩ := qAd3 h.ov pE w0
  have wne : w ≠ 0 := Rat.ne_of_gt w0
  obtain ⟨A, eA, lA⟩ := c3
  have ea : alN ms p w * (W : Rat) = (A : Rat) := by
    rw [← eA, ← eW]
    unfold alN
    rw [show (1 : Int) * D * D * M = D * D * M by rw [Int.one_mul]]
    grind
  have oa : Ov (2 ^ (2 * b + m + 12)) W (alN ms p w) := ⟨A, ea, lA⟩
  have lW' : W.natAbs ≤ 2 ^ (2 * b + m + 12) := Nat.le_trans lW (qE4 (by omega))
  have c4 : Cd (2 * b + m + 12) W (qQ1 ms p w) := Cd.strip ⟨pW, lW', fun i => by
    rw [qKg, qKo, qFd]
    match i with
    | 0 =>
      rw [if_pos rfl, show coef xL 0 = 0 from rfl, Rat.zero_add]
      exact oa.neg
    | 1 =>
      rw [if_neg (by decide), show coef xL 1 = 1 from rfl, Rat.neg_zero, Rat.add_zero]
      exact ⟨W, by rw [Rat.one_mul], lW'⟩
    | i + 2 =>
      rw [if_neg (by omega), qBb (show xL.length ≤ i + 2 by show 2 ≤ _; omega), Rat.neg_zero, Rat.add_zero]
      exact Ov.zero⟩
  have c5 : Cd (3 * b + m + 16) (W * D) (f1N ms p w) := ((c4.mul h.cd (by omega)).strip).mono (by omega)
  have zm : Sz (2 * b + m + 13) (qIm (xppN p) ms) := qTr (n := 2 * b + m + 12) ⟨A, eA, lA⟩ (by rw [Int.one_mul]; exact pE) (by
    rw [Int.one_mul]
    exact Nat.le_trans (qCz (qCz h.cd.le h.cd.le) hm.le) (qE4 (by omega)))
  have zw : Sz (2 * b + m + 9) w := qTr (n := 2 * b + m + 8) h.ov pE (Nat.le_trans (qCz (qCz h.cd.le h.cd.le) hm.le) (qE4 (by omega)))
  have main : (∀ q, bf = some q → qMf w q.2 ∧ MulSz q.1 (qTb (w / q.2)) ∧ qAh7 (f1N ms p w) (beN w q)) ∧ ∃ D', Cd B D' (fN ms p w bf) := by
    cases bf with
    | none => exact ⟨fun q z => (by cases z), _, c5.mono (by omega)⟩
    | some q =>
      obtain ⟨lq, q0, D', h'⟩ := hb q rfl
      obtain ⟨p', w'⟩ := q
      have q0 : 0 < w' := q0
      have lq : p'.length ≤ 8 := lq
      have h' : Lv2 m M b' D' p' w' := h'
      have pE' : 0 < D' * D' * M := Int.mul_pos (Int.mul_pos h'.cd.pos h'.cd.pos) hm.pos
      obtain ⟨W', eW', pW', lWW⟩ := qAd3 h'.ov pE' q0
      have wne' : w' ≠ 0 := Rat.ne_of_gt q0
      have zw' : Sz (2 * b' + m + 9) w' := qTr (n := 2 * b' + m + 8) h'.ov pE' (Nat.le_trans (qCz (qCz h'.cd.le h'.cd.le) hm.le) (qE4 (by omega)))
      have pG : 0 < W' * (D * D) := Int.mul_pos pW' pDD
      have lG : (W' * (D * D)).natAbs ≤ 2 ^ (2 * b + 2 * b' + m + 8) := Nat.le_trans (qCz lWW (qCz h.cd.le h.cd.le)) (qE4 (by omega))
      have nM : (M : Rat) ≠ 0 := qPh hm.pos
      have nD : (D : Rat) ≠ 0 := qPh h.cd.pos
      have nD' : (D' : Rat) ≠ 0 := qPh h'.cd.pos
      have nW' : (W' : Rat) ≠ 0 := qPh pW'
      have eb : w / w' * ((W' * (D * D) : Int) : Rat) = ((W * (D' * D') : Int) : Rat) := by
        simp only [Rat.intCast_mul] at eW eW' ⊢
        rw [← eW', ← eW]
        grind
      have ob : Ov (2 ^ (2 * b + 2 * b' + m + 8)) (W' * (D * D)) (w / w') := ⟨W * (D' * D'), eb, Nat.le_trans (qCz lW (qCz h'.cd.le h'.cd.le)) (qE4 (by omega))⟩
      have cr : Cd (2 * b + 2 * b' + m + 8) (W' * (D * D)) (qTb (w / w')) := qAiv pG lG ob
      have cb : Cd (2 * b + 2 * b' + m + 8) (W' * (D * D)) (beN w (p', w')) := Cd.strip ⟨pG, lG, fun i => by
        rw [qAgq]
        obtain ⟨z, ez, lz⟩ := h'.cd.ov i
        refine ⟨W * (D' * z), ?_, Nat.le_trans (qCz lW (qCz h'.cd.le lz)) (qE4 (by omega))⟩
        show coef p' i * (w / w') * _ = _
        rw [Rat.mul_assoc, eb]
        simp only [Rat.intCast_mul]
        rw [← ez]
        grind⟩
      refine ⟨fun q z => ?_, (W * D) * (W' * D), ?_⟩
      · cases z
        exact ⟨⟨_, _, zw, zw', by omega⟩, h'.cd.mulSz cr (by omega) (by omega), _, _, c5.szL, cb.szL, by omega, by omega, by omega⟩
      · have eD : (W' * (D * D)) * W = (W * D) * (W' * D) := by ac_rfl
        have lWD : (W' * D).natAbs ≤ 2 ^ (2 * b' + m + 8 + b) := qCz lWW h.cd.le
        have g1 : ∀ i, Ov (2 ^ (4 * b + 2 * b' + 2 * m + 24)) ((W * D) * (W' * D)) (coef (f1N ms p w) i) := fun i => ((c5.ov i).lift (W' * D)).mono (Nat.le_trans (Nat.mul_le_mul_left _ lWD) (by rw [← Nat.pow_add]; exact qE4 (by omega)))
        have g2 : ∀ i, Ov (2 ^ (4 * b + 2 * b' + 2 * m + 24)) ((W * D) * (W' * D)) (coef (beN w (p', w')) i) := fun i => by
          have := (cb.ov i).lift W
          rw [eD] at this
          exact this.mono (Nat.le_trans (Nat.mul_le_mul_left _ lW) (by rw [← Nat.pow_add]; exact qE4 (by omega)))
        refine Cd.mono (n := 4 * b + 2 * b' + 2 * m + 25) (Cd.strip ⟨Int.mul_pos (Int.mul_pos pW h.cd.pos) (Int.mul_pos pW' h.cd.pos), ?_, fun i => ?_⟩) hB
        · exact Nat.le_trans (qCz (qCz lW h.cd.le) lWD) (qE4 (by omega))
        · rw [qKg, qKo]
          refine ((g1 i).add (g2 i).neg).mono ?_
          rw [Nat.pow_succ 2 (4 * b + 2 * b' + 2 * m + 24)]
          generalize 2 ^ (4 * b + 2 * b' + 2 * m + 24) = z
          omega
  obtain ⟨m7, DD, cf⟩ := main
  have lf : (fN ms p w bf).length ≤ 8 := by
    have e1 := qAiw ms p w
    cases bf with
    | none => exact Nat.le_trans e1 (by omega)
    | some q =>
      obtain ⟨lq, _⟩ := hb q rfl
      have e2 := qAj3 w q
      have e4 := qDt (qVj (f1N ms p w) (qOx (beN w q)))
      have e5 := qMq (f1N ms p w) (qOx (beN w q))
      rw [qKn] at e5
      show (strip (qVj (f1N ms p w) (qOx (beN w q)))).length ≤ _
      omega
  have ls := qAhi (fN ms p w bf)
  have cs : Cd (2 * B + 4) (DD * DD) (sqN (fN ms p w bf)) := ((cf.mul cf (by omega)).strip).mono (by omega)
  refine ⟨⟨qAp7.mulSz h.cd lx (by omega), c1.mulSz h.cd (by omega) (by omega), c2.dotSz hm (by omega) (by omega), ⟨_, _, zm, zw, by omega⟩, ⟨_, _, qAp7.szL, (qAiv pW lW' oa).szL, by omega, by omega, by omega⟩, c4.mulSz h.cd (by omega) (by omega), m7, cf.mulSz cf (by omega) (by omega), cs.dotSz hm (by omega) (by omega)⟩, DD, cf, ?_⟩
  exact (cs.dot hm (by omega)).mono (qE4 (by omega))
end MR

set_option Elab.async false
set_option linter.all false
set_option maxRecDepth 100000
set_option maxHeartbeats 1000000
/-! NSiegel: a small whole solution of few equations (by counting); so the steps' polynomials have small numbers -/
namespace MR
open PySem PySem.Spec PyProof.Rows L2
theorem pig : ∀ (B A : Nat) (f : Nat → Nat), B < A → (∀ i, i < A → f i < B) → ∃ i j, i < j ∧ j < A ∧ f i = f j
  | 0, A, f, h, hf => absurd (hf 0 (by omega)) (by omega)
  | B + 1, A, f, h, hf => by
    by_cases e : ∃ i, i < A - 1 ∧ f i = f (A - 1)
    · obtain ⟨i, h1, h2⟩ := e
      exact ⟨i, A - 1, h1, by omega, h2⟩
    · have ne : ∀ i, i < A - 1 → f i ≠ f (A - 1) := fun i hi z => e ⟨i, hi, z⟩
      have hl := hf (A - 1) (by omega)
      obtain ⟨i, j, h1, h2, h3⟩ := pig B (A - 1) (fun i => if f i = B then f (A - 1) else f i) (by omega) (fun i hi => by
        show (if f i = B then f (A - 1) else f i) < B
        have hi2 := hf i (by omega)
        have hn := ne i hi
        split
        · omega
        · omega)
      refine ⟨i, j, h1, by omega, ?_⟩
      have h3 : (if f i = B then f (A - 1) else f i) = (if f j = B then f (A - 1) else f j) := h3
      have n1 := ne i (by omega)
      have n2 := ne j (by omega)
      split at h3
      · split at h3
        · omega
        · exact absurd h3.symm n2
      · split at h3
        · exact absurd h3 n1
        · exact h3
def enc (B : Nat) (v : Nat → Nat) : Nat → Nat
  | 0 => 0
  | s + 1 => v 0 + B * enc B (fun i => v (i + 1)) s
theorem qAm4 {B : Nat} : ∀ {s : Nat} {v : Nat → Nat}, (∀ i, i < s → v i < B) → enc B v s < B ^ s
  | 0, v, _ => by show 0 < B ^ 0; simp
  | s + 1, v, h => by
    have h0 := h 0 (by omega)
    have ih := qAm4 (B := B) (s := s) (v := fun i => v (i + 1)) fun i hi => h (i + 1) (by omega)
    show v 0 + B * enc B (fun i => v (i + 1)) s < B ^ (s + 1)
    have : B * (enc B (fun i => v (i + 1)) s + 1) ≤ B * B ^ s := Nat.mul_le_mul_left _ ih
    rw [Nat.mul_add, Nat.mul_one] at this
    have e : B ^ (s + 1) = B * B ^ s := by rw [Nat.pow_succ, Nat.mul_comm]
    rw [e]
    omega
theorem qAg6 {B : Nat} : ∀ {s : Nat} {v w : Nat → Nat}, (∀ i, i < s → v i < B) → (∀ i, i < s → w i < B) → enc B v s = enc B w s → ∀ i, i < s → v i = w i
  | 0, v, w, _, _, _, i, hi => by omega
  | s + 1, v, w, hv, hw, he, i, hi => by
    have he : v 0 + B * enc B (fun i => v (i + 1)) s = w 0 + B * enc B (fun i => w (i + 1)) s := he
    have h0 := hv 0 (by omega)
    have h1 := hw 0 (by omega)
    have e0 : v 0 = w 0 := by
      have := congrArg (· % B) he
      simpa [Nat.add_mul_mod_self_left, Nat.mod_eq_of_lt h0, Nat.mod_eq_of_lt h1] using this
    have e1 : enc B (fun i => v (i + 1)) s = enc B (fun i => w (i + 1)) s := by
      have : B * enc B (fun i => v (i + 1)) s = B * enc B (fun i => w (i + 1)) s := by omega
      exact Nat.eq_of_mul_eq_mul_left (by omega) this
    cases i with
    | zero => exact e0
    | succ i => exact qAg6 (fun i hi => hv (i + 1) (by omega)) (fun i hi => hw (i + 1) (by omega)) e1 i (by omega)
def dig (B : Nat) : Nat → Nat → Nat
  | 0, n => n % B
  | j + 1, n => dig B j (n / B)
theorem qAd9 {B : Nat} (hB : 0 < B) : ∀ j n, dig B j n < B
  | 0, n => Nat.mod_lt _ hB
  | j + 1, n => qAd9 hB j (n / B)
theorem qAik {B : Nat} (hB : 0 < B) : ∀ {s n n' : Nat}, n < B ^ s → n' < B ^ s → (∀ j, j < s → dig B j n = dig B j n') → n = n'
  | 0, n, n', h, h', _ => by
    rw [Nat.pow_zero] at h h'
    omega
  | s + 1, n, n', h, h', hd => by
    rw [Nat.pow_succ, Nat.mul_comm] at h h'
    have h0 : n % B = n' % B := hd 0 (by omega)
    have ih := qAik hB (s := s) (Nat.div_lt_of_lt_mul h) (Nat.div_lt_of_lt_mul h') fun j hj => hd (j + 1) (by omega)
    rw [← Nat.div_add_mod n B, ← Nat.div_add_mod n' B, ih, h0]
/-- sums of whole numbers -/
def smI : Nat → (Nat → Int) → Int
  | 0, _ => 0
  | n + 1, F => smI n F + F n
theorem qYv {F G : Nat → Int} : ∀ {n : Nat}, (∀ i, i < n → F i = G i) → smI n F = smI n G
  | 0, _ => rfl
  | n + 1, h => by
    show smI n F + F n = smI n G + G n
    rw [qYv fun i hi => h i (by omega), h n (by omega)]
theorem qAjk (F G : Nat → Int) : ∀ n, smI n (fun i => F i - G i) = smI n F - smI n G
  | 0 => rfl
  | n + 1 => by
    show smI n _ + (F n - G n) = (smI n F + F n) - (smI n G + G n)
    rw [qAjk F G n]
    omega
theorem qAi0 {F : Nat → Int} {T : Nat} : ∀ n, (∀ i, i < n → (F i).natAbs ≤ T) → (smI n F).natAbs ≤ n * T
  | 0, _ => Nat.zero_le _
  | n + 1, h => by
    have h1 := qAi0 n fun i hi => h i (by omega)
    have h2 := h n (by omega)
    show (smI n F + F n).natAbs ≤ (n + 1) * T
    rw [Nat.add_mul, Nat.one_mul]
    omega
theorem qAei (F : Nat → Int) : ∀ n, ((smI n F : Int) : Rat) = sm n fun i => ((F i : Int) : Rat)
  | 0 => Rat.intCast_zero
  | n + 1 => by
    show ((smI n F + F n : Int) : Rat) = sm n _ + _
    rw [Rat.intCast_add, qAei F n]
/-- s equations with s + 1 unknowns have a small whole solution that is not 0 -/
theorem siegel {s mu : Nat} (hs : s ≤ 7) (a : Nat → Nat → Int) (ha : ∀ i j, (a i j).natAbs ≤ 2 ^ mu) : ∃ x : Nat → Int, (∀ j, (x j).natAbs ≤ 2 ^ ((mu + 5) * s + 1)) ∧ (∃ j, j < s + 1 ∧ x j ≠ 0) ∧ (∀ j, s + 1 ≤ j → x j = 0) ∧ ∀ i, i < s → smI (s + 1) (fun j => a i j * x j) = 0 := by
  obtain ⟨t, ht⟩ : ∃ t, t = (mu + 5) * s + 1 := ⟨_, rfl⟩
  rw [← ht]
  have pB : 0 < 2 ^ t := Nat.two_pow_pos t
  -- the values, moved above 0
  let v : Nat → Nat → Int := fun n i => smI (s + 1) (fun j => a i j * (dig (2 ^ t) j n : Int))
  have hv : ∀ n i, (v n i).natAbs ≤ 2 ^ (t + mu + 3) := fun n i => by
    refine Nat.le_trans (qAi0 (T := 2 ^ mu * 2 ^ t) (s + 1) fun j _ => ?_) ?_
    · rw [Int.natAbs_mul]
      exact Nat.mul_le_mul (ha i j) (Nat.le_of_lt (qAd9 pB j n))
    · rw [← Nat.pow_add, show t + mu + 3 = 3 + (mu + t) by omega, Nat.pow_add 2 3]
      exact Nat.mul_le_mul_right _ (by omega)
  obtain ⟨O, hO⟩ : ∃ O : Nat, O = 2 ^ (t + mu + 3) := ⟨_, rfl⟩
  have e5 : 2 ^ (t + mu + 4) = 2 * O := by rw [hO, show t + mu + 4 = (t + mu + 3) + 1 by omega, Nat.pow_succ, Nat.mul_comm]
  have e6 : 2 ^ (t + mu + 5) = 4 * O := by rw [show t + mu + 5 = (t + mu + 4) + 1 by omega, Nat.pow_succ, e5]; omega
  have pO : 0 < O := by rw [hO]; exact Nat.two_pow_pos _
  let w : Nat → Nat → Nat := fun n i => (v n i + (O : Int)).toNat
  have hv' : ∀ n i, (v n i).natAbs ≤ O := fun n i => by rw [hO]; exact hv n i
  have hw : ∀ n i, w n i < 2 ^ (t + mu + 5) := fun n i => by
    have := hv' n i
    rw [e6]
    show (v n i + (O : Int)).toNat < _
    omega
  have hexp : (t + mu + 5) * s < t * (s + 1) := by
    rw [Nat.mul_add t, Nat.mul_one, show t + mu + 5 = t + (mu + 5) by omega, Nat.add_mul]
    omega
  obtain ⟨n, n', h1, h2, h3⟩ := pig ((2 ^ (t + mu + 5)) ^ s) ((2 ^ t) ^ (s + 1)) (fun n => enc (2 ^ (t + mu + 5)) (w n) s) (by
    rw [← Nat.pow_mul, ← Nat.pow_mul]
    exact Nat.pow_lt_pow_right (by decide) hexp) (fun n _ => qAm4 fun i _ => hw n i)
  have hwe := qAg6 (fun i _ => hw n i) (fun i _ => hw n' i) h3
  have hve : ∀ i, i < s → v n i = v n' i := fun i hi => by
    have e : (v n i + (O : Int)).toNat = (v n' i + (O : Int)).toNat := hwe i hi
    have b1 := hv' n i
    have b2 := hv' n' i
    omega
  refine ⟨fun j => if j < s + 1 then (dig (2 ^ t) j n : Int) - (dig (2 ^ t) j n' : Int) else 0, fun j => ?_, ?_, fun j hj => if_neg (by omega), fun i hi => ?_⟩
  · have d1 := qAd9 pB j n
    have d2 := qAd9 pB j n'
    show (if j < s + 1 then _ else _ : Int).natAbs ≤ _
    split
    · omega
    · simp
  · refine Classical.byContradiction fun z => ?_
    have : ∀ j, j < s + 1 → dig (2 ^ t) j n = dig (2 ^ t) j n' := fun j hj => by
      refine Classical.byContradiction fun y => z ⟨j, hj, ?_⟩
      show (if j < s + 1 then _ else _ : Int) ≠ 0
      rw [if_pos hj]
      omega
    have := qAik pB (s := s + 1) (by omega) h2 this
    omega
  · have e : ∀ j, j < s + 1 → a i j * (if j < s + 1 then (dig (2 ^ t) j n : Int) - (dig (2 ^ t) j n' : Int) else 0) = a i j * (dig (2 ^ t) j n : Int) - a i j * (dig (2 ^ t) j n' : Int) := fun j hj => by
      rw [if_pos hj, Int.mul_sub]
    rw [qYv e, qAjk]
    have := hve i hi
    show v n i - v n' i = 0
    omega
/-- the polynomial of a step over a small whole number -/
theorem qAfl {mu : Nat} {M : Int} {ms : List Rat} {s : Nat} (hm : Cd mu M ms) (hs : s ≤ 7) (h : ∀ k, k < s → hS ms k ≠ 0) : ∃ D, Cd ((mu + 5) * s + 1) D (chN ms s).1.1 := by
  -- the numbers of the row, whole
  have hM : ∀ i, ∃ z : Int, coef ms i * (M : Rat) = (z : Rat) ∧ z.natAbs ≤ 2 ^ mu := hm.ov
  obtain ⟨z, hz⟩ : ∃ z : Nat → Int, ∀ i, coef ms i * (M : Rat) = (z i : Rat) ∧ (z i).natAbs ≤ 2 ^ mu := ⟨fun i => (hM i).choose, fun i => (hM i).choose_spec⟩
  obtain ⟨x, xb, ⟨j0, hj0, x0⟩, xd, xe⟩ := siegel (s := s) (mu := mu) hs (fun i j => z (i + j)) (fun i j => (hz (i + j)).2)
  have nM := qPh hm.pos
  have dx : Dg (s + 1) (fun j => ((x j : Int) : Rat)) := fun j hj => by
    show ((x j : Int) : Rat) = 0
    rw [xd j hj, Rat.intCast_zero]
  have eqs : ∀ i, i < s → sm (s + 1) (fun j => coef ms (i + j) * ((x j : Int) : Rat)) = 0 := fun i hi => by
    have e := congrArg (fun y : Int => (y : Rat)) (xe i hi)
    rw [qAei, Rat.intCast_zero] at e
    have e2 : sm (s + 1) (fun j => ((z (i + j) * x j : Int) : Rat)) = (M : Rat) * sm (s + 1) (fun j => coef ms (i + j) * ((x j : Int) : Rat)) := by
      rw [← qFz]
      refine qA3 fun j _ => ?_
      rw [Rat.intCast_mul, ← (hz (i + j)).1]
      grind
    rw [e2] at e
    rcases Rat.mul_eq_zero.mp e with y | y
    · exact absurd y nM
    · exact y
  -- orthogonal to all lower degrees
  have low : ∀ g, Dg s g → Bf (s + 2) (coef ms) g (fun j => ((x j : Int) : Rat)) = 0 := fun g hg => by
    unfold Bf
    refine qGc fun i _ => ?_
    by_cases hi : i < s
    · rw [qPe (n := s + 1) (fun j hj => by rw [dx j hj, Rat.mul_zero, Rat.zero_mul]) (s + 2) (by omega)]
      have e : sm (s + 1) (fun j => g i * ((x j : Int) : Rat) * coef ms (i + j)) = g i * sm (s + 1) (fun j => coef ms (i + j) * ((x j : Int) : Rat)) := by
        rw [← qFz]
        exact qA3 fun j _ => by grind
      rw [e, eqs i hi, Rat.mul_zero]
    · exact qGc fun j _ => by rw [hg i (by omega), Rat.zero_mul, Rat.zero_mul]
  have p1 := fun (i : Nat) (hi : i < s) => low (pS ms i) ((qG5 ms i).mono (by omega))
  have dy : Dg s (fun j => ((x j : Int) : Rat) - ((x s : Int) : Rat) * pS ms s j) := fun j hj => by
    show ((x j : Int) : Rat) - ((x s : Int) : Rat) * pS ms s j = 0
    by_cases e : j = s
    · subst e
      rw [qZu, Rat.mul_one, Rat.sub_self]
    · rw [show ((x j : Int) : Rat) = 0 from dx j (by omega), qG5 ms s j (by omega), Rat.mul_zero, Rat.sub_self]
  have ey := nondeg (ms := ms) (N := s + 1) s (by omega) h dy (fun i hi => by
    rw [qYn, qGz, p1 i hi, orth (n := s) (Nat.le_refl _) h s (Nat.le_refl _) i s hi (Nat.le_refl _), Rat.mul_zero, Rat.sub_self])
  have xs0 : x s ≠ 0 := fun e => by
    have e2 : ((x j0 : Int) : Rat) - ((x s : Int) : Rat) * pS ms s j0 = 0 := ey j0
    rw [e, Rat.intCast_zero, Rat.zero_mul, sub0, ← Rat.intCast_zero] at e2
    exact x0 (Rat.intCast_inj.mp e2)
  have val : ∀ i, coef (chN ms s).1.1 i * ((x s : Int) : Rat) = ((x i : Int) : Rat) := fun i => by
    have e2 : ((x i : Int) : Rat) - ((x s : Int) : Rat) * coef (chN ms s).1.1 i = 0 := ey i
    grind
  refine ⟨((x s).natAbs : Int), by omega, by rw [Int.natAbs_natCast]; exact xb s, fun i => ?_⟩
  by_cases hp : 0 ≤ x s
  · rw [show ((x s).natAbs : Int) = x s by omega]
    exact ⟨x i, val i, xb i⟩
  · rw [show ((x s).natAbs : Int) = -x s by omega]
    exact ⟨-x i, by rw [Rat.intCast_neg, Rat.intCast_neg, ← val i]; grind, by have := xb i; omega⟩
end MR

set_option Elab.async false
set_option linter.all false
set_option maxRecDepth 100000
set_option maxHeartbeats 4000000
set_option exponentiation.threshold 20000
namespace MR
open PySem PySem.Spec PyProof.Rows L2
def monM (cs : List Rat) : List Rat := (strip cs).map fun c => c / qI5 (strip cs)
theorem qAmn (a : List Rat) : (monM a).length ≤ a.length := by
  unfold monM
  rw [List.length_map, qGy]
  exact qZx _ _
end MR

set_option Elab.async false
set_option linter.all false
set_option maxRecDepth 100000
set_option maxHeartbeats 4000000
/-! MR: == of two tuples, the answer either -/
namespace MR
namespace TQ
open PySem PySem.SeqAt GQ
open AutoSeq1 (wpAny_loadPart')
open MeetsSeq MeetsSeq2 MeetsSeq3 SeqRoads2
section
variable {prog : Program} {w : World} {A : Around} {R : Result → Shared → Prop}
end
end TQ
end MR
namespace MR
open PySem PySem.Spec PyProof.Rows L2
section
variable {X : Cx} {k : Nat} {E : XK}
/-- a tuple's items are these Ratios -/
def Rts (K : PySem.W.Frag) (H : Hp) (xs : List V) (qs : List Rat) : Prop := xs.length = qs.length ∧ ∀ (i : Nat) x q, xs[i]? = some x → qs[i]? = some q → ∃ p, x = .ref p ∧ IsRat K H p q
theorem Rts.ext {K : PySem.W.Frag} {H H' : Hp} {xs : List V} {qs : List Rat} (h : Rts K H xs qs) (e : Ext H H') : Rts K H' xs qs := ⟨h.1, fun i x q h1 h2 => let ⟨p, hx, dx, z⟩ := h.2 i x q h1 h2; ⟨p, hx, dx, e _ _ z⟩⟩
end
end MR

set_option Elab.async false
set_option linter.all false
set_option maxRecDepth 100000
set_option maxHeartbeats 4000000
/-! MR: lambdas, with all that stays told -/
namespace MR
open PySem PySem.Spec PyProof.Rows L2 LamX
section
variable {X : Cx} {pins : List (Addr × Obj)} {σ : L2.St} {H : Hp} {s : Shared}
end
end MR

set_option Elab.async false
set_option linter.all false
set_option maxRecDepth 100000
set_option maxHeartbeats 4000000
/-! FL: lambdas handed to a def of the law -/
namespace MR
open PySem PySem.Spec PyProof.Rows L2 LamX
section
variable {K : PySem.W.Frag} {Ta : List (Addr × Str)} {w : Wd} {ow : List Nat} {H H1 : Hp} {σ : L2.St} {ρ : Env} {E : L2.St → XK}
/-! ### a def that catches, whose suite asks only of which class the error is -/
end
end MR

set_option Elab.async false
set_option linter.all false
set_option maxRecDepth 100000
set_option maxHeartbeats 4000000
/-! MR: operators between instances of two own classes -/
namespace MR
open PySem PySem.Spec PyProof.Rows L2
section
open PySem.W
variable {prog : Program} {w : World} {A : Around} {E : Value → Shared → Prop} {s : Shared} {K : Frag} {x y C C2 L f g : Addr} {h₀ : Heap} {m : Str → Option Value} {ox oy : Obj} {od od2 : Option Obj}
/-- x op y, x of the class C, y of the class C2: C's own operator answers -/
theorem bin2 {op : Operator} {rc rc2 : Option Value} {Q : Value → Shared → Prop} (F : Fr h₀ L s.heap m) (X₀ : K.In h₀) (I : InstAt s.heap x ox C od) (J : InstAt s.heap y oy C2 od2) (hne : C ≠ C2) (hc : selfFirst K C = true) (hc2 : selfFirst K C2 = true)
    (hs : findIn K (.ref C) (PySem.dunder op.info.2) = some (some (.ref f))) (hf : isFn K (.ref f) = true) (hr : findIn K (.ref C) (dunderR op.info.2) = some rc) (hp : rc = none ∨ ∃ g : Addr, rc = some (.ref g))
    (hs2 : findIn K (.ref C2) (PySem.dunder op.info.2) = some (some (.ref g))) (hr2 : findIn K (.ref C2) (dunderR op.info.2) = some rc2) (hp2 : rc2 = none ∨ ∃ g : Addr, rc2 = some (.ref g)) (hsub : subIn K (.ref C2) (.ref C) = some false)
    (h : wpAny (model prog w) A (call (.ref f) [.ref x, .ref y]) (W.CmpBack Q) E s) : wpAny (model prog w) A (binaryOp op (.ref x) (.ref y)) Q E s := by
  have X := X₀.keeps F.keep
  obtain ⟨cd, rest, hcd, hm⟩ := ksp_first hc
  obtain ⟨cd2, rest2, hcd2, hm2⟩ := ksp_first hc2
  rcases hi : op.info with ⟨sym, nm'⟩
  rw [hi] at hs hr hs2 hr2
  dsimp only at hs hr hs2 hr2
  have one := ksp_try X I hs hf h
  obtain ⟨hh, g', d, tt, os⟩ := s
  have L1 : Looks (model prog w) hh (typeOf (.ref x)) (.ref C) := I.type
  have L2 : Looks (model prog w) hh (typeOf (.ref y)) (.ref C2) := J.type
  have L3 : Looks (model prog w) hh (fillsNumberSlot (.ref C) nm') true := fills_K X hcd hm hs
  have L4 : Looks (model prog w) hh (fillsNumberSlot (.ref C2) nm') true := fills_K X hcd2 hm2 hs2
  have L5 : Looks (model prog w) hh (isSubtype (.ref C2) (.ref C)) false := looks_subIn X hsub
  have L6 : Looks (model prog w) hh (numberSlotInPython (.ref C) nm') true := ksp_inPy X hs hr hp
  have L7 : Looks (model prog w) hh (numberSlotInPython (.ref C2) nm') true := ksp_inPy X hs2 hr2 hp2
  have hne' : (Value.ref C == Value.ref C2) = false := Bool.eq_false_iff.mpr fun q => hne (by cases beq_iff_eq.mp q; rfl)
  simp only [binaryOp, hi]
  refine wpAny_holding (wpAny_bind ?_)
  unfold binaryOp1
  refine wpAny_bind (L1.at (wpAny_bind (L2.at (wpAny_bind (L3.at ?_)))))
  simp only [hne', Bool.false_eq_true, if_false]
  ksp_lk
  refine wpAny_mono one (fun r s' hr' => ?_) fun _ _ e => e
  obtain ⟨v, rfl, hq⟩ := hr'
  ksp_lk
  exact hq
end
/-- what the written part says of two classes and an operator -/
structure Op2C (K : PySem.W.Frag) (C C2 : Addr) (nm : String) : Prop where
  ne : C ≠ C2
  sf : PySem.W.selfFirst K C = true
  sf2 : PySem.W.selfFirst K C2 = true
  sub : PySem.W.subIn K (.ref C2) (.ref C) = some false
  rc : ∃ rc, PySem.W.findIn K (.ref C) (dunderR nm) = some rc ∧ (rc = none ∨ ∃ g : Addr, rc = some (.ref g))
  s2 : ∃ g : Addr, PySem.W.findIn K (.ref C2) (PySem.dunder nm) = some (some (.ref g))
  rc2 : ∃ rc, PySem.W.findIn K (.ref C2) (dunderR nm) = some rc ∧ (rc = none ∨ ∃ g : Addr, rc = some (.ref g))
open He in
def op2F (x y : Str) (nm : String) : Fct := fun K => decide (ga K x ≠ ga K y) && (PySem.W.selfFirst K (ga K x) && (PySem.W.selfFirst K (ga K y) && (qZo (PySem.W.subIn K (.ref (ga K y)) (.ref (ga K x))) false &&
  ((match PySem.W.findIn K (.ref (ga K x)) (dunderR nm) with
    | some none => true
    | some (some (.ref _)) => true
    | _ => false) && ((match PySem.W.findIn K (.ref (ga K y)) (PySem.dunder nm) with
    | some (some (.ref _)) => true
    | _ => false) && (match PySem.W.findIn K (.ref (ga K y)) (dunderR nm) with
    | some none => true
    | some (some (.ref _)) => true
    | _ => false))))))
theorem qAm1 {o : Option (Option Value)} (h : (match o with
    | some none => true
    | some (some (.ref _)) => true
    | _ => false) = true) : ∃ rc, o = some rc ∧ (rc = none ∨ ∃ g : Addr, rc = some (.ref g)) := by
  split at h
  · exact ⟨_, rfl, .inl rfl⟩
  · exact ⟨_, rfl, .inr ⟨_, rfl⟩⟩
  · cases h
open He in
theorem qAiy {K : PySem.W.Frag} {x y : Str} {nm : String} (h : op2F x y nm K = true) : Op2C K (ga K x) (ga K y) nm := by
  obtain ⟨h1, h⟩ := ba h
  obtain ⟨h2, h⟩ := ba h
  obtain ⟨h3, h⟩ := ba h
  obtain ⟨h4, h⟩ := ba h
  obtain ⟨h5, h⟩ := ba h
  obtain ⟨h6, h7⟩ := ba h
  refine ⟨of_decide_eq_true h1, h2, h3, qEk h4, qAm1 h5, ?_, qAm1 h7⟩
  split at h6
  · exact ⟨_, by assumption⟩
  · cases h6
section
variable {X : Cx} {k : Nat} {C C2 : Addr} {sp : Sp} {E : XK}
/-- x op y: x an instance of C, y another, an int or an instance of C2 -/
def qAj0 (C C2 : Addr) (sp : Sp) (E : XK) : R2 := fun x y H Q => ∃ p dx fs, x = .ref p ∧ H p = some (.ins C dx fs) ∧ ((∃ n, y = .int n) ∨ (∃ q dy gs, y = .ref q ∧ H q = some (.ins C dy gs)) ∨ ∃ q dy gs, y = .ref q ∧ H q = some (.ins C2 dy gs)) ∧ sp [x, y] H Q E
theorem qAkd {op : Operator} (nm : String) (D : qEj X.prog X.w X.K X.mg X.base k C (PySem.dunder nm) [] sp) (O : OpC X.K C nm) (O2 : Op2C X.K C C2 nm) (hr : Room k X.A) (hx : Passes (CXX X.prog X.w) X E) (hi : op.info.2 = nm := by rfl) : OpR X (binaryOp op) (qAj0 C C2 sp E) := by
  subst hi
  have D0 := D
  obtain ⟨f, fd, ps, ds, h1, h2, h3, h4, h5⟩ := D
  intro pins s σ H x y v u Q I rx ry h
  obtain ⟨p, dx, fs, rfl, e, hy, q⟩ := h
  rcases hy with hy | hy | ⟨r, dy, gs, rfl, ey⟩
  · exact qDr _ D0 O hr hx rfl pins s σ H _ _ v u Q I rx ry ⟨p, dx, fs, rfl, e, .inl hy, q⟩
  · exact qDr _ D0 O hr hx rfl pins s σ H _ _ v u Q I rx ry ⟨p, dx, fs, rfl, e, .inr hy, q⟩
  · cases rx
    cases h5
    obtain ⟨od, J⟩ := qJ5 I e
    obtain ⟨m, Fm⟩ := I.fr
    have run : wpAny (model X.prog X.w) X.A (call (.ref f) [.ref p, u]) (PySem.W.CmpBack (EP X pins σ Q)) X.xe s :=
      thn (run_fn (us := [.ref p, u]) (vs := [.ref p, .ref r]) h3 hr h4 .nil hx I (.cons rfl (.cons ry .nil)) q) fun _ _ z => qXl z
    cases ry
    obtain ⟨od2, J2⟩ := qJ5 I ey
    obtain ⟨rc, g3, g4⟩ := O2.rc
    obtain ⟨g, g5⟩ := O2.s2
    obtain ⟨rc2, g6, g7⟩ := O2.rc2
    exact bin2 Fm I.mod.kin J J2 O2.ne O2.sf O2.sf2 h2.at_ h2.fn g3 g4 g5 g6 g7 O2.sub run
end
end MR

set_option Elab.async false
set_option linter.all false
set_option maxRecDepth 100000
set_option maxHeartbeats 4000000
/-! FL: operators of two own classes; new objects that a def hands back; a def that catches -/
namespace MR
open PySem PySem.Spec PyProof.Rows L2 LamX
section
variable {K : PySem.W.Frag} {E1 : XK} {F : Fd} {M : Addr → Prop} {H : Hp}
def qAsm (C C2 : Str) (fsp : FSp) : O2 := fun a b P X => qN9 a = some C ∧ (qAa2 b ∨ qN9 b = some C ∨ qN9 b = some C2) ∧ fsp [a, b] P X
def qYj (C C2 : Str) (fsp : FSp) : O2 := fun a b P X => qN9 a = some C ∧ (qAa2 b ∨ qN9 b = some C ∨ qN9 b = some C2) ∧ fsp [a, b] P X0
theorem qAol {C C2 : Str} {sp : Sp} {fsp : FSp} (L : Lift K sp fsp) : OpS K E1 (qAj0 (He.ga K C) (He.ga K C2) sp E1) (qAsm C C2 fsp) := by
  intro F M H x y a b P X Q lv ra rb h q x'
  obtain ⟨h1, h2, h3⟩ := h
  obtain ⟨p, dx, fs, rfl, e⟩ := qLv ra h1
  refine ⟨p, dx, fs, rfl, e, ?_, L _ _ _ _ ⟨F, M, [a, b], P, X, lv, .cons ra (.one rb), h3, q, x'⟩⟩
  rcases h2 with h2 | h2 | h2
  · exact .inl (qWw h2 rb)
  · obtain ⟨p', dx', fs', rfl, e'⟩ := qLv rb h2
    exact .inr (.inl ⟨p', dx', fs', rfl, e'⟩)
  · obtain ⟨p', dx', fs', rfl, e'⟩ := qLv rb h2
    exact .inr (.inr ⟨p', dx', fs', rfl, e'⟩)
theorem qAeq {C C2 : Str} {sp : Sp} {fsp : FSp} (L : Lift K sp fsp) : OpS K E1 (qAj0 (He.ga K C) (He.ga K C2) sp E0) (qYj C C2 fsp) := fun F M H x y a b P X Q lv ra rb h q _ => qAol (E1 := E0) L F M H x y a b P X0 Q lv ra rb h q px0
end
section
variable {P : D → Prop} {X : XP} {fsp : FSp} {cs es : List Rat} {q : Rat} {n : Int}
theorem qHs : qYj "Poly" "Ratio" fsp (.poly cs) (.poly es) P X ↔ fsp [.poly cs, .poly es] P X0 := ⟨fun h => h.2.2, fun h => ⟨rfl, .inr (.inl rfl), h⟩⟩
theorem qHp : qYj "Poly" "Ratio" fsp (.poly cs) (.rat q) P X ↔ fsp [.poly cs, .rat q] P X0 := ⟨fun h => h.2.2, fun h => ⟨rfl, .inr (.inr rfl), h⟩⟩
end
/-! ### new objects -/
section
variable {K : PySem.W.Frag} {Ta : List (Addr × Str)} {w : Wd} {ow ow' ow1 owb owx : List Nat} {H H' : Hp} {σ : L2.St} {ρ : Env} {E : L2.St → XK} {N : L2.Ends} {FD : FEnds} {F : Fd} {M : Addr → Prop}
theorem qAlg {fsp : FSp} {dvs : List V} {es : List D} {ta : TA} {fa : FA} (c : Cst (K := K) es dvs) (ha : SA K Ta ow E ta fa) : SF K Ta ow E (tCall (qNa K fsp) dvs E0 ta) (qAg fsp es fa) := by
  intro w H σ ρ P X Q e h q x
  refine ha w H σ ρ _ X _ e h (fun ds vs H1 h1 g1 r1 => ?_) x
  have e1 := e.grow g1
  refine ⟨w.F, w.Mx ow σ, _, P, _, e1.lv, r1.append c.reps, h1, fun d v H2 hd g2 n2 => ?_, fun x' _ _ _ z _ _ => z⟩
  obtain ⟨p, o, rfl, h0, hn, ho, r⟩ := n2
  exact q d p o H2 hd (g1.trans g2) (newer e1.lv g1 h0) ho r
theorem qAad {fsp : FSp} {n : Nat} (h : ∀ ds P X, fsp ds P X → ds.length = n) {vs : List V} {H : Hp} {Q : VK} {E : XK} (l : qNa K fsp vs H Q E) : vs.length = n := by
  obtain ⟨F, M, ds, P, X, lv, r, hs, _⟩ := l
  rw [r.length]
  exact h ds P X hs
end
/-! ### a def that asks of which class the error is -/
end MR

set_option Elab.async false
set_option linter.all false
set_option maxRecDepth 100000
set_option maxHeartbeats 4000000
/-! MR: an operator that declines, and the other side's reflected one -/
namespace MR
open PySem PySem.Spec PyProof.Rows L2
/-- the end of a call that hands back NotImplemented -/
def CEN (outer : List PySem.Env) (P : Program) (w : World) (H : Hp) (s : Shared) (Q : VK) (u : Value) (s' : Shared) : Prop :=
  ∃ H', s'.os = s.os ∧ AllBare s'.gens ∧ Un (frs outer) [] H H' s.heap s'.heap ∧ HOk P w H' s'.heap ∧ u = .notImplemented ∧ Q .non H'
def CRN (CX : CXT) (outer : List PySem.Env) (P : Program) (w : World) (H : Hp) (s : Shared) (Q : VK) (E : XK) (r : Result) (s' : Shared) : Prop :=
  match r with
  | .ok (.ret u) => CEN outer P w H s Q u s'
  | .ok _ => False
  | .error e => CX outer H s E e s'
structure NiOk (P : Program) (w : World) (K : PySem.W.Frag) (mg : Str → Option Value) (base : Heap) (CX : CXT) (k : Nat) (f : Addr) (fd : FuncData) (ps : List Str) (sp : Sp) : Prop where
  len : ∀ vs H Q E, sp vs H Q E → vs.length = ps.length
  run : ∀ (A : Around) (outer : List PySem.Env) (s : Shared) (H : Hp) (args : Args) (us : List Value) (vs : List V) (Q : VK) (E : XK), Room k A → Env0 P w K mg base A outer s H → BindsTo s fd args (ps.zip us) → Vals vs us → sp vs H Q E →
    codeAny (model P w) A (.call (.ref f) args) (CRN CX outer P w H s Q E) s
section
variable {X : Cx} {CX : CXT} {k : Nat} {f C C2 : Addr} {fd : FuncData} {ps : List Str} {sp sp2 : Sp} {E : XK}
end
section
open PySem.W
variable {prog : Program} {w : World} {A : Around} {E : Value → Shared → Prop} {s : Shared} {K : Frag} {x y C C2 L f g f2 : Addr} {h₀ : Heap} {m : Str → Option Value} {ox oy : Obj} {od od2 : Option Obj}
end
section
variable {X : Cx} {k : Nat} {C C2 : Addr} {sp sp2 : Sp} {E : XK}
end
end MR

set_option Elab.async false
set_option linter.all false
set_option maxRecDepth 100000
set_option maxHeartbeats 4000000
/-! FL: an operator that declines; the reflected one -/
namespace MR
open PySem PySem.Spec PyProof.Rows L2 LamX
section
variable {K : PySem.W.Frag} {E1 : XK} {F : Fd} {M : Addr → Prop} {H : Hp}
end
section
variable {P : D → Prop} {X : XP} {fni fr : FSp} {cs : List Rat} {q : Rat} {n : Int}
end
end MR

set_option Elab.async false
set_option linter.all false
set_option maxRecDepth 100000
set_option maxHeartbeats 4000000
/-! MR: x in y by an own class; == of what may be None -/
namespace MR
open PySem PySem.Spec PyProof.Rows L2
section
variable {X : Cx} {k k2 : Nat} {C : Addr} {sp spN : Sp} {E : XK}
end
/-- C() -/
theorem qAj5 {X : Cx} {k : Nat} {C : Addr} {sp : Sp} {dvs : List V} {E : XK} {x : Str} {p pos : Pos} (D : qQd X.prog X.w X.K X.mg X.base k x C dvs sp) (hr : Room (k + 1) X.A) (hg : Gl X x) (hx : Passes (CXX X.prog X.w) X E) (hdb : (x == ("__debug__" : Str)) = false := by decide) :
    PE X (.Call (.Name x p) [] [] pos) (tMake C sp dvs E tNil) := by
  obtain ⟨f, fd, ps, ds, h1, h2, h3, h4, h5⟩ := D
  exact pe_make0 h2 h3 hr hg h1 h4 h5 hx hdb
/-- the class and NoneType are strangers -/
structure NonC (K : PySem.W.Frag) (C : Addr) : Prop where
  sub : PySem.W.subIn K (.type "NoneType") (.ref C) = some false
  subR : PySem.W.subIn K (.ref C) (.type "NoneType") = some false
open He in
open He in
section
open PySem.W
variable {prog : Program} {w : World} {A : Around} {E : Value → Shared → Prop} {s : Shared} {K : Frag} {x C dx f : Addr} {od : Option Obj}
end
section
variable {X : Cx} {k k2 : Nat} {C : Addr} {sp spN : Sp}
end
end MR

set_option Elab.async false
set_option linter.all false
set_option maxRecDepth 100000
set_option maxHeartbeats 4000000
/-! FL: in, == of what may be None, C(word=..) -/
namespace MR
open PySem PySem.Spec PyProof.Rows L2 LamX
section
variable {K : PySem.W.Frag} {Ta : List (Addr × Str)} {ow : List Nat} {E : L2.St → XK} {E1 : XK} {F : Fd} {M : Addr → Prop} {H : Hp}
end
end MR

set_option Elab.async false
set_option linter.all false
set_option maxRecDepth 100000
set_option maxHeartbeats 4000000
/-! FL: == of two tuples of Ratios, either answer -/
namespace MR
open PySem PySem.Spec PyProof.Rows L2 LamX
section
variable {K : PySem.W.Frag} {E1 : XK}
/-! ### lists that + and * make -/
end
end MR

set_option Elab.async false
set_option linter.all false
set_option maxRecDepth 100000
set_option maxHeartbeats 4000000
/-! MR: != of two lists whose items are equal -/
namespace MR
namespace TQ
open PySem PySem.SeqAt GQ
open AutoSeq1 (wpAny_loadPart')
open MeetsSeq MeetsSeq2 MeetsSeq3 SeqRoads2
section
variable {prog : Program} {w : World} {A : Around} {R : Result → Shared → Prop}
end
/-! ### lists compared, the answer either -/
section
variable {prog : Program} {w : World} {A : Around} {R : Result → Shared → Prop}
end
end TQ
open PySem PySem.Spec PyProof.Rows L2
section
variable {X : Cx} {k : Nat} {E : XK}
/-- two numbers inside a list: both ints, or both Ratios -/
def NumQ (K : PySem.W.Frag) (H : Hp) (x y : V) (b : Bool) : Prop :=
  (∃ i j : Int, x = .int i ∧ y = .int j ∧ b = decide (i = j)) ∨ ∃ p q a c, x = .ref p ∧ y = .ref q ∧ IsRat K H p a ∧ IsRat K H q c ∧ qMf a c ∧ b = decide (a = c)
theorem NumQ.ext {K : PySem.W.Frag} {H H' : Hp} {x y : V} {b : Bool} (h : NumQ K H x y b) (e : Ext H H') : NumQ K H' x y b := by
  rcases h with h | ⟨p, q, a, c, h1, h2, ⟨dx, h3⟩, ⟨dy, h4⟩, h5⟩
  · exact .inl h
  · exact .inr ⟨p, q, a, c, h1, h2, ⟨dx, e _ _ h3⟩, ⟨dy, e _ _ h4⟩, h5⟩
end
end MR

set_option Elab.async false
set_option linter.all false
set_option maxRecDepth 100000
set_option maxHeartbeats 4000000
/-! MR: != of two instances of an own class that has __eq__ and no __ne__ -/
namespace MR
open PySem PySem.Spec PyProof.Rows L2
structure NeC (K : PySem.W.Frag) (C : Addr) : Prop where
  ne : PySem.W.findIn K (.ref C) "__ne__" = some (some (.builtin "object.__ne__"))
  ob : PySem.W.mroIn K C (.type "object") = some true
open He in
open He in
section
open PySem.W
variable {M : Model} {prog : Program} {w : World} {A : Around} {E : Value → Shared → Prop} {s : Shared} {K : Frag} {x y C f : Addr} {ox oy : Obj} {od od2 : Option Obj}
end
section
variable {X : Cx} {CX : CXT} {k : Nat} {C f : Addr} {fd : FuncData} {ps : List Str} {sp : Sp} {E : XK}
end
end MR

set_option Elab.async false
set_option linter.all false
set_option maxRecDepth 100000
set_option maxHeartbeats 4000000
/-! FL: == and != of two lists of numbers; {}; tuples joined and cut -/
namespace MR
open PySem PySem.Spec PyProof.Rows L2 LamX
section
variable {K : PySem.W.Frag} {E1 : XK} {F : Fd} {M : Addr → Prop} {H : Hp}
/-- two numbers: is the one the other, if they are of one kind and small -/
inductive NumE : D → D → Bool → Prop where
  | int (i j : Int) : NumE (.int i) (.int j) (decide (i = j))
  | rat (a c : Rat) (h : qMf a c) : NumE (.rat a) (.rat c) (decide (a = c))
/-! ### {} -/
def qAl5 : FE := fun _ P _ => P (.dct [] [])
/-! ### t + u -/
/-! ### x != y by the class's own == -/
/-! ### one of two ways -/
end
end MR

set_option Elab.async false
set_option linter.all false
set_option maxRecDepth 100000
set_option maxHeartbeats 4000000
/-! MR: a call of an instance whose class has a __call__ -/
namespace MR
open PySem PySem.Spec PyProof.Rows L2
section
open PySem.W PySem.Calls
variable {M : Model} {A : Around} {E : Value → Shared → Prop} {s : Shared} {K : Frag} {env : PySem.Env} {pos : Pos} {x C : Addr} {first : List Value} {Q : Value → Shared → Prop}
end
section
variable {X : Cx} {k : Nat} {C : Addr} {sp : Sp} {E : XK} {pos : Pos} {fe e : Expr} {es : List Expr} {tf : TE} {t : TA}
end
end MR

set_option Elab.async false
set_option linter.all false
set_option maxRecDepth 100000
set_option maxHeartbeats 4000000
/-! FL: calls of instances, xs[::-1] -/
namespace MR
open PySem PySem.Spec PyProof.Rows L2
section
variable {K : PySem.W.Frag} {Ta : List (Addr × Str)} {ow : List Nat} {E : L2.St → XK} {E1 : XK}
theorem Reps.reverse {F : Fd} {M : Addr → Prop} {H : Hp} : ∀ {ds : List D} {vs : List V}, Reps K F M H ds vs → Reps K F M H ds.reverse vs.reverse
  | [], _, h => by rw [show _ = [] from h]; exact rfl
  | d :: ds, _, h => by
    obtain ⟨v, us, rfl, h1, h2⟩ := h
    rw [List.reverse_cons, List.reverse_cons]
    exact (Reps.reverse h2).append (.one h1)
end
section
variable {P : D → Prop} {X : XP} {fsp : FSp} {ρ : Env}
end
end MR

set_option Elab.async false
set_option linter.all false
set_option maxRecDepth 100000
set_option maxHeartbeats 4000000
/-! MR: calls of methods inside try, by words; xs[::k] -/
namespace MR
open PySem PySem.Spec PyProof.Rows L2
section
variable {X : Cx} {k : Nat} {C : Addr} {sp : Sp} {dvs : List V} {x m : Str} {p pos apos : Pos} {e o : Expr} {es : List Expr} {ta : TE} {t : TA}
end
end MR

set_option Elab.async false
set_option linter.all false
set_option maxRecDepth 100000
set_option maxHeartbeats 4000000
/-! FL: methods inside try, by words, that hand back new lists; xs[::k]; an int in a list -/
namespace MR
open PySem PySem.Spec PyProof.Rows L2 LamX
section
variable {K : PySem.W.Frag} {Ta : List (Addr × Str)} {ow : List Nat} {E : L2.St → XK} {E1 : XK} {C m : Str} {sp : Sp} {fsp : FSp} {to : TE} {ta tk : TA} {fo : FE} {fa fk : FA}
/-- o.m(..) hands back a new object -/
theorem qAmf (ho : SE K Ta ow E to fo) (ha : SA K Ta ow E ta fa) : SF K Ta ow E (tMeth (He.ga K C) m (qNa K fsp) [] E0 to ta) (qFb C m fsp fo fa) := by
  intro w H σ ρ P X Q e h q x
  refine ho w H σ ρ _ X _ e h (fun o vo H1 h1 g1 r1 => ?_) x
  obtain ⟨a, dx, fs, e1, e2, e3⟩ := h1.1.at r1
  refine ⟨a, dx, fs, e1, e2, e3, ha w H1 σ ρ _ X _ (e.grow g1) h1.2 (fun ds vs H2 h2 g2 r2 => ?_) (x.gr g1)⟩
  have e2 := (e.grow g1).grow g2
  refine ⟨w.F, w.Mx ow σ, _, P, _, e2.lv, .cons (Rep.goes g2.goes _ _ r1) (by rw [List.append_nil]; exact r2), h2, fun d v H3 hd g3 n3 => ?_, fun x' _ _ _ z _ _ => z⟩
  obtain ⟨p, o, rfl, h0, hn, ho, r⟩ := n3
  exact q d p o H3 hd ((g1.trans g2).trans g3) (newer e2.lv (g1.trans g2) h0) ho r
end
end MR

set_option Elab.async false
set_option linter.all false
set_option maxRecDepth 100000
set_option maxHeartbeats 4000000
/-! MR: a // b of numbers of any size -/
namespace MR
open PySem PySem.Spec PyProof.Rows L2
/-- nothing watches how _pylong is taken in -/
structure SeeC (K : PySem.W.Frag) : Prop where
  st : PySem.W.nsOkIn K cStatics = true
  st1 : PySem.W.nsIn K cStatics "sys.audit-hooks" = some none
  st2 : PySem.W.nsIn K cStatics "sys.dict" = some none
  sm : PySem.W.nsOkIn K sysModules = true
  sm1 : PySem.W.nsIn K sysModules "_pylong" = some none
  mn : ∃ bm ob, PySem.W.nsIn K mainGlobals "__builtins__" = some (some (.ref bm)) ∧ K.lookup bm = some ob ∧ ob.cls = .type "module" ∧ ob.dict = some builtinsNs
def seeM (K : PySem.W.Frag) : Bool := match PySem.W.nsIn K mainGlobals "__builtins__" with
  | some (some (.ref bm)) => (match K.lookup bm with
    | some ob => decide (ob.cls = .type "module") && decide (ob.dict = some builtinsNs)
    | none => false)
  | _ => false
open He in
def seeF : Fct := fun K => PySem.W.nsOkIn K cStatics && (decide (PySem.W.nsIn K cStatics "sys.audit-hooks" = some none) && (decide (PySem.W.nsIn K cStatics "sys.dict" = some none) && (PySem.W.nsOkIn K sysModules && (decide (PySem.W.nsIn K sysModules "_pylong" = some none) && seeM K))))
theorem qAp6 {K : PySem.W.Frag} (h : seeM K = true) : ∃ bm ob, PySem.W.nsIn K mainGlobals "__builtins__" = some (some (.ref bm)) ∧ K.lookup bm = some ob ∧ ob.cls = .type "module" ∧ ob.dict = some builtinsNs := by
  unfold seeM at h
  split at h
  · rename_i bm e
    split at h
    · rename_i ob e2
      obtain ⟨h1, h2⟩ := Bool.and_eq_true_iff.mp h
      exact ⟨bm, ob, e, e2, of_decide_eq_true h1, of_decide_eq_true h2⟩
    · cases h
  · cases h
open He in
theorem qAn3 {K : PySem.W.Frag} (h : seeF K = true) : SeeC K := by
  obtain ⟨h1, h⟩ := Bool.and_eq_true_iff.mp h
  obtain ⟨h2, h⟩ := Bool.and_eq_true_iff.mp h
  obtain ⟨h3, h⟩ := Bool.and_eq_true_iff.mp h
  obtain ⟨h4, h⟩ := Bool.and_eq_true_iff.mp h
  obtain ⟨h5, h⟩ := Bool.and_eq_true_iff.mp h
  exact ⟨h1, of_decide_eq_true h2, of_decide_eq_true h3, h4, of_decide_eq_true h5, qAp6 h⟩
theorem SeeC.base {K : PySem.W.Frag} {mg : Str → Option Value} {base : Heap} (S : SeeC K) (M : Mod K mg base) : base.NoSeer where
  statics := ⟨_, .of_isNs (PySem.W.isNs_of_in M.kin S.st), PySem.W.nsMap_none_of_in M.kin S.st S.st1, PySem.W.nsMap_none_of_in M.kin S.st S.st2⟩
  mods := ⟨_, .of_isNs (PySem.W.isNs_of_in M.kin S.sm), PySem.W.nsMap_none_of_in M.kin S.sm S.sm1⟩
  imp := M.blt
  main := by
    obtain ⟨bm, ob, h1, h2, h3, h4⟩ := S.mn
    exact ⟨mg, bm, ob, M.glob, PySem.W.mg_of M.kin M.glob h1, M.kin _ _ h2, h3, h4⟩
section
variable {X : Cx}
theorem qAkp (S : SeeC X.K) (ht : X.prog.given.tree = none) (hr : Room 32 X.A) {e : PySem.Env} {l : List PySem.Env} (hk : X.stack = e :: l) (hg : e.scope.isGenerator = false) (hc : e.scope.isCoroutine = false) (hb : e.builtins = builtinsNs) (hgl : e.globals = mainGlobals) {pins : List (Addr × Obj)} {σ : L2.St} {H : Hp} {s : Shared} (I : Inv X pins σ H s) : PylongRoom (model X.prog X.w) X.A s :=
  PylongRoom.of I.nolimit (by have := hr.dp; show X.A.depth + 100 < _; omega) (SeerAt.of ((S.base I.ok.mod).keeps I.bk) ht (by rw [I.ok.frames, hk]) hg hc hb hgl)
/-- i // j of any size -/
theorem qM9 (S : SeeC X.K) (ht : X.prog.given.tree = none) (hr : Room 32 X.A) {e : PySem.Env} {l : List PySem.Env} (hk : X.stack = e :: l := by rfl) (hg : e.scope.isGenerator = false := by rfl) (hc : e.scope.isCoroutine = false := by rfl) (hb : e.builtins = builtinsNs := by rfl) (hgl : e.globals = mainGlobals := by rfl) : OpR X (binaryOp .FloorDiv) (rI qApx fun i j => .int (i.fdiv j)) := by
  intro pins s σ H x y v u Q I rx ry h
  obtain ⟨i, j, rfl, rfl, hj, q⟩ := h
  obtain ⟨t, rfl⟩ := rx
  obtain ⟨t', rfl⟩ := ry
  exact floordiv_int hj ⟨.int _, H, I.tok _, ⟨_, rfl⟩, q⟩ (.inr (qAkp S ht hr hk hg hc hb hgl I))
end
end MR

set_option Elab.async false
set_option linter.all false
set_option maxRecDepth 100000
set_option maxHeartbeats 4000000
/-! FL: == and != of plain data; the script's cells; not in; any -/
namespace MR
open PySem PySem.Spec PyProof.Rows L2 LamX
mutual
/-- plain data -/
def pyD : D → Option PyData
  | .non => some .none
  | .bl b => some (.bool b)
  | .int i => some (.int i)
  | .str x => some (.str x)
  | .lst ds => (match pyDs ds with | some xs => some (.list xs) | none => none)
  | .tup ds => (match pyDs ds with | some xs => some (.tuple xs) | none => none)
  | _ => none
def pyDs : List D → Option (List PyData)
  | [] => some []
  | d :: ds => (match pyD d, pyDs ds with | some x, some xs => some (x :: xs) | _, _ => none)
end
section
variable {K : PySem.W.Frag} {E1 : XK} {F : Fd} {M : Addr → Prop} {H : Hp}
mutual
theorem qAhp : ∀ (d : D) (v : V) (e : PyData), pyD d = some e → Rep K F M H d v → Dp K H v e
  | .non, v, e, h, r => by cases h; rw [show v = .non from r]; exact .non
  | .bl b, v, e, h, r => by cases h; rw [show v = .bl b from r]; exact .bl b
  | .int b, v, e, h, r => by cases h; rw [show v = .int b from r]; exact .int b
  | .str b, v, e, h, r => by cases h; rw [show v = .str b from r]; exact .str b
  | .lst ds, v, e, h, r => by
    obtain ⟨p, vs, rfl, _, hp, rs⟩ := r
    simp only [pyD] at h
    cases hx : pyDs ds with
    | none => rw [hx] at h; cases h
    | some xs =>
      rw [hx] at h
      cases h
      exact .lst (SqL.of hp) (pyDs_ok ds vs xs hx rs)
  | .tup ds, v, e, h, r => by
    obtain ⟨p, vs, rfl, _, hp, rs⟩ := r
    simp only [pyD] at h
    cases hx : pyDs ds with
    | none => rw [hx] at h; cases h
    | some xs =>
      rw [hx] at h
      cases h
      exact .tup (SqT.of hp) (pyDs_ok ds vs xs hx rs)
  | .rat _, _, _, h, _ => by simp [pyD] at h
  | .poly _, _, _, h, _ => by simp [pyD] at h
  | .ins _ _ _, _, _, h, _ => by simp [pyD] at h
  | .feed, _, _, h, _ => by simp [pyD] at h
  | .exc, _, _, h, _ => by simp [pyD] at h
  | .adr _, _, _, h, _ => by simp [pyD] at h
  | .scr _, _, _, h, _ => by simp [pyD] at h
  | .dct _ _, _, _, h, _ => by simp [pyD] at h
  | .exn _ _ _, _, _, h, _ => by simp [pyD] at h
theorem pyDs_ok : ∀ (ds : List D) (vs : List V) (es : List PyData), pyDs ds = some es → Reps K F M H ds vs → DpAll K H vs es
  | [], vs, es, h, r => by
    cases h
    rw [show vs = [] from r]
    exact .nil
  | d :: ds, vs, es, h, r => by
    obtain ⟨v, us, rfl, r1, r2⟩ := r
    simp only [pyDs] at h
    cases h1 : pyD d with
    | none => rw [h1] at h; cases h
    | some x =>
      cases h2 : pyDs ds with
      | none => rw [h1, h2] at h; cases h
      | some xs =>
        rw [h1, h2] at h
        cases h
        exact .cons (qAhp d v x h1 r1) (pyDs_ok ds us xs h2 r2)
end
def oEqD : O2 := fun a b P _ => ∃ d e, pyD a = some d ∧ pyD b = some e ∧ SeqAt.shaped d = true ∧ SeqAt.shaped e = true ∧ P (.bl (PyData.eqv d e))
theorem qAnp : OpS K E1 (rEqD K) oEqD := by
  intro F M H x y a b P X Q lv ra rb h q _
  obtain ⟨d, e, h1, h2, h3, h4, p⟩ := h
  exact ⟨d, e, qAhp _ _ _ h1 ra, qAhp _ _ _ h2 rb, h3, h4, q _ _ _ p .refl rfl⟩
theorem qAid {X : Cx} {k : Nat} (hr : Room k X.A) : OpR X (compareOp .Eq) (rEqD X.K) := op_eqD (by have := hr.un; omega)
/-! ### the script -/
/-! ### not in -/
/-! ### any -/
/-! ### C(x, word=..) -/
end
section
variable {X : Cx} {k n : Nat} {C : Addr} {sp : Sp} {E : XK} {x : Str} {p pos : Pos} {e : Expr} {es : List Expr} {t : TA}
end
end MR

set_option Elab.async false
set_option linter.all false
set_option maxRecDepth 100000
set_option maxHeartbeats 4000000
set_option exponentiation.threshold 20000
namespace MR
open PySem PySem.Spec PyProof.Rows L2
def qEz : FSp := fun ds P _ => ∃ z : Int, ds = [.feed, .int z] ∧ 0 < z ∧ Sml z ∧ ∀ d : Int, -z < d → d < z → P (.int d)
abbrev prD (p : Int × Int) : D := .lst [.int p.1, .int p.2]
def prL (ps : List (Int × Int)) : List D := ps.map prD
def addP (p q : Int × Int) : Int × Int := if p.1 = 0 then q else if q.1 = 0 then p else if p.2 = q.2 then (p.1 + q.1, p.2) else (p.1 * q.2 + q.1 * p.2, p.2 * q.2)
def mulP (p q : Int × Int) : Int × Int := (p.1 * q.1, p.2 * q.2)
structure SzP (n : Nat) (p : Int × Int) : Prop where
  a : p.1.natAbs < 2 ^ n
  b : p.2.natAbs < 2 ^ n
  pos : 0 < p.2
def valP (p : Int × Int) : Rat := Rat.divInt p.1 p.2
def qGg : FSp := fun ds P _ => ∃ ps n, ds = [.lst (prL ps)] ∧ (∀ p, p ∈ ps → SzP n p) ∧ n ≤ 900000 ∧ ps.length ≤ 1000 ∧ P (.lst (qBj (ps.map valP)))
def qHq (K : PySem.W.Frag) (cs : List Str) : TS :=
  (tSeq (tAsg (tOp qNi (tC (.int 1)) (tOp qFp (tC (.int 2)) (tCall (lift K qBp) [] E0 (tCons (tVar 0) (tCons (tC (.int 2)) tNil))))) (gName 2))
  (tRet (tOp qFp (tVar 2) (tCall (lift K qBp) [] E0 (tCons (tVar 0) (tCons (tVar 1) tNil))))))
def qIs (cs : List Str) : FS :=
  (qAy (qCu 2 (fOp qXp (fC (.int 1)) (fOp qQ6 (fC (.int 2)) (qAg qBp [] (qAc (qAe 0) (qAc (fC (.int 2)) qAm))))))
  (qCr (fOp qQ6 (qAe 2) (qAg qBp [] (qAc (qAe 0) (qAc (qAe 1) qAm))))))
theorem qWp {K : PySem.W.Frag} {cs : List Str} (T : KF K cs) (hRatio : ("Ratio" : Str) ∈ cs) : SS K Ta [] [] [] [] (fun _ => E0) (qHq K cs) (qIs cs) :=
  (qAl (ow1 := []) (qAx (by decide) (by decide) (qAi (fun _ => qJ2) qAj (qAi (fun _ => qEt) qAj (qAk Lift.refl qAf (qAa (qAb (by decide)) (qAa qAj qAd))))))
  (qAq (by decide) (qAi (fun _ => qEt) (qAb (by decide)) (qAk Lift.refl qAf (qAa (qAb (by decide)) (qAa (qAb (by decide)) qAd))))))
def qHt (K : PySem.W.Frag) (cs : List Str) : TS :=
  (tRet (tLc (iList K (tVar 0)) (gName 1) tYes (tMake (He.ga K "Ratio") (qA8 K) [] E0 (tCons (tOp (rIxL K) (tVar 1) (tC (.int 0))) (tCons (tOp (rIxL K) (tVar 1) (tC (.int 1))) tNil))) [1]))
def qI2 (cs : List Str) : FS :=
  (qCr (fLc (qQz (qAe 0)) (qBf 1) qI8 (qAg qHv [] (qAc (fOp qBu (qAe 1) (fC (.int 0))) (qAc (fOp qBu (qAe 1) (fC (.int 1))) qAm))) [1]))
theorem qU6 {K : PySem.W.Frag} {cs : List Str} (T : KF K cs) (hRatio : ("Ratio" : Str) ∈ cs) : SS K Ta [] [] [] [] (fun _ => E0) (qHt K cs) (qI2 cs) :=
  (qAq (by decide) (SF.se (qO5 (by decide) (by decide) (qIt (qAb (by decide))) (qBy (by decide)) qH5 (qA2 qFk qAf (qAa (qAi (fun _ => qAz) (qAb (by decide)) qAj) (qAa (qAi (fun _ => qAz) (qAb (by decide)) qAj) qAd))))))
theorem qC6 {z : Int} {P : D → Prop} {X : XP} (h0 : 0 < z) (h9 : Sml z) (h : ∀ d : Int, 0 ≤ d → d < z → P (.int d)) : qBp [.feed, .int z] P X := ⟨z, rfl, h0, h9, h⟩
theorem qSe {z : Int} {P : D → Prop} {X : XP} (h0 : 0 < z) (h9 : Sml z) (h : ∀ d : Int, -z < d → d < z → P (.int d)) : qEz [.feed, .int z] P X := ⟨z, rfl, h0, h9, h⟩
theorem qUx {cs : List Str} (hR : ("Ratio" : Str) ∈ cs) (ds : List D) (P : D → Prop) (X : XP) (h : qEz ds P X) : qIs cs (qFj P X0) (qA0 3 ds) := by
  obtain ⟨z, rfl, z0, z9, p⟩ := h
  simp_arith [qIs]
  refine qC6 (by decide) (by decide) fun d d0 d1 => ?_
  simp_arith []
  refine ⟨qVk (by decide), ?_⟩
  refine qC6 z0 z9 fun e e0 e1 => ?_
  simp_arith []
  refine ⟨qVk (by omega), ?_⟩
  have : d = 0 ∨ d = 1 := by omega
  rcases this with rfl | rfl
  · have := p e (by omega) e1
    rw [show (1 - 2 * 0 : Int) * e = e by omega]
    exact this
  · have := p (-e) (by omega) (by omega)
    rw [show (1 - 2 * 1 : Int) * e = -e by omega]
    exact this
theorem ix0 {a b : D} {P : D → Prop} {X : XP} : oIx (.lst [a, b]) (.int 0) P X ↔ P a := by
  constructor
  · rintro ⟨ds, n, d, h, hn, ha, p⟩
    cases hn
    rcases h with h | h <;> cases h
    cases ha; exact p
  · exact fun p => ⟨_, _, a, .inl rfl, rfl, rfl, p⟩
theorem ix1 {a b : D} {P : D → Prop} {X : XP} : oIx (.lst [a, b]) (.int 1) P X ↔ P b := by
  constructor
  · rintro ⟨ds, n, d, h, hn, ha, p⟩
    cases hn
    rcases h with h | h <;> cases h
    cases ha; exact p
  · exact fun p => ⟨_, _, b, .inl rfl, rfl, rfl, p⟩
theorem qAjq {i j : Int} {n m : Nat} (hi : i.natAbs < 2 ^ n) (hj : j.natAbs < 2 ^ m) (hs : n + m ≤ 900000) : IntMulOk i j := by
  refine qAnf (a := n + 1) (b := m + 1) (Nat.lt_of_lt_of_le hi (Nat.pow_le_pow_right (by decide) (by omega))) (Nat.lt_of_lt_of_le hj (Nat.pow_le_pow_right (by decide) (by omega))) (by omega) (by omega) (by omega)
def ofPr (d : D) : D := match d with
  | .lst [.int a, .int b] => .rat (Rat.divInt a b)
  | e => e
theorem qU3 {cs : List Str} (hR : ("Ratio" : Str) ∈ cs) (ds : List D) (P : D → Prop) (X : XP) (h : qGg ds P X) : qI2 cs (qFj P X0) (qA0 2 ds) := by
  obtain ⟨ps, n, rfl, h1, hn, hl, p⟩ := h
  simp_arith [qI2, fLc]
  refine qMl ofPr _ [] (fun d hd Q q => ?_) ?_ ?_
  · obtain ⟨⟨a, b⟩, hp, rfl⟩ := List.mem_map.mp hd
    have s := h1 _ hp
    simp only [qIv]
    simp_arith [ix0, ix1, qPp]
    exact ⟨Int.ne_of_gt s.pos, trivial, q⟩
  · simp only [prL, List.length_map, List.length_nil]
    exact qCg (by omega)
  · have e : (prL ps).map ofPr = qBj (ps.map valP) := by
      unfold prL qBj
      rw [List.map_map, List.map_map]
      rfl
    rw [List.nil_append, e]
    exact p
theorem qAn1 {ps : List (Int × Int)} {k : Nat} {p : Int × Int} (h : ps[k]? = some p) : (prL ps)[k]? = some (prD p) := by
  unfold prL
  rw [List.getElem?_map, h]
  rfl
theorem qAhl (ps : List (Int × Int)) : (prL ps).length = ps.length := List.length_map ..
theorem qAom (ps : List (Int × Int)) (p : Int × Int) : prL ps ++ [prD p] = prL (ps ++ [p]) := by
  unfold prL
  rw [List.map_append]
  rfl
/-- a list of three ints, one of them -/
theorem ix3 {a b c : Int} {k : Int} {P : D → Prop} {X : XP} (h0 : 0 ≤ k) (h3 : k < 3) (p : ∀ z, z = a ∨ z = b ∨ z = c → P (.int z)) : oIx (.lst [.int a, .int b, .int c]) (.int k) P X := by
  have : k = 0 ∨ k = 1 ∨ k = 2 := by omega
  rcases this with rfl | rfl | rfl
  · exact ⟨_, _, _, .inl rfl, rfl, rfl, p _ (.inl rfl)⟩
  · exact ⟨_, _, _, .inl rfl, rfl, rfl, p _ (.inr (.inl rfl))⟩
  · exact ⟨_, _, _, .inl rfl, rfl, rfl, p _ (.inr (.inr rfl))⟩
theorem p2 {a : Int} {n : Nat} (h : a.natAbs < 2 ^ n) (hn : n ≤ 900000) : Sml a := trivial
theorem SzP.mono {n m : Nat} {p : Int × Int} (h : SzP n p) (hn : n ≤ m) : SzP m p := ⟨Nat.lt_of_lt_of_le h.a (Nat.pow_le_pow_right (by decide) hn), Nat.lt_of_lt_of_le h.b (Nat.pow_le_pow_right (by decide) hn), h.pos⟩
theorem qAc6 {i j : Int} {n m : Nat} (h1 : i.natAbs < 2 ^ n) (h2 : j.natAbs < 2 ^ m) : (i * j).natAbs < 2 ^ (n + m) := by
  rw [Int.natAbs_mul]
  exact qPa h1 h2
theorem qAeg (cs : List Rat) : (strip cs).length ≤ cs.length := by
  rw [qGy]
  exact qZx _ _
theorem qAaj {n : Nat} {cs : List Rat} (h : SzL n cs) : SzL n (strip cs) := fun c hc => h c (List.mem_of_mem_take hc)
theorem qJo {cs : List Str} {d : D} {items : List D} {es : List Rat} {P : D → Prop} {X : XP} (hi : itD d = some items) (hl : items.length ≤ 100000) (hq : qEp items = some es) (p : P (.poly (strip es))) : qB1 cs [d] P X := ⟨d, rfl, .inl ⟨items, es, hi, hl, hq, p⟩⟩
theorem qR4 {K : PySem.W.Frag} {cs : List Str} (vs : List V) (H : Hp) (Q : VK) (E : XK) (h : (lift K qEz) vs H Q E) : vs.length = 2 := qAr (fun ds P X h => by unfold qEz at h; first | ((repeat (first | (obtain ⟨rfl, _⟩ := h; exact rfl) | obtain ⟨_, h⟩ := h)); done) | (split at h <;> first | rfl | exact h.elim)) h
theorem qTl {K : PySem.W.Frag} {cs : List Str} (T : KF K cs) (hRatio : ("Ratio" : Str) ∈ cs) (vs : List V) (H : Hp) (Q : VK) (E : XK) (h : (lift K qEz) vs H Q E) : qHq K cs { nx := fun _ H' => Q .non H', rt := Q } (start ["_law_feed_here", "_law_size", "_law_sign"] vs) H :=
  qCx rfl (qWp T hRatio) (qUx hRatio) vs H Q E h
theorem qSx {K : PySem.W.Frag} {cs : List Str} (vs : List V) (H : Hp) (Q : VK) (E : XK) (h : (lift K qGg) vs H Q E) : vs.length = 1 := qAr (fun ds P X h => by unfold qGg at h; first | ((repeat (first | (obtain ⟨rfl, _⟩ := h; exact rfl) | obtain ⟨_, h⟩ := h)); done) | (split at h <;> first | rfl | exact h.elim)) h
theorem qTy {K : PySem.W.Frag} {cs : List Str} (T : KF K cs) (hRatio : ("Ratio" : Str) ∈ cs) (vs : List V) (H : Hp) (Q : VK) (E : XK) (h : (lift K qGg) vs H Q E) : qHt K cs { nx := fun _ H' => Q .non H', rt := Q } (start ["_law_pairs", "_law_pair"] vs) H :=
  qCx rfl (qU6 T hRatio) (qU3 hRatio) vs H Q E h
end MR

set_option Elab.async false
set_option linter.all false
set_option maxRecDepth 100000
set_option maxHeartbeats 4000000
set_option exponentiation.threshold 20000
namespace MR
open PySem PySem.Spec PyProof.Rows L2
/-! ### pairs: products and sums of rows -/
def getP (ps : List (Int × Int)) (k : Nat) : Int × Int := ps.getD k (0, 1)
theorem qAk6 {ps : List (Int × Int)} {k : Nat} (h : k < ps.length) : ps[k]? = some (getP ps k) := by
  unfold getP
  rw [List.getD_eq_getElem?_getD, List.getElem?_eq_getElem h]
  rfl
theorem qAdp {ps : List (Int × Int)} {k : Nat} (h : k < ps.length) : getP ps k ∈ ps := List.mem_of_getElem? (qAk6 h)
/-- the cell k when i rows are done -/
def prC (ps qs : List (Int × Int)) : Nat → Nat → Int × Int
  | 0, _ => (0, 1)
  | i + 1, k => if i ≤ k ∧ k < i + qs.length then addP (prC ps qs i k) (mulP (getP ps i) (getP qs (k - i))) else prC ps qs i k
/-- sizes that a sum of products goes through -/
structure SumS (ps qs : List (Int × Int)) (S : Nat → Int × Int → Prop) : Prop where
  zero : S 0 (0, 1)
  mono : ∀ c r, S c r → S (c + 1) r
  step : ∀ c r p q, c < qs.length → S c r → p ∈ ps → q ∈ qs → (∃ n m, SzP n p ∧ SzP m q ∧ n + m ≤ 900000) ∧ (∃ n m, SzP n r ∧ SzP m (mulP p q) ∧ n + m ≤ 900000) ∧ S (c + 1) (addP r (mulP p q))
section
variable {ps qs : List (Int × Int)} {S : Nat → Int × Int → Prop}
/-- how many products are in the cell -/
def cntC (m i k : Nat) : Nat := min i (k + 1) - min i (k + 1 - m)
theorem SumS.le (h : SumS ps qs S) {c d : Nat} (hc : c ≤ d) {r : Int × Int} (hr : S c r) : S d r := by
  obtain ⟨e, rfl⟩ := Nat.exists_eq_add_of_le hc
  induction e with
  | zero => exact hr
  | succ e ih => exact h.mono _ _ (ih (by omega))
theorem SumS.cell (h : SumS ps qs S) : ∀ i k, i ≤ ps.length → S (cntC qs.length i k) (prC ps qs i k)
  | 0, k, _ => h.le (Nat.zero_le _) h.zero
  | i + 1, k, hi => by
    have ih := h.cell i k (by omega)
    unfold prC
    by_cases hc : i ≤ k ∧ k < i + qs.length
    · rw [if_pos hc]
      have e : cntC qs.length (i + 1) k = cntC qs.length i k + 1 := by unfold cntC; omega
      rw [e]
      have hlt : cntC qs.length i k < qs.length := by unfold cntC; omega
      exact (h.step _ _ _ _ hlt ih (qAdp (by omega)) (qAdp (by omega))).2.2
    · rw [if_neg hc]
      refine h.le ?_ ih
      unfold cntC; omega
end
/-! ### their values -/
end MR

set_option Elab.async false
set_option linter.all false
set_option maxRecDepth 100000
set_option maxHeartbeats 4000000
set_option exponentiation.threshold 20000
namespace MR
open PySem PySem.Spec PyProof.Rows L2
structure SzQ (m : Nat) (p : Int × Int) : Prop where
  a : p.1.natAbs < 2 ^ m
  b : p.2.natAbs < 2 ^ m
  ne : p.2 ≠ 0
theorem SzP.q {m : Nat} {p : Int × Int} (h : SzP m p) : SzQ m p := ⟨h.a, h.b, Int.ne_of_gt h.pos⟩
section
variable {ps : List (Int × Int)} {m : Nat} {FD : FEnds}
end
end MR

set_option Elab.async false
set_option linter.all false
set_option maxRecDepth 100000
set_option maxHeartbeats 4000000
set_option exponentiation.threshold 20000
namespace MR
open PySem PySem.Spec PyProof.Rows L2
/-! ### places -/
def optV : D → Option (Option Rat)
  | .non => some none
  | .rat q => some (some q)
  | .int n => some (some (n : Rat))
  | _ => none
def qKr : Option Rat → D
  | none => .non
  | some q => .rat q
def qB0 (a b : Option Rat) : D := .ins "Place" ["low", "high"] [qKr a, qKr b]
/-- the ends of a place -/
def qR8 (a b : Option Rat) : Prop := b = none ∨ ∃ x y, a = some x ∧ b = some y ∧ qMf x y ∧ x < y
def qYq (a b : Option Rat) : Prop := ∃ y, b = some y ∧ (a = none ∨ ∃ x, a = some x ∧ qMf x y ∧ ¬ x < y)
def plX (w : Str) : Exn := ⟨"NoPlace", [("part", .str w)]⟩
def qC0 (cs : List Str) : FSp := fun ds P X => ∃ lo hi, ds = [lo, hi] ∧ ((lo ≠ .non ∧ qTa cs lo = some false ∧ X (plX "low")) ∨ ∃ a, optV lo = some a ∧ ((hi ≠ .non ∧ qTa cs hi = some false ∧ X (plX "high")) ∨
  ∃ b, optV hi = some b ∧ ((qR8 a b ∧ P (qB0 a b)) ∨ (qYq a b ∧ X (plX "order")))))
/-- number or none -/
def numO (e : Option Rat) (f : Rat → Rat) : Option Rat := e.map f
def SzO (n : Nat) : Option Rat → Prop
  | none => True
  | some q => Sz n q
def qEd (cs : List Str) : FSp := fun ds P X => ∃ a b d ok, ds = [qB0 a b, d] ∧ qTa cs d = some ok ∧ (ok = false → X ⟨"NoNumber", [("word", .str "by")]⟩) ∧ (ok = true → ∃ s n m, numV d = some s ∧ SzO n a ∧ SzO n b ∧ Sz m s ∧ n + m ≤ 1000 ∧ qR8 a b ∧ P (qB0 (numO a (· + s)) (numO b (· + s))))
def qHz (cs : List Str) : FSp := fun ds P X => ∃ a b d ok, ds = [qB0 a b, d] ∧ qTa cs d = some ok ∧ (ok = false → X ⟨"NoNumber", [("word", .str "by")]⟩) ∧ (ok = true → ∃ s n m, numV d = some s ∧ SzO n a ∧ SzO n b ∧ Sz m s ∧ n + m ≤ 1000 ∧ qR8 a b ∧
  ((0 < s ∧ P (qB0 (numO a (· * s)) (numO b (· * s)))) ∨ (¬ 0 < s ∧ X ⟨"NoNumber", [("word", .str "by")]⟩)))
def qOu (K : PySem.W.Frag) (cs : List Str) (E : XK) : TS :=
  (tSeq (tIfS (tAnd (tTest (tOp qK4 (tVar 1) (tC .non))) (tNot (tB (tCall (lift K (qEu cs)) [] E0 (tCons (tVar 1) tNil))))) (qEn (He.ga K "NoPlace") "part" (fun cls d _ H => E cls d H) (tCons (tC (.str "low")) tNil)) tNext)
  (tIfS (tAnd (tTest (tOp qK4 (tVar 2) (tC .non))) (tNot (tB (tCall (lift K (qEu cs)) [] E0 (tCons (tVar 2) tNil))))) (qEn (He.ga K "NoPlace") "part" (fun cls d _ H => E cls d H) (tCons (tC (.str "high")) tNil)) tNext))
def qEv (cs : List Str) : FS :=
  (qAy (qC1 (qRh (fB (fOp qJc (qAe 1) (fC .non))) (qGq (fB (qAg (qEu cs) [] (qAc (qAe 1) qAm))))) (qEq "NoPlace" "part" (fC (.str "low"))) qAv)
  (qC1 (qRh (fB (fOp qJc (qAe 2) (fC .non))) (qGq (fB (qAg (qEu cs) [] (qAc (qAe 2) qAm))))) (qEq "NoPlace" "part" (fC (.str "high"))) qAv))
theorem qQj {K : PySem.W.Frag} {cs : List Str} (T : KF K cs) (hRatio : ("Ratio" : Str) ∈ cs) (hPlace : ("Place" : Str) ∈ cs) (E : XK) : SS K Ta [] [] [] [] (fun _ => E) (qOu K cs E) (qEv cs) :=
  (qAl (ow1 := []) (qBl (by decide) (qPw (qAp (qAi (fun _ => qOv) (qAb (by decide)) qCl)) (qEb (qOh (qAk Lift.refl qAf (qAa (qAb (by decide)) qAd))))) (qHd (by decide) qGd) (qAn (by decide)))
  (qBl (by decide) (qPw (qAp (qAi (fun _ => qOv) (qAb (by decide)) qCl)) (qEb (qOh (qAk Lift.refl qAf (qAa (qAb (by decide)) qAd))))) (qHd (by decide) qGd) (qAn (by decide))))
def qOc (K : PySem.W.Frag) (cs : List Str) (E : XK) : TE :=
  (tIf (tTest (tOp qJ0 (tVar 1) (tC .non))) (tC .non) (tCall (lift K (qCv cs)) [] E (tCons (tVar 1) (tCons (tC (.str "low")) tNil))))
def qQu (cs : List Str) : FE :=
  (fIf (fB (fOp qRf (qAe 1) (fC .non))) (fC .non) (qFc (qCv cs) [] (qAc (qAe 1) (qAc (fC (.str "low")) qAm))))
theorem qQw {K : PySem.W.Frag} {cs : List Str} (T : KF K cs) (hRatio : ("Ratio" : Str) ∈ cs) (hPlace : ("Place" : Str) ∈ cs) (E : XK) : SE K Ta [] (fun _ => E) (qOc K cs E) (qQu cs) :=
  (qQl (qAp (qAi (fun _ => qH0) (qAb (by decide)) qCl)) qCl (qHi Lift.refl qAf (qAa (qAb (by decide)) (qAa qGd qAd))))
def qNk (K : PySem.W.Frag) (cs : List Str) (E : XK) : TE :=
  (tIf (tTest (tOp qJ0 (tVar 2) (tC .non))) (tC .non) (tCall (lift K (qCv cs)) [] E (tCons (tVar 2) (tCons (tC (.str "high")) tNil))))
def qO7 (cs : List Str) : FE :=
  (fIf (fB (fOp qRf (qAe 2) (fC .non))) (fC .non) (qFc (qCv cs) [] (qAc (qAe 2) (qAc (fC (.str "high")) qAm))))
theorem qPk {K : PySem.W.Frag} {cs : List Str} (T : KF K cs) (hRatio : ("Ratio" : Str) ∈ cs) (hPlace : ("Place" : Str) ∈ cs) (E : XK) : SE K Ta [] (fun _ => E) (qNk K cs E) (qO7 cs) :=
  (qQl (qAp (qAi (fun _ => qH0) (qAb (by decide)) qCl)) qCl (qHi Lift.refl qAf (qAa (qAb (by decide)) (qAa qGd qAd))))
def qMh (K : PySem.W.Frag) (cs : List Str) (E : XK) : TS :=
  (tIfS (tAnd (tTest (tOp qK4 (tFld K (tVar 0) "high") (tC .non))) (tOr (tTest (tOp qJ0 (tFld K (tVar 0) "low") (tC .non))) (tNot (tTest (tOp (qIo (He.ga K "Ratio") (lift K (fRB fun a b => decide (a < b))) E0) (tFld K (tVar 0) "low") (tFld K (tVar 0) "high")))))) (qEn (He.ga K "NoPlace") "part" (fun cls d _ H => E cls d H) (tCons (tC (.str "order")) tNil)) tNext)
def qEh (cs : List Str) : FS :=
  (qC1 (qRh (fB (fOp qJc (qCy "Place" "high" (qAe 0)) (fC .non))) (fOr (fB (fOp qRf (qCy "Place" "low" (qAe 0)) (fC .non))) (qGq (fB (fOp (qBk "Ratio" (fRB fun a b => decide (a < b))) (qCy "Place" "low" (qAe 0)) (qCy "Place" "high" (qAe 0))))))) (qEq "NoPlace" "part" (fC (.str "order"))) qAv)
theorem qOe {K : PySem.W.Frag} {cs : List Str} (T : KF K cs) (hRatio : ("Ratio" : Str) ∈ cs) (hPlace : ("Place" : Str) ∈ cs) (E : XK) : SS K Ta [] [] [] [] (fun _ => E) (qMh K cs E) (qEh cs) :=
  (qBl (by decide) (qPw (qAp (qAi (fun _ => qOv) (qAo (T.fld _ hPlace _ (by decide)) (qAb (by decide))) qCl)) (qAcx (qAp (qAi (fun _ => qH0) (qAo (T.fld _ hPlace _ (by decide)) (qAb (by decide))) qCl)) (qEb (qAp (qAi (fun _ => (qBe Lift.refl)) (qAo (T.fld _ hPlace _ (by decide)) (qAb (by decide))) (qAo (T.fld _ hPlace _ (by decide)) (qAb (by decide)))))))) (qHd (by decide) qGd) (qAn (by decide)))
def qNb (K : PySem.W.Frag) (cs : List Str) (E : XK) : TS :=
  (tSeq (tIfS (tAnd (tTest (tOp qK4 (tVar 1) (tC .non))) (tNot (tB (tCall (lift K (qEu cs)) [] E0 (tCons (tVar 1) tNil))))) (qEn (He.ga K "NoPlace") "part" (fun cls d _ H => E cls d H) (tCons (tC (.str "low")) tNil)) tNext)
  (tSeq (tIfS (tAnd (tTest (tOp qK4 (tVar 2) (tC .non))) (tNot (tB (tCall (lift K (qEu cs)) [] E0 (tCons (tVar 2) tNil))))) (qEn (He.ga K "NoPlace") "part" (fun cls d _ H => E cls d H) (tCons (tC (.str "high")) tNil)) tNext)
  (tSeq (sFld K (tVar 0) (tIf (tTest (tOp qJ0 (tVar 1) (tC .non))) (tC .non) (tCall (lift K (qCv cs)) [] E (tCons (tVar 1) (tCons (tC (.str "low")) tNil)))) "low")
  (tSeq (sFld K (tVar 0) (tIf (tTest (tOp qJ0 (tVar 2) (tC .non))) (tC .non) (tCall (lift K (qCv cs)) [] E (tCons (tVar 2) (tCons (tC (.str "high")) tNil)))) "high")
  (tIfS (tAnd (tTest (tOp qK4 (tFld K (tVar 0) "high") (tC .non))) (tOr (tTest (tOp qJ0 (tFld K (tVar 0) "low") (tC .non))) (tNot (tTest (tOp (qIo (He.ga K "Ratio") (lift K (fRB fun a b => decide (a < b))) E0) (tFld K (tVar 0) "low") (tFld K (tVar 0) "high")))))) (qEn (He.ga K "NoPlace") "part" (fun cls d _ H => E cls d H) (tCons (tC (.str "order")) tNil)) tNext)))))
def qFw (K : PySem.W.Frag) (cs : List Str) (E : XK) : TS :=
  (tSeq (tAsg (tCall (lift K (qCv cs)) [] E (tCons (tVar 1) (tCons (tC (.str "by")) tNil))) (gName 2))
  (tSeq (tAsg (tIf (tTest (tOp qJ0 (tFld K (tVar 0) "low") (tC .non))) (tC .non) (tOp (qIo (He.ga K "Ratio") (lift K (fR2 fun a b => a + b)) E0) (tFld K (tVar 0) "low") (tVar 2))) (gName 3))
  (tSeq (tAsg (tIf (tTest (tOp qJ0 (tFld K (tVar 0) "high") (tC .non))) (tC .non) (tOp (qIo (He.ga K "Ratio") (lift K (fR2 fun a b => a + b)) E0) (tFld K (tVar 0) "high") (tVar 2))) (gName 4))
  (tRet (tMake (He.ga K "Place") (qG6 K "Place" (qC0 cs)) [] E (tCons (tVar 3) (tCons (tVar 4) tNil)))))))
def qId (cs : List Str) : FS :=
  (qAy (qCu 2 (qFc (qCv cs) [] (qAc (qAe 1) (qAc (fC (.str "by")) qAm))))
  (qAy (qCu 3 (fIf (fB (fOp qRf (qCy "Place" "low" (qAe 0)) (fC .non))) (fC .non) (fOp (qBk "Ratio" (fR2 fun a b => a + b)) (qCy "Place" "low" (qAe 0)) (qAe 2))))
  (qAy (qCu 4 (fIf (fB (fOp qRf (qCy "Place" "high" (qAe 0)) (fC .non))) (fC .non) (fOp (qBk "Ratio" (fR2 fun a b => a + b)) (qCy "Place" "high" (qAe 0)) (qAe 2))))
  (qCr (qFc (qC0 cs) [] (qAc (qAe 3) (qAc (qAe 4) qAm)))))))
theorem qVr {K : PySem.W.Frag} {cs : List Str} (T : KF K cs) (hRatio : ("Ratio" : Str) ∈ cs) (hPlace : ("Place" : Str) ∈ cs) (E : XK) : SS K Ta [] [] [] [] (fun _ => E) (qFw K cs E) (qId cs) :=
  (qAl (ow1 := []) (qAx (by decide) (by decide) (qHi Lift.refl qAf (qAa (qAb (by decide)) (qAa qGd qAd))))
  (qAl (ow1 := []) (qAx (by decide) (by decide) (qQl (qAp (qAi (fun _ => qH0) (qAo (T.fld _ hPlace _ (by decide)) (qAb (by decide))) qCl)) qCl (qAi (fun _ => (qBe Lift.refl)) (qAo (T.fld _ hPlace _ (by decide)) (qAb (by decide))) (qAb (by decide)))))
  (qAl (ow1 := []) (qAx (by decide) (by decide) (qQl (qAp (qAi (fun _ => qH0) (qAo (T.fld _ hPlace _ (by decide)) (qAb (by decide))) qCl)) qCl (qAi (fun _ => (qBe Lift.refl)) (qAo (T.fld _ hPlace _ (by decide)) (qAb (by decide))) (qAb (by decide)))))
  (qAq (by decide) (qL5 qEi qAf (qAa (qAb (by decide)) (qAa (qAb (by decide)) qAd)))))))
def qDz (K : PySem.W.Frag) (cs : List Str) (E : XK) : TS :=
  (tSeq (tAsg (tCall (lift K (qCv cs)) [] E (tCons (tVar 1) (tCons (tC (.str "by")) tNil))) (gName 2))
  (tSeq (tIfS (tNot (tTest (tOp (qIo (He.ga K "Ratio") (lift K (fRB fun a b => decide (b < a))) E0) (tVar 2) (tC (.int 0))))) (qEn (He.ga K "NoNumber") "word" (fun cls d _ H => E cls d H) (tCons (tC (.str "by")) tNil)) tNext)
  (tSeq (tAsg (tIf (tTest (tOp qJ0 (tFld K (tVar 0) "low") (tC .non))) (tC .non) (tOp (qIo (He.ga K "Ratio") (lift K (fR2 fun a b => a * b)) E0) (tFld K (tVar 0) "low") (tVar 2))) (gName 3))
  (tSeq (tAsg (tIf (tTest (tOp qJ0 (tFld K (tVar 0) "high") (tC .non))) (tC .non) (tOp (qIo (He.ga K "Ratio") (lift K (fR2 fun a b => a * b)) E0) (tFld K (tVar 0) "high") (tVar 2))) (gName 4))
  (tRet (tMake (He.ga K "Place") (qG6 K "Place" (qC0 cs)) [] E (tCons (tVar 3) (tCons (tVar 4) tNil))))))))
def qFn (cs : List Str) : FS :=
  (qAy (qCu 2 (qFc (qCv cs) [] (qAc (qAe 1) (qAc (fC (.str "by")) qAm))))
  (qAy (qC1 (qGq (fB (fOp (qBk "Ratio" (fRB fun a b => decide (b < a))) (qAe 2) (fC (.int 0))))) (qEq "NoNumber" "word" (fC (.str "by"))) qAv)
  (qAy (qCu 3 (fIf (fB (fOp qRf (qCy "Place" "low" (qAe 0)) (fC .non))) (fC .non) (fOp (qBk "Ratio" (fR2 fun a b => a * b)) (qCy "Place" "low" (qAe 0)) (qAe 2))))
  (qAy (qCu 4 (fIf (fB (fOp qRf (qCy "Place" "high" (qAe 0)) (fC .non))) (fC .non) (fOp (qBk "Ratio" (fR2 fun a b => a * b)) (qCy "Place" "high" (qAe 0)) (qAe 2))))
  (qCr (qFc (qC0 cs) [] (qAc (qAe 3) (qAc (qAe 4) qAm))))))))
theorem qOy {K : PySem.W.Frag} {cs : List Str} (T : KF K cs) (hRatio : ("Ratio" : Str) ∈ cs) (hPlace : ("Place" : Str) ∈ cs) (E : XK) : SS K Ta [] [] [] [] (fun _ => E) (qDz K cs E) (qFn cs) :=
  (qAl (ow1 := []) (qAx (by decide) (by decide) (qHi Lift.refl qAf (qAa (qAb (by decide)) (qAa qGd qAd))))
  (qAl (ow1 := []) (qBl (by decide) (qEb (qAp (qAi (fun _ => (qBe Lift.refl)) (qAb (by decide)) qAj))) (qHd (by decide) qGd) (qAn (by decide)))
  (qAl (ow1 := []) (qAx (by decide) (by decide) (qQl (qAp (qAi (fun _ => qH0) (qAo (T.fld _ hPlace _ (by decide)) (qAb (by decide))) qCl)) qCl (qAi (fun _ => (qBe Lift.refl)) (qAo (T.fld _ hPlace _ (by decide)) (qAb (by decide))) (qAb (by decide)))))
  (qAl (ow1 := []) (qAx (by decide) (by decide) (qQl (qAp (qAi (fun _ => qH0) (qAo (T.fld _ hPlace _ (by decide)) (qAb (by decide))) qCl)) qCl (qAi (fun _ => (qBe Lift.refl)) (qAo (T.fld _ hPlace _ (by decide)) (qAb (by decide))) (qAb (by decide)))))
  (qAq (by decide) (qL5 qEi qAf (qAa (qAb (by decide)) (qAa (qAb (by decide)) qAd))))))))
section
variable {K : PySem.W.Frag} {Ta : List (Addr × Str)} {w : Wd} {H : Hp} {σ : L2.St} {ρ : Env} {M : Addr → Prop} {x : Addr}
/-- self, when its fields stand -/
theorem qAjj {d d0 : D} {r : List (Option D)} (e : REnv K Ta w [] H σ (some d0 :: r)) (hM : ∀ p, w.M p ↔ M p ∨ p = x) (lv : Lv K w.F M H) (hσ : σ[0]? = some (some (.ref x))) (h : Rep K w.F M H d (.ref x)) : REnv K Ta ⟨w.F, M, H⟩ [] H σ (some d :: r) := by
  have mx : ∀ p, (⟨w.F, M, H⟩ : Wd).Mx [] σ p ↔ M p := fun p => ⟨fun z => z.elim id fun ⟨_, y, _⟩ => (nomatch y), .inl⟩
  refine ⟨.refl, lv.m, lv.nf, fun i _ => ?_, fun i hi => (nomatch hi), fun i hi => (nomatch hi), fun f hf => ?_, lv.t, e.ts⟩
  · cases i with
    | zero =>
      rw [hσ]
      exact Rep.goes (fun p o h _ m => ⟨h, fun z => m ((mx p).mp z)⟩) _ _ h
    | succ i =>
      have := e.imm (i + 1) (by simp)
      rw [List.getElem?_cons_succ] at this ⊢
      exact Sl.mono (fun d v r => Rep.goes (fun p o h _ m => ⟨h, fun z => m (.inl ((hM p).mpr (.inl ((mx p).mp z))))⟩) _ _ r) this
  · obtain ⟨c, h1, h2⟩ := lv.f f hf
    exact ⟨c, h1, fun z => h2 ((mx c).mp z)⟩
end
theorem qAbk {cs : List Str} (hR : ("Ratio" : Str) ∈ cs) {d : D} {a : Option Rat} (h : optV d = some a) : (d = .non ∧ a = none) ∨ (d ≠ .non ∧ qTa cs d = some true ∧ ∃ q, a = some q ∧ numV d = some q) := by
  cases d with
  | non => cases h; exact .inl ⟨rfl, rfl⟩
  | rat q => cases h; exact .inr ⟨(fun z => nomatch z), qDs hR (q := q) rfl, q, rfl, rfl⟩
  | int n => cases h; exact .inr ⟨(fun z => nomatch z), qDs hR (q := (n : Rat)) rfl, _, rfl, rfl⟩
  | _ => cases h
theorem qAr3 {cs : List Str} (hR : ("Ratio" : Str) ∈ cs) {lo hi x : D} {P : D → Prop} {X : XP} {FD : FEnds} (h : qC0 cs [lo, hi] P X) (k : ∀ a b, optV lo = some a → optV hi = some b → ((qR8 a b ∧ P (qB0 a b)) ∨ (qYq a b ∧ X (plX "order"))) → FD.nx [some x, some lo, some hi]) (kx : ∀ e, X e → FD.ex e [some x, some lo, some hi]) :
    qEv cs FD [some x, some lo, some hi] := by
  obtain ⟨lo', hi', e, h⟩ := h
  cases e
  have nz : ∀ {d : D}, d ≠ .non → isN d = false := fun {d} h => by cases d <;> first | rfl | exact absurd rfl h
  have two : ∀ a, optV lo = some a → ((hi ≠ .non ∧ qTa cs hi = some false ∧ X (plX "high")) ∨ ∃ b, optV hi = some b ∧ ((qR8 a b ∧ P (qB0 a b)) ∨ (qYq a b ∧ X (plX "order")))) →
      qC1 (qRh (fB (fOp qJc (qAe 2) (fC .non))) (qGq (fB (qAg (qEu cs) [] (qAc (qAe 2) qAm))))) (qEq "NoPlace" "part" (fC (.str "high"))) qAv FD [some x, some lo, some hi] := fun a ha h => by
    rcases h with ⟨h1, h2, h3⟩ | ⟨b, hb, h⟩
    · simp only [qAy, qC1, fB, qUl, qAe, fC, fOp, fUn, fLs, qCr, qXi, qFc, qAg, qAc, qAm, qAv, qXo, qCy, qCu, qS9, qWq, fAsg, fPar, qGq, qRh, fOr, qMy, fOrV, qUz, fIf, fTru, qF1, qRs, qU9, qFb, qBf, qEq, qFm, fBr, fBor, qQc, qLx, fAug, qNd, qI8, fSl, qF9, qQq, qQz, fItT, fIt, qQo, fBrk, fCnt, qFj, qA0, toB, oI, oI0, qQ7, oAbs, oMax, oMin, qXq, qGl, qGo, qQh, qJp, oCat, oIsB, qW0, oEq, oNe, eqD, qRf, qJc, qM1, qM7, qN1, qM6, qMz, qNg, qTc, qU7, qWn, qH9, qIl, qIg, qMx, qIf, qTp, qW6, qXb, qV3, qVu, qW3, qUu, qNl, qM3, qN5, qNm, qTs, qVb, qMt, qNy, qBu, qEw, InsD, List.map_cons, List.map_nil, List.cons_append, List.nil_append, List.length_cons, List.length_nil, List.getElem?_cons_zero, List.getElem?_cons_succ, List.set_cons_zero, List.set_cons_succ, List.replicate_succ, List.replicate_zero, Option.some.injEq, exists_eq_left', qGi, qFi, if_true, if_false, List.append_nil, true_and, and_true, true_or, or_true, Bool.false_eq_true, Bool.true_eq_false, reduceCtorEq, Nat.add_one_sub_one, Nat.reduceSub, Nat.reduceAdd, Nat.sub_self, Nat.zero_add, Nat.add_sub_cancel, nz h1, Bool.not_false]
      exact ⟨_, _, rfl, h2, by simp_arith [Bool.not_false]; exact kx _ h3⟩
    · rcases qAbk hR hb with ⟨rfl, rfl⟩ | ⟨h1, h2, _⟩
      · simp_arith [Bool.not_true]
        exact k _ _ ha hb h
      · simp only [qAy, qC1, fB, qUl, qAe, fC, fOp, fUn, fLs, qCr, qXi, qFc, qAg, qAc, qAm, qAv, qXo, qCy, qCu, qS9, qWq, fAsg, fPar, qGq, qRh, fOr, qMy, fOrV, qUz, fIf, fTru, qF1, qRs, qU9, qFb, qBf, qEq, qFm, fBr, fBor, qQc, qLx, fAug, qNd, qI8, fSl, qF9, qQq, qQz, fItT, fIt, qQo, fBrk, fCnt, qFj, qA0, toB, oI, oI0, qQ7, oAbs, oMax, oMin, qXq, qGl, qGo, qQh, qJp, oCat, oIsB, qW0, oEq, oNe, eqD, qRf, qJc, qM1, qM7, qN1, qM6, qMz, qNg, qTc, qU7, qWn, qH9, qIl, qIg, qMx, qIf, qTp, qW6, qXb, qV3, qVu, qW3, qUu, qNl, qM3, qN5, qNm, qTs, qVb, qMt, qNy, qBu, qEw, InsD, List.map_cons, List.map_nil, List.cons_append, List.nil_append, List.length_cons, List.length_nil, List.getElem?_cons_zero, List.getElem?_cons_succ, List.set_cons_zero, List.set_cons_succ, List.replicate_succ, List.replicate_zero, Option.some.injEq, exists_eq_left', qGi, qFi, if_true, if_false, List.append_nil, true_and, and_true, true_or, or_true, Bool.false_eq_true, Bool.true_eq_false, reduceCtorEq, Nat.add_one_sub_one, Nat.reduceSub, Nat.reduceAdd, Nat.sub_self, Nat.zero_add, Nat.add_sub_cancel, nz h1, Bool.not_false]
        exact ⟨_, _, rfl, h2, by simp_arith [Bool.not_true]; exact k _ _ ha hb h⟩
  unfold qEv
  rcases h with ⟨h1, h2, h3⟩ | ⟨a, ha, h⟩
  · simp only [qAy, qC1, fB, qUl, qAe, fC, fOp, fUn, fLs, qCr, qXi, qFc, qAg, qAc, qAm, qAv, qXo, qCy, qCu, qS9, qWq, fAsg, fPar, qGq, qRh, fOr, qMy, fOrV, qUz, fIf, fTru, qF1, qRs, qU9, qFb, qBf, qEq, qFm, fBr, fBor, qQc, qLx, fAug, qNd, qI8, fSl, qF9, qQq, qQz, fItT, fIt, qQo, fBrk, fCnt, qFj, qA0, toB, oI, oI0, qQ7, oAbs, oMax, oMin, qXq, qGl, qGo, qQh, qJp, oCat, oIsB, qW0, oEq, oNe, eqD, qRf, qJc, qM1, qM7, qN1, qM6, qMz, qNg, qTc, qU7, qWn, qH9, qIl, qIg, qMx, qIf, qTp, qW6, qXb, qV3, qVu, qW3, qUu, qNl, qM3, qN5, qNm, qTs, qVb, qMt, qNy, qBu, qEw, InsD, List.map_cons, List.map_nil, List.cons_append, List.nil_append, List.length_cons, List.length_nil, List.getElem?_cons_zero, List.getElem?_cons_succ, List.set_cons_zero, List.set_cons_succ, List.replicate_succ, List.replicate_zero, Option.some.injEq, exists_eq_left', qGi, qFi, if_true, if_false, List.append_nil, true_and, and_true, true_or, or_true, Bool.false_eq_true, Bool.true_eq_false, reduceCtorEq, Nat.add_one_sub_one, Nat.reduceSub, Nat.reduceAdd, Nat.sub_self, Nat.zero_add, Nat.add_sub_cancel, nz h1, Bool.not_false]
    exact ⟨_, _, rfl, h2, by simp_arith [Bool.not_false]; exact kx _ h3⟩
  · have t2 := two a ha h
    clear two
    generalize qC1 (qRh (fB (fOp qJc (qAe 2) (fC .non))) (qGq (fB (qAg (qEu cs) [] (qAc (qAe 2) qAm))))) (qEq "NoPlace" "part" (fC (.str "high"))) qAv = B at t2 ⊢
    rcases qAbk hR ha with ⟨rfl, rfl⟩ | ⟨h1, h2, _⟩
    · simp_arith [Bool.not_true]
      exact t2
    · simp only [qAy, qC1, fB, qUl, qAe, fC, fOp, fUn, fLs, qCr, qXi, qFc, qAg, qAc, qAm, qAv, qXo, qCy, qCu, qS9, qWq, fAsg, fPar, qGq, qRh, fOr, qMy, fOrV, qUz, fIf, fTru, qF1, qRs, qU9, qFb, qBf, qEq, qFm, fBr, fBor, qQc, qLx, fAug, qNd, qI8, fSl, qF9, qQq, qQz, fItT, fIt, qQo, fBrk, fCnt, qFj, qA0, toB, oI, oI0, qQ7, oAbs, oMax, oMin, qXq, qGl, qGo, qQh, qJp, oCat, oIsB, qW0, oEq, oNe, eqD, qRf, qJc, qM1, qM7, qN1, qM6, qMz, qNg, qTc, qU7, qWn, qH9, qIl, qIg, qMx, qIf, qTp, qW6, qXb, qV3, qVu, qW3, qUu, qNl, qM3, qN5, qNm, qTs, qVb, qMt, qNy, qBu, qEw, InsD, List.map_cons, List.map_nil, List.cons_append, List.nil_append, List.length_cons, List.length_nil, List.getElem?_cons_zero, List.getElem?_cons_succ, List.set_cons_zero, List.set_cons_succ, List.replicate_succ, List.replicate_zero, Option.some.injEq, exists_eq_left', qGi, qFi, if_true, if_false, List.append_nil, true_and, and_true, true_or, or_true, Bool.false_eq_true, Bool.true_eq_false, reduceCtorEq, Nat.add_one_sub_one, Nat.reduceSub, Nat.reduceAdd, Nat.sub_self, Nat.zero_add, Nat.add_sub_cancel, nz h1, Bool.not_false]
      exact ⟨_, _, rfl, h2, by simp_arith [Bool.not_true]; exact t2⟩
theorem qAnn {cs : List Str} (hR : ("Ratio" : Str) ∈ cs) {d : D} {a : Option Rat} {i : Nat} {w : Str} {ρ : Env} {X : XP} (hd : ρ[i]? = some (some d)) (h : optV d = some a) : fIf (fB (fOp qRf (qAe i) (fC .non))) (fC .non) (qFc (qCv cs) [] (qAc (qAe i) (qAc (fC (.str w)) qAm))) ρ (fun d => d = qKr a) X := by
  have nz : ∀ {d : D}, d ≠ .non → isN d = false := fun {d} h => by cases d <;> first | rfl | exact absurd rfl h
  rcases qAbk hR h with ⟨rfl, rfl⟩ | ⟨h1, h2, q, rfl, h3⟩
  · simp_arith [hd]
    rfl
  · simp only [qAy, qC1, fB, qUl, qAe, fC, fOp, fUn, fLs, qCr, qXi, qFc, qAg, qAc, qAm, qAv, qXo, qCy, qCu, qS9, qWq, fAsg, fPar, qGq, qRh, fOr, qMy, fOrV, qUz, fIf, fTru, qF1, qRs, qU9, qFb, qBf, qEq, qFm, fBr, fBor, qQc, qLx, fAug, qNd, qI8, fSl, qF9, qQq, qQz, fItT, fIt, qQo, fBrk, fCnt, qFj, qA0, toB, oI, oI0, qQ7, oAbs, oMax, oMin, qXq, qGl, qGo, qQh, qJp, oCat, oIsB, qW0, oEq, oNe, eqD, qRf, qJc, qM1, qM7, qN1, qM6, qMz, qNg, qTc, qU7, qWn, qH9, qIl, qIg, qMx, qIf, qTp, qW6, qXb, qV3, qVu, qW3, qUu, qNl, qM3, qN5, qNm, qTs, qVb, qMt, qNy, qBu, qEw, InsD, List.map_cons, List.map_nil, List.cons_append, List.nil_append, List.length_cons, List.length_nil, List.getElem?_cons_zero, List.getElem?_cons_succ, List.set_cons_zero, List.set_cons_succ, List.replicate_succ, List.replicate_zero, Option.some.injEq, exists_eq_left', qGi, qFi, if_true, if_false, List.append_nil, true_and, and_true, true_or, or_true, Bool.false_eq_true, Bool.true_eq_false, reduceCtorEq, Nat.add_one_sub_one, Nat.reduceSub, Nat.reduceAdd, Nat.sub_self, Nat.zero_add, Nat.add_sub_cancel, hd, nz h1]
    refine ⟨d, w, true, rfl, h2, (fun z => nomatch z), fun _ => ?_⟩
    cases d with
    | rat q' => cases h3; rfl
    | int n => cases h3; rfl
    | _ => cases h3
theorem qAn9 {cs : List Str} {a b : Option Rat} {lo hi : Option D} {FD : FEnds} (h : (qR8 a b ∧ FD.nx [some (qB0 a b), lo, hi]) ∨ (qYq a b ∧ FD.ex (plX "order") [some (qB0 a b), lo, hi])) : qEh cs FD [some (qB0 a b), lo, hi] := by
  have f1 : fldD "low" (qB0 a b) = some (qKr a) := rfl
  have f2 : fldD "high" (qB0 a b) = some (qKr b) := by
    have k1 : (("high" : Str) == ("low" : Str)) = false := by decide +kernel
    show List.lookup ("high" : Str) [(("low" : Str), qKr a), (("high" : Str), qKr b)] = _
    simp only [List.lookup, k1, BEq.rfl]
  have c : qN9 (qB0 a b) = some ("Place" : Str) := rfl
  unfold qEh
  rcases h with ⟨rfl | ⟨x, y, rfl, rfl, hs, hl⟩, k⟩ | ⟨⟨y, rfl, rfl | ⟨x, rfl, hs, hl⟩⟩, k⟩
  · simp_arith [f1, f2, c, qKr, Bool.not_true]
    exact k
  · simp_arith [f1, f2, c, qKr, Bool.not_true, Bool.not_false, qJ6, decide_eq_true hl]
    exact ⟨hs, k⟩
  · simp_arith [f1, f2, c, qKr, Bool.not_true, Bool.not_false]
    exact k
  · simp_arith [f1, f2, c, qKr, Bool.not_true, Bool.not_false, qJ6, decide_eq_false hl]
    exact ⟨hs, k⟩
theorem qAeh {K : PySem.W.Frag} {F : Fd} {M M' : Addr → Prop} {H : Hp} {a : Option Rat} {v : V} (h : Rep K F M H (qKr a) v) (m : ∀ p, ¬ M p → ¬ M' p) : Rep K F M' H (qKr a) v := Rep.goes (fun p o h _ n => ⟨h, m p n⟩) _ _ h
theorem qWl {K : PySem.W.Frag} {cs : List Str} (T : KF K cs) (hRatio : ("Ratio" : Str) ∈ cs) (hPlace : ("Place" : Str) ∈ cs) (vs : List V) (H : Hp) (Q : VK) (E : XK) (h : qG6 K "Place" (qC0 cs) vs H Q E) : qNb K cs E { nx := fun _ H' => Q .non H', rt := Q } (start ["self", "low", "high"] vs) H := by
  obtain ⟨F, M, H1, ds, us, P, X, x, dx, rfl, rfl, n1, n2, ne, lv, r, hf, q, px⟩ := h
  obtain ⟨lo, hi, rfl, _⟩ := id hf
  have e0 := qAd1 (C := He.ga K "Place") (n := 2) (names := ["self", "low", "high"]) lv r n1 n2 ne rfl
  have sm0 : Gr K F H1 (upd (upd H1 dx (.own x)) x (.ins (He.ga K "Place") dx [])) := .same fun b o h => by
    rw [upd_ne (ne_of_none h n1), upd_ne (ne_of_none h n2)]
    exact h
  generalize hH : upd (upd H1 dx (.own x)) x (.ins (He.ga K "Place") dx []) = H0 at e0 sm0
  have hx0 : H0 x = some (.ins (He.ga K "Place") dx []) := by rw [← hH]; exact upd_same
  let FD : FEnds := ⟨fun ρ => ∃ a b, ρ = [some (.adr x), some lo, some hi] ∧ optV lo = some a ∧ optV hi = some b ∧ ((qR8 a b ∧ P (qB0 a b)) ∨ (qYq a b ∧ X (plX "order"))), fun _ => False, fun _ => False, fun _ => False, fun e _ => X e, fun _ => False⟩
  have hpre : qEv cs FD [some (.adr x), some lo, some hi] := qAr3 hRatio hf (fun a b ha hb h => ⟨a, b, rfl, ha, hb, h⟩) (fun _ p => p)
  refine qQj T hRatio hPlace E _ H0 _ _ _ FD e0 hpre ⟨?_, fun _ _ _ z => z.elim, fun _ _ _ z => z.elim, fun _ _ _ z => z.elim, fun x' ρ σ H' cls dd hx' e rx => px x' cls dd H' hx' (sm0.trans e.gr) rx, fun _ _ _ z => z.elim⟩
  rintro ρ σ H2 ⟨a, b, rfl, ha, hb, hp⟩ e2
  have cl := (T.own _ hPlace).cl
  have fo : ∀ f, f ∈ qQ2 "Place" → NoAttr K (He.ga K "Place") f := fun f hf => (T.fld _ hPlace f hf).na
  have hσ : σ[0]? = some (some (.ref x)) := by
    have := e2.imm 0 (by simp)
    cases hv : σ[0]? with
    | none => rw [hv] at this; exact this.elim
    | some o =>
      rw [hv] at this
      cases o with
      | none => exact this.elim
      | some v => rw [show v = .ref x from this]
  have nfx : F.no x := (lv.ok n1).1
  have hx2 : H2 x = some (.ins (He.ga K "Place") dx []) := e2.gr.old _ _ hx0 nfx
  have g02 : Gr K F H1 H2 := sm0.trans e2.gr
  have pX : ∀ {Ha : Hp}, Gr K F H1 Ha → PostX K F Ha X E := fun g => px.gr g
  refine qN3 (w := ⟨F, fun p => M p ∨ p = x, H0⟩) (C := He.ga K "Place") (dx := dx) (gs := []) (P := fun d => d = qKr a) (X := X) (qQw T hRatio hPlace E) e2 (.inr rfl) hx2 hσ cl (fo _ (by decide)) (by decide) (qAnn hRatio rfl ha) (pX g02) ?_
  intro dc vc H3 w3 hdc g3 ef3 em3 rc keep3 e3
  subst hdc
  have x3 : Gr K F H1 (upd H3 x (.ins (He.ga K "Place") dx (putF "low" vc []))) := (g02.trans g3).updx n1 nfx (g3.old _ _ hx2 nfx) trivial
  refine qN3 (w := w3) (C := He.ga K "Place") (dx := dx) (P := fun d => d = qKr b) (X := X) (qPk T hRatio hPlace E) e3 (by rw [em3]; exact .inr rfl) upd_same hσ cl (fo _ (by decide)) (by show 1 < 1000; decide) (qAnn hRatio rfl hb) (by rw [ef3]; exact pX x3) ?_
  intro dd vd H4 w4 hdd g4 ef4 em4 rd keep4 e4
  subst hdd
  rw [ef3, em3] at keep4 rd
  rw [ef3] at g4
  have x4 : Gr K F H1 (upd H4 x (.ins (He.ga K "Place") dx (putF "high" vd (putF "low" vc [])))) := (x3.trans g4).updx n1 nfx (g4.old _ _ upd_same nfx) trivial
  have rc4 := keep4 _ _ rc
  have eF : putF "high" vd (putF "low" vc []) = [(("low" : Str), vc), (("high" : Str), vd)] := by
    have k1 : ¬ (("low" : Str) = "high") := by decide +kernel
    show putF "high" _ [("low", _)] = _
    rw [qUt k1]
    rfl
  rw [eF] at x4 rc4 rd e4 ⊢
  have rp : Rep K F M (upd H4 x (.ins (He.ga K "Place") dx [(("low" : Str), vc), (("high" : Str), vd)])) (qB0 a b) (.ref x) := by
    refine ⟨x, dx, _, rfl, lv.ok n1, upd_same, rfl, ?_⟩
    exact ⟨_, _, rfl, qAeh rc4 fun p n z => n (.inl z), _, _, rfl, qAeh rd fun p n z => n (.inl z), rfl⟩
  have ew : w4.F = F := by rw [ef4, ef3]
  have e5 := qAjj (M := M) (x := x) (d := qB0 a b) e4 (fun p => by rw [em4, em3]) (by rw [ew]; exact lv.gr x4) hσ (by rw [ew]; exact rp)
  rw [ew] at e5
  let FD2 : FEnds := ⟨fun ρ => P (qB0 a b), fun _ => False, fun _ => False, fun _ => False, fun e _ => X e, fun _ => False⟩
  have hpost : qEh cs FD2 [some (qB0 a b), some lo, some hi] := qAn9 hp
  refine qOe T hRatio hPlace E _ _ _ _ _ FD2 e5 hpost ⟨?_, fun _ _ _ z => z.elim, fun _ _ _ z => z.elim, fun _ _ _ z => z.elim, fun x' ρ σ H' cls dd hx' e rx => px x' cls dd H' hx' (x4.trans e.gr) rx, fun _ _ _ z => z.elim⟩
  intro ρ σ' H6 h6 e6
  exact q (qB0 a b) _ h6 (x4.trans e6.gr) (Rep.goes e6.gr.goes _ _ rp)
theorem qRy {cs : List Str} (ds : List D) (P : D → Prop) (X : XP) (h : qC0 cs ds P X) : ds.length = 2 := by
  obtain ⟨_, _, rfl, _⟩ := h
  rfl
theorem qRw (a b : Option Rat) : fldD "low" (qB0 a b) = some (qKr a) := rfl
theorem qRi (a b : Option Rat) : fldD "high" (qB0 a b) = some (qKr b) := by
  have k1 : (("high" : Str) == ("low" : Str)) = false := by decide +kernel
  show List.lookup ("high" : Str) [(("low" : Str), qKr a), (("high" : Str), qKr b)] = _
  simp only [List.lookup, k1, BEq.rfl]
theorem qJm (a b : Option Rat) : qN9 (qB0 a b) = some ("Place" : Str) := rfl
theorem qAie {cs : List Str} (hR : ("Ratio" : Str) ∈ cs) {d : D} {s : Rat} {w : Str} {P : D → Prop} {X : XP} (h : numV d = some s) (p : P (.rat s)) : qCv cs [d, .str w] P X := by
  refine ⟨d, w, true, rfl, qDs hR h, (fun z => nomatch z), fun _ => ?_⟩
  cases d with
  | rat q => cases h; exact p
  | int n => cases h; exact p
  | _ => cases h
theorem qAhr {cs : List Str} {d : D} {w : Str} {P : D → Prop} {X : XP} (h : qTa cs d = some false) (p : X ⟨"NoNumber", [("word", .str w)]⟩) : qCv cs [d, .str w] P X := ⟨d, w, false, rfl, h, fun _ => p, (fun z => nomatch z)⟩
theorem qSh {cs : List Str} {a b : Option Rat} {P : D → Prop} {X : XP} (h : qR8 a b) (p : P (qB0 a b)) : qC0 cs [qKr a, qKr b] P X := by
  have e : ∀ o : Option Rat, optV (qKr o) = some o := fun o => by cases o <;> rfl
  exact ⟨_, _, rfl, .inr ⟨a, e a, .inr ⟨b, e b, .inl ⟨h, p⟩⟩⟩⟩
theorem qAh2 {a b : Option Rat} {f : Rat → Rat} {n : Nat} (h : qR8 a b) (za : SzO n (numO a f)) (zb : SzO n (numO b f)) (hn : n ≤ 4000) (hf : ∀ x y, x < y → f x < f y) : qR8 (numO a f) (numO b f) := by
  rcases h with rfl | ⟨x, y, rfl, rfl, _, hl⟩
  · exact .inl rfl
  · exact .inr ⟨f x, f y, rfl, rfl, ⟨n, n, za, zb, by omega⟩, hf x y hl⟩
theorem qXj {a : Option Rat} {f : Rat → Rat} {n m : Nat} (h : SzO n a) (hf : ∀ x, Sz n x → Sz m (f x)) : SzO m (numO a f) := by
  cases a with
  | none => trivial
  | some x => exact hf x h
theorem qWb {cs : List Str} (hR : ("Ratio" : Str) ∈ cs) (hP : ("Place" : Str) ∈ cs) (ds : List D) (P : D → Prop) (X : XP) (h : qEd cs ds P X) : qId cs (qFj P X) (qA0 5 ds) := by
  obtain ⟨a, b, d, ok, rfl, hd, h1, h2⟩ := h
  simp_arith [qId]
  cases ok with
  | false => exact qAhr hd (h1 rfl)
  | true =>
    obtain ⟨s, n, m, hs, za, zb, zs, hn, ho, p⟩ := h2 rfl
    refine qAie hR hs ?_
    have zf : ∀ x, Sz n x → Sz (n + m + 1) (x + s) := fun x z => z.add zs
    have ho' := qAh2 (f := fun x => x + s) ho (qXj za zf) (qXj zb zf) (by omega) (fun x y h => by grind)
    have fin := qSh (cs := cs) (X := X) ho' p
    have ok2 : ∀ x, Sz n x → qMf x s := fun x z => ⟨n, m, z, zs, by omega⟩
    cases a with
    | none =>
      cases b with
      | none =>
        simp_arith [qRw, qRi, qJm, qKr, qDo]
        exact fin
      | some y =>
        simp_arith [qRw, qRi, qJm, qKr, qDo]
        exact ⟨ok2 y zb, fin⟩
    | some x =>
      cases b with
      | none =>
        simp_arith [qRw, qRi, qJm, qKr, qDo]
        exact ⟨ok2 x za, fin⟩
      | some y =>
        simp_arith [qRw, qRi, qJm, qKr, qDo]
        exact ⟨ok2 x za, ok2 y zb, fin⟩
theorem qOt {cs : List Str} (hR : ("Ratio" : Str) ∈ cs) (hP : ("Place" : Str) ∈ cs) (ds : List D) (P : D → Prop) (X : XP) (h : qHz cs ds P X) : qFn cs (qFj P X) (qA0 5 ds) := by
  obtain ⟨a, b, d, ok, rfl, hd, h1, h2⟩ := h
  simp_arith [qFn]
  cases ok with
  | false => exact qAhr hd (h1 rfl)
  | true =>
    obtain ⟨s, n, m, hs, za, zb, zs, hn, ho, p⟩ := h2 rfl
    refine qAie hR hs ?_
    have s0 : qMf s ((0 : Int) : Rat) := ⟨m, 1, zs, by rw [Rat.intCast_zero]; exact qOp, by omega⟩
    rcases p with ⟨sp, p⟩ | ⟨sp, p⟩
    · have zf : ∀ x, Sz n x → Sz (n + m) (x * s) := fun x z => z.mul zs
      have ho' := qAh2 (f := fun x => x * s) ho (qXj za zf) (qXj zb zf) (by omega) (fun x y h => Rat.mul_lt_mul_of_pos_right h sp)
      have fin := qSh (cs := cs) (X := X) ho' p
      have ok2 : ∀ x, Sz n x → qMf x s := fun x z => ⟨n, m, z, zs, by omega⟩
      have d1 : decide (((0 : Int) : Rat) < s) = true := by rw [Rat.intCast_zero]; exact decide_eq_true sp
      simp_arith [qO1, d1, Bool.not_true]
      refine ⟨s0, ?_⟩
      cases a with
      | none =>
        cases b with
        | none =>
          simp_arith [qRw, qRi, qJm, qKr, qDo]
          exact fin
        | some y =>
          simp_arith [qRw, qRi, qJm, qKr, qDo]
          exact ⟨ok2 y zb, fin⟩
      | some x =>
        cases b with
        | none =>
          simp_arith [qRw, qRi, qJm, qKr, qDo]
          exact ⟨ok2 x za, fin⟩
        | some y =>
          simp_arith [qRw, qRi, qJm, qKr, qDo]
          exact ⟨ok2 x za, ok2 y zb, fin⟩
    · have d1 : decide (((0 : Int) : Rat) < s) = false := by rw [Rat.intCast_zero]; exact decide_eq_false sp
      simp_arith [qO1, d1, Bool.not_false]
      exact ⟨s0, p⟩
theorem qR3 {K : PySem.W.Frag} {cs : List Str} (vs : List V) (H : Hp) (Q : VK) (E : XK) (h : (lift K (qEd cs)) vs H Q E) : vs.length = 2 := qAr (fun ds P X h => by unfold qEd at h; first | ((repeat (first | (obtain ⟨rfl, _⟩ := h; exact rfl) | obtain ⟨_, h⟩ := h)); done) | (split at h <;> first | rfl | exact h.elim)) h
theorem qTx {K : PySem.W.Frag} {cs : List Str} (T : KF K cs) (hRatio : ("Ratio" : Str) ∈ cs) (hPlace : ("Place" : Str) ∈ cs) (vs : List V) (H : Hp) (Q : VK) (E : XK) (h : (lift K (qEd cs)) vs H Q E) : qFw K cs E { nx := fun _ H' => Q .non H', rt := Q } (start ["self", "by", "step", "low", "high"] vs) H :=
  qU4 (t := fun E => qFw K cs E) rfl (qVr T hRatio hPlace) (qWb hRatio hPlace) vs H Q E h
theorem qLg {K : PySem.W.Frag} {cs : List Str} (vs : List V) (H : Hp) (Q : VK) (E : XK) (h : (lift K (qHz cs)) vs H Q E) : vs.length = 2 := qAr (fun ds P X h => by unfold qHz at h; first | ((repeat (first | (obtain ⟨rfl, _⟩ := h; exact rfl) | obtain ⟨_, h⟩ := h)); done) | (split at h <;> first | rfl | exact h.elim)) h
theorem qMg {K : PySem.W.Frag} {cs : List Str} (T : KF K cs) (hRatio : ("Ratio" : Str) ∈ cs) (hPlace : ("Place" : Str) ∈ cs) (vs : List V) (H : Hp) (Q : VK) (E : XK) (h : (lift K (qHz cs)) vs H Q E) : qDz K cs E { nx := fun _ H' => Q .non H', rt := Q } (start ["self", "by", "times", "low", "high"] vs) H :=
  qU4 (t := fun E => qDz K cs E) rfl (qOy T hRatio hPlace) (qOt hRatio hPlace) vs H Q E h
end MR

set_option Elab.async false
set_option linter.all false
set_option maxRecDepth 100000
set_option maxHeartbeats 4000000
set_option exponentiation.threshold 20000
namespace MR
open PySem PySem.Spec PyProof.Rows L2
/-- the factors of a place -/
def qKm : Option Rat → Option Rat → List (List Rat)
  | none, _ => [[1]]
  | some x, none => [[1], [-x, 1]]
  | some x, some y => [[1], [-x, 1], [y, -1], [-(x * y), x + y, -1]]
def Pl16 (a b : Option Rat) : Prop := (a = none → b = none) ∧ SzO 400 a ∧ SzO 400 b
def qVz (cs : List Str) : FSp := fun ds P _ => ∃ a b, ds = [qB0 a b] ∧ Pl16 a b ∧ P (.lst ((qKm a b).map D.poly))

theorem qAnh {c d : Rat} (h : d ≠ 0) : strip [c, d] = [c, d] := qKk (n := 1) rfl h
theorem qAq2 {b c d : Rat} (h : d ≠ 0) : strip [b, c, d] = [b, c, d] := qKk (n := 2) rfl h
theorem qAg0 : strip [(1 : Rat)] = [1] := qKk (n := 0) rfl (by decide)
def qEm (K : PySem.W.Frag) (cs : List Str) : TS :=
  (tSeq (tAsg (tLst (tCons (tMake (He.ga K "Poly") (qG6 K "Poly" (qB1 cs)) [] E0 (tCons (tLst (tCons (tC (.int 1)) tNil)) tNil)) tNil)) (gName 1))
  (tSeq (tIfS (tTest (tOp qK4 (tFld K (tVar 0) "low") (tC .non))) (tDrop (tBM K "list" rAppend (tVar 1) (tCons (tMake (He.ga K "Poly") (qG6 K "Poly" (qB1 cs)) [] E0 (tCons (tLst (tCons (tUn (qAjc (He.ga K "Ratio") (lift K (fR1 fun a => -a)) E0) (tFld K (tVar 0) "low")) (tCons (tC (.int 1)) tNil))) tNil)) tNil))) tNext)
  (tSeq (tIfS (tTest (tOp qK4 (tFld K (tVar 0) "high") (tC .non))) (tSeq (tDrop (tBM K "list" rAppend (tVar 1) (tCons (tMake (He.ga K "Poly") (qG6 K "Poly" (qB1 cs)) [] E0 (tCons (tLst (tCons (tFld K (tVar 0) "high") (tCons (tUn qO2 (tC (.int 1))) tNil))) tNil)) tNil)))
  (tDrop (tBM K "list" rAppend (tVar 1) (tCons (tMake (He.ga K "Poly") (qG6 K "Poly" (qB1 cs)) [] E0 (tCons (tLst (tCons (tUn (qAjc (He.ga K "Ratio") (lift K (fR1 fun a => -a)) E0) (tOp (qIo (He.ga K "Ratio") (lift K (fR2 fun a b => a * b)) E0) (tFld K (tVar 0) "low") (tFld K (tVar 0) "high"))) (tCons (tOp (qIo (He.ga K "Ratio") (lift K (fR2 fun a b => a + b)) E0) (tFld K (tVar 0) "low") (tFld K (tVar 0) "high")) (tCons (tMake (He.ga K "Ratio") (qA8 K) [.int 1] E0 (tCons (tUn qO2 (tC (.int 1))) tNil)) tNil)))) tNil)) tNil)))) tNext)
  (tRet (tVar 1)))))
def qE1 (cs : List Str) : FS :=
  (qAy (qS9 1 (qF1 (qAc (qAg (qB1 cs) [] (qAc (qF1 (qAc (fC (.int 1)) qAm)) qAm)) qAm)))
  (qAy (qC1 (fB (fOp qJc (qCy "Place" "low" (qAe 0)) (fC .non))) (qQc 1 (qAg (qB1 cs) [] (qAc (qF1 (qAc (fUn (qAbs "Ratio" (fR1 fun a => -a)) (qCy "Place" "low" (qAe 0))) (qAc (fC (.int 1)) qAm))) qAm))) qAv)
  (qAy (qC1 (fB (fOp qJc (qCy "Place" "high" (qAe 0)) (fC .non))) (qAy (qQc 1 (qAg (qB1 cs) [] (qAc (qF1 (qAc (qCy "Place" "high" (qAe 0)) (qAc (fUn qQ7 (fC (.int 1))) qAm))) qAm)))
  (qQc 1 (qAg (qB1 cs) [] (qAc (qF1 (qAc (fUn (qAbs "Ratio" (fR1 fun a => -a)) (fOp (qBk "Ratio" (fR2 fun a b => a * b)) (qCy "Place" "low" (qAe 0)) (qCy "Place" "high" (qAe 0)))) (qAc (fOp (qBk "Ratio" (fR2 fun a b => a + b)) (qCy "Place" "low" (qAe 0)) (qCy "Place" "high" (qAe 0))) (qAc (qAg qHv [.int 1] (qAc (fUn qQ7 (fC (.int 1))) qAm)) qAm)))) qAm)))) qAv)
  (qAab 1))))
theorem qMd {K : PySem.W.Frag} {cs : List Str} (T : KF K cs) (hRatio : ("Ratio" : Str) ∈ cs) (hPlace : ("Place" : Str) ∈ cs) (hPoly : ("Poly" : Str) ∈ cs) : SS K Ta [] [] [] [] (fun _ => E0) (qEm K cs) (qE1 cs) :=
  (qAl (ow1 := [1]) (qJn (by decide) (by decide) (qQe (qAa (qA2 qEi qAf (qAa (qD2 (qAa qAj qAd)) qAd)) qAd)))
  (qAl (ow1 := [1]) (qBl (by decide) (qAp (qAi (fun _ => qOv) (qAo (T.fld _ hPlace _ (by decide)) (qAb (by decide))) qCl)) (qK1 (by decide) (by decide) (qA2 qEi qAf (qAa (qD2 (qAa (qOg (fun _ => (qAco Lift.refl)) (qAo (T.fld _ hPlace _ (by decide)) (qAb (by decide)))) (qAa qAj qAd))) qAd))) (qAn (by decide)))
  (qAl (ow1 := [1]) (qBl (by decide) (qAp (qAi (fun _ => qOv) (qAo (T.fld _ hPlace _ (by decide)) (qAb (by decide))) qCl)) (qAl (ow1 := [1]) (qK1 (by decide) (by decide) (qA2 qEi qAf (qAa (qD2 (qAa (qAo (T.fld _ hPlace _ (by decide)) (qAb (by decide))) (qAa (qOg (fun _ => qK0) qAj) qAd))) qAd)))
  (qK1 (by decide) (by decide) (qA2 qEi qAf (qAa (qD2 (qAa (qOg (fun _ => (qAco Lift.refl)) (qAi (fun _ => (qBe Lift.refl)) (qAo (T.fld _ hPlace _ (by decide)) (qAb (by decide))) (qAo (T.fld _ hPlace _ (by decide)) (qAb (by decide))))) (qAa (qAi (fun _ => (qBe Lift.refl)) (qAo (T.fld _ hPlace _ (by decide)) (qAb (by decide))) (qAo (T.fld _ hPlace _ (by decide)) (qAb (by decide)))) (qAa (qA2 qFk (qD8 qAf) (qAa (qOg (fun _ => qK0) qAj) qAd)) qAd)))) qAd)))) (qAn (by decide)))
  (qAj6 (by decide)))))
theorem lc_list {α : Type} {g : FG} {fe : FE} {ρ0 : Env} {P : D → Prop} (mk f : α → D) : ∀ (xs : List α) (acc : List D), (∀ x, x ∈ xs → ∀ Q : D → Prop, Q (f x) → g (mk x) ρ0 fun ρ2 => fe ρ2 Q X0) → acc.length + xs.length < sizeLine → P (.lst (acc ++ xs.map f)) → lcGo g qI8 fe ρ0 P (xs.map mk) acc
  | [], acc, _, _, p => by
    rw [List.map_nil, List.append_nil] at p
    exact p
  | x :: xs, acc, h, hl, p => by
    rw [List.map_cons]
    unfold lcGo
    have h1 := h x List.mem_cons_self
    show g (mk x) ρ0 fun ρ2 => qI8 ρ2 (fun b => if b = true then fe ρ2 (fun y => acc.length < sizeLine ∧ lcGo g qI8 fe ρ0 P (xs.map mk) (acc ++ [y])) X0 else lcGo g qI8 fe ρ0 P (xs.map mk) acc) X0
    have := h1 (fun y => acc.length < sizeLine ∧ lcGo g qI8 fe ρ0 P (xs.map mk) (acc ++ [y])) ⟨by simp at hl; omega, lc_list mk f xs (acc ++ [f x]) (fun y hy => h y (List.mem_cons_of_mem _ hy)) (by simp at hl ⊢; omega) (by simpa using p)⟩
    exact this
theorem qLs {cs : List Str} (hR : ("Ratio" : Str) ∈ cs) (hPl : ("Place" : Str) ∈ cs) (hP : ("Poly" : Str) ∈ cs) (ds : List D) (P : D → Prop) (X : XP) (h : qVz cs ds P X) : qE1 cs (topN P X0) (qA0 2 ds) := by
  obtain ⟨a, b, rfl, ⟨hab, za, zb⟩, p⟩ := h
  have m1 : ∀ {P : D → Prop} {X : XP}, P (.poly [1]) → qB1 cs [.lst [.int 1]] P X := fun {P X} p => qJo (es := [((1 : Int) : Rat)]) rfl (by simp) rfl (by rw [Rat.intCast_one, qAg0]; exact p)
  have m2 : ∀ {x : Rat} {n : Int} {P : D → Prop} {X : XP}, n ≠ 0 → P (.poly [x, (n : Rat)]) → qB1 cs [.lst [.rat x, .int n]] P X := fun {x n P X} hn p => qJo (es := [x, (n : Rat)]) rfl (by simp) rfl (by rw [qAnh (fun z => hn (by exact_mod_cast z))]; exact p)
  have m1i : ((1 : Int) : Rat) = 1 := Rat.intCast_one
  have n1i : ((-1 : Int) : Rat) = -1 := by rw [Rat.intCast_neg, Rat.intCast_one]
  unfold qE1
  cases a with
  | none =>
    obtain rfl := hab rfl
    simp_arith [topN, qAab, qRw, qRi, qJm, qKr, Bool.not_true]
    refine ⟨by decide, by decide, m1 ?_⟩
    exact ⟨by decide, p⟩
  | some x =>
    cases b with
    | none =>
      simp_arith [topN, qAab, qRw, qRi, qJm, qKr, Bool.not_true, Bool.not_false, qAcf]
      refine ⟨by decide, by decide, m1 ?_⟩
      refine ⟨by decide, ⟨400, za, by decide⟩, by decide, m2 (by decide) ?_⟩
      rw [m1i]
      exact ⟨by decide, p⟩
    | some y =>
      simp_arith [topN, qAab, qRw, qRi, qJm, qKr, Bool.not_true, Bool.not_false, qAcf, qDo, qPp]
      refine ⟨by decide, by decide, m1 ?_⟩
      refine ⟨by decide, ⟨400, za, by decide⟩, by decide, m2 (by decide) ?_⟩
      rw [m1i]
      refine ⟨by decide, by decide, m2 (by decide) ?_⟩
      rw [n1i]
      refine ⟨by decide, ⟨400, 400, za, zb, by decide⟩, ⟨800, Sz.mul za zb, by decide⟩, ⟨400, 400, za, zb, by decide⟩, by decide, by decide, by decide, ?_⟩
      refine qJo (es := [-(x * y), x + y, Rat.divInt (-1) 1]) rfl (by simp) rfl ?_
      have e : Rat.divInt (-1) 1 = -1 := by decide
      rw [e, qAq2 (by decide)]
      exact ⟨by decide, p⟩

theorem qApe {cs : List Str} {a c : List Rat} {P : D → Prop} {X : XP} (h : MulSz a c) (la : a.length ≤ 1000) (lc : c.length ≤ 1000) (p : P (.poly (strip (qF5 a c)))) : qIq cs [.poly a, .poly c] P X := ⟨a, _, c, rfl, rfl, by omega, lc, h, p⟩
theorem qApj {m : Str} (a b : Option Rat) (h : m ∉ (["low", "high"] : List Str)) : InsD "Place" m (qB0 a b) := ⟨rfl, h⟩
theorem qAch {cs : List Str} {d : D} {ms : List Rat} {P : D → Prop} {X : XP} (hd : itD d = some (qBj ms)) (m0 : 0 < ms.length) (m1 : ms.length ≤ 13) (p : P (.lst (qBj ms))) : qC3 cs [d, .int 13] P X :=
  ⟨d, 13, rfl, .inl ⟨qBj ms, ms, hd, fun e => by rw [← qBq ms, e] at m0; exact absurd m0 (by simp), by rw [qBq]; omega, by rw [qBq]; omega, qNh ms, p⟩⟩
theorem qJg {K : PySem.W.Frag} {cs : List Str} (vs : List V) (H : Hp) (Q : VK) (E : XK) (h : (qNa K (qVz cs)) vs H Q E) : vs.length = 1 := qAad (fun ds P X h => by unfold qVz at h; first | ((repeat (first | (obtain ⟨rfl, _⟩ := h; exact rfl) | obtain ⟨_, h⟩ := h)); done) | (split at h <;> first | rfl | exact h.elim)) h
theorem qKw {K : PySem.W.Frag} {cs : List Str} (T : KF K cs) (hRatio : ("Ratio" : Str) ∈ cs) (hPlace : ("Place" : Str) ∈ cs) (hPoly : ("Poly" : Str) ∈ cs) (vs : List V) (H : Hp) (Q : VK) (E : XK) (h : (qNa K (qVz cs)) vs H Q E) : qEm K cs { nx := fun _ H' => Q .non H', rt := Q } (start ["self", "found"] vs) H :=
  qAib rfl (qMd T hRatio hPlace hPoly) (qLs hRatio hPlace hPoly) vs H Q E h
end MR

set_option Elab.async false
set_option linter.all false
set_option maxRecDepth 100000
set_option maxHeartbeats 1000000
set_option exponentiation.threshold 20000
/-! NStep3: the list of steps, what it decides; leading parts of a row -/
namespace MR
open PySem PySem.Spec PyProof.Rows L2
abbrev Step := Nat × List Rat × List Rat × Rat
/-- how many steps of the factor have a number below k -/
def qBz (u : List Rat) (k : Nat) : Nat := (k + 2 - u.length) / 2
abbrev OnN (u : List Rat) (k : Nat) : Prop := u.length ≤ k + 1 ∧ (k + 1 - u.length) % 2 = 0
def qY8 (ms u : List Rat) (k : Nat) : Step := (k, u, (chN (shL u ms) (qBz u k)).1)
def qI7 (ms : List Rat) : List (List Rat) → Nat → List Step
  | [], _ => []
  | u :: us, k => if OnN u k then qY8 ms u k :: qI7 ms us k else qI7 ms us k
def qQn (s : Step) : Bool := decide (0 < s.2.2.2)
def goN (ms : List Rat) (fs : List (List Rat)) : Nat → Nat → List Step
  | 0, _ => []
  | n + 1, k => qI7 ms fs k ++ (if (qI7 ms fs k).all qQn then goN ms fs n (k + 1) else [])
def qH1 (l : List Step) : Option Step := l.find? fun s => !qQn s
def powX (j : Nat) : List Rat := List.replicate j 0 ++ [1]
def qAcr (s : Step) : List Rat := strip (monM (strip (qF5 s.2.1 s.2.2.1)))
/-! ### the sizes -/
def tbN (m K : Nat) : Nat := (m + 5) * K + 1
theorem qQ4 {m j k : Nat} (h : j ≤ k) : tbN m j ≤ tbN m k := by
  have := Nat.mul_le_mul_left (m + 5) h
  unfold tbN
  omega
theorem qAfj (ms : List Rat) (k : Nat) : (chN ms k).1.2 = qIm (sqN (chN ms k).1.1) ms := by
  have l := (qFr ms k).1
  have e1 := qJa ms k (N := k + 1) (Nat.le_refl _)
  have e2 := qRc (chN ms k).1.1 (chN ms k).1.1 ms (N := k + 1) l l
  unfold hS pS at e1
  unfold sqN
  rw [e1, e2]
theorem qQ9 {m : Nat} {M : Int} {ms : List Rat} {k T : Nat} (hm : Cd m M ms) (hk : k ≤ 7) (hT : tbN m k ≤ T) (h : ∀ j, j < k → 0 < (chN ms j).1.2) : ∃ D, Lv2 m M T D (chN ms k).1.1 (chN ms k).1.2 := by
  obtain ⟨D, hD⟩ := qAfl hm hk fun j hj => Rat.ne_of_gt (h j hj)
  have hD : Cd T D (chN ms k).1.1 := hD.mono hT
  have l := (qFr ms k).1
  have cs : Cd (2 * T + 4) (D * D) (sqN (chN ms k).1.1) := ((hD.mul hD (by omega)).strip).mono (by omega)
  refine ⟨D, hD, ?_⟩
  rw [qAfj]
  have ls := qAhi (chN ms k).1.1
  exact (cs.dot hm (by omega)).mono (qE4 (by omega))
structure StOk (K : Nat) (ms : List Rat) (fs : List (List Rat)) (a c : Nat) : Prop where
  k6 : K ≤ 7
  len : ms.length ≤ 2 * K + 2
  cm : ∃ M, Cd c M ms
  cu : ∀ u, u ∈ fs → 0 < u.length ∧ u.length ≤ 3 ∧ ∃ d, Cd a d u
  bt : 24 * tbN (a + c + 4) K + 10 * (a + c + 4) + 200 ≤ 900000
theorem StOk.row {K : Nat} {ms : List Rat} {fs : List (List Rat)} {a c : Nat} (h : StOk K ms fs a c) {u : List Rat} (hu : u ∈ fs) : ∃ M, Cd (a + c + 4) M (shL u ms) := by
  obtain ⟨M, hM⟩ := h.cm
  obtain ⟨_, hl, d, hd⟩ := h.cu u hu
  exact ⟨_, hd.sh hM (by omega)⟩
theorem StOk.step {K : Nat} {ms : List Rat} {fs : List (List Rat)} {a c : Nat} (h : StOk K ms fs a c) {u : List Rat} (hu : u ∈ fs) {k : Nat} (hk : k + 1 ≤ K) (hw : ∀ j, j ≤ k → 0 < (chN (shL u ms) j).1.2) : StepSz (shL u ms) (chN (shL u ms) k).1.1 (chN (shL u ms) k).1.2 (chN (shL u ms) k).2 := by
  obtain ⟨M, hM⟩ := h.row hu
  have h6 := h.k6
  have hb := h.bt
  have t1 := qQ4 (m := a + c + 4) (show k ≤ K by omega)
  obtain ⟨D, h1⟩ := qQ9 hM (show k ≤ 7 by omega) t1 fun j hj => hw j (by omega)
  obtain ⟨l1, l2⟩ := qFr (shL u ms) k
  have hb' : ∀ q, (chN (shL u ms) k).2 = some q → q.1.length ≤ 8 ∧ 0 < q.2 ∧ ∃ D', Lv2 (a + c + 4) M (tbN (a + c + 4) K) D' q.1 q.2 := fun q hq => by
    refine ⟨Nat.le_trans (l2 q hq) (by omega), ?_⟩
    cases k with
    | zero => cases hq
    | succ j =>
      cases hq
      exact ⟨hw j (by omega), qQ9 hM (show j ≤ 7 by omega) (qQ4 (by omega)) fun i hi => hw i (by omega)⟩
  exact (qAn0 hM h1 (hw k (by omega)) (by omega) hb' (Nat.le_refl _) (by omega)).1
theorem StOk.lv {K : Nat} {ms : List Rat} {fs : List (List Rat)} {a c : Nat} (h : StOk K ms fs a c) {u : List Rat} (hu : u ∈ fs) {k : Nat} (hk : k ≤ K) (hw : ∀ j, j < k → 0 < (chN (shL u ms) j).1.2) : ∃ D, Cd (tbN (a + c + 4) K) D (chN (shL u ms) k).1.1 := by
  obtain ⟨M, hM⟩ := h.row hu
  have h6 := h.k6
  obtain ⟨D, hD⟩ := qQ9 hM (show k ≤ 7 by omega) (qQ4 hk) hw
  exact ⟨D, hD.cd⟩
theorem StOk.worth {K : Nat} {ms : List Rat} {fs : List (List Rat)} {a c : Nat} (h : StOk K ms fs a c) {u : List Rat} (hu : u ∈ fs) {k : Nat} (hk : k ≤ K) (hw : ∀ j, j < k → 0 < (chN (shL u ms) j).1.2) : Sz (2 * tbN (a + c + 4) K + (a + c + 4) + 9) (chN (shL u ms) k).1.2 := by
  obtain ⟨M, hM⟩ := h.row hu
  have h6 := h.k6
  obtain ⟨D, hD⟩ := qQ9 hM (show k ≤ 7 by omega) (qQ4 hk) hw
  exact qTr (n := 2 * tbN (a + c + 4) K + (a + c + 4) + 8) hD.ov (Int.mul_pos (Int.mul_pos hD.cd.pos hD.cd.pos) hM.pos) (Nat.le_trans (qCz (qCz hD.cd.le hD.cd.le) hM.le) (qE4 (by omega)))
theorem qApo (u ms : List Rat) : (shL u ms).length = ms.length - (u.length - 1) := by simp [shL]
theorem qAdt (ms : List Rat) (k : Nat) : ∀ us vs, qI7 ms (us ++ vs) k = qI7 ms us k ++ qI7 ms vs k
  | [], vs => rfl
  | u :: us, vs => by
    rw [List.cons_append, qI7, qI7, qAdt ms k us vs]
    split <;> rfl
theorem qQ8 (ms : List Rat) (k : Nat) : ∀ us, (qI7 ms us k).length ≤ us.length
  | [] => Nat.le_refl _
  | u :: us => by
    rw [qI7]
    have := qQ8 ms k us
    split
    · rw [List.length_cons, List.length_cons]; omega
    · rw [List.length_cons]; omega
theorem qVc {ms : List Rat} {k : Nat} : ∀ {us : List (List Rat)} {s : Step}, s ∈ qI7 ms us k → ∃ u, u ∈ us ∧ OnN u k ∧ s = qY8 ms u k
  | [], s, h => by simp [qI7] at h
  | u :: us, s, h => by
    rw [qI7] at h
    split at h
    · rename_i hu
      rcases List.mem_cons.mp h with rfl | h
      · exact ⟨u, List.mem_cons_self, hu, rfl⟩
      · obtain ⟨v, h1, h2⟩ := qVc h
        exact ⟨v, List.mem_cons_of_mem _ h1, h2⟩
    · obtain ⟨v, h1, h2⟩ := qVc h
      exact ⟨v, List.mem_cons_of_mem _ h1, h2⟩
theorem qVx {ms : List Rat} {k : Nat} : ∀ {us : List (List Rat)} {u : List Rat}, u ∈ us → OnN u k → qY8 ms u k ∈ qI7 ms us k
  | v :: us, u, h, ho => by
    rw [qI7]
    rcases List.mem_cons.mp h with rfl | h
    · rw [if_pos ho]; exact List.mem_cons_self
    · have := qVx (ms := ms) h ho
      split
      · exact List.mem_cons_of_mem _ this
      · exact this
theorem qKy {u : List Rat} {k : Nat} (hu : 0 < u.length) (h : OnN u k) : qBz u (k + 1) = qBz u k + 1 ∧ 2 * qBz u k + (u.length - 1) = k := by
  obtain ⟨h1, h2⟩ := h
  unfold qBz
  omega
theorem qVt {u : List Rat} {k : Nat} (hu : 0 < u.length) (h : ¬ OnN u k) : qBz u (k + 1) = qBz u k := by
  unfold qBz
  unfold OnN at h
  by_cases h1 : u.length ≤ k + 1
  · have h2 : ¬ (k + 1 - u.length) % 2 = 0 := fun z => h ⟨h1, z⟩
    omega
  · omega
/-! ### leading parts -/
/-- the first step in a round of k .. that is not above 0 -/
def stG (ms : List Rat) (fs : List (List Rat)) : Nat → Nat → Option Step
  | 0, _ => none
  | n + 1, k => match qH1 (qI7 ms fs k) with
    | some s => some s
    | none => stG ms fs n (k + 1)
/-- whether the first n numbers have a lot -/
def dK (ms : List Rat) (fs : List (List Rat)) (n : Nat) : Bool := match stG ms fs n 0 with
  | none => true
  | some s => if s.2.2.2 < 0 then false else ((List.range (n + 1 - (qAcr s).length)).find? fun j => decide (qIm (strip (qF5 (qAcr s) (powX j))) ms ≠ 0)).isNone
end MR

set_option Elab.async false
set_option linter.all false
set_option maxRecDepth 100000
set_option maxHeartbeats 1000000
/-! NOrth3: forms of factors; two steps of one round are not both 0 -/
namespace MR
open PySem PySem.Spec PyProof.Rows L2
/-- (x - c) f -/
def lF (c : Rat) (f : Fu) : Fu := fun i => xF f i - c * f i
theorem Dg.l {n : Nat} {f : Fu} (h : Dg n f) (c : Rat) : Dg (n + 1) (lF c f) := h.x.sub (h.mono (by omega)) c
section
variable {N : Nat} {m : Fu}
end
/-! ### the rows of the factors -/
theorem qAko {u ms : List Rat} {i : Nat} (h : i + u.length ≤ ms.length) (hu : 0 < u.length) : coef (shL u ms) i = dotN u (ms.drop i) u.length := by
  unfold shL
  rw [qKc, if_pos (by omega)]
section
variable {N n : Nat} {ms : List Rat} {a b : Rat} {f g : Fu}
end
/-- p of a row with worth 0: orthogonal to its own degree too -/
theorem kernel {rs : List Rat} {n N : Nat} (hN : n + 1 ≤ N) (h : ∀ k, k < n → hS rs k ≠ 0) (h0 : hS rs n = 0) {f : Fu} (hf : Dg (n + 1) f) : Bf (N + 1) (coef rs) (pS rs n) f = 0 := by
  refine qAkg (n := n + 1) (fun i hi => ?_) hf
  by_cases e : i = n
  · subst e
    rw [← qJa rs i (by omega), h0]
  · exact orth hN h n (Nat.le_refl _) i n (by omega) (Nat.le_refl _)
end MR

set_option Elab.async false
set_option linter.all false
set_option maxRecDepth 100000
set_option maxHeartbeats 4000000
set_option exponentiation.threshold 20000
/-! NMove: the steps of a moved row -/
namespace MR
open PySem PySem.Spec PyProof.Rows L2
/-- f(x + t), of the first n coefficients -/
def mvF (t : Rat) : Nat → Fu → Fu
  | 0, _ => fun _ => 0
  | n + 1, f => fun i => (if i = 0 then f 0 else 0) + (xF (mvF t n fun j => f (j + 1)) i + t * mvF t n (fun j => f (j + 1)) i)
theorem qAo5 (t : Rat) : ∀ (n : Nat) (f : Fu), Dg n (mvF t n f)
  | 0, f => fun i _ => rfl
  | n + 1, f => fun i hi => by
    have h := qAo5 t n fun j => f (j + 1)
    show (if i = 0 then f 0 else 0) + (xF (mvF t n fun j => f (j + 1)) i + t * mvF t n (fun j => f (j + 1)) i) = 0
    rw [if_neg (by omega), h.x i hi, h i (by omega)]
    grind
theorem qAcb (t : Rat) (m : Fu) (i : Nat) : ∀ j, itr t (j + i) m = itr t j (itr t i m)
  | 0 => by rw [Nat.zero_add]; rfl
  | j + 1 => by
    rw [show j + 1 + i = (j + i) + 1 by omega]
    show shf t (itr t (j + i) m) = shf t (itr t j (itr t i m))
    rw [qAcb t m i j]
theorem qAe0 (t : Rat) (m : Fu) (l : Nat) : ∀ k i, itr t k m (l + i) = itr t k (fun j => m (l + j)) i
  | 0, i => rfl
  | k + 1, i => by
    show itr t k m (l + i + 1) + t * itr t k m (l + i) = itr t k (fun j => m (l + j)) (i + 1) + t * itr t k (fun j => m (l + j)) i
    rw [← qAe0 t m l k (i + 1), ← qAe0 t m l k i, Nat.add_assoc]
theorem qRu (t : Rat) : ∀ (n : Nat) (f m : Fu), sm n (fun i => f i * itr t i m 0) = sm n fun i => mvF t n f i * m i
  | 0, f, m => rfl
  | n + 1, f, m => by
    have ih := qRu t n (fun j => f (j + 1)) (shf t m)
    have hd := qAo5 t n fun j => f (j + 1)
    rw [qH7]
    have e1 : sm n (fun i => f (i + 1) * itr t (i + 1) m 0) = sm n (fun i => f (i + 1) * itr t i (shf t m) 0) := qA3 fun i _ => by rw [qAhb]
    rw [e1, ih]
    have e2 : sm (n + 1) (fun i => mvF t (n + 1) f i * m i) = sm (n + 1) (fun i => (if i = 0 then f 0 else 0) * m i) + (sm (n + 1) (fun i => xF (mvF t n fun j => f (j + 1)) i * m i) + t * sm (n + 1) (fun i => mvF t n (fun j => f (j + 1)) i * m i)) := by
      rw [← qFz, ← qP6, ← qP6]
      refine qA3 fun i _ => ?_
      show ((if i = 0 then f 0 else 0) + (xF (mvF t n fun j => f (j + 1)) i + t * mvF t n (fun j => f (j + 1)) i)) * m i = _
      grind
    have e3 : sm (n + 1) (fun i => (if i = 0 then f 0 else 0) * m i) = f 0 * m 0 := by
      rw [qH7, qGc fun i _ => by rw [if_neg (Nat.succ_ne_zero i), Rat.zero_mul], if_pos rfl, Rat.add_zero]
    have e4 : sm (n + 1) (fun i => xF (mvF t n fun j => f (j + 1)) i * m i) = sm n (fun i => mvF t n (fun j => f (j + 1)) i * m (i + 1)) := by
      rw [qH7]
      show 0 * m 0 + _ = _
      rw [Rat.zero_mul, Rat.zero_add]
      rfl
    have e5 : sm (n + 1) (fun i => mvF t n (fun j => f (j + 1)) i * m i) = sm n (fun i => mvF t n (fun j => f (j + 1)) i * m i) := by
      show sm n _ + _ * _ = _
      rw [hd n (Nat.le_refl _), Rat.zero_mul, Rat.add_zero]
    rw [e2, e3, e4, e5, ← qFz, ← qP6]
    show f 0 * m 0 + _ = _
    congr 1
    refine qA3 fun i _ => ?_
    show mvF t n (fun j => f (j + 1)) i * (m (i + 1) + t * m i) = _
    grind
theorem qAi9 (t c : Rat) : ∀ (n : Nat) (f g : Fu) (i : Nat), mvF t n (fun j => f j - c * g j) i = mvF t n f i - c * mvF t n g i
  | 0, f, g, i => by
    show (0 : Rat) = 0 - c * 0
    grind
  | n + 1, f, g, i => by
    have ih := qAi9 t c n (fun j => f (j + 1)) (fun j => g (j + 1))
    show (if i = 0 then f 0 - c * g 0 else 0) + (xF (mvF t n fun j => f (j + 1) - c * g (j + 1)) i + t * mvF t n (fun j => f (j + 1) - c * g (j + 1)) i) = ((if i = 0 then f 0 else 0) + (xF (mvF t n fun j => f (j + 1)) i + t * mvF t n (fun j => f (j + 1)) i)) - c * ((if i = 0 then g 0 else 0) + (xF (mvF t n fun j => g (j + 1)) i + t * mvF t n (fun j => g (j + 1)) i))
    have ex : xF (mvF t n fun j => f (j + 1) - c * g (j + 1)) i = xF (mvF t n fun j => f (j + 1)) i - c * xF (mvF t n fun j => g (j + 1)) i := by
      cases i with
      | zero => show (0 : Rat) = 0 - c * 0; grind
      | succ i => exact ih i
    rw [ex, ih i]
    by_cases h : i = 0
    · simp only [if_pos h]; grind
    · simp only [if_neg h]; grind
theorem qAju (t : Rat) : ∀ (n : Nat) {f : Fu}, (∀ i, f i = 0) → ∀ i, mvF t n f i = 0
  | 0, f, h, i => rfl
  | n + 1, f, h, i => by
    have ih := qAju t n (f := fun j => f (j + 1)) fun i => h _
    show (if i = 0 then f 0 else 0) + (xF (mvF t n fun j => f (j + 1)) i + t * mvF t n (fun j => f (j + 1)) i) = 0
    have ex : xF (mvF t n fun j => f (j + 1)) i = 0 := by
      cases i with
      | zero => rfl
      | succ i => exact ih i
    rw [ex, ih i, h 0]
    by_cases h : i = 0
    · simp only [if_pos h]; grind
    · simp only [if_neg h]; grind
theorem qAc4 (t : Rat) : ∀ (n N : Nat) {f : Fu}, Dg n f → n ≤ N → ∀ i, mvF t N f i = mvF t n f i
  | 0, N, f, h, _, i => qAju t N (fun i => h i (Nat.zero_le _)) i
  | n + 1, 0, f, _, h, i => absurd h (by omega)
  | n + 1, N + 1, f, h, hn, i => by
    have ih := qAc4 t n N (f := fun j => f (j + 1)) (fun i hi => h (i + 1) (by omega)) (by omega)
    show (if i = 0 then f 0 else 0) + (xF (mvF t N fun j => f (j + 1)) i + t * mvF t N (fun j => f (j + 1)) i) = (if i = 0 then f 0 else 0) + (xF (mvF t n fun j => f (j + 1)) i + t * mvF t n (fun j => f (j + 1)) i)
    have ex : xF (mvF t N fun j => f (j + 1)) i = xF (mvF t n fun j => f (j + 1)) i := by
      cases i with
      | zero => rfl
      | succ i => exact ih i
    rw [ex, ih i]
theorem mv_x (t : Rat) (n : Nat) (f : Fu) (i : Nat) : mvF t (n + 1) (xF f) i = xF (mvF t n f) i + t * mvF t n f i := by
  show (if i = 0 then (0 : Rat) else 0) + (xF (mvF t n fun j => f j) i + t * mvF t n (fun j => f j) i) = _
  by_cases h : i = 0
  · rw [if_pos h, Rat.zero_add]
  · rw [if_neg h, Rat.zero_add]
theorem qAk1 (t : Rat) (N : Nat) (m f g : Fu) : Bf N (fun j => itr t j m 0) f g = Bf N m (mvF t N f) (mvF t N g) := by
  unfold Bf
  have e1 : sm N (fun i => sm N fun j => f i * g j * itr t (i + j) m 0) = sm N (fun i => sm N fun l => f i * (mvF t N g l * itr t i m l)) := qA3 fun i _ => by
    rw [qFz, ← qRu t N g (itr t i m), ← qFz]
    refine qA3 fun j _ => ?_
    rw [Nat.add_comm i j, qAcb]
    grind
  rw [e1, qVq (fun i l => f i * (mvF t N g l * itr t i m l))]
  have e2 : ∀ l, sm N (fun i => f i * (mvF t N g l * itr t i m l)) = sm N fun k => mvF t N f k * mvF t N g l * m (k + l) := fun l => by
    have := qRu t N f (fun j => m (l + j))
    have e3 : sm N (fun i => f i * (mvF t N g l * itr t i m l)) = mvF t N g l * sm N (fun i => f i * itr t i (fun j => m (l + j)) 0) := by
      rw [← qFz]
      refine qA3 fun i _ => ?_
      rw [← qAe0 t m l i 0, Nat.add_zero]
      grind
    rw [e3, this, ← qFz]
    refine qA3 fun k _ => ?_
    rw [Nat.add_comm l k]
    grind
  rw [qA3 fun l _ => e2 l]
  exact (qVq (fun i j => mvF t N f i * mvF t N g j * m (i + j)) N N).symm
/-! ### the steps of a moved row -/
theorem qUp (t : Rat) : ∀ k i, itr t k (fun _ => 0) i = 0
  | 0, i => rfl
  | k + 1, i => by
    show itr t k (fun _ => 0) (i + 1) + t * itr t k (fun _ => 0) i = 0
    rw [qUp t k (i + 1), qUp t k i]
    grind
theorem qAm6 (t : Rat) (c : Fu) (F : Nat → Fu) (k i : Nat) : ∀ n, itr t k (fun j => sm n fun l => c l * F l j) i = sm n fun l => c l * itr t k (F l) i
  | 0 => qUp t k i
  | n + 1 => by
    show itr t k (fun j => sm n (fun l => c l * F l j) + c n * F n j) i = _
    rw [qAat, qAm6 t c F k i n]
    rfl
/-- the row of a factor moves with the row -/
theorem qAlu {u v ms ns : List Rat} {t : Rat} (hl : ns.length = ms.length) (hm : ∀ j, j < ms.length → coef ns j = itr t j (coef ms) 0) (hv : v.length = u.length) (hu : 0 < u.length) (h : ∀ i, mvF t u.length (coef v) i = coef u i) {j : Nat} (hj : j + u.length ≤ ms.length) : coef (shL v ns) j = itr t j (coef (shL u ms)) 0 := by
  rw [qAko (by omega) (by omega), qOq, hv]
  have e1 : sm u.length (fun i => coef v i * coef (ns.drop j) i) = sm u.length (fun i => coef v i * itr t i (itr t j (coef ms)) 0) := qA3 fun i hi => by
    rw [qJs, hm (j + i) (by omega), Nat.add_comm j i, qAcb]
  rw [e1, qRu]
  have e2 : itr t j (coef (shL u ms)) 0 = itr t j (fun i => sm u.length fun l => coef u l * coef ms (l + i)) 0 := by
    refine qR0 (n := j + 1) (fun i hi => ?_) j 0 (by omega)
    rw [qAko (by omega) hu, qOq]
    exact qA3 fun l _ => by rw [qJs, Nat.add_comm l i]
  rw [e2, qAm6 t (coef u) (fun l i => coef ms (l + i)) j 0]
  refine qA3 fun l _ => ?_
  rw [h l, ← qAe0, Nat.add_zero]
section
variable {ms ns : List Rat} {t : Rat}
theorem qPf {n N : Nat} {f g : Fu} (hm : ∀ j, j + 1 < 2 * n → coef ns j = itr t j (coef ms) 0) (hf : Dg n f) (hg : Dg n g) (hN : n ≤ N) : Bf N (coef ns) f g = Bf N (coef ms) (mvF t N f) (mvF t N g) := by
  rw [qUn (m' := fun j => itr t j (coef ms) 0) hf hg hm, qAk1]
theorem qKi {L : Nat} (hm : ∀ j, j < L → coef ns j = itr t j (coef ms) 0) : ∀ k, 2 * k + 1 ≤ L → (∀ j, j < k → hS ms j ≠ 0) → (∀ j, j < k → hS ns j = hS ms j ∧ aS ns j = aS ms j + t) ∧ ∀ i, mvF t (k + 1) (pS ns k) i = pS ms k i
  | 0, _, _ => ⟨fun j h => absurd h (Nat.not_lt_zero _), fun i => by
      show (if i = 0 then pS ns 0 0 else 0) + (xF (fun _ => 0) i + t * 0) = pS ms 0 i
      have : xF (fun _ => 0) i = 0 := by cases i <;> rfl
      rw [this, qLi, qLi]
      grind⟩
  | k + 1, hk, h => by
    obtain ⟨h1, h2⟩ := qKi hm k (by omega) fun j hj => h j (by omega)
    have hh : hS ns k = hS ms k := by
      rw [qJa ns k (N := k + 1) (Nat.le_refl _), qJa ms k (N := k + 1) (Nat.le_refl _), qPf (n := k + 1) (fun j hj => hm j (by omega)) (qG5 ns k) (qG5 ns k) (Nat.le_refl _)]
      exact qHe h2 h2
    have d1 : Dg (k + 2) (pS ns k) := (qG5 ns k).mono (by omega)
    have h2' : ∀ i, mvF t (k + 2) (pS ns k) i = pS ms k i := fun i => by rw [qAc4 t (k + 1) (k + 2) (qG5 ns k) (by omega), h2]
    have hx : ∀ i, mvF t (k + 2) (xF (pS ns k)) i = xF (pS ms k) i + t * pS ms k i := fun i => by
      rw [mv_x, show mvF t (k + 1) (pS ns k) = pS ms k from funext h2]
    have ha : aS ns k = aS ms k + t := by
      rw [qAe8 ns k (N := k + 2) (Nat.le_refl _), qAe8 ms k (N := k + 2) (Nat.le_refl _), hh]
      have e : Bf (k + 2) (coef ns) (xF (pS ns k)) (pS ns k) = Bf (k + 2) (coef ms) (xF (pS ms k)) (pS ms k) + t * hS ms k := by
        rw [qPf (n := k + 2) (fun j hj => hm j (by omega)) (qG5 ns k).x d1 (Nat.le_refl _), qHe hx h2', qAjn, qUe, ← qJa ms k (by omega)]
      rw [e]
      have := h k (by omega)
      grind
    refine ⟨fun j hj => ?_, fun i => ?_⟩
    · by_cases e : j = k
      · subst e
        exact ⟨hh, ha⟩
      · exact h1 j (by omega)
    · have e1 : mvF t (k + 2) (fun j => xF (pS ns k) j - aS ns k * pS ns k j) i = xF (pS ms k) i - aS ms k * pS ms k i := by
        rw [qAi9, hx, h2', ha]
        grind
      cases k with
      | zero =>
        rw [show pS ns (0 + 1) = fun j => xF (pS ns 0) j - aS ns 0 * pS ns 0 j from funext (qS4 ns), e1]
        exact (qS4 ms i).symm
      | succ k =>
        obtain ⟨_, h3⟩ := qKi hm k (by omega) fun j hj => h j (by omega)
        have h3' : mvF t (k + 1 + 2) (pS ns k) i = pS ms k i := by rw [qAc4 t (k + 1) (k + 1 + 2) (qG5 ns k) (by omega), h3]
        rw [show pS ns (k + 1 + 1) = fun j => (xF (pS ns (k + 1)) j - aS ns (k + 1) * pS ns (k + 1) j) - hS ns (k + 1) / hS ns k * pS ns k j from funext (qLc ns k), qAi9, e1, h3', hh, (h1 k (by omega)).1]
        exact (qLc ms k i).symm
theorem qAby {L k : Nat} (hm : ∀ j, j < L → coef ns j = itr t j (coef ms) 0) (hk : 2 * k + 1 ≤ L) (h : ∀ j, j < k → hS ms j ≠ 0) : hS ns k = hS ms k := by
  obtain ⟨_, h2⟩ := qKi hm k hk h
  rw [qJa ns k (N := k + 1) (Nat.le_refl _), qJa ms k (N := k + 1) (Nat.le_refl _), qPf (n := k + 1) (fun j hj => hm j (by omega)) (qG5 ns k) (qG5 ns k) (Nat.le_refl _)]
  exact qHe h2 h2
end
/-- the value of a polynomial -/
def evF (n : Nat) (f : Fu) (x : Rat) : Rat := sm n fun i => f i * x ^ i
theorem qAa1 (t x : Rat) : ∀ k i, itr t k (fun j => x ^ j) i = x ^ i * (x + t) ^ k
  | 0, i => by
    show x ^ i = _
    rw [Rat.pow_zero, Rat.mul_one]
  | k + 1, i => by
    show itr t k (fun j => x ^ j) (i + 1) + t * itr t k (fun j => x ^ j) i = _
    rw [qAa1 t x k (i + 1), qAa1 t x k i, Rat.pow_succ, Rat.pow_succ]
    grind
theorem qArh (t x : Rat) (n : Nat) (f : Fu) : evF n f (x + t) = evF n (mvF t n f) x := by
  have := qRu t n f (fun j => x ^ j)
  unfold evF
  rw [← this]
  refine qA3 fun i _ => ?_
  rw [qAa1, Rat.pow_zero, Rat.one_mul]
theorem sm1 (F : Fu) : sm 1 F = F 0 := by show 0 + F 0 = F 0; rw [Rat.zero_add]
theorem mvc {t : Rat} {n : Nat} {f g : Fu} (hf : Dg n f) (hg : Dg n g) (h : ∀ i, i < n → mvF t n f i = g i) (i : Nat) : mvF t n f i = g i := by
  by_cases hi : i < n
  · exact h i hi
  · rw [qAo5 t n f i (by omega), hg i (by omega)]
theorem mv1 (t : Rat) (i : Nat) : mvF t 1 (coef [1]) i = coef [1] i := by
  refine mvc (n := 1) (qL3 [1]) (qL3 [1]) (fun i hi => ?_) i
  obtain rfl : i = 0 := by omega
  show 1 + (0 + t * 0) = (1 : Rat)
  grind
theorem mv2 (t a c d : Rat) (h : c + t * d = a) (i : Nat) : mvF t 2 (coef [c, d]) i = coef [a, d] i := by
  refine mvc (n := 2) (qL3 [c, d]) (qL3 [a, d]) (fun i hi => ?_) i
  have : i = 0 ∨ i = 1 := by omega
  rcases this with rfl | rfl
  · show c + (0 + t * (d + (0 + t * 0))) = a
    grind
  · show 0 + ((d + (0 + t * 0)) + t * (0 + (0 + t * 0))) = d
    grind
theorem mv3 (t a b c d e : Rat) (h1 : c + t * d + t * t * e = a) (h2 : d + 2 * t * e = b) (i : Nat) : mvF t 3 (coef [c, d, e]) i = coef [a, b, e] i := by
  refine mvc (n := 3) (qL3 [c, d, e]) (qL3 [a, b, e]) (fun i hi => ?_) i
  have : i = 0 ∨ i = 1 ∨ i = 2 := by omega
  rcases this with rfl | rfl | rfl
  · show c + (0 + t * (d + (0 + t * (e + (0 + t * 0))))) = a
    grind
  · show 0 + ((d + (0 + t * (e + (0 + t * 0)))) + t * (0 + ((e + (0 + t * 0)) + t * (0 + (0 + t * 0))))) = b
    grind
  · show 0 + ((0 + ((e + (0 + t * 0)) + t * (0 + (0 + t * 0)))) + t * (0 + ((0 + (0 + t * 0)) + t * (0 + (0 + t * 0))))) = e
    grind
end MR

set_option Elab.async false
set_option linter.all false
set_option maxRecDepth 100000
set_option maxHeartbeats 4000000
/-! FL: a dict that a name owns: d = {}, d[k] = v, d.get(k, x) -/
namespace MR
open PySem PySem.Spec PyProof.Rows L2 LamX
def qHu : List Key → List D → Key → Option D
  | k :: ks, d :: ds, x => if k = x then some d else qHu ks ds x
  | _, _, _ => none
def qUr : List Key → List D → Key → D → List D
  | k :: ks, d :: ds, x, e => (if k = x then e else d) :: qUr ks ds x e
  | _, _, _, _ => []
def memK (ks : List Key) (x : Key) : Bool := ks.any fun k => decide (k = x)
theorem qSl {k : Key} {ks : List Key} {x : Key} : memK (k :: ks) x = (decide (k = x) || memK ks x) := rfl
def qSd (ks : List Key) (x : Key) : List Key := if memK ks x = true then ks else ks ++ [x]
def qVp (ks : List Key) (ds : List D) (x : Key) (e : D) : List D := if memK ks x = true then qUr ks ds x e else ds ++ [e]
theorem qX1 : ∀ {ks : List Key} {ds : List D} {x : Key} {e : D}, ks.length = ds.length → (qUr ks ds x e).length = ds.length
  | [], [], _, _, _ => rfl
  | k :: ks, d :: ds, x, e, h => by
    simp only [qUr, List.length_cons] at h ⊢
    rw [qX1 (by omega)]
  | [], d :: ds, _, _, h => by simp at h
  | k :: ks, [], _, _, h => by simp at h
theorem qAma {ks : List Key} {ds : List D} {x : Key} {e : D} (h : ks.length = ds.length) : (qSd ks x).length = (qVp ks ds x e).length := by
  unfold qSd qVp
  split
  · rw [qX1 h]; exact h
  · simp [h]
theorem qAic {ks : List Key} {x : Key} : (qSd ks x).length ≤ ks.length + 1 := by
  unfold qSd
  split
  · omega
  · simp
theorem qArx : ∀ {ks : List Key} {ds : List D} {x y : Key} {e : D}, ks.length = ds.length → qHu ks (qUr ks ds x e) y = if y = x then (if memK ks x = true then some e else none) else qHu ks ds y
  | [], [], x, y, e, h => by simp [qHu, qUr, memK]
  | k :: ks, d :: ds, x, y, e, h => by
    simp only [List.length_cons] at h
    simp only [qUr, qHu]
    rw [qArx (by omega), qSl]
    by_cases h1 : k = y
    · subst h1
      by_cases h2 : k = x
      · simp [h2]
      · simp [h2]
    · rw [if_neg h1, if_neg h1]
      by_cases h3 : y = x
      · subst h3
        simp [h1]
      · simp [h3]
  | [], d :: ds, _, _, _, h => by simp at h
  | k :: ks, [], _, _, _, h => by simp at h
theorem qAdq : ∀ {ks : List Key} {ds : List D} {x y : Key} {e : D}, ks.length = ds.length → memK ks x = false → qHu (ks ++ [x]) (ds ++ [e]) y = if y = x then some e else qHu ks ds y
  | [], [], x, y, e, _, _ => by
    simp only [List.nil_append, qHu]
    by_cases h : x = y
    · simp [h]
    · simp [h, Ne.symm h]
  | k :: ks, d :: ds, x, y, e, h, hn => by
    simp only [List.length_cons] at h
    rw [qSl, Bool.or_eq_false_iff] at hn
    simp only [List.cons_append, qHu]
    rw [qAdq (by omega) hn.2]
    by_cases h1 : k = y
    · subst h1
      simp [of_decide_eq_false hn.1]
    · simp [h1]
  | [], d :: ds, _, _, _, h, _ => by simp at h
  | k :: ks, [], _, _, _, h, _ => by simp at h
theorem qAmo {ks : List Key} {ds : List D} {x y : Key} {e : D} (h : ks.length = ds.length) : qHu (qSd ks x) (qVp ks ds x e) y = if y = x then some e else qHu ks ds y := by
  unfold qSd qVp
  cases hm : memK ks x with
  | true => rw [if_pos rfl, if_pos rfl, qArx h, if_pos hm]
  | false =>
    rw [if_neg (by decide), if_neg (by decide)]
    exact qAdq h hm
section
variable {K : PySem.W.Frag} {w : Wd} {ow ow' ow1 owb owx : List Nat} {H H' : Hp} {σ : L2.St} {ρ : Env} {E : L2.St → XK} {N : L2.Ends} {FD : FEnds} {F : Fd} {M : Addr → Prop}
theorem qAo9 {Ta : List (Addr × Str)} : SF K Ta ow E tDNewK qAl5 := by
  intro w H σ ρ P X Q e h q x p np
  exact q _ p _ _ h (.new np) np upd_same ⟨[], rfl, rfl, rfl⟩
theorem qApw {kvs : List (Key × V)} {x : Key} : (kvs.any fun kv => decide (kv.1 = x)) = memK (kvs.map Prod.fst) x := by
  induction kvs with
  | nil => rfl
  | cons p r ih =>
    rw [List.any_cons, ih, List.map_cons, qSl]
theorem qZ0 : ∀ {kvs : List (Key × V)} {ds : List D} {x : Key} {e : D} {v : V}, Reps K F M H ds (kvs.map Prod.snd) → Rep K F M H e v → Reps K F M H (qUr (kvs.map Prod.fst) ds x e) ((kvs.map fun kv => if kv.1 = x then (kv.1, v) else kv).map Prod.snd)
  | [], ds, x, e, v, h, _ => by
    cases ds with
    | nil => exact rfl
    | cons d ds => obtain ⟨_, _, z, _⟩ := h; cases z
  | p :: r, ds, x, e, v, h, hv => by
    cases ds with
    | nil => exact absurd (show (p :: r).map Prod.snd = [] from h) (by simp)
    | cons d ds =>
      obtain ⟨v1, us, z, h1, h2⟩ := h
      simp only [List.map_cons, List.cons.injEq] at z
      obtain ⟨rfl, rfl⟩ := z
      simp only [List.map_cons, qUr]
      refine .cons ?_ (qZ0 h2 hv)
      by_cases hk : p.1 = x
      · rw [if_pos hk, if_pos hk]; exact hv
      · rw [if_neg hk, if_neg hk]; exact h1
theorem qAo3 {kvs : List (Key × V)} {x : Key} {v : V} : (kvs.map fun kv => if kv.1 = x then (kv.1, v) else kv).map Prod.fst = kvs.map Prod.fst := by
  rw [List.map_map]
  apply List.map_congr_left
  intro p _
  show (if p.1 = x then (p.1, v) else p).1 = p.1
  split <;> rfl
theorem qAmq {kvs : List (Key × V)} {ds : List D} {x : Key} {e : D} {v : V} (h : Reps K F M H ds (kvs.map Prod.snd)) (hv : Rep K F M H e v) : (putK kvs x v).map Prod.fst = qSd (kvs.map Prod.fst) x ∧ Reps K F M H (qVp (kvs.map Prod.fst) ds x e) ((putK kvs x v).map Prod.snd) := by
  unfold putK qSd qVp
  rw [qApw]
  cases hm : memK (kvs.map Prod.fst) x with
  | true =>
    rw [if_pos rfl, if_pos rfl, if_pos rfl]
    exact ⟨qAo3, qZ0 h hv⟩
  | false =>
    rw [if_neg (by decide), if_neg (by decide), if_neg (by decide)]
    simp only [List.map_append, List.map_cons, List.map_nil]
    exact ⟨trivial, h.append (.one hv)⟩
theorem qAd2 : ∀ {kvs : List (Key × V)} {ds : List D} {x : Key}, Reps K F M H ds (kvs.map Prod.snd) → (∀ d, qHu (kvs.map Prod.fst) ds x = some d → ∃ v, valV kvs x = some v ∧ Rep K F M H d v) ∧ (qHu (kvs.map Prod.fst) ds x = none → valV kvs x = none)
  | [], ds, x, h => ⟨fun d z => by simp [qHu] at z, fun _ => rfl⟩
  | p :: r, ds, x, h => by
    cases ds with
    | nil => exact absurd (show (p :: r).map Prod.snd = [] from h) (by simp)
    | cons d ds =>
      obtain ⟨v1, us, z, h1, h2⟩ := h
      simp only [List.map_cons, List.cons.injEq] at z
      obtain ⟨rfl, rfl⟩ := z
      simp only [List.map_cons, qHu]
      by_cases hk : p.1 = x
      · rw [if_pos hk]
        exact ⟨fun e z => by cases z; exact ⟨_, valV_pos hk, h1⟩, fun z => by cases z⟩
      · rw [if_neg hk, valV_neg hk]
        exact qAd2 h2
theorem REnv.dctAt {i : Nat} {ks : List Key} {ds : List D} (e : REnv K Ta w ow H σ ρ) (hi : i ∈ ow) (hd : ρ[i]? = some (some (.dct ks ds))) : ∃ p kvs, σ[i]? = some (some (.ref p)) ∧ H p = some (.dK kvs) ∧ kvs.map Prod.fst = ks ∧ Reps K w.F (w.Mx ow σ) H ds (kvs.map Prod.snd) := by
  obtain ⟨p, o, d, h1, h2, h3, h4, h5, h6⟩ := e.own i hi
  rw [h2] at hd; cases hd
  obtain ⟨kvs, rfl, en, r⟩ := h4
  exact ⟨p, kvs, h1, h3, en, r⟩
/-- d[k] = v, d owned, k a whole number -/
def qAk7 (i : Nat) (fe fj : FE) : FS := fun FD ρ => fe ρ (fun d => fj ρ (fun j => ∃ ks ds n, ρ[i]? = some (some (.dct ks ds)) ∧ j = .int n ∧ ks.length < sizeLine ∧ FD.nx (ρ.set i (some (.dct (qSd ks (.inl n)) (qVp ks ds (.inl n) d))))) (fun x => FD.ex x ρ)) (fun x => FD.ex x ρ)
theorem qApq {Ta : List (Addr × Str)} {i : Nat} {te tj : TE} {fe fj : FE} (hi : i ∈ ow) (hs : Sub owx ow) (he : SE K Ta ow E te fe) (hj : SE K Ta ow E tj fj) : SS K Ta ow ow owb owx E (tAsg te (gSub (tVar i) tj rSetD)) (qAk7 i fe fj) := by
  intro w H σ ρ N FD e h k
  refine he w H σ ρ _ _ _ e h (fun d v H' hd g r => ?_) (k.px e hs)
  have e' := e.grow g
  obtain ⟨p, o, d0, z1, _⟩ := e'.own i hi
  refine ⟨_, z1, ?_⟩
  refine hj w H' σ ρ _ _ _ e' hd (fun dj vj H2 hd2 g2 r2 => ?_) (k.px e' hs)
  have e2 := e'.grow g2
  obtain ⟨ks, ds, n, hds, rfl, hl, nx⟩ := hd2
  obtain ⟨p', kvs, k1, k2, k3, k4⟩ := e2.dctAt hi hds
  rw [z1] at k1; cases k1
  subst k3
  have q := qAmq (x := .inl n) k4 (Rep.goes g2.goes _ _ r)
  refine ⟨p, _, rfl, ?_, k.nx _ _ _ nx (e2.chg hi z1 ⟨_, rfl, q.1, q.2⟩)⟩
  rw [show vj = kV (.inl n) from r2]
  exact DPut.k k2 (by rw [List.length_map] at hl; exact hl)
/-- d.get(k, x), d owned, k a whole number -/
def qAjo (i : Nat) (fj fx : FE) : FE := fun ρ P X => fj ρ (fun j => fx ρ (fun x => ∃ ks ds n, ρ[i]? = some (some (.dct ks ds)) ∧ j = .int n ∧ P ((qHu ks ds (.inl n)).getD x)) X) X
theorem qAk8 {Ta : List (Addr × Str)} {i : Nat} {tj tx : TE} {fj fx : FE} (hi : i ∈ ow) (hj : SE K Ta ow E tj fj) (hx : SE K Ta ow E tx fx) : SE K Ta ow E (tDGet2 (tVar i) tj tx) (fun ρ P X => (∃ ks ds, ρ[i]? = some (some (.dct ks ds))) ∧ qAjo i fj fx ρ P X) := by
  intro w H σ ρ P X Q e h q x
  obtain ⟨⟨ks, ds, hd⟩, h⟩ := h
  obtain ⟨p, kvs, z1, z2, _⟩ := e.dctAt hi hd
  refine ⟨_, z1, p, rfl, .inl ⟨kvs, .inl z2⟩, ?_⟩
  refine hj w H σ ρ _ _ _ e h (fun dj vj H1 h1 g1 r1 => ?_) x
  have e1 := e.grow g1
  refine hx w H1 σ ρ _ _ _ e1 h1 (fun dx vx H2 h2 g2 r2 => ?_) (x.gr g1)
  have e2 := e1.grow g2
  obtain ⟨ks, ds, n, hds, rfl, hp⟩ := h2
  obtain ⟨p', kvs', k1, k2, k3, k4⟩ := e2.dctAt hi hds
  rw [z1] at k1; cases k1
  subst k3
  have q2 := qAd2 (x := .inl n) k4
  refine ⟨valV kvs' (.inl n), by rw [show vj = kV (.inl n) from r1]; exact DGet.k k2, ?_⟩
  cases hg : qHu (kvs'.map Prod.fst) ds (.inl n) with
  | none =>
    rw [q2.2 hg]
    rw [hg] at hp
    exact q _ _ _ hp (g1.trans g2) r2
  | some d =>
    obtain ⟨v, hv, rv⟩ := q2.1 d hg
    rw [hv]
    rw [hg] at hp
    exact q _ _ _ hp (g1.trans g2) rv
end
theorem qAjs {X : Cx} {k : Nat} {o e f : Expr} {apos cpos : Pos} {td ty tx : TE} (hr : Room k X.A) (ho : PE X o td) (he : PE X e ty) (hf : PE X f tx) (m : M2 X o "get" apos e f cpos) : PE X (.Call (.Attribute o "get" apos) [e, f] [] cpos) (tDGet2 td ty tx) := pe_dget2 (by have := hr.un; omega) ho he hf m
theorem qAi8 {X : Cx} {k : Nat} (hr : Room k X.A) : PSet X rSetD := set_dict (by have := hr.un; omega)
def qAhe (i : Nat) (fj fx : FE) : FE := fun ρ P X => (∃ ks ds, ρ[i]? = some (some (.dct ks ds))) ∧ qAjo i fj fx ρ P X
end MR

set_option Elab.async false
set_option linter.all false
set_option maxRecDepth 100000
set_option maxHeartbeats 4000000
set_option exponentiation.threshold 20000
namespace MR
open PySem PySem.Spec PyProof.Rows L2
def qEe : FSp := fun ds P _ => ∃ d ms cs, ds = [d, .poly cs] ∧ itD d = some (qBj ms) ∧ cs.length ≤ ms.length ∧ qZ5 cs ms ∧ P (.rat (qIm cs ms))
def qFx : FSp := fun ds P _ => ∃ ms cs, ds = [.lst (qBj ms), .poly cs] ∧ cs.length ≤ ms.length ∧ ms.length ≤ 1000 ∧ (∀ k, qZ5 cs (ms.drop k)) ∧ P (.lst (qBj (shL cs ms)))
def pwD (x : PW) : D := .tup [.poly x.1, .rat x.2]
def pwO : Option PW → D
  | none => .non
  | some x => pwD x
def qHr (cs : List Str) : FSp := fun ds P _ => ∃ ms a b, ds = [.lst (qBj ms), pwO a, pwO b] ∧ (a = none → 0 < ms.length) ∧
  (∀ x, a = some x → StepSz ms x.1 x.2 b ∧ x.2 ≠ 0 ∧ (∀ y, b = some y → y.2 ≠ 0 ∧ y.1.length ≤ 500) ∧ x.1.length ≤ 500 ∧ (xppN x.1).length ≤ ms.length ∧ (sqN (fN ms x.1 x.2 b)).length ≤ ms.length) ∧ P (pwD (qAam ms a b))
def qLq (K : PySem.W.Frag) (cs : List Str) : TS :=
  (tSeq (tAsg (tMake (He.ga K "Ratio") (qA8 K) [.int 1] E0 (tCons (tC (.int 0)) tNil)) (gName 2))
  (tSeq (tFor (qSg K (tCons (tFld K (tVar 1) "coefficients") tNil)) (gTup K 2 (gCons (gName 3) (gCons (gName 4) gNil))) (tAsg (tOp (qIo (He.ga K "Ratio") (lift K (fR2 fun a b => a + b)) E0) (tVar 2) (tOp (qIo (He.ga K "Ratio") (lift K (fR2 fun a b => a * b)) E0) (tVar 4) (tOp (rIxA K) (tVar 0) (tVar 3)))) (gName 2)))
  (tRet (tVar 2))))
def qPg (cs : List Str) : FS :=
  (qAy (qCu 2 (qAg qHv [.int 1] (qAc (fC (.int 0)) qAm)))
  (qAy (qGn (fEn (qAc (qCy "Poly" "coefficients" (qAe 1)) qAm)) (qF7 [3, 4]) (qCu 2 (fOp (qBk "Ratio" (fR2 fun a b => a + b)) (qAe 2) (fOp (qBk "Ratio" (fR2 fun a b => a * b)) (qAe 4) (fOp oIx (qAe 0) (qAe 3))))))
  (qCr (qAe 2))))
theorem qAe6 {K : PySem.W.Frag} {cs : List Str} (T : KF K cs) (hRatio : ("Ratio" : Str) ∈ cs) (hPoly : ("Poly" : Str) ∈ cs) : SS K Ta [] [] [] [] (fun _ => E0) (qLq K cs) (qPg cs) :=
  (qAl (ow1 := []) (qAx (by decide) (by decide) (qA2 qFk (qD8 qAf) (qAa qAj qAd)))
  (qAl (ow1 := []) (qE5 (by decide) (qAhg (qAa (qAo (T.fld _ hPoly _ (by decide)) (qAb (by decide))) qAd)) (qPt rfl (qDg (by decide) (qDg (by decide) qJi))) (qAx (by decide) (by decide) (qAi (fun _ => (qBe Lift.refl)) (qAb (by decide)) (qAi (fun _ => (qBe Lift.refl)) (qAb (by decide)) (qAi (fun _ => qAjb) (qAb (by decide)) (qAb (by decide)))))))
  (qAq (by decide) (qAb (by decide)))))
def qEy (K : PySem.W.Frag) (cs : List Str) : TS :=
  (tSeq (tAsg (tOp qNi (tCB (qFq K) (tCons (tVar 0) tNil)) (tCB qAlm (tCons (tC (.int 0)) (tCons (tFld K (tVar 1) "degree") tNil)))) (gName 2))
  (tRet (tLc (iRng1 (tCons (tVar 2) tNil)) (gName 3) tYes (tCall (lift K qEe) [] E0 (tCons (tSl (rSlL K) (tVar 0) (tPart (tVar 3)) tNoPart) (tCons (tVar 1) tNil))) [3])))
def qFh (cs : List Str) : FS :=
  (qAy (qCu 2 (fOp qXp (fLs qIx (qAc (qAe 0) qAm)) (fLs oMax (qAc (fC (.int 0)) (qAc (qCy "Poly" "degree" (qAe 1)) qAm)))))
  (qCr (fLc (qFa (qAc (qAe 2) qAm)) (qBf 3) qI8 (qAg qEe [] (qAc (fSl (qAe 0) (qQq (qAe 3)) qF9) (qAc (qAe 1) qAm))) [3])))
theorem qNw {K : PySem.W.Frag} {cs : List Str} (T : KF K cs) (hRatio : ("Ratio" : Str) ∈ cs) (hPoly : ("Poly" : Str) ∈ cs) : SS K Ta [] [] [] [] (fun _ => E0) (qEy K cs) (qFh cs) :=
  (qAl (ow1 := []) (qAx (by decide) (by decide) (qAi (fun _ => qJ2) (qEg (fun _ => qD0) (qAa (qAb (by decide)) qAd)) (qEg (fun _ => qAns) (qAa qAj (qAa (qAo (T.fld _ hPoly _ (by decide)) (qAb (by decide))) qAd)))))
  (qAq (by decide) (SF.se (qO5 (by decide) (by decide) (qFo (qAa (qAb (by decide)) qAd)) (qBy (by decide)) qH5 (qAk Lift.refl qAf (qAa (SF.se (qArv (qAb (by decide)) (qAjl (qAb (by decide))) qAi3)) (qAa (qAb (by decide)) qAd)))))))
def qOb (K : PySem.W.Frag) (cs : List Str) : TS :=
  (tSeq (tIfS (tTest (tOp qJ0 (tVar 1) (tC .non))) (tRet (tTup (tCons (tMake (He.ga K "Poly") (qG6 K "Poly" (qB1 cs)) [] E0 (tCons (tLst (tCons (tC (.int 1)) tNil)) tNil)) (tCons (tOp (rIxL K) (tVar 0) (tC (.int 0))) tNil)))) tNext)
  (tSeq (tAsg (tVar 1) (gTup K 2 (gCons (gName 5) (gCons (gName 6) gNil))))
  (tSeq (tAsg (tMake (He.ga K "Poly") (qG6 K "Poly" (qB1 cs)) [] E0 (tCons (tLst (tCons (tC (.int 0)) (tCons (tC (.int 1)) tNil))) tNil)) (gName 3))
  (tSeq (tAsg (tOp (qIo (He.ga K "Poly") (lift K (qIq cs)) E0) (tOp (qAj0 (He.ga K "Poly") (He.ga K "Ratio") (lift K (qQt cs)) E0) (tVar 3) (tMeth (He.ga K "Ratio") "over" (lift K qTj) [] E0 (tCall (lift K qEe) [] E0 (tCons (tVar 0) (tCons (tOp (qIo (He.ga K "Poly") (lift K (qIq cs)) E0) (tOp (qIo (He.ga K "Poly") (lift K (qIq cs)) E0) (tVar 3) (tVar 5)) (tVar 5)) tNil))) (tCons (tVar 6) tNil))) (tVar 5)) (gName 4))
  (tSeq (tIfS (tTest (tOp qK4 (tVar 2) (tC .non))) (tAsg (tOp (qIo (He.ga K "Poly") (lift K (qQt cs)) E0) (tVar 4) (tOp (qAj0 (He.ga K "Poly") (He.ga K "Ratio") (lift K (qIq cs)) E0) (tOp (rIxT K) (tVar 2) (tC (.int 0))) (tMeth (He.ga K "Ratio") "over" (lift K qTj) [] E0 (tVar 6) (tCons (tOp (rIxT K) (tVar 2) (tC (.int 1))) tNil)))) (gName 4)) tNext)
  (tRet (tTup (tCons (tVar 4) (tCons (tCall (lift K qEe) [] E0 (tCons (tVar 0) (tCons (tOp (qIo (He.ga K "Poly") (lift K (qIq cs)) E0) (tVar 4) (tVar 4)) tNil))) tNil)))))))))
def qRp (cs : List Str) : FS :=
  (qAy (qC1 (fB (fOp qRf (qAe 1) (fC .non))) (qCr (qRs (qAc (qAg (qB1 cs) [] (qAc (qF1 (qAc (fC (.int 1)) qAm)) qAm)) (qAc (fOp qBu (qAe 0) (fC (.int 0))) qAm)))) qAv)
  (qAy (fAsg (qAe 1) (qF7 [5, 6]))
  (qAy (qCu 3 (qAg (qB1 cs) [] (qAc (qF1 (qAc (fC (.int 0)) (qAc (fC (.int 1)) qAm))) qAm)))
  (qAy (qCu 4 (fOp (qBk "Poly" (qIq cs)) (fOp (qYj "Poly" "Ratio" (qQt cs)) (qAe 3) (qFb "Ratio" "over" qTj (qAg qEe [] (qAc (qAe 0) (qAc (fOp (qBk "Poly" (qIq cs)) (fOp (qBk "Poly" (qIq cs)) (qAe 3) (qAe 5)) (qAe 5)) qAm))) (qAc (qAe 6) qAm))) (qAe 5)))
  (qAy (qC1 (fB (fOp qJc (qAe 2) (fC .non))) (qCu 4 (fOp (qBk "Poly" (qQt cs)) (qAe 4) (fOp (qYj "Poly" "Ratio" (qIq cs)) (fOp qEw (qAe 2) (fC (.int 0))) (qFb "Ratio" "over" qTj (qAe 6) (qAc (fOp qEw (qAe 2) (fC (.int 1))) qAm))))) qAv)
  (qCr (qRs (qAc (qAe 4) (qAc (qAg qEe [] (qAc (qAe 0) (qAc (fOp (qBk "Poly" (qIq cs)) (qAe 4) (qAe 4)) qAm))) qAm)))))))))
theorem qAjd {K : PySem.W.Frag} {cs : List Str} (T : KF K cs) (hRatio : ("Ratio" : Str) ∈ cs) (hPoly : ("Poly" : Str) ∈ cs) : SS K Ta [] [] [] [] (fun _ => E0) (qOb K cs) (qRp cs) :=
  (qAl (ow1 := []) (qBl (by decide) (qAp (qAi (fun _ => qH0) (qAb (by decide)) qCl)) (qAq (by decide) (qNp (qAa (qA2 qEi qAf (qAa (qD2 (qAa qAj qAd)) qAd)) (qAa (qAi (fun _ => qAz) (qAb (by decide)) qAj) qAd)))) (qAn (by decide)))
  (qAl (ow1 := []) (qAgr (by decide) (qAb (by decide)) (qPt rfl (qDg (by decide) (qDg (by decide) qJi))))
  (qAl (ow1 := []) (qAx (by decide) (by decide) (qA2 qEi qAf (qAa (qD2 (qAa qAj (qAa qAj qAd))) qAd)))
  (qAl (ow1 := []) (qAx (by decide) (by decide) (qAi (fun _ => (qBe Lift.refl)) (qAi (fun _ => (qAeq Lift.refl)) (qAb (by decide)) (qKd Lift.refl (qAk Lift.refl qAf (qAa (qAb (by decide)) (qAa (qAi (fun _ => (qBe Lift.refl)) (qAi (fun _ => (qBe Lift.refl)) (qAb (by decide)) (qAb (by decide))) (qAb (by decide))) qAd))) (qAa (qAb (by decide)) qAd))) (qAb (by decide))))
  (qAl (ow1 := []) (qBl (by decide) (qAp (qAi (fun _ => qOv) (qAb (by decide)) qCl)) (qAx (by decide) (by decide) (qAi (fun _ => (qBe Lift.refl)) (qAb (by decide)) (qAi (fun _ => (qAeq Lift.refl)) (qAi (fun _ => qDk) (qAb (by decide)) qAj) (qKd Lift.refl (qAb (by decide)) (qAa (qAi (fun _ => qDk) (qAb (by decide)) qAj) qAd))))) (qAn (by decide)))
  (qAq (by decide) (qNp (qAa (qAb (by decide)) (qAa (qAk Lift.refl qAf (qAa (qAb (by decide)) (qAa (qAi (fun _ => (qBe Lift.refl)) (qAb (by decide)) (qAb (by decide))) qAd))) qAd)))))))))
theorem qT6 {d : D} {ms cs : List Rat} {FD : FEnds} {p : D} (hd : itD d = some (qBj ms)) (hl : cs.length ≤ ms.length) (hs : qZ5 cs ms)
    (k : ∀ v3 v4, FD.nx [some d, some p, some (.rat (dotN cs ms cs.length)), v3, v4]) :
    ∀ (r i : Nat) (v3 v4 : Option D), i + r = cs.length → qCk (qF7 [3, 4]) (qCu 2 (fOp (qBk "Ratio" (fR2 fun a b => a + b)) (qAe 2) (fOp (qBk "Ratio" (fR2 fun a b => a * b)) (qAe 4) (fOp oIx (qAe 0) (qAe 3))))) FD (enD (qBj (cs.drop i)) i) [some d, some p, some (.rat (dotN cs ms i)), v3, v4]
  | 0, i, v3, v4, hi => by
    have : i = cs.length := by omega
    subst this
    rw [List.drop_length]
    exact k v3 v4
  | r + 1, i, v3, v4, hi => by
    have ih := qT6 hd hl hs k r (i + 1)
    rw [qMu (by omega), qJr, qSp]
    unfold qCk
    simp_arith [qDo]
    refine qEx hd (qHh (by omega)) ?_
    simp_arith [qDo]
    obtain ⟨h1, h2⟩ := hs i (by omega)
    refine ⟨h1, h2, ?_⟩
    exact ih _ _ (by omega)
theorem qAfq {cs : List Str} (hR : ("Ratio" : Str) ∈ cs) (hP : ("Poly" : Str) ∈ cs) (ds : List D) (P : D → Prop) (X : XP) (h : qEe ds P X) : qPg cs (qFj P X0) (qA0 5 ds) := by
  obtain ⟨d, ms, xs, rfl, hd, hl, hs, p⟩ := h
  simp_arith [qPg, qGn, fEn, qSz, qSv, Rat.intCast_zero, itEx]
  have st := qT6 (d := d) (p := .poly xs) (FD := (⟨fun ρ => (∃ d, ρ[2]? = some (some d) ∧ P d), P, fun _ => False, fun _ => False, fun _ _ => False, P⟩ : FEnds)) hd hl hs (fun v3 v4 => ⟨_, rfl, p⟩) xs.length 0 none none (by omega)
  exact st
theorem qN6 {cs : List Str} (hR : ("Ratio" : Str) ∈ cs) (hP : ("Poly" : Str) ∈ cs) (ds : List D) (P : D → Prop) (X : XP) (h : qFx ds P X) : qFh cs (qFj P X0) (qA0 4 ds) := by
  obtain ⟨ms, xs, rfl, hl, hm, hs, p⟩ := h
  simp_arith [qFh, fLc, qFa, qAhz, qBq]
  refine ⟨by omega, by omega, ?_⟩
  have e : ((ms.length : Int) - max 0 ((xs.length : Int) - 1)).toNat = ms.length - (xs.length - 1) := by omega
  rw [e]
  refine qMl (toSh xs ms) _ [] (fun d hd Q q => ?_) ?_ ?_
  · obtain ⟨j, hj, rfl⟩ := List.mem_map.mp hd
    have hj' := List.mem_range.mp hj
    simp only [qIv]
    simp_arith [fSl]
    rw [show (0 : Int) + (j : Int) = (j : Int) by omega, qAmp, qAgn]
    refine ⟨_, ms.drop j, xs, rfl, rfl, by rw [List.length_drop]; omega, hs j, ?_⟩
    have q' : Q (.rat (dotN xs (ms.drop ((0 : Int) + (j : Int)).toNat) xs.length)) := q
    rw [show ((0 : Int) + (j : Int)).toNat = j by omega] at q'
    exact q'
  · simp only [qKx, List.length_map, List.length_range, List.length_nil]
    exact qCg (by omega)
  · have e2 : (qKx 0 (ms.length - (xs.length - 1))).map (toSh xs ms) = qBj (shL xs ms) := by
      unfold qKx qBj shL
      rw [List.map_map, List.map_map]
      refine List.map_congr_left fun j _ => ?_
      show toSh xs ms (.int (0 + (j : Int))) = _
      show D.rat (dotN xs (ms.drop ((0 : Int) + (j : Int)).toNat) xs.length) = _
      rw [show ((0 : Int) + (j : Int)).toNat = j by omega]
      rfl
    rw [List.nil_append, e2]
    exact p
section
variable {cs : List Str} {a c ms : List Rat} {q : Rat} {P : D → Prop} {X : XP}
theorem qAjz {r : List Rat} (e : strip (qF5 a c) = r) (h : MulSz a c) (la : a.length ≤ 1000) (lc : c.length ≤ 1000) (p : P (.poly r)) : qIq cs [.poly a, .poly c] P X := by
  subst e
  exact qApe h la lc p
theorem qAls {r : List Rat} (e : strip (qF5 a (qTb q)) = r) (h : MulSz a (qTb q)) (la : a.length ≤ 1000) (p : P (.poly r)) : qIq cs [.poly a, .rat q] P X := by
  subst e
  exact ⟨a, _, qTb q, rfl, rfl, by omega, Nat.le_trans (qUy q) (by decide), h, p⟩
theorem qAn2 {r : List Rat} (e : strip (qVj a (qOx c)) = r) (h : qAh7 a c) (la : a.length ≤ 1000) (lc : c.length ≤ 1000) (p : P (.poly r)) : qQt cs [.poly a, .poly c] P X := by
  subst e
  exact let ⟨n, m, h1, h2, h3, h4, h5⟩ := h; ⟨a, _, c, n, m, rfl, rfl, h1, h2, h3, h4, h5, la, lc, p⟩
theorem qAmb {r : List Rat} (e : strip (qVj a (qOx (qTb q))) = r) (h : qAh7 a (qTb q)) (la : a.length ≤ 1000) (p : P (.poly r)) : qQt cs [.poly a, .rat q] P X := by
  subst e
  exact let ⟨n, m, h1, h2, h3, h4, h5⟩ := h; ⟨a, _, qTb q, n, m, rfl, rfl, h1, h2, h3, h4, h5, la, Nat.le_trans (qUy q) (by decide), p⟩
theorem qV2 {d : D} (hd : itD d = some (qBj ms)) (h : qZ5 a ms) (l : a.length ≤ ms.length) (p : P (.rat (qIm a ms))) : qEe [d, .poly a] P X := ⟨_, ms, a, rfl, hd, l, h, p⟩
end
theorem qUa (ms p : List Rat) (w : Rat) (b : Option PW) : qAam ms (some (p, w)) b = (fN ms p w b, qIm (sqN (fN ms p w b)) ms) := rfl
theorem qApy (ms p : List Rat) (w : Rat) : fN ms p w none = f1N ms p w := rfl
theorem qAif (a : List Rat) (c : Rat) : pwD (a, c) = .tup [.poly a, .rat c] := rfl
theorem qAer {α : Type} {xs : List α} {k : Nat} {v : α} (h : xs[k]? = some v) : atI xs (k : Int) = some v := by
  unfold atI
  rw [qAha (List.getElem?_eq_some_iff.mp h).1]
  exact h
theorem qAjw {cs : List Str} (hR : ("Ratio" : Str) ∈ cs) (hP : ("Poly" : Str) ∈ cs) (ds : List D) (P : D → Prop) (X : XP) (h : qHr cs ds P X) : qRp cs (qFj P X0) (qA0 7 ds) := by
  obtain ⟨ms, a, b, rfl, h0, h1, p⟩ := h
  have mx : ∀ {P : D → Prop} {X : XP}, P (.poly xL) → qB1 cs [.lst [.int 0, .int 1]] P X := fun {P X} p => qJo (es := [((0 : Int) : Rat), ((1 : Int) : Rat)]) rfl (by simp) rfl (by rw [Rat.intCast_one, Rat.intCast_zero, qAnh (by decide)]; exact p)
  have m1 : ∀ {P : D → Prop} {X : XP}, P (.poly [1]) → qB1 cs [.lst [.int 1]] P X := fun {P X} p => qJo (es := [((1 : Int) : Rat)]) rfl (by simp) rfl (by rw [Rat.intCast_one, qAg0]; exact p)
  unfold qRp
  cases a with
  | none =>
    have e : (qBj ms)[0]? = some (.rat (coef ms 0)) := qHh (h0 rfl)
    simp_arith [pwO, pwD]
    refine ⟨by decide, m1 ?_⟩
    refine ⟨qBj ms, 0, .rat (coef ms 0), .inl rfl, rfl, qAer (k := 0) e, ?_⟩
    exact ⟨by decide, p⟩
  | some x =>
    obtain ⟨q, w⟩ := x
    obtain ⟨z, w0, hb, lq, l1, l2⟩ := h1 _ rfl
    dsimp only at z w0 lq l1 l2
    have k1 := qAew q
    have k2 := qV8 ms q w
    have k3 := qAiw ms q w
    have lx : xL.length ≤ 1000 := by decide
    simp_arith [pwO, pwD]
    refine ⟨by decide, mx ?_⟩
    simp_arith [qHp, qHs]
    refine qAjz (r := xpN q) rfl z.s1 lx (by omega) ?_
    simp_arith [qHp, qHs]
    refine qAjz (r := xppN q) rfl z.s2 (show (xpN q).length ≤ 1000 by omega) (by omega) ?_
    refine qV2 rfl z.s3 l1 ?_
    simp_arith [qHp, qHs]
    refine ⟨⟨by decide, by decide⟩, z.s4, fun e => absurd e w0, fun _ => ?_⟩
    rw [show qIm (xppN q) ms / w = alN ms q w from rfl]
    simp_arith [qHp, qHs]
    refine qAmb (r := qQ1 ms q w) rfl z.s5 lx ?_
    simp_arith [qHp, qHs]
    refine qAjz (r := f1N ms q w) rfl z.s6 (show (qQ1 ms q w).length ≤ 1000 by omega) (by omega) ?_
    cases b with
    | none =>
      simp_arith [qHp, qHs, Bool.not_true]
      have z8 := z.s8
      have z9 := z.s9
      rw [qUa, qAif] at p
      rw [qApy] at z8 z9 l2 p
      refine qAjz (r := sqN (f1N ms q w)) rfl z8 (by omega) (by omega) ?_
      refine qV2 rfl z9 l2 ?_
      exact ⟨by decide, p⟩
    | some y =>
      obtain ⟨q', w'⟩ := y
      obtain ⟨h1, h2⟩ := hb _ rfl
      obtain ⟨t1, t2, t3⟩ := z.s7 _ rfl
      dsimp only at h1 h2 t1 t2
      have k4 := qAj3 w (q', w')
      dsimp only at k4
      have k5 : (fN ms q w (some (q', w'))).length ≤ 1000 := by
        have e4 := qDt (qVj (f1N ms q w) (qOx (beN w (q', w'))))
        have e5 := qMq (f1N ms q w) (qOx (beN w (q', w')))
        rw [qKn] at e5
        show (strip (qVj (f1N ms q w) (qOx (beN w (q', w'))))).length ≤ _
        omega
      simp_arith [qHp, qHs, Bool.not_false]
      refine ⟨[.poly q', .rat w'], 0, .poly q', .inr rfl, rfl, rfl, ⟨by decide, by decide⟩, [.poly q', .rat w'], 1, .rat w', .inr rfl, rfl, rfl, ?_⟩
      refine ⟨t1, fun e => absurd e h1, fun _ => ?_⟩
      simp_arith [qHp, qHs]
      refine qAls (r := beN w (q', w')) rfl t2 (by omega) ?_
      simp_arith [qHp, qHs]
      refine qAn2 (r := fN ms q w (some (q', w'))) rfl t3 (by omega) (by omega) ?_
      simp_arith [qHp, qHs]
      refine qAjz (r := sqN (fN ms q w (some (q', w')))) rfl z.s8 k5 k5 ?_
      refine qV2 rfl z.s9 l2 ?_
      rw [qUa, qAif] at p
      exact ⟨by decide, p⟩
theorem qYu {K : PySem.W.Frag} {cs : List Str} (vs : List V) (H : Hp) (Q : VK) (E : XK) (h : (lift K qEe) vs H Q E) : vs.length = 2 := qAr (fun ds P X h => by unfold qEe at h; first | ((repeat (first | (obtain ⟨rfl, _⟩ := h; exact rfl) | obtain ⟨_, h⟩ := h)); done) | (split at h <;> first | rfl | exact h.elim)) h
theorem qAar {K : PySem.W.Frag} {cs : List Str} (T : KF K cs) (hRatio : ("Ratio" : Str) ∈ cs) (hPoly : ("Poly" : Str) ∈ cs) (vs : List V) (H : Hp) (Q : VK) (E : XK) (h : (lift K qEe) vs H Q E) : qLq K cs { nx := fun _ H' => Q .non H', rt := Q } (start ["numbers", "p", "total", "k", "c"] vs) H :=
  qCx rfl (qAe6 T hRatio hPoly) (qAfq hRatio hPoly) vs H Q E h
theorem qKt {K : PySem.W.Frag} {cs : List Str} (vs : List V) (H : Hp) (Q : VK) (E : XK) (h : (lift K qFx) vs H Q E) : vs.length = 2 := qAr (fun ds P X h => by unfold qFx at h; first | ((repeat (first | (obtain ⟨rfl, _⟩ := h; exact rfl) | obtain ⟨_, h⟩ := h)); done) | (split at h <;> first | rfl | exact h.elim)) h
theorem qL2 {K : PySem.W.Frag} {cs : List Str} (T : KF K cs) (hRatio : ("Ratio" : Str) ∈ cs) (hPoly : ("Poly" : Str) ∈ cs) (vs : List V) (H : Hp) (Q : VK) (E : XK) (h : (lift K qFx) vs H Q E) : qEy K cs { nx := fun _ H' => Q .non H', rt := Q } (start ["numbers", "p", "size", "k"] vs) H :=
  qCx rfl (qNw T hRatio hPoly) (qN6 hRatio hPoly) vs H Q E h
theorem qAa9 {K : PySem.W.Frag} {cs : List Str} (vs : List V) (H : Hp) (Q : VK) (E : XK) (h : (lift K (qHr cs)) vs H Q E) : vs.length = 3 := qAr (fun ds P X h => by unfold qHr at h; first | ((repeat (first | (obtain ⟨rfl, _⟩ := h; exact rfl) | obtain ⟨_, h⟩ := h)); done) | (split at h <;> first | rfl | exact h.elim)) h
theorem qAf2 {K : PySem.W.Frag} {cs : List Str} (T : KF K cs) (hRatio : ("Ratio" : Str) ∈ cs) (hPoly : ("Poly" : Str) ∈ cs) (vs : List V) (H : Hp) (Q : VK) (E : XK) (h : (lift K (qHr cs)) vs H Q E) : qOb K cs { nx := fun _ H' => Q .non H', rt := Q } (start ["numbers", "previous", "before", "x", "following", "p", "worth"] vs) H :=
  qCx rfl (qAjd T hRatio hPoly) (qAjw hRatio hPoly) vs H Q E h
end MR

set_option Elab.async false
set_option linter.all false
set_option maxRecDepth 100000
set_option maxHeartbeats 4000000
set_option exponentiation.threshold 20000
namespace MR
open PySem PySem.Spec PyProof.Rows L2
def qA9 (s : Step) : D := .tup [.int ((s.1 : Nat) : Int), .poly s.2.1, .poly s.2.2.1, .rat s.2.2.2]
def qAok : Option Step → D
  | none => .non
  | some s => qA9 s
def qFy (cs : List Str) : FSp := fun ds P _ => ∃ ms a b K al c, ds = [.lst (qBj ms), qB0 a b] ∧ Pl16 a b ∧ StOk K ms (qKm a b) al c ∧ P (.lst ((goN ms (qKm a b) ms.length 0).map qA9))
def qE3 : FSp := fun ds P _ => ∃ l : List Step, ds = [.lst (l.map qA9)] ∧ (∀ s, s ∈ l → qMf s.2.2.2 ((0 : Int) : Rat)) ∧ P (qAok (qH1 l))
def UnSz (ms q : List Rat) : Prop := ∃ n d c M, Cd n d q ∧ Cd c M ms ∧ 2 * (n + c + 20) ≤ 900000 ∧ ms.length ≤ 16 ∧ q.length ≤ ms.length + 1
def BoSz (s : Step) : Prop := ∃ a b du dp, Cd a du s.2.1 ∧ Cd b dp s.2.2.1 ∧ 2 * (a + b + 10) ≤ 900000 ∧ s.2.1.length ≤ 8 ∧ s.2.2.1.length ≤ 8
def qJk (K : PySem.W.Frag) (cs : List Str) : TS :=
  (tSeq (tAsg (tLst tNil) (gName 2))
  (tSeq (tAsg tDNewK (gName 3))
  (tSeq (tAsg (tC (.bl true)) (gName 4))
  (tSeq (tAsg (tMeth (He.ga K "Place") "all_factors" (qNa K (qVz cs)) [] E0 (tVar 1) tNil) (gName 5))
  (tSeq (tAsg (tLc (iList K (tVar 5)) (gName 8) tYes (tIf (tTest (tOp rLt0 (tFld K (tVar 8) "degree") (tCB (qFq K) (tCons (tVar 0) tNil)))) (tCall (lift K qFx) [] E0 (tCons (tVar 0) (tCons (tVar 8) tNil))) (tLst tNil)) [8]) (gName 6))
  (tSeq (tFor (iRng1 (tCons (tCB (qFq K) (tCons (tVar 0) tNil)) tNil)) (gName 7) (tSeq (tFor (qSg K (tCons (tVar 5) tNil)) (gTup K 2 (gCons (gName 9) (gCons (gName 8) gNil))) (tSeq (tIfS (tOr (tTest (tOp rGt0 (tFld K (tVar 8) "degree") (tVar 7))) (tTest (tOp rNe (tOp qZa (tOp qNi (tVar 7) (tFld K (tVar 8) "degree")) (tC (.int 2))) (tC (.int 0))))) tCont tNext)
  (tSeq (tAsg (tDGet2 (tVar 3) (tVar 9) (tTup (tCons (tC .non) (tCons (tC .non) tNil)))) (gTup K 2 (gCons (gName 10) (gCons (gName 11) gNil))))
  (tSeq (tAsg (tCall (lift K (qHr cs)) [] E0 (tCons (tOp (rIxL K) (tVar 6) (tVar 9)) (tCons (tVar 10) (tCons (tVar 11) tNil)))) (gTup K 2 (gCons (gName 12) (gCons (gName 13) gNil))))
  (tSeq (tAsg (tTup (tCons (tTup (tCons (tVar 12) (tCons (tVar 13) tNil))) (tCons (tVar 10) tNil))) (gSub (tVar 3) (tVar 9) rSetD))
  (tSeq (tDrop (tBM K "list" rAppend (tVar 2) (tCons (tTup (tCons (tVar 7) (tCons (tVar 8) (tCons (tVar 12) (tCons (tVar 13) tNil))))) tNil)))
  (tAsg (tAndV (tVar 4) (tOp (qIo (He.ga K "Ratio") (lift K (fRB fun a b => decide (b < a))) E0) (tVar 13) (tC (.int 0)))) (gName 4))))))))
  (tIfS (tNot (tB (tVar 4))) tBreak tNext)))
  (tRet (tVar 2))))))))
def qLw (cs : List Str) : FS :=
  (qAy (qS9 2 (qF1 qAm))
  (qAy (qS9 3 qAl5)
  (qAy (qCu 4 (fC (.bl true)))
  (qAy (qCu 5 (qFb "Place" "all_factors" (qVz cs) (qAe 1) qAm))
  (qAy (qCu 6 (fLc (qQz (qAe 5)) (qBf 8) qI8 (fIf (fB (fOp oLt (qCy "Poly" "degree" (qAe 8)) (fLs qIx (qAc (qAe 0) qAm)))) (qAg qFx [] (qAc (qAe 0) (qAc (qAe 8) qAm))) (qF1 qAm)) [8]))
  (qAy (qGn (qFa (qAc (fLs qIx (qAc (qAe 0) qAm)) qAm)) (qBf 7) (qAy (qGn (fEn (qAc (qAe 5) qAm)) (qF7 [9, 8]) (qAy (qC1 (fOr (fB (fOp oGt (qCy "Poly" "degree" (qAe 8)) (qAe 7))) (fB (fOp oNe (fOp oMod (fOp qXp (qAe 7) (qCy "Poly" "degree" (qAe 8))) (fC (.int 2))) (fC (.int 0))))) fCnt qAv)
  (qAy (fAsg (qAhe 3 (qAe 9) (qRs (qAc (fC .non) (qAc (fC .non) qAm)))) (qF7 [10, 11]))
  (qAy (fAsg (qAg (qHr cs) [] (qAc (fOp qBu (qAe 6) (qAe 9)) (qAc (qAe 10) (qAc (qAe 11) qAm)))) (qF7 [12, 13]))
  (qAy (qAk7 3 (qRs (qAc (qRs (qAc (qAe 12) (qAc (qAe 13) qAm))) (qAc (qAe 10) qAm))) (qAe 9))
  (qAy (qQc 2 (qRs (qAc (qAe 7) (qAc (qAe 8) (qAc (qAe 12) (qAc (qAe 13) qAm))))))
  (qCu 4 (qMy (qAe 4) (fOp (qBk "Ratio" (fRB fun a b => decide (b < a))) (qAe 13) (fC (.int 0)))))))))))
  (qC1 (qGq (fB (qAe 4))) fBrk qAv)))
  (qCr (qAe 2))))))))
theorem qAax {K : PySem.W.Frag} {cs : List Str} (T : KF K cs) (hRatio : ("Ratio" : Str) ∈ cs) (hPoly : ("Poly" : Str) ∈ cs) (hPlace : ("Place" : Str) ∈ cs) : SS K Ta [] [] [] [] (fun _ => E0) (qJk K cs) (qLw cs) :=
  (qAl (ow1 := [2]) (qJn (by decide) (by decide) (qQe qAd))
  (qAl (ow1 := [3, 2]) (qJn (by decide) (by decide) qAo9)
  (qAl (ow1 := [3, 2]) (qAx (by decide) (by decide) qJl)
  (qAl (ow1 := [3, 2]) (qAx (by decide) (by decide) (SF.se (qAmf (qAb (by decide)) qAd)))
  (qAl (ow1 := [3, 2]) (qAx (by decide) (by decide) (SF.se (qO5 (by decide) (by decide) (qIt (qAb (by decide))) (qBy (by decide)) qH5 (qQl (qAp (qAi (fun _ => qAfy) (qAo (T.fld _ hPoly _ (by decide)) (qAb (by decide))) (qEg (fun _ => qD0) (qAa (qAb (by decide)) qAd)))) (qAk Lift.refl qAf (qAa (qAb (by decide)) (qAa (qAb (by decide)) qAd))) (qD2 qAd)))))
  (qAl (ow1 := [3, 2]) (qE5 (by decide) (qFo (qAa (qEg (fun _ => qD0) (qAa (qAb (by decide)) qAd)) qAd)) (qBy (by decide)) (qAl (ow1 := [3, 2]) (qE5 (by decide) (qAhg (qAa (qAb (by decide)) qAd)) (qPt rfl (qDg (by decide) (qDg (by decide) qJi))) (qAl (ow1 := [3, 2]) (qBl (by decide) (qAcx (qAp (qAi (fun _ => qY2) (qAo (T.fld _ hPoly _ (by decide)) (qAb (by decide))) (qAb (by decide)))) (qAp (qAi (fun _ => qAbc) (qAi (fun _ => qArf) (qAi (fun _ => qJ2) (qAb (by decide)) (qAo (T.fld _ hPoly _ (by decide)) (qAb (by decide)))) qAj) qAj))) (qArp (by decide)) (qAn (by decide)))
  (qAl (ow1 := [3, 2]) (qAgr (by decide) (qAk8 (by decide) (qAb (by decide)) (qNp (qAa qCl (qAa qCl qAd)))) (qPt rfl (qDg (by decide) (qDg (by decide) qJi))))
  (qAl (ow1 := [3, 2]) (qAgr (by decide) (qAk Lift.refl qAf (qAa (qAi (fun _ => qAz) (qAb (by decide)) (qAb (by decide))) (qAa (qAb (by decide)) (qAa (qAb (by decide)) qAd)))) (qPt rfl (qDg (by decide) (qDg (by decide) qJi))))
  (qAl (ow1 := [3, 2]) (qApq (by decide) (by decide) (qNp (qAa (qNp (qAa (qAb (by decide)) (qAa (qAb (by decide)) qAd))) (qAa (qAb (by decide)) qAd))) (qAb (by decide)))
  (qAl (ow1 := [3, 2]) (qK1 (by decide) (by decide) (qNp (qAa (qAb (by decide)) (qAa (qAb (by decide)) (qAa (qAb (by decide)) (qAa (qAb (by decide)) qAd))))))
  (qAx (by decide) (by decide) (qAa7 (qAb (by decide)) (qAi (fun _ => (qBe Lift.refl)) (qAb (by decide)) qAj)))))))))
  (qBl (by decide) (qEb (qOh (qAb (by decide)))) (qAq3 (by decide)) (qAn (by decide)))))
  (qL4 (ow1 := []) (by decide) (qAq (by decide) (qAb (by decide))))))))))
def qIa (K : PySem.W.Frag) (cs : List Str) : TS :=
  (tSeq (tFor (iList K (tVar 0)) (gName 1) (tIfS (tNot (tTest (tOp (qIo (He.ga K "Ratio") (lift K (fRB fun a b => decide (b < a))) E0) (tOp (rIxT K) (tVar 1) (tC (.int 3))) (tC (.int 0))))) (tRet (tVar 1)) tNext))
  (tRet (tC .non)))
def qJd (cs : List Str) : FS :=
  (qAy (qGn (qQz (qAe 0)) (qBf 1) (qC1 (qGq (fB (fOp (qBk "Ratio" (fRB fun a b => decide (b < a))) (fOp qEw (qAe 1) (fC (.int 3))) (fC (.int 0))))) (qCr (qAe 1)) qAv))
  (qCr (fC .non)))
theorem qX7 {K : PySem.W.Frag} {cs : List Str} (T : KF K cs) (hRatio : ("Ratio" : Str) ∈ cs) (hPoly : ("Poly" : Str) ∈ cs) : SS K Ta [] [] [] [] (fun _ => E0) (qIa K cs) (qJd cs) :=
  (qAl (ow1 := []) (qE5 (by decide) (qIt (qAb (by decide))) (qBy (by decide)) (qBl (by decide) (qEb (qAp (qAi (fun _ => (qBe Lift.refl)) (qAi (fun _ => qDk) (qAb (by decide)) qAj) qAj))) (qAq (by decide) (qAb (by decide))) (qAn (by decide))))
  (qAq (by decide) qCl))
abbrev slIn (cs : List Str) : FS :=
  (qAy (qC1 (fOr (fB (fOp oGt (qCy "Poly" "degree" (qAe 8)) (qAe 7))) (fB (fOp oNe (fOp oMod (fOp qXp (qAe 7) (qCy "Poly" "degree" (qAe 8))) (fC (.int 2))) (fC (.int 0))))) fCnt qAv)
  (qAy (fAsg (qAhe 3 (qAe 9) (qRs (qAc (fC .non) (qAc (fC .non) qAm)))) (qF7 [10, 11]))
  (qAy (fAsg (qAg (qHr cs) [] (qAc (fOp qBu (qAe 6) (qAe 9)) (qAc (qAe 10) (qAc (qAe 11) qAm)))) (qF7 [12, 13]))
  (qAy (qAk7 3 (qRs (qAc (qRs (qAc (qAe 12) (qAc (qAe 13) qAm))) (qAc (qAe 10) qAm))) (qAe 9))
  (qAy (qQc 2 (qRs (qAc (qAe 7) (qAc (qAe 8) (qAc (qAe 12) (qAc (qAe 13) qAm))))))
  (qCu 4 (qMy (qAe 4) (fOp (qBk "Ratio" (fRB fun a b => decide (b < a))) (qAe 13) (fC (.int 0))))))))))
abbrev qApk (cs : List Str) : FS :=
  (qAy (qGn (fEn (qAc (qAe 5) qAm)) (qF7 [9, 8]) (slIn cs))
  (qC1 (qGq (fB (qAe 4))) fBrk qAv))
theorem qAsg (cs : List Str) : qLw cs = (qAy (qS9 2 (qF1 qAm))
  (qAy (qS9 3 qAl5)
  (qAy (qCu 4 (fC (.bl true)))
  (qAy (qCu 5 (qFb "Place" "all_factors" (qVz cs) (qAe 1) qAm))
  (qAy (qCu 6 (fLc (qQz (qAe 5)) (qBf 8) qI8 (fIf (fB (fOp oLt (qCy "Poly" "degree" (qAe 8)) (fLs qIx (qAc (qAe 0) qAm)))) (qAg qFx [] (qAc (qAe 0) (qAc (qAe 8) qAm))) (qF1 qAm)) [8]))
  (qAy (qGn (qFa (qAc (fLs qIx (qAc (qAe 0) qAm)) qAm)) (qBf 7) (qApk cs))
  (qCr (qAe 2)))))))) := rfl
/-- the row of shifted numbers, as the program keeps it -/
def rwN (ms u : List Rat) : List Rat := if u.length - 1 < ms.length then shL u ms else []
/-- what the dict holds for a factor after c steps -/
def qAav (ms u : List Rat) (c : Nat) : Option D := match c with
  | 0 => none
  | c + 1 => some (.tup [pwD (chN (shL u ms) c).1, pwO (chN (shL u ms) c).2])
abbrev Esl (ms : List Rat) (x y : Option Rat) (fs : List (List Rat)) (fl : List D) (ks : List Key) (ds : List D) (ins : Bool) (v7 v8 v9 v10 v11 v12 v13 : Option D) : Env :=
  [some (.lst (qBj ms)), some (qB0 x y), some (.lst fl), some (.dct ks ds), some (.bl ins), some (.lst (fs.map D.poly)), some (.lst (fs.map fun u => .lst (qBj (rwN ms u)))), v7, v8, v9, v10, v11, v12, v13]
/-- the state of a factor as its two last pairs -/
def qQm (ms u : List Rat) (c : Nat) : Option PW × Option PW := match c with
  | 0 => (none, none)
  | c + 1 => (some (chN (shL u ms) c).1, (chN (shL u ms) c).2)
theorem qAhf (ms u : List Rat) (c : Nat) : (qAav ms u c).getD (.tup [.non, .non]) = .tup [pwO (qQm ms u c).1, pwO (qQm ms u c).2] := by
  cases c <;> rfl
theorem qZd (ms u : List Rat) (c : Nat) : qAam (shL u ms) (qQm ms u c).1 (qQm ms u c).2 = (chN (shL u ms) c).1 ∧ (qQm ms u c).1 = (chN (shL u ms) c).2 := by
  cases c <;> exact ⟨rfl, rfl⟩
theorem qAdb {K : Nat} {ms : List Rat} {fs : List (List Rat)} {a c : Nat} (h : StOk K ms fs a c) {u : List Rat} (hu : u ∈ fs) {k : Nat} (hk : k ≤ K) (hw : ∀ j, j < k → 0 < (chN (shL u ms) j).1.2) : qMf (chN (shL u ms) k).1.2 ((0 : Int) : Rat) := by
  have hb := h.bt
  exact ⟨_, 1, h.worth hu hk hw, qOp, by omega⟩
theorem qAix {cs : List Str} {K : Nat} {ms : List Rat} {fs : List (List Rat)} {a c : Nat} (h : StOk K ms fs a c) {u : List Rat} (hu : u ∈ fs) {k : Nat} (ho : OnN u k) (hk : k < ms.length)
    (hw : ∀ j, j < qBz u k → 0 < (chN (shL u ms) j).1.2) {P : D → Prop} {X : XP} (p : P (pwD (chN (shL u ms) (qBz u k)).1)) : qHr cs [.lst (qBj (rwN ms u)), pwO (qQm ms u (qBz u k)).1, pwO (qQm ms u (qBz u k)).2] P X := by
  obtain ⟨u0, u3, _⟩ := h.cu u hu
  obtain ⟨e1, e2⟩ := qKy u0 ho
  have hlen := h.len
  have er : rwN ms u = shL u ms := by unfold rwN; rw [if_pos (by omega)]
  have el := qApo u ms
  rw [er]
  refine ⟨_, _, _, rfl, fun _ => by omega, fun x hx => ?_, by rw [(qZd ms u _).1]; exact p⟩
  generalize hc : qBz u k = s at *
  cases s with
  | zero => cases hx
  | succ s =>
    cases hx
    obtain ⟨l1, l2⟩ := qFr (shL u ms) s
    have hs := h.step hu (k := s) (by omega) fun j hj => hw j (by omega)
    have h6 := h.k6
    have lx := qAg3 (chN (shL u ms) s).1.1
    have lf := (qFr (shL u ms) (s + 1)).1
    have ef : (chN (shL u ms) (s + 1)).1.1 = fN (shL u ms) (chN (shL u ms) s).1.1 (chN (shL u ms) s).1.2 (chN (shL u ms) s).2 := rfl
    rw [ef] at lf
    have lq := qAhi (fN (shL u ms) (chN (shL u ms) s).1.1 (chN (shL u ms) s).1.2 (chN (shL u ms) s).2)
    refine ⟨hs, Rat.ne_of_gt (hw s (by omega)), fun y hy => ⟨?_, Nat.le_trans (l2 y hy) (by omega)⟩, by omega, by omega, Nat.le_trans lq (by omega)⟩
    have hy' : (chN (shL u ms) s).2 = some y := hy
    cases s with
    | zero => cases hy'
    | succ j => cases hy'; exact Rat.ne_of_gt (hw j (by omega))
theorem qAl7 {xs : List (List Rat)} {f : List Rat → D} {i : Nat} {u : List Rat} (h : xs[i]? = some u) : atI (xs.map f) (i : Int) = some (f u) := qAer (by rw [List.getElem?_map, h]; rfl)
/-- one factor's turn in a round -/
theorem qAn8 {cs : List Str} {ms : List Rat} {x y : Option Rat} {fs : List (List Rat)} {K a c : Nat} (hok : StOk K ms fs a c) {k i : Nat} {u : List Rat} (hi : fs[i]? = some u) (hk : k < ms.length)
    (hw : ∀ j, j < qBz u k → 0 < (chN (shL u ms) j).1.2) {fl : List D} {ks : List Key} {ds : List D} {ins : Bool} {v8 v9 v10 v11 v12 v13 : Option D} {FD : FEnds} (hl : fl.length < 100) (hkl : ks.length < 100)
    (hd : qHu ks ds (.inl (i : Int)) = qAav ms u (qBz u k))
    (off : ¬ OnN u k → ∀ v8 v9 v10 v11 v12 v13, FD.ct (Esl ms x y fs fl ks ds ins (some (.int (k : Int))) v8 v9 v10 v11 v12 v13))
    (on : OnN u k → ∀ d v8 v9 v10 v11 v12 v13, some d = qAav ms u (qBz u k + 1) → FD.nx (Esl ms x y fs (fl ++ [qA9 (qY8 ms u k)]) (qSd ks (.inl (i : Int))) (qVp ks ds (.inl (i : Int)) d) (ins && qQn (qY8 ms u k)) (some (.int (k : Int))) v8 v9 v10 v11 v12 v13)) :
    qF7 [9, 8] (.tup [.int (i : Int), .poly u]) (Esl ms x y fs fl ks ds ins (some (.int (k : Int))) v8 v9 v10 v11 v12 v13) fun ρ => slIn cs FD ρ := by
  have hm : u ∈ fs := List.mem_of_getElem? hi
  obtain ⟨u0, u3, _⟩ := hok.cu u hm
  have e58 : (99 : Nat) < sizeLine := by decide
  simp_arith [slIn, qAhz]
  by_cases ho : OnN u k
  · obtain ⟨c1, c2⟩ := qKy u0 ho
    have h1 : ¬ ((u.length : Int) - 1 > (k : Int)) := by have := ho.1; omega
    have h2 : ((k : Int) - ((u.length : Int) - 1)) % 2 = 0 := by have := ho.1; have := ho.2; omega
    rw [if_neg (fun z => h1 (by have := of_decide_eq_true z; omega))]
    refine ⟨by decide, ?_⟩
    rw [Int.fmod_eq_emod_of_nonneg _ (by decide), decide_eq_true h2]
    have hp := qAhf ms u (qBz u k)
    simp_arith [Bool.not_true, qAhe, qAjo]
    refine ⟨⟨ks, ds, rfl⟩, by decide, ks, ds, (i : Int), rfl, rfl, ?_⟩
    rw [hd, hp]
    simp_arith []
    refine ⟨_, (i : Int), _, .inl rfl, rfl, qAl7 (f := fun u => .lst (qBj (rwN ms u))) hi, ?_⟩
    refine qAix hok hm ho hk hw ?_
    rw [show (chN (shL u ms) (qBz u k)).1 = ((chN (shL u ms) (qBz u k)).1.1, (chN (shL u ms) (qBz u k)).1.2) from rfl, qAif]
    have hz := qAdb hok hm (k := qBz u k) (by have := hok.len; omega) hw
    simp_arith [qAk7, qO1]
    have ed : some (D.tup [.tup [.poly (chN (shL u ms) (qBz u k)).1.1, .rat (chN (shL u ms) (qBz u k)).1.2], pwO (qQm ms u (qBz u k)).1]) = qAav ms u (qBz u k + 1) := by
      rw [(qZd ms u (qBz u k)).2]
      rfl
    have es : qA9 (qY8 ms u k) = .tup [.int ((k : Nat) : Int), .poly u, .poly (chN (shL u ms) (qBz u k)).1.1, .rat (chN (shL u ms) (qBz u k)).1.2] := rfl
    have ep : qQn (qY8 ms u k) = decide (0 < (chN (shL u ms) (qBz u k)).1.2) := rfl
    have on' := fun v8 v9 v10 v11 v12 v13 => on ho _ v8 v9 v10 v11 v12 v13 ed
    rw [es, ep] at on'
    refine ⟨by decide, by decide, ks, ds, (i : Int), rfl, rfl, Nat.lt_of_lt_of_le hkl (by decide), by decide, Nat.lt_of_lt_of_le hl (by decide), ?_⟩
    cases ins with
    | true =>
      rw [if_pos rfl]
      refine ⟨hz, ?_⟩
      rw [Rat.intCast_zero]
      have := on' (some (.poly u)) (some (.int (i : Int))) (some (pwO (qQm ms u (qBz u k)).1)) (some (pwO (qQm ms u (qBz u k)).2)) (some (.poly (chN (shL u ms) (qBz u k)).1.1)) (some (.rat (chN (shL u ms) (qBz u k)).1.2))
      rw [Bool.true_and] at this
      exact this
    | false =>
      rw [if_neg (by decide)]
      exact on' (some (.poly u)) (some (.int (i : Int))) (some (pwO (qQm ms u (qBz u k)).1)) (some (pwO (qQm ms u (qBz u k)).2)) (some (.poly (chN (shL u ms) (qBz u k)).1.1)) (some (.rat (chN (shL u ms) (qBz u k)).1.2))
  · have of' := off ho
    by_cases h1 : (u.length : Int) - 1 > (k : Int)
    · rw [if_pos (decide_eq_true h1)]
      exact of' _ _ _ _ _ _
    · rw [if_neg (fun z => h1 (by have := of_decide_eq_true z; omega))]
      have h2 : ¬ ((k : Int) - ((u.length : Int) - 1)) % 2 = 0 := fun z => ho ⟨by omega, by omega⟩
      refine ⟨by decide, ?_⟩
      rw [Int.fmod_eq_emod_of_nonneg _ (by decide), decide_eq_false h2]
      exact of' _ _ _ _ _ _
theorem qWz {cs : List Str} {ms : List Rat} {x y : Option Rat} {fs : List (List Rat)} {K a c : Nat} (hok : StOk K ms fs a c) (h4 : fs.length ≤ 4) {k : Nat} (hk : k < ms.length)
    (hw : ∀ u, u ∈ fs → ∀ j, j < qBz u k → 0 < (chN (shL u ms) j).1.2) {fl : List D} (hl : fl.length ≤ 4 * k) {FD : FEnds}
    (kont : ∀ ks ds ins v8 v9 v10 v11 v12 v13, (∀ (j : Nat) u, fs[j]? = some u → qHu ks ds (.inl (j : Int)) = qAav ms u (qBz u (k + 1))) → ks.length = ds.length → ks.length ≤ 4 * (k + 1) → ins = (qI7 ms fs k).all qQn →
      FD.nx (Esl ms x y fs (fl ++ (qI7 ms fs k).map qA9) ks ds ins (some (.int (k : Int))) v8 v9 v10 v11 v12 v13)) :
    ∀ (us : List (List Rat)) (i : Nat) (pre : List (List Rat)) (ks : List Key) (ds : List D) (ins : Bool) (v8 v9 v10 v11 v12 v13 : Option D), fs = pre ++ us → pre.length = i →
      (∀ (j : Nat) u, fs[j]? = some u → qHu ks ds (.inl (j : Int)) = qAav ms u (if j < i then qBz u (k + 1) else qBz u k)) → ks.length = ds.length → ks.length ≤ 4 * k + i → ins = (qI7 ms pre k).all qQn →
      qCk (qF7 [9, 8]) (slIn cs) FD (enD (us.map D.poly) i) (Esl ms x y fs (fl ++ (qI7 ms pre k).map qA9) ks ds ins (some (.int (k : Int))) v8 v9 v10 v11 v12 v13)
  | [], i, pre, ks, ds, ins, v8, v9, v10, v11, v12, v13, e, hi, hd, hkd, hkl, hin => by
    rw [List.append_nil] at e
    subst e
    refine kont ks ds ins v8 v9 v10 v11 v12 v13 (fun j u hu => ?_) hkd (by omega) hin
    rw [hd j u hu, if_pos (by have := (List.getElem?_eq_some_iff.mp hu).1; omega)]
  | u :: us, i, pre, ks, ds, ins, v8, v9, v10, v11, v12, v13, e, hi, hd, hkd, hkl, hin => by
    have hu : fs[i]? = some u := by
      rw [e, List.getElem?_append_right (by omega), hi, Nat.sub_self]
      rfl
    have hm : u ∈ fs := List.mem_of_getElem? hu
    obtain ⟨u0, _⟩ := hok.cu u hm
    have e' : fs = (pre ++ [u]) ++ us := by rw [e, List.append_assoc]; rfl
    have hk14 : k ≤ 15 := by have := hok.len; have := hok.k6; omega
    have hi4 : i < fs.length := (List.getElem?_eq_some_iff.mp hu).1
    have er : qI7 ms (pre ++ [u]) k = qI7 ms pre k ++ (if OnN u k then [qY8 ms u k] else []) := qAdt ms k pre [u]
    have hrl := qQ8 ms k pre
    rw [List.map_cons, qSp]
    unfold qCk
    refine qAn8 hok hu hk (hw u hm) ?_ ?_ ?_ (fun ho v8 v9 v10 v11 v12 v13 => ?_) (fun ho d v8 v9 v10 v11 v12 v13 ed => ?_)
    · rw [List.length_append, List.length_map]; omega
    · omega
    · rw [hd i u hu, if_neg (by omega)]
    · rw [if_neg ho, List.append_nil] at er
      have := qWz (cs := cs) hok h4 hk hw hl kont us (i + 1) (pre ++ [u]) ks ds ins v8 v9 v10 v11 v12 v13 e' (by simp; omega) (fun j w hj => ?_) hkd (by omega) (by rw [er]; exact hin)
      · rw [er] at this
        exact this
      · rw [hd j w hj]
        by_cases hj1 : j < i
        · rw [if_pos hj1, if_pos (by omega)]
        · rw [if_neg hj1]
          by_cases hj2 : j = i
          · subst hj2
            rw [hu] at hj
            cases hj
            rw [if_pos (by omega), qVt u0 ho]
          · rw [if_neg (by omega)]
    · rw [if_pos ho] at er
      have := qWz (cs := cs) hok h4 hk hw hl kont us (i + 1) (pre ++ [u]) (qSd ks (.inl (i : Int))) (qVp ks ds (.inl (i : Int)) d) (ins && qQn (qY8 ms u k)) v8 v9 v10 v11 v12 v13 e' (by simp; omega) (fun j w hj => ?_) (qAma hkd) (by have := qAic (ks := ks) (x := .inl (i : Int)); omega) (by rw [er, List.all_append, hin]; simp)
      · rw [er, List.map_append, ← List.append_assoc] at this
        exact this
      · rw [qAmo hkd]
        by_cases hj2 : j = i
        · subst hj2
          rw [hu] at hj
          cases hj
          rw [if_pos rfl, if_pos (by omega), ed, (qKy u0 ho).1]
        · rw [if_neg (fun z => hj2 (by have := Sum.inl.inj z; omega)), hd j w hj]
          by_cases hj1 : j < i
          · rw [if_pos hj1, if_pos (by omega)]
          · rw [if_neg hj1, if_neg (by omega)]

theorem qAee (x y : Option Rat) : (qKm x y).length ≤ 4 := by
  cases x <;> cases y <;> simp [qKm]
theorem qAej {cs : List Str} {ms : List Rat} {x y : Option Rat} {fs : List (List Rat)} {K a c : Nat} (hok : StOk K ms fs a c) (h4 : fs.length ≤ 4) {FD : FEnds}
    (kont : ∀ fl ks ds ins v7 v8 v9 v10 v11 v12 v13, fl = (goN ms fs ms.length 0).map qA9 → FD.nx (Esl ms x y fs fl ks ds ins v7 v8 v9 v10 v11 v12 v13)) :
    ∀ (r k : Nat) (Fo : List Step) (ks : List Key) (ds : List D) (v7 v8 v9 v10 v11 v12 v13 : Option D), k + r = ms.length → goN ms fs ms.length 0 = Fo ++ goN ms fs r k → Fo.length ≤ 4 * k →
      (∀ u, u ∈ fs → ∀ j, j < qBz u k → 0 < (chN (shL u ms) j).1.2) → (∀ (j : Nat) u, fs[j]? = some u → qHu ks ds (.inl (j : Int)) = qAav ms u (qBz u k)) → ks.length = ds.length → ks.length ≤ 4 * k →
      qCk (qBf 7) (qApk cs) FD (qKx (k : Int) r) (Esl ms x y fs (Fo.map qA9) ks ds true v7 v8 v9 v10 v11 v12 v13)
  | 0, k, Fo, ks, ds, v7, v8, v9, v10, v11, v12, v13, hr, hg, hl, hw, hd, hkd, hkl => by
    rw [goN, List.append_nil] at hg
    exact kont _ _ _ _ _ _ _ _ _ _ _ (by rw [hg])
  | r + 1, k, Fo, ks, ds, v7, v8, v9, v10, v11, v12, v13, hr, hg, hl, hw, hd, hkd, hkl => by
    have hk : k < ms.length := by omega
    rw [qGj]
    unfold qCk
    simp_arith [qApk, qGn, fEn]
    have hg2 : goN ms fs (r + 1) k = qI7 ms fs k ++ (if (qI7 ms fs k).all qQn then goN ms fs r (k + 1) else []) := rfl
    have hrl := qQ8 ms k fs
    have e0 : Fo.map qA9 = Fo.map qA9 ++ (qI7 ms [] k).map qA9 := (List.append_nil _).symm
    rw [e0]
    refine qWz (cs := cs) hok h4 hk hw (fl := Fo.map qA9) (by rw [List.length_map]; exact hl) (fun ks ds ins v8 v9 v10 v11 v12 v13 hd hkd hkl hin => ?_) fs 0 [] ks ds true v8 v9 v10 v11 v12 v13 rfl rfl (fun j u hu => by rw [if_neg (by omega)]; exact hd j u hu) hkd hkl rfl
    rw [← List.map_append]
    cases ha : (qI7 ms fs k).all qQn with
    | true =>
      rw [hin, ha]
      rw [ha, if_pos rfl] at hg2
      rw [hg2, ← List.append_assoc] at hg
      simp_arith [Bool.not_true]
      have st := qAej (cs := cs) hok h4 kont r (k + 1) (Fo ++ qI7 ms fs k) ks ds (some (.int (k : Int))) v8 v9 v10 v11 v12 v13 (by omega) hg (by rw [List.length_append]; omega) (fun u hu j hj => ?_) hd hkd (by omega)
      · rw [show ((k + 1 : Nat) : Int) = (k : Int) + 1 from rfl] at st
        exact st
      · by_cases hj1 : j < qBz u k
        · exact hw u hu j hj1
        · have u0 := (hok.cu u hu).1
          by_cases ho : OnN u k
          · have := (qKy u0 ho).1
            rw [show j = qBz u k by omega]
            have hp := List.all_eq_true.mp ha _ (qVx (ms := ms) hu ho)
            exact of_decide_eq_true hp
          · have := qVt u0 ho
            omega
    | false =>
      rw [hin, ha]
      rw [ha, if_neg (by decide), List.append_nil] at hg2
      rw [hg2] at hg
      simp_arith [Bool.not_false]
      exact kont _ _ _ _ _ _ _ _ _ _ _ (by rw [hg])
theorem qAjf {ms u : List Rat} {P : D → Prop} {X : XP} (hl : u.length ≤ ms.length) (hm : ms.length ≤ 1000) (h : ∀ k, qZ5 u (ms.drop k)) (p : P (.lst (qBj (shL u ms)))) : qFx [.lst (qBj ms), .poly u] P X := ⟨ms, u, rfl, hl, hm, h, p⟩
theorem qAa8 {cs : List Str} (hR : ("Ratio" : Str) ∈ cs) (hP : ("Poly" : Str) ∈ cs) (hPl : ("Place" : Str) ∈ cs) (ds : List D) (P : D → Prop) (X : XP) (h : qFy cs ds P X) : qLw cs (qFj P X0) (qA0 14 ds) := by
  obtain ⟨ms, x, y, K, al, c, rfl, hpl, hok, p⟩ := h
  have i2 := qApj (m := "all_factors") x y (by decide)
  have hlen := hok.len
  have hk6 := hok.k6
  rw [qAsg]
  simp only [qAy, qC1, fB, qUl, qAe, fC, fOp, fUn, fLs, qCr, qXi, qFc, qAg, qAc, qAm, qAv, qXo, qCy, qCu, qS9, qWq, fAsg, fPar, qGq, qRh, fOr, qMy, fOrV, qUz, fIf, fTru, qF1, qRs, qU9, qFb, qBf, qEq, qFm, fBr, fBor, qQc, qLx, fAug, qNd, qI8, fSl, qF9, qQq, qQz, fItT, fIt, qQo, fBrk, fCnt, qFj, qA0, toB, oI, oI0, qQ7, oAbs, oMax, oMin, qXq, qGl, qGo, qQh, qJp, oCat, oIsB, qW0, oEq, oNe, eqD, qRf, qJc, isN, qM1, qM7, qN1, qM6, qMz, qNg, qTc, qU7, qWn, qH9, qIl, qIg, qMx, qIf, qTp, qW6, qXb, qV3, qVu, qW3, qUu, qNl, qM3, qN5, qNm, qTs, qVb, qMt, qNy, qBu, qEw, List.map_cons, List.map_nil, List.cons_append, List.nil_append, List.length_cons, List.length_nil, List.getElem?_cons_zero, List.getElem?_cons_succ, List.set_cons_zero, List.set_cons_succ, List.replicate_succ, List.replicate_zero, Option.some.injEq, exists_eq_left', qGi, qFi, if_true, if_false, List.append_nil, true_and, and_true, true_or, or_true, Bool.false_eq_true, Bool.true_eq_false, reduceCtorEq, Nat.add_one_sub_one, Nat.reduceSub, Nat.reduceAdd, Nat.sub_self, Nat.zero_add, Nat.add_sub_cancel, i2]
  refine ⟨by decide, by decide, by decide, ?_⟩
  simp only [qAy, qC1, fB, qUl, qAe, fC, fOp, fUn, fLs, qCr, qXi, qFc, qAg, qAc, qAm, qAv, qXo, qCy, qCu, qS9, qWq, fAsg, fPar, qGq, qRh, fOr, qMy, fOrV, qUz, fIf, fTru, qF1, qRs, qU9, qFb, qBf, qEq, qFm, fBr, fBor, qQc, qLx, fAug, qNd, qI8, fSl, qF9, qQq, qQz, fItT, fIt, qQo, fBrk, fCnt, qFj, qA0, toB, oI, oI0, qQ7, oAbs, oMax, oMin, qXq, qGl, qGo, qQh, qJp, oCat, oIsB, qW0, oEq, oNe, eqD, qRf, qJc, isN, qM1, qM7, qN1, qM6, qMz, qNg, qTc, qU7, qWn, qH9, qIl, qIg, qMx, qIf, qTp, qW6, qXb, qV3, qVu, qW3, qUu, qNl, qM3, qN5, qNm, qTs, qVb, qMt, qNy, qBu, qEw, List.map_cons, List.map_nil, List.cons_append, List.nil_append, List.length_cons, List.length_nil, List.getElem?_cons_zero, List.getElem?_cons_succ, List.set_cons_zero, List.set_cons_succ, List.replicate_succ, List.replicate_zero, Option.some.injEq, exists_eq_left', qGi, qFi, if_true, if_false, List.append_nil, true_and, and_true, true_or, or_true, Bool.false_eq_true, Bool.true_eq_false, reduceCtorEq, Nat.add_one_sub_one, Nat.reduceSub, Nat.reduceAdd, Nat.sub_self, Nat.zero_add, Nat.add_sub_cancel, i2, qAl5]
  refine ⟨x, y, rfl, hpl, ?_⟩
  simp only [qAy, qC1, fB, qUl, qAe, fC, fOp, fUn, fLs, qCr, qXi, qFc, qAg, qAc, qAm, qAv, qXo, qCy, qCu, qS9, qWq, fAsg, fPar, qGq, qRh, fOr, qMy, fOrV, qUz, fIf, fTru, qF1, qRs, qU9, qFb, qBf, qEq, qFm, fBr, fBor, qQc, qLx, fAug, qNd, qI8, fSl, qF9, qQq, qQz, fItT, fIt, qQo, fBrk, fCnt, qFj, qA0, toB, oI, oI0, qQ7, oAbs, oMax, oMin, qXq, qGl, qGo, qQh, qJp, oCat, oIsB, qW0, oEq, oNe, eqD, qRf, qJc, isN, qM1, qM7, qN1, qM6, qMz, qNg, qTc, qU7, qWn, qH9, qIl, qIg, qMx, qIf, qTp, qW6, qXb, qV3, qVu, qW3, qUu, qNl, qM3, qN5, qNm, qTs, qVb, qMt, qNy, qBu, qEw, List.map_cons, List.map_nil, List.cons_append, List.nil_append, List.length_cons, List.length_nil, List.getElem?_cons_zero, List.getElem?_cons_succ, List.set_cons_zero, List.set_cons_succ, List.replicate_succ, List.replicate_zero, Option.some.injEq, exists_eq_left', qGi, qFi, if_true, if_false, List.append_nil, true_and, and_true, true_or, or_true, Bool.false_eq_true, Bool.true_eq_false, reduceCtorEq, Nat.add_one_sub_one, Nat.reduceSub, Nat.reduceAdd, Nat.sub_self, Nat.zero_add, Nat.add_sub_cancel, i2, fLc, qIv]
  refine lc_list D.poly (fun u => .lst (qBj (rwN ms u))) (qKm x y) [] (fun u hu Q q => ?_) (by have := qAee x y; exact Nat.lt_of_le_of_lt (show _ ≤ 4 by simpa using this) (by decide)) ?_
  · obtain ⟨u0, u3, d, hd⟩ := hok.cu u hu
    obtain ⟨M, hM⟩ := hok.cm
    have hb := hok.bt
    simp_arith [qAhz, qBq]
    unfold rwN at q
    by_cases h1 : u.length - 1 < ms.length
    · rw [if_pos h1] at q
      rw [if_pos (decide_eq_true (by omega))]
      exact qAjf (by omega) (by omega) (fun k => hd.dotSz (hM.drop k) (by omega) (by omega)) q
    · rw [if_neg h1] at q
      rw [if_neg (fun z => h1 (by have := of_decide_eq_true z; omega))]
      exact ⟨by decide, q⟩
  · simp_arith [qGn, qFa, qBq]
    refine ⟨by omega, by omega, ?_⟩
    rw [Int.toNat_natCast]
    refine qAej (cs := cs) (fs := qKm x y) hok (qAee x y) (fun fl ks ds ins v7 v8 v9 v10 v11 v12 v13 e => ?_) ms.length 0 [] [] [] none none none none none none none (by omega) rfl (by simp) (fun u hu j hj => ?_) (fun j u hu => ?_) rfl (by simp)
    · simp_arith []
      rw [e]
      exact p
    · have := (hok.cu u hu).1
      unfold qBz at hj
      omega
    · have := (hok.cu u (List.mem_of_getElem? hu)).1
      have e : qBz u 0 = 0 := by unfold qBz; omega
      rw [e]
      rfl

theorem qAgw {FD : FEnds} {d0 : D} : ∀ (l : List Step) (v1 : Option D), (∀ s, s ∈ l → qMf s.2.2.2 ((0 : Int) : Rat)) → (∀ s, qH1 l = some s → FD.rt (qA9 s)) → (qH1 l = none → ∀ v1, FD.nx [some d0, v1]) →
    qCk (qBf 1) (qC1 (qGq (fB (fOp (qBk "Ratio" (fRB fun a b => decide (b < a))) (fOp qEw (qAe 1) (fC (.int 3))) (fC (.int 0))))) (qCr (qAe 1)) qAv) FD (l.map qA9) [some d0, v1]
  | [], v1, _, _, h => h rfl v1
  | s :: l, v1, hz, h1, h2 => by
    rw [List.map_cons]
    unfold qCk
    have hs : qH1 (s :: l) = if qQn s then qH1 l else some s := by
      unfold qH1
      rw [List.find?_cons]
      cases qQn s <;> rfl
    rw [hs] at h1 h2
    simp_arith [qA9, qO1]
    refine ⟨_, 3, .rat s.2.2.2, .inr rfl, rfl, rfl, ?_⟩
    simp_arith [qO1]
    refine ⟨hz s List.mem_cons_self, ?_⟩
    rw [Rat.intCast_zero]
    have ep : decide (0 < s.2.2.2) = qQn s := rfl
    rw [ep]
    cases e : qQn s with
    | true =>
      rw [e, if_pos rfl] at h1 h2
      simp_arith [Bool.not_true]
      exact qAgw l _ (fun t ht => hz t (List.mem_cons_of_mem _ ht)) h1 h2
    | false =>
      rw [e, if_neg (by decide)] at h1 h2
      simp_arith [Bool.not_false]
      exact h1 s rfl
theorem qY4 {cs : List Str} (hR : ("Ratio" : Str) ∈ cs) (hP : ("Poly" : Str) ∈ cs) (ds : List D) (P : D → Prop) (X : XP) (h : qE3 ds P X) : qJd cs (qFj P X0) (qA0 2 ds) := by
  obtain ⟨l, rfl, hz, p⟩ := h
  simp_arith [qJd, qGn]
  refine qAgw l none hz (fun s hs => ?_) (fun hs v1 => ?_)
  · rw [hs] at p
    exact p
  · rw [hs] at p
    exact p
theorem qArl {n : Nat} {d : Int} {r : List Rat} (h : Cd n d r) (hn : Nrm r) : ∃ e, Cd n e (monM r) := by
  unfold monM
  rw [hn]
  by_cases h0 : r.length = 0
  · have : r = [] := List.length_eq_zero_iff.mp h0
    subst this
    exact ⟨d, h.pos, h.le, fun i => by rw [List.map_nil, qBb (Nat.zero_le _)]; exact Ov.zero⟩
  · have ld : qI5 r ≠ 0 := qAk3 hn (by omega)
    obtain ⟨l, el, ll⟩ := h.ov (r.length - 1)
    have el' : qI5 r * (d : Rat) = (l : Rat) := el
    have nd := qPh h.pos
    have l0 : l ≠ 0 := fun z => by
      rw [z, Rat.intCast_zero] at el'
      rcases Rat.mul_eq_zero.mp el' with z | z
      · exact ld z
      · exact nd z
    have nl : (l : Rat) ≠ 0 := fun z => l0 (Rat.intCast_inj.mp (z.trans Rat.intCast_zero.symm))
    refine ⟨l.natAbs, by omega, by rw [Int.natAbs_natCast]; exact ll, fun i => ?_⟩
    have ec : coef (r.map fun c => c / qI5 r) i = coef r i / qI5 r := by
      unfold coef
      rw [List.getElem?_map]
      cases r[i]? with
      | none => show (0 : Rat) = 0 / _; rw [Rat.div_def, Rat.zero_mul]
      | some v => rfl
    rw [ec]
    obtain ⟨z, ez, lz⟩ := h.ov i
    have key : coef r i / qI5 r * (l : Rat) = (z : Rat) := by
      rw [← ez, ← el']
      grind
    by_cases hl : 0 ≤ l
    · refine ⟨z, ?_, lz⟩
      rw [show ((l.natAbs : Nat) : Int) = l by omega]
      exact key
    · refine ⟨-z, ?_, by omega⟩
      rw [show ((l.natAbs : Nat) : Int) = -l by omega, Rat.intCast_neg, Rat.intCast_neg, ← key]
      grind
/-- where the list of steps comes from: positive before, a step of the list -/
theorem qAh6 {ms : List Rat} {fs : List (List Rat)} (h0 : ∀ u, u ∈ fs → 0 < u.length) : ∀ (r k : Nat), (∀ u, u ∈ fs → ∀ j, j < qBz u k → 0 < (chN (shL u ms) j).1.2) → ∀ s, s ∈ goN ms fs r k → ∃ u i, u ∈ fs ∧ OnN u i ∧ k ≤ i ∧ i < k + r ∧ s = qY8 ms u i ∧ (∀ v, v ∈ fs → ∀ j, j < qBz v i → 0 < (chN (shL v ms) j).1.2)
  | 0, k, hw, s, hs => by simp [goN] at hs
  | r + 1, k, hw, s, hs => by
    rw [goN] at hs
    rcases List.mem_append.mp hs with hs | hs
    · obtain ⟨u, h1, h2, h3⟩ := qVc hs
      exact ⟨u, k, h1, h2, Nat.le_refl _, by omega, h3, hw⟩
    · split at hs
      · rename_i ha
        obtain ⟨u, i, h1, h2, h3, h4, h5⟩ := qAh6 h0 r (k + 1) (fun u hu j hj => by
          by_cases hj1 : j < qBz u k
          · exact hw u hu j hj1
          · by_cases ho : OnN u k
            · have := (qKy (h0 u hu) ho).1
              rw [show j = qBz u k by omega]
              exact of_decide_eq_true (List.all_eq_true.mp ha _ (qVx (ms := ms) hu ho))
            · have := qVt (h0 u hu) ho
              omega) s hs
        exact ⟨u, i, h1, h2, by omega, by omega, h5⟩
      · cases hs
theorem qAmx {u : List Rat} (h : 0 < u.length) : qBz u 0 = 0 := by unfold qBz; omega
structure StepOk (K : Nat) (ms : List Rat) (fs : List (List Rat)) (a c : Nat) (s : Step) : Prop where
  w : qMf s.2.2.2 ((0 : Int) : Rat)
  bo : BoSz s
  un : UnSz ms (qAcr s)
  len : s.2.1.length + s.2.2.1.length ≤ ms.length + 1
  l8 : s.2.1.length ≤ 3 ∧ s.2.2.1.length ≤ K + 1
  num : s.1 < ms.length
  fac : s.2.1 ∈ fs
theorem qAsx {K : Nat} {ms : List Rat} {fs : List (List Rat)} {a c : Nat} (h : StOk K ms fs a c) : ∀ s, s ∈ goN ms fs ms.length 0 → StepOk K ms fs a c s := by
  intro s hs
  have h0 : ∀ u, u ∈ fs → 0 < u.length := fun u hu => (h.cu u hu).1
  obtain ⟨u, i, hu, ho, _, hi, rfl, hw⟩ := qAh6 h0 ms.length 0 (fun u hu j hj => by rw [qAmx (h0 u hu)] at hj; omega) s hs
  obtain ⟨u0, u3, d, hd⟩ := h.cu u hu
  obtain ⟨e1, e2⟩ := qKy u0 ho
  obtain ⟨M, hM⟩ := h.cm
  have hl := h.len
  have h6 := h.k6
  have hb := h.bt
  have hK : qBz u i ≤ K := by omega
  obtain ⟨dp, hp⟩ := h.lv hu hK fun j hj => hw u hu j hj
  obtain ⟨lp, _⟩ := qFr (shL u ms) (qBz u i)
  have cm : Cd (a + tbN (a + c + 4) K + 4) (d * dp) (strip (qF5 u (chN (shL u ms) (qBz u i)).1.1)) := (hd.mul hp (by omega)).strip
  obtain ⟨e, ce⟩ := qArl cm (qZ4 _)
  have l1 := qDt (monM (strip (qF5 u (chN (shL u ms) (qBz u i)).1.1)))
  have l2 := qAmn (strip (qF5 u (chN (shL u ms) (qBz u i)).1.1))
  have l3 := qDt (qF5 u (chN (shL u ms) (qBz u i)).1.1)
  have l4 := qIb u (chN (shL u ms) (qBz u i)).1.1
  refine ⟨qAdb h hu hK fun j hj => hw u hu j hj, ⟨_, _, _, _, hd, hp, by omega, (show u.length ≤ 8 by omega), (show (chN (shL u ms) (qBz u i)).1.1.length ≤ 8 by omega)⟩, ⟨_, _, _, _, ce.strip, hM, by omega, by omega, ?_⟩, ?_, ⟨u3, (show (chN (shL u ms) (qBz u i)).1.1.length ≤ K + 1 by omega)⟩, (show i < ms.length by omega), hu⟩
  · show (strip (monM (strip (qF5 u (chN (shL u ms) (qBz u i)).1.1)))).length ≤ _
    omega
  · show u.length + (chN (shL u ms) (qBz u i)).1.1.length ≤ _
    omega
theorem qWs {K : PySem.W.Frag} {cs : List Str} (vs : List V) (H : Hp) (Q : VK) (E : XK) (h : (lift K (qFy cs)) vs H Q E) : vs.length = 2 := qAr (fun ds P X h => by unfold qFy at h; first | ((repeat (first | (obtain ⟨rfl, _⟩ := h; exact rfl) | obtain ⟨_, h⟩ := h)); done) | (split at h <;> first | rfl | exact h.elim)) h
theorem qZj {K : PySem.W.Frag} {cs : List Str} (T : KF K cs) (hRatio : ("Ratio" : Str) ∈ cs) (hPoly : ("Poly" : Str) ∈ cs) (hPlace : ("Place" : Str) ∈ cs) (vs : List V) (H : Hp) (Q : VK) (E : XK) (h : (lift K (qFy cs)) vs H Q E) : qJk K cs { nx := fun _ H' => Q .non H', rt := Q } (start ["numbers", "place", "found", "last", "inside", "factors", "shifted", "k", "u", "which", "previous", "before", "p", "worth"] vs) H :=
  qCx rfl (qAax T hRatio hPoly hPlace) (qAa8 hRatio hPoly hPlace) vs H Q E h
theorem qTf {K : PySem.W.Frag} {cs : List Str} (vs : List V) (H : Hp) (Q : VK) (E : XK) (h : (lift K qE3) vs H Q E) : vs.length = 1 := qAr (fun ds P X h => by unfold qE3 at h; first | ((repeat (first | (obtain ⟨rfl, _⟩ := h; exact rfl) | obtain ⟨_, h⟩ := h)); done) | (split at h <;> first | rfl | exact h.elim)) h
theorem qWm {K : PySem.W.Frag} {cs : List Str} (T : KF K cs) (hRatio : ("Ratio" : Str) ∈ cs) (hPoly : ("Poly" : Str) ∈ cs) (vs : List V) (H : Hp) (Q : VK) (E : XK) (h : (lift K qE3) vs H Q E) : qIa K cs { nx := fun _ H' => Q .non H', rt := Q } (start ["found", "step"] vs) H :=
  qCx rfl (qX7 T hRatio hPoly) (qY4 hRatio hPoly) vs H Q E h
end MR

set_option Elab.async false
set_option linter.all false
set_option maxRecDepth 100000
set_option maxHeartbeats 4000000
set_option exponentiation.threshold 20000
namespace MR
open PySem PySem.Spec PyProof.Rows L2
/-! ### what the laws draw -/
structure Scene where
  shape : Int
  low : Int
  high : Int
  bottom : Int
  tops : List Int
  parts : List Int
  under : Int
structure Scene.Ok (s : Scene) (most : Nat) : Prop where
  sh : s.shape = 0 ∨ s.shape = 1 ∨ s.shape = 2
  lh : s.low < s.high
  lo : -1000000 ≤ s.low
  hi : s.high ≤ 3000001
  b0 : 0 < s.bottom
  b1 : s.bottom ≤ 1000
  len : s.tops.length = s.parts.length
  most : s.tops.length ≤ most
  nd : s.tops.Nodup
  top : ∀ t, t ∈ s.tops → s.low ≤ t ∧ t ≤ 3000001 ∧ (s.shape = 2 → t ≤ s.high)
  part : ∀ w, w ∈ s.parts → 0 < w ∧ w ≤ 1000000
  u0 : 0 < s.under
  u1 : s.under ≤ 60
theorem pw {a n : Int} (h : CPow a n) : CPow a n := h
end MR

set_option Elab.async false
set_option linter.all false
set_option maxRecDepth 100000
set_option maxHeartbeats 4000000
set_option exponentiation.threshold 20000
namespace MR
open PySem PySem.Spec PyProof.Rows L2
/-! ### rows of scenes -/
theorem qAp8 {l h b : Int} (b0 : 0 < b) (hl : l < h) : Rat.divInt l b < Rat.divInt h b := by
  have b1 : (0 : Rat) < (b : Rat) := Rat.intCast_lt_intCast.mpr b0
  have l1 : (l : Rat) < (h : Rat) := Rat.intCast_lt_intCast.mpr hl
  rw [Rat.divInt_eq_div, Rat.divInt_eq_div, Rat.div_def, Rat.div_def]
  exact Rat.mul_lt_mul_of_pos_right l1 (Rat.inv_pos.mpr b1)
end MR

set_option Elab.async false
set_option linter.all false
set_option maxRecDepth 100000
set_option maxHeartbeats 4000000
set_option exponentiation.threshold 20000
namespace MR
open PySem PySem.Spec PyProof.Rows L2
end MR

set_option Elab.async false
set_option linter.all false
set_option maxRecDepth 100000
set_option maxHeartbeats 4000000
set_option exponentiation.threshold 20000
namespace MR
open PySem PySem.Spec PyProof.Rows L2
/-! ### whole numbers -/
/-! ### how long Euclid runs -/
section
variable {a b : List Int} {n m : Nat} {FD : FEnds}
end
end MR

set_option Elab.async false
set_option linter.all false
set_option maxRecDepth 100000
set_option maxHeartbeats 4000000
set_option exponentiation.threshold 20000
namespace MR
open PySem PySem.Spec PyProof.Rows L2
/-! ### Ratios read back -/
def ndP (q : Rat) : Int × Int := (q.num, ((q.den : Nat) : Int))
structure SzW (n : Nat) (p : Int × Int) : Prop where
  a : p.1.natAbs < 2 ^ n
  b : p.2.natAbs < 2 ^ n
theorem qArk {n : Nat} {q : Rat} (h : Sz n q) : SzW n (ndP q) := ⟨h.num, dsz h⟩
end MR

set_option Elab.async false
set_option linter.all false
set_option maxRecDepth 100000
set_option maxHeartbeats 4000000
set_option exponentiation.threshold 20000
namespace MR
open PySem PySem.Spec PyProof.Rows L2
/-- factor, base and other of a bar, small -/
structure BarOk (f b : List Rat) (o : Option (List Rat)) : Prop where
  zf : SzL 100 f
  zb : SzL 100 b
  zo : ∀ q, o = some q → SzL 100 q ∧ q.length ≤ 6
  lf : f.length ≤ 3
  lb : b.length ≤ 6
theorem qAhu {cs es : List Rat} {n m : Nat} (z1 : SzL n cs) (z2 : SzL m es) (n0 : 0 < n) (m0 : 0 < m) : SzL (1 + cs.length * (n + m + 1)) (qF5 cs es) := fun c hc => by
  unfold qF5 at hc
  split at hc
  · simp at hc
  · obtain ⟨k, _, rfl⟩ := List.mem_map.mp hc
    exact qAbl z1 z2 n0 m0 _ _
theorem qAhx (cs es : List Rat) : (qF5 cs es).length ≤ cs.length + es.length := by
  unfold qF5
  split
  · simp
  · simp
section
variable {f b : List Rat} {o : Option (List Rat)} {q : List Rat}
theorem BarOk.m1 (h : BarOk f b o) : MulSz f b := qRx h.zf h.zb (by decide) (by decide) (Nat.le_trans (Nat.mul_le_mul_right _ (show f.length + 1 ≤ 4 by have := h.lf; omega)) (by decide))
theorem BarOk.z1 (h : BarOk f b o) : SzL 604 (strip (qF5 f b)) := qAaj fun c hc => (qAhu h.zf h.zb (by decide) (by decide) c hc).mono (by
  have : f.length * (100 + 100 + 1) ≤ 3 * (100 + 100 + 1) := Nat.mul_le_mul_right _ h.lf
  omega)
theorem BarOk.l1 (h : BarOk f b o) : (strip (qF5 f b)).length ≤ 9 := Nat.le_trans (qAeg _) (Nat.le_trans (qAhx f b) (by have := h.lf; have := h.lb; omega))
theorem BarOk.m2 (h : BarOk f b o) (zq : SzL 100 q) : MulSz (strip (qF5 f b)) q := qRx h.z1 zq (by decide) (by decide) (Nat.le_trans (Nat.mul_le_mul_right _ (show _ + 1 ≤ 10 by have := h.l1; omega)) (by decide))
theorem BarOk.z2 (h : BarOk f b o) (zq : SzL 100 q) : SzL 6346 (strip (qF5 (strip (qF5 f b)) q)) := qAaj fun c hc => (qAhu h.z1 zq (by decide) (by decide) c hc).mono (by
  have : (strip (qF5 f b)).length * (604 + 100 + 1) ≤ 9 * (604 + 100 + 1) := Nat.mul_le_mul_right _ h.l1
  omega)
theorem BarOk.l2 (h : BarOk f b o) (lq : q.length ≤ 6) : (strip (qF5 (strip (qF5 f b)) q)).length ≤ 15 := Nat.le_trans (qAeg _) (Nat.le_trans (qAhx _ q) (by have := h.l1; omega))
end
end MR

set_option Elab.async false
set_option linter.all false
set_option maxRecDepth 100000
set_option maxHeartbeats 4000000
/-! whole numbers beside Ratios: products, lengths, means -/
namespace MR
open PySem PySem.Spec PyProof.Rows L2
/-! ### scaling -/
end MR

set_option Elab.async false
set_option linter.all false
set_option maxRecDepth 100000
set_option maxHeartbeats 4000000
/-! the factors of a scene beside the factors of its place -/
namespace MR
open PySem PySem.Spec PyProof.Rows L2
end MR

set_option Elab.async false
set_option linter.all false
set_option maxRecDepth 100000
set_option maxHeartbeats 4000000
set_option exponentiation.threshold 20000
namespace MR
open PySem PySem.Spec PyProof.Rows L2
theorem StOk.take {K : Nat} {ms : List Rat} {fs : List (List Rat)} {a c : Nat} (h : StOk K ms fs a c) (n : Nat) : StOk K (ms.take n) fs a c :=
  ⟨h.k6, Nat.le_trans (by rw [List.length_take]; omega) h.len, let ⟨M, hM⟩ := h.cm; ⟨M, hM.take n⟩, h.cu, h.bt⟩
/-! ### scenes -/
theorem qAdv {ps : List (Int × Int)} {n L : Nat} (h : ∀ p, p ∈ ps → SzP n p) (hl : ps.length ≤ L) : Cd (n * (L + 1)) (botP ps) (ps.map valP) := by
  have hb := qAbe (T := 2 ^ n) (ps := ps) fun p hp => ⟨(h p hp).pos, Nat.le_of_lt (h p hp).b⟩
  have hnl := Nat.mul_le_mul_left n hl
  refine ⟨hb.1, Nat.le_trans hb.2 (by rw [← Nat.pow_mul]; exact qE4 (by rw [Nat.mul_add, Nat.mul_one]; omega)), fun i => ?_⟩
  by_cases hi : i < ps.length
  · have hg : ps[i]? = some (ps[i]'hi) := List.getElem?_eq_getElem hi
    have e : coef (ps.map valP) i = valP (ps[i]'hi) := qRj (by rw [List.getElem?_map, hg]; rfl)
    rw [e]
    refine (qAgu (T := 2 ^ n) (M := 2 ^ n) (Nat.pow_pos (by decide)) (fun q hq => ?_) _ (List.getElem_mem hi)).mono ?_
    · have := h q hq
      exact ⟨this.pos, Nat.le_of_lt this.b, Nat.le_of_lt this.a⟩
    · rw [← Nat.pow_mul, ← Nat.pow_add]
      refine qE4 ?_
      rw [Nat.mul_add, Nat.mul_one]
      omega
  · rw [qBb (by rw [List.length_map]; omega)]
    exact Ov.zero
end MR

set_option Elab.async false
set_option linter.all false
set_option maxRecDepth 100000
set_option maxHeartbeats 1000000
/-! NZero: the step that stops a row; what cancels behind it, in whole numbers -/
namespace MR
open PySem PySem.Spec PyProof.Rows L2
/-! ### whole numbers -/
theorem qAqe (q : Rat) : valP (ndP q) = q := Rat.num_divInt_den q
theorem qAop (qs : List Rat) : (qs.map ndP).map valP = qs := by
  rw [List.map_map]
  exact (List.map_congr_left fun q _ => qAqe q).trans (List.map_id qs)
theorem qAq6 {n : Nat} {q : Rat} (h : Sz n q) : SzP n (ndP q) := by
  have w := qArk h
  exact ⟨w.a, w.b, by show 0 < ((q.den : Nat) : Int); have := q.den_pos; omega⟩
theorem qAqj {n : Nat} {qs : List Rat} (h : SzL n qs) : ∀ p, p ∈ qs.map ndP → SzP n p := fun p hp => by
  obtain ⟨q, hq, rfl⟩ := List.mem_map.mp hp
  exact qAq6 (h q hq)
/-! ### the polynomial of the border -/
theorem qXn (ms : List Rat) (k : Nat) : (chN ms k).1.1.length = k + 1 ∧ coef (chN ms k).1.1 k = 1 := by
  have h1 := (qFr ms k).1
  have h2 : coef (chN ms k).1.1 k = 1 := qZu ms k
  refine ⟨?_, h2⟩
  by_cases h : (chN ms k).1.1.length ≤ k
  · rw [qBb h] at h2
    exact absurd h2 (by decide)
  · omega
end MR

set_option Elab.async false
set_option linter.all false
set_option maxRecDepth 100000
set_option maxHeartbeats 1000000
set_option exponentiation.threshold 20000
/-! N22: the steps of a moved and of a stretched row -/
namespace MR
open PySem PySem.Spec PyProof.Rows L2
inductive All2 {α β : Type} (R : α → β → Prop) : List α → List β → Prop
  | nil : All2 R [] []
  | cons {a b as bs} : R a b → All2 R as bs → All2 R (a :: as) (b :: bs)
theorem All2.append {α β : Type} {R : α → β → Prop} {as cs : List α} {bs ds : List β} (h : All2 R as bs) (g : All2 R cs ds) : All2 R (as ++ cs) (bs ++ ds) := by
  induction h with
  | nil => exact g
  | cons h1 _ ih => exact .cons h1 ih
theorem All2.len {α β : Type} {R : α → β → Prop} {as : List α} {bs : List β} (h : All2 R as bs) : bs.length = as.length := by
  induction h with
  | nil => rfl
  | cons _ _ ih => rw [List.length_cons, List.length_cons, ih]
theorem All2.get {α β : Type} {R : α → β → Prop} {as : List α} {bs : List β} (h : All2 R as bs) : ∀ (i : Nat) (a : α), as[i]? = some a → ∃ b, bs[i]? = some b ∧ R a b := by
  induction h with
  | nil => intro i a h; cases i <;> cases h
  | cons h1 _ ih =>
    intro i a h
    cases i with
    | zero => cases h; exact ⟨_, rfl, h1⟩
    | succ i => exact ih i a h
/-- two rows whose steps answer one another, one by one -/
theorem qAh3 {ms ns : List Rat} {F : List Rat → List Rat → Prop} {Q : Step → Step → Prop} {L : Nat} (hF : ∀ u u', F u u' → 0 < u.length ∧ u'.length = u.length)
    (hQ : ∀ u u', F u u' → ∀ k, k < L → OnN u k → (∀ j, j < qBz u k → 0 < (chN (shL u ms) j).1.2) → Q (qY8 ms u k) (qY8 ns u' k)) (hp : ∀ s s', Q s s' → qQn s' = qQn s) :
    ∀ (r k : Nat), k + r ≤ L → ∀ (fs fs' : List (List Rat)), All2 F fs fs' → (∀ u, u ∈ fs → ∀ j, j < qBz u k → 0 < (chN (shL u ms) j).1.2) → All2 Q (goN ms fs r k) (goN ns fs' r k)
  | 0, k, _, fs, fs', _, _ => .nil
  | r + 1, k, hk, fs, fs', hf, hw => by
    have rd : ∀ (gs gs' : List (List Rat)), All2 F gs gs' → (∀ u, u ∈ gs → u ∈ fs) → All2 Q (qI7 ms gs k) (qI7 ns gs' k) := by
      intro gs gs' h
      induction h with
      | nil => exact fun _ => .nil
      | @cons u u' us us' h1 h2 ih =>
        intro hs
        have ih := ih fun v hv => hs v (List.mem_cons_of_mem _ hv)
        obtain ⟨l1, l2⟩ := hF u u' h1
        have e : OnN u' k ↔ OnN u k := by unfold OnN; rw [l2]
        unfold qI7
        by_cases g : OnN u k
        · rw [if_pos g, if_pos (e.mpr g)]
          exact .cons (hQ u u' h1 k (by omega) g (hw u (hs u (List.mem_cons_self ..)))) ih
        · rw [if_neg g, if_neg (fun z => g (e.mp z))]
          exact ih
    have r0 := rd fs fs' hf fun _ h => h
    have ea : (qI7 ns fs' k).all qQn = (qI7 ms fs k).all qQn := by
      clear hf hw rd
      revert r0
      generalize qI7 ms fs k = l
      generalize qI7 ns fs' k = l'
      intro h
      induction h with
      | nil => rfl
      | cons h1 _ ih => rw [List.all_cons, List.all_cons, hp _ _ h1, ih]
    unfold goN
    rw [ea]
    refine r0.append ?_
    by_cases g : (qI7 ms fs k).all qQn = true
    · rw [if_pos g, if_pos g]
      refine qAh3 hF hQ hp r (k + 1) (by omega) fs fs' hf fun u hu j hj => ?_
      have l1 : 0 < u.length := by
        clear hw rd r0 ea g
        induction hf with
        | nil => cases hu
        | cons h1 _ ih =>
          rcases List.mem_cons.mp hu with rfl | hu
          · exact (hF _ _ h1).1
          · exact ih hu
      by_cases on : OnN u k
      · obtain ⟨c1, _⟩ := qKy l1 on
        by_cases hj2 : j < qBz u k
        · exact hw u hu j hj2
        · have ej : j = qBz u k := by omega
          rw [ej]
          have mem : qY8 ms u k ∈ qI7 ms fs k := by
            clear hf hw rd r0 ea g c1 hj hj2 ej
            induction fs with
            | nil => cases hu
            | cons v vs ih =>
              unfold qI7
              rcases List.mem_cons.mp hu with rfl | hu
              · rw [if_pos on]; exact List.mem_cons_self ..
              · by_cases ov : OnN v k
                · rw [if_pos ov]; exact List.mem_cons_of_mem _ (ih hu)
                · rw [if_neg ov]; exact ih hu
          have := List.all_eq_true.mp g _ mem
          exact of_decide_eq_true this
      · rw [qVt l1 on] at hj
        exact hw u hu j hj
    · rw [if_neg g, if_neg g]
      exact .nil
/-! ### the values -/
def evL (p : List Rat) (x : Rat) : Rat := evF p.length (coef p) x
theorem qAe1 {n : Nat} (F : Fu) : ∀ r, (∀ i, n ≤ i → F i = 0) → sm (n + r) F = sm n F
  | 0, _ => rfl
  | r + 1, h => by
    show sm (n + r) F + F (n + r) = _
    rw [qAe1 F r h, h (n + r) (by omega), Rat.add_zero]
theorem qAnm {p : List Rat} {N : Nat} (h : p.length ≤ N) (x : Rat) : evL p x = evF N (coef p) x := by
  unfold evL evF
  obtain ⟨r, rfl⟩ := Nat.exists_eq_add_of_le h
  exact (qAe1 _ r fun i hi => by rw [qBb hi, Rat.zero_mul]).symm
/-! ### moved -/
/-- a factor and the moved one -/
def FMv (t : Rat) (u v : List Rat) : Prop := 0 < u.length ∧ v.length = u.length ∧ ∀ i, mvF t u.length (coef v) i = coef u i
def QMv (t : Rat) (s s' : Step) : Prop := s'.1 = s.1 ∧ s'.2.2.2 = s.2.2.2 ∧ (∀ x, evL s'.2.1 (x + t) = evL s.2.1 x) ∧ (∀ x, evL s'.2.2.1 (x + t) = evL s.2.2.1 x)
theorem qAl0 {ms ns : List Rat} {t : Rat} (hl : ns.length = ms.length) (hm : ∀ j, j < ms.length → coef ns j = itr t j (coef ms) 0) {u v : List Rat} (hF : FMv t u v) {k : Nat} (hk : k < ms.length) (on : OnN u k)
    (hw : ∀ j, j < qBz u k → 0 < (chN (shL u ms) j).1.2) : QMv t (qY8 ms u k) (qY8 ns v k) := by
  obtain ⟨hu, hv, h⟩ := hF
  obtain ⟨c1, c2⟩ := qKy hu on
  have ec : qBz v k = qBz u k := by unfold qBz; rw [hv]
  have hm' : ∀ j, j < ms.length - (u.length - 1) → coef (shL v ns) j = itr t j (coef (shL u ms)) 0 := fun j hj => qAlu hl hm hv hu h (by omega)
  have w0 : ∀ j, j < qBz u k → hS (shL u ms) j ≠ 0 := fun j hj => Rat.ne_of_gt (hw j hj)
  have k1 : 2 * qBz u k + 1 ≤ ms.length - (u.length - 1) := by omega
  obtain ⟨_, m2⟩ := qKi hm' (qBz u k) k1 w0
  refine ⟨rfl, ?_, fun x => ?_, fun x => ?_⟩
  · show (chN (shL v ns) (qBz v k)).1.2 = (chN (shL u ms) (qBz u k)).1.2
    rw [ec]
    exact qAby hm' k1 w0
  · show evL v (x + t) = evL u x
    unfold evL
    rw [hv, qArh, show mvF t u.length (coef v) = coef u from funext h]
  · show evL (chN (shL v ns) (qBz v k)).1.1 (x + t) = evL (chN (shL u ms) (qBz u k)).1.1 x
    rw [ec, qAnm (qFr (shL v ns) (qBz u k)).1, qAnm (qFr (shL u ms) (qBz u k)).1, qArh]
    have e : mvF t (qBz u k + 1) (coef (chN (shL v ns) (qBz u k)).1.1) = coef (chN (shL u ms) (qBz u k)).1.1 := funext m2
    rw [e]
theorem qAl2 {ms ns : List Rat} {t : Rat} (hl : ns.length = ms.length) (hm : ∀ j, j < ms.length → coef ns j = itr t j (coef ms) 0) {fs fs' : List (List Rat)} (hf : All2 (FMv t) fs fs') : All2 (QMv t) (goN ms fs ms.length 0) (goN ns fs' ns.length 0) := by
  rw [hl]
  refine qAh3 (F := FMv t) (L := ms.length) (fun u v h => ⟨h.1, h.2.1⟩) (fun u v h k hk on hw => qAl0 hl hm h hk on hw) (fun s s' h => ?_) ms.length 0 (by omega) fs fs' hf fun u hu j hj => ?_
  · unfold qQn
    rw [h.2.1]
  · have l1 : 0 < u.length := by
      clear hj
      induction hf with
      | nil => cases hu
      | cons h1 _ ih =>
        rcases List.mem_cons.mp hu with rfl | hu
        · exact h1.1
        · exact ih hu
    have : qBz u 0 = 0 := by unfold qBz; omega
    omega
/-! ### stretched -/
theorem qS1 (s : Rat) (i : Nat) : ∀ j, s ^ (i + j) = s ^ i * s ^ j
  | 0 => by rw [Nat.add_zero, Rat.pow_zero, Rat.mul_one]
  | j + 1 => by rw [← Nat.add_assoc, Rat.pow_succ, qS1 s i j, Rat.pow_succ, Rat.mul_assoc]
theorem qLe {a b : Rat} (ha : a ≠ 0) (hb : b ≠ 0) : a * b ≠ 0 := fun h => by
  rcases Rat.mul_eq_zero.mp h with h | h
  · exact ha h
  · exact hb h
theorem qAec {s : Rat} (h : s ≠ 0) : ∀ k : Nat, s ^ k ≠ 0
  | 0 => by rw [Rat.pow_zero]; decide
  | k + 1 => by rw [Rat.pow_succ]; exact qLe (qAec h k) h
theorem qAsl {c s T B H : Rat} (c0 : c ≠ 0) (T0 : T ≠ 0) (H0 : H ≠ 0) : c * (s * T * (T * B)) / (c * (T * T) * H) = s * (B / H) := by
  have h : c * (T * T) * H ≠ 0 := qLe (qLe c0 (qLe T0 T0)) H0
  rw [Rat.div_def, Rat.div_def]
  grind
theorem qAsi {c s T H1 H : Rat} (c0 : c ≠ 0) (T0 : T ≠ 0) (H0 : H ≠ 0) : c * (T * s * (T * s)) * H1 / (c * (T * T) * H) = s * s * (H1 / H) := by
  have h : c * (T * T) * H ≠ 0 := qLe (qLe c0 (qLe T0 T0)) H0
  rw [Rat.div_def, Rat.div_def]
  grind
theorem qAkf (c s : Rat) (N : Nat) (m f g : Fu) : Bf N (fun j => c * (s ^ j * m j)) f g = c * Bf N m (fun i => f i * s ^ i) (fun i => g i * s ^ i) := by
  unfold Bf
  rw [← qFz]
  refine qA3 fun i _ => ?_
  rw [← qFz]
  refine qA3 fun j _ => ?_
  show f i * g j * (c * (s ^ (i + j) * m (i + j))) = c * (f i * s ^ i * (g j * s ^ j) * m (i + j))
  rw [qS1]
  grind
theorem qL7 {ms ns : List Rat} {c s : Rat} {n N : Nat} {f g : Fu} (hm : ∀ j, j + 1 < 2 * n → coef ns j = c * (s ^ j * coef ms j)) (hf : Dg n f) (hg : Dg n g) : Bf N (coef ns) f g = c * Bf N (coef ms) (fun i => f i * s ^ i) (fun i => g i * s ^ i) := by
  rw [qUn (m' := fun j => c * (s ^ j * coef ms j)) hf hg hm, qAkf]
theorem qAhw (s : Rat) (f : Fu) (i : Nat) : xF f i * s ^ i = s * xF (fun j => f j * s ^ j) i := by
  cases i with
  | zero => show 0 * s ^ 0 = s * 0; rw [Rat.zero_mul, Rat.mul_zero]
  | succ i => show f i * s ^ (i + 1) = s * (f i * s ^ i); rw [Rat.pow_succ]; grind
theorem qAqp (c : Rat) (f : Fu) (i : Nat) : xF (fun j => c * f j) i = c * xF f i := by
  cases i with
  | zero => show (0 : Rat) = c * 0; rw [Rat.mul_zero]
  | succ i => rfl
theorem qI0 {ms ns : List Rat} {c s : Rat} (c0 : c ≠ 0) (s0 : s ≠ 0) {L : Nat} (hm : ∀ j, j < L → coef ns j = c * (s ^ j * coef ms j)) : ∀ k, 2 * k + 1 ≤ L → (∀ j, j < k → hS ms j ≠ 0) →
    (∀ j, j < k → hS ns j = c * (s ^ j * s ^ j) * hS ms j ∧ aS ns j = s * aS ms j) ∧ ∀ i, pS ns k i * s ^ i = s ^ k * pS ms k i
  | 0, _, _ => ⟨fun j h => absurd h (Nat.not_lt_zero _), fun i => by
      rw [qLi, qLi]
      by_cases e : i = 0
      · subst e; rw [if_pos rfl, Rat.mul_one, Rat.one_mul]
      · rw [if_neg e, Rat.zero_mul, Rat.mul_zero]⟩
  | k + 1, hk, h => by
    obtain ⟨h1, h2⟩ := qI0 c0 s0 hm k (by omega) fun j hj => h j (by omega)
    have e2 : (fun i => pS ns k i * s ^ i) = fun i => s ^ k * pS ms k i := funext h2
    have hh : hS ns k = c * (s ^ k * s ^ k) * hS ms k := by
      rw [qJa ns k (N := k + 1) (Nat.le_refl _), qJa ms k (N := k + 1) (Nat.le_refl _), qL7 (n := k + 1) (fun j hj => hm j (by omega)) (qG5 ns k) (qG5 ns k), e2, qUe, qPb]
      grind
    have sk : s ^ k ≠ 0 := qAec s0 _
    have hx : ∀ i, xF (pS ns k) i * s ^ i = s * s ^ k * xF (pS ms k) i := fun i => by
      rw [qAhw, e2, qAqp]
      grind
    have d1 : Dg (k + 2) (pS ns k) := (qG5 ns k).mono (by omega)
    have h0 := h k (by omega)
    have ha : aS ns k = s * aS ms k := by
      rw [qAe8 ns k (N := k + 2) (Nat.le_refl _), qAe8 ms k (N := k + 2) (Nat.le_refl _), hh, qL7 (n := k + 2) (fun j hj => hm j (by omega)) (qG5 ns k).x d1, e2, show (fun i => xF (pS ns k) i * s ^ i) = fun i => (s * s ^ k) * xF (pS ms k) i from funext hx, qUe, qPb]
      exact qAsl c0 sk h0
    refine ⟨fun j hj => ?_, fun i => ?_⟩
    · by_cases e : j = k
      · subst e
        exact ⟨hh, ha⟩
      · exact h1 j (by omega)
    · have e1 : (xF (pS ns k) i - aS ns k * pS ns k i) * s ^ i = s ^ (k + 1) * (xF (pS ms k) i - aS ms k * pS ms k i) := by
        have a1 := hx i
        have a2 := h2 i
        rw [ha, Rat.pow_succ]
        generalize xF (pS ns k) i = A at *
        generalize xF (pS ms k) i = A2 at *
        generalize pS ns k i = B at *
        generalize pS ms k i = B2 at *
        generalize s ^ i = S at *
        generalize s ^ k = T at *
        grind
      cases k with
      | zero =>
        rw [qS4 ns i, qS4 ms i]
        exact e1
      | succ k =>
        obtain ⟨_, h3⟩ := qI0 c0 s0 hm k (by omega) fun j hj => h j (by omega)
        have h3i := h3 i
        have hk0 := h k (by omega)
        have sk2 : s ^ k ≠ 0 := qAec s0 _
        rw [qLc ns k i, qLc ms k i, hh, (h1 k (by omega)).1]
        have e5 : s ^ (k + 1) = s ^ k * s := Rat.pow_succ ..
        have e6 : s ^ (k + 1 + 1) = s ^ k * s * s := by rw [Rat.pow_succ, e5]
        rw [e6] at e1 ⊢
        rw [e5]
        generalize xF (pS ns (k + 1)) i - aS ns (k + 1) * pS ns (k + 1) i = A at *
        generalize xF (pS ms (k + 1)) i - aS ms (k + 1) * pS ms (k + 1) i = A2 at *
        generalize pS ns k i = B at *
        generalize pS ms k i = B2 at *
        generalize hS ms (k + 1) = H1 at *
        generalize hS ms k = H at *
        generalize s ^ i = S at *
        generalize s ^ k = T at *
        have eq : c * (T * s * (T * s)) * H1 / (c * (T * T) * H) = s * s * (H1 / H) := by
          exact qAsi c0 sk2 hk0
        rw [eq]
        grind
theorem qAac {ms ns : List Rat} {c s : Rat} (c0 : c ≠ 0) (s0 : s ≠ 0) {L k : Nat} (hm : ∀ j, j < L → coef ns j = c * (s ^ j * coef ms j)) (hk : 2 * k + 1 ≤ L) (h : ∀ j, j < k → hS ms j ≠ 0) : hS ns k = c * (s ^ k * s ^ k) * hS ms k := by
  obtain ⟨_, h2⟩ := qI0 c0 s0 hm k hk h
  have e2 : (fun i => pS ns k i * s ^ i) = fun i => s ^ k * pS ms k i := funext h2
  rw [qJa ns k (N := k + 1) (Nat.le_refl _), qJa ms k (N := k + 1) (Nat.le_refl _), qL7 (n := k + 1) (fun j hj => hm j (by omega)) (qG5 ns k) (qG5 ns k), e2, qUe, qPb]
  grind
theorem qAh0 (x s : Rat) : ∀ i : Nat, (x * s) ^ i = x ^ i * s ^ i
  | 0 => by rw [Rat.pow_zero, Rat.pow_zero, Rat.pow_zero, Rat.mul_one]
  | i + 1 => by rw [Rat.pow_succ, Rat.pow_succ, Rat.pow_succ, qAh0 x s i]; grind
/-- a factor and the stretched one -/
def FSc (s : Rat) (u v : List Rat) : Prop := 0 < u.length ∧ v.length = u.length ∧ ∀ i, coef v i * s ^ i = s ^ (u.length - 1) * coef u i
def QSc (s : Rat) (a b : Step) : Prop := b.1 = a.1 ∧ b.2.2.2 = a.2.2.2 * s ^ a.1 ∧ (∀ x, evL b.2.1 (x * s) = evL a.2.1 x * s ^ (a.2.1.length - 1)) ∧ (∀ x, evL b.2.2.1 (x * s) = evL a.2.2.1 x * s ^ (a.2.2.1.length - 1))
theorem qZ2 {u v : List Rat} {s : Rat} {d : Nat} (hv : v.length = u.length) (h : ∀ i, coef v i * s ^ i = s ^ d * coef u i) (x : Rat) : evL v (x * s) = evL u x * s ^ d := by
  unfold evL evF
  rw [hv, Rat.mul_comm (sm u.length _) (s ^ d), ← qFz]
  refine qA3 fun i _ => ?_
  have := h i
  rw [qAh0]
  generalize x ^ i = X
  generalize s ^ i = S at *
  grind
theorem qAjt {u v ms ns : List Rat} {s : Rat} (s0 : s ≠ 0) (hl : ns.length = ms.length) (hm : ∀ j, j < ms.length → coef ns j = s ^ j * coef ms j) (hF : FSc s u v) {j : Nat} (hj : j + u.length ≤ ms.length) : coef (shL v ns) j = s ^ (u.length - 1) * (s ^ j * coef (shL u ms) j) := by
  obtain ⟨hu, hv, h⟩ := hF
  rw [qAko (by omega) (by omega), qAko hj hu, qOq, qOq, hv, ← qFz, ← qFz]
  refine qA3 fun i hi => ?_
  rw [qJs, qJs, hm (j + i) (by omega), qS1]
  have := h i
  generalize s ^ i = S at *
  generalize s ^ j = T at *
  generalize coef ms (j + i) = M at *
  generalize s ^ (u.length - 1) = U at *
  grind
theorem qAg5 {ms ns : List Rat} {s : Rat} (s0 : s ≠ 0) (hl : ns.length = ms.length) (hm : ∀ j, j < ms.length → coef ns j = s ^ j * coef ms j) {u v : List Rat} (hF : FSc s u v) {k : Nat} (hk : k < ms.length) (on : OnN u k)
    (hw : ∀ j, j < qBz u k → 0 < (chN (shL u ms) j).1.2) : QSc s (qY8 ms u k) (qY8 ns v k) := by
  have hF' := hF
  obtain ⟨hu, hv, h⟩ := hF
  obtain ⟨c1, c2⟩ := qKy hu on
  have ec : qBz v k = qBz u k := by unfold qBz; rw [hv]
  have hm' : ∀ j, j < ms.length - (u.length - 1) → coef (shL v ns) j = s ^ (u.length - 1) * (s ^ j * coef (shL u ms) j) := fun j hj => qAjt s0 hl hm hF' (by omega)
  have w0 : ∀ j, j < qBz u k → hS (shL u ms) j ≠ 0 := fun j hj => Rat.ne_of_gt (hw j hj)
  have k1 : 2 * qBz u k + 1 ≤ ms.length - (u.length - 1) := by omega
  have u0 := qAec s0 (u.length - 1)
  obtain ⟨_, m2⟩ := qI0 u0 s0 hm' (qBz u k) k1 w0
  refine ⟨rfl, ?_, fun x => ?_, fun x => ?_⟩
  · show (chN (shL v ns) (qBz v k)).1.2 = (chN (shL u ms) (qBz u k)).1.2 * s ^ k
    rw [ec]
    have := qAac u0 s0 hm' k1 w0
    unfold hS at this
    rw [this]
    have e : s ^ k = s ^ (u.length - 1) * (s ^ qBz u k * s ^ qBz u k) := by
      rw [← qS1, ← qS1]
      congr 1
      omega
    rw [e]
    grind
  · exact qZ2 hv h x
  · show evL (chN (shL v ns) (qBz v k)).1.1 (x * s) = evL (chN (shL u ms) (qBz u k)).1.1 x * s ^ ((chN (shL u ms) (qBz u k)).1.1.length - 1)
    rw [ec]
    have l1 := (qXn (shL v ns) (qBz u k)).1
    have l2 := (qXn (shL u ms) (qBz u k)).1
    rw [show (chN (shL u ms) (qBz u k)).1.1.length - 1 = qBz u k by omega]
    exact qZ2 (by omega) m2 x
theorem qYy {ms ns : List Rat} {s : Rat} (s0 : 0 < s) (hl : ns.length = ms.length) (hm : ∀ j, j < ms.length → coef ns j = s ^ j * coef ms j) {fs fs' : List (List Rat)} (hf : All2 (FSc s) fs fs') : All2 (QSc s) (goN ms fs ms.length 0) (goN ns fs' ns.length 0) := by
  rw [hl]
  have sn : s ≠ 0 := Rat.ne_of_gt s0
  refine qAh3 (F := FSc s) (L := ms.length) (fun u v h => ⟨h.1, h.2.1⟩) (fun u v h k hk on hw => qAg5 sn hl hm h hk on hw) (fun a b h => ?_) ms.length 0 (by omega) fs fs' hf fun u hu j hj => ?_
  · unfold qQn
    rw [h.2.1]
    have p : 0 < s ^ a.1 := Rat.pow_pos s0
    by_cases g : 0 < a.2.2.2
    · rw [decide_eq_true g, decide_eq_true (Rat.mul_pos g p)]
    · rw [decide_eq_false g, decide_eq_false fun z => g ?_]
      by_cases g2 : a.2.2.2 = 0
      · rw [g2, Rat.zero_mul] at z; exact absurd z (by decide)
      · have g3 : 0 < -a.2.2.2 := by grind
        have := Rat.mul_pos g3 p
        grind
  · have l1 : 0 < u.length := by
      clear hj
      induction hf with
      | nil => cases hu
      | cons h1 _ ih =>
        rcases List.mem_cons.mp hu with rfl | hu
        · exact h1.1
        · exact ih hu
    have : qBz u 0 = 0 := by unfold qBz; omega
    omega
/-! ### the factors of the moved and of the stretched place -/
theorem qAi4 (t : Rat) (x y : Option Rat) : All2 (FMv t) (qKm x y) (qKm (x.map (· + t)) (y.map (· + t))) := by
  have h1 : FMv t [1] [1] := ⟨by decide, rfl, mv1 t⟩
  cases x with
  | none => exact .cons h1 .nil
  | some a =>
    have h2 : FMv t [-a, 1] [-(a + t), 1] := ⟨by simp, rfl, mv2 t _ _ _ (by grind)⟩
    cases y with
    | none => exact .cons h1 (.cons h2 .nil)
    | some b =>
      have h3 : FMv t [b, -1] [b + t, -1] := ⟨by simp, rfl, mv2 t _ _ _ (by grind)⟩
      have h4 : FMv t [-(a * b), a + b, -1] [-((a + t) * (b + t)), a + t + (b + t), -1] := ⟨by simp, rfl, mv3 t _ _ _ _ _ (by grind) (by grind)⟩
      exact .cons h1 (.cons h2 (.cons h3 (.cons h4 .nil)))
theorem qAgb {P : Nat → Prop} {n : Nat} (h : ∀ i, i < n → P i) (g : ∀ i, n ≤ i → P i) : ∀ i, P i := fun i => if hi : i < n then h i hi else g i (by omega)
theorem qT5 (s : Rat) (x y : Option Rat) : All2 (FSc s) (qKm x y) (qKm (x.map (· * s)) (y.map (· * s))) := by
  have z : ∀ {u v : List Rat} {d : Nat}, v.length = u.length → (∀ i, i < u.length → coef v i * s ^ i = s ^ d * coef u i) → ∀ i, coef v i * s ^ i = s ^ d * coef u i := fun hv h => qAgb h fun i hi => by
    rw [qBb (by omega), qBb hi, Rat.zero_mul, Rat.mul_zero]
  have p1 : s ^ 1 = s := by rw [Rat.pow_succ, Rat.pow_zero, Rat.one_mul]
  have p2 : s ^ 2 = s * s := by rw [Rat.pow_succ, p1]
  have h1 : FSc s [1] [1] := ⟨by simp, rfl, z rfl fun i hi => by
    obtain rfl : i = 0 := by simp at hi; omega
    show (1 : Rat) * s ^ 0 = s ^ 0 * 1
    rw [Rat.mul_one, Rat.one_mul]⟩
  have two : ∀ c d c' d' : Rat, c' = s * c → d' = d → FSc s [c, d] [c', d'] := fun c d c' d' e1 e2 => ⟨by simp, rfl, z rfl fun i hi => by
    have : i = 0 ∨ i = 1 := by simp at hi; omega
    rcases this with rfl | rfl
    · show c' * s ^ 0 = s ^ 1 * c
      rw [p1, Rat.pow_zero, Rat.mul_one, e1]
    · show d' * s ^ 1 = s ^ 1 * d
      rw [p1, e2, Rat.mul_comm]⟩
  cases x with
  | none => exact .cons h1 .nil
  | some a =>
    have h2 : FSc s [-a, 1] [-(a * s), 1] := two _ _ _ _ (by grind) rfl
    cases y with
    | none => exact .cons h1 (.cons h2 .nil)
    | some b =>
      have h3 : FSc s [b, -1] [b * s, -1] := two _ _ _ _ (by grind) rfl
      have h4 : FSc s [-(a * b), a + b, -1] [-(a * s * (b * s)), a * s + b * s, -1] := ⟨by simp, rfl, z rfl fun i hi => by
        have : i = 0 ∨ i = 1 ∨ i = 2 := by simp at hi; omega
        rcases this with rfl | rfl | rfl
        · show -(a * s * (b * s)) * s ^ 0 = s ^ 2 * -(a * b)
          rw [p2, Rat.pow_zero]; grind
        · show (a * s + b * s) * s ^ 1 = s ^ 2 * (a + b)
          rw [p2, p1]; grind
        · show (-1 : Rat) * s ^ 2 = s ^ 2 * -1
          rw [Rat.mul_comm]⟩
      exact .cons h1 (.cons h2 (.cons h3 (.cons h4 .nil)))
/-! ### what a stop is -/
theorem qAd5 {Q : Step → Step → Prop} (hp : ∀ s s', Q s s' → qQn s' = qQn s) {l l' : List Step} (h : All2 Q l l') : (qH1 l = none ∧ qH1 l' = none) ∨ ∃ s s', qH1 l = some s ∧ qH1 l' = some s' ∧ Q s s' := by
  induction h with
  | nil => exact .inl ⟨rfl, rfl⟩
  | @cons a b as bs h1 _ ih =>
    have e := hp _ _ h1
    unfold qH1 at *
    rw [List.find?_cons, List.find?_cons, e]
    cases g : qQn a with
    | true => exact ih
    | false => exact .inr ⟨a, b, rfl, rfl, h1⟩
end MR

set_option Elab.async false
set_option linter.all false
set_option maxRecDepth 100000
set_option maxHeartbeats 1000000
/-! NZero2: one step of worth 0 at the border -/
namespace MR
open PySem PySem.Spec PyProof.Rows L2
end MR

set_option Elab.async false
set_option linter.all false
set_option maxRecDepth 100000
set_option maxHeartbeats 4000000
set_option exponentiation.threshold 20000
namespace MR
open PySem PySem.Spec PyProof.Rows L2
def qFl (cs : List Str) : FSp := fun ds P _ => ∃ d ms x y K al c, ds = [d, qB0 x y] ∧ itD d = some (qBj ms) ∧ 0 < ms.length ∧ ms.length ≤ 13 ∧ Pl16 x y ∧ StOk K ms (qKm x y) al c ∧ P (.lst ((goN ms (qKm x y) ms.length 0).map qA9))
def qS5 : Option Step → D
  | none => .tup [.str "inside"]
  | some s => if s.2.2.2 < 0 then .tup [.str "out", .int ((s.1 : Nat) : Int)] else .tup [.str "border", .int ((s.1 : Nat) : Int)]
def qJ8 : FSp := fun ds P _ => ∃ l : List Step, ds = [.lst (l.map qA9)] ∧ (∀ s, s ∈ l → qMf s.2.2.2 ((0 : Int) : Rat)) ∧ P (qS5 (qH1 l))
def qIr (cs : List Str) : FSp := fun ds P _ => ∃ d ms x y K al c, ds = [d, qB0 x y] ∧ itD d = some (qBj ms) ∧ 0 < ms.length ∧ ms.length ≤ 13 ∧ Pl16 x y ∧ StOk K ms (qKm x y) al c ∧ P (qS5 (qH1 (goN ms (qKm x y) ms.length 0)))
def qRe (K : PySem.W.Frag) (cs : List Str) (E : XK) : TS :=
  (tRet (tCall (lift K (qFy cs)) [] E0 (tCons (tCall (lift K (qC3 cs)) [.int 13] E (tCons (tVar 0) tNil)) (tCons (tVar 1) tNil))))
def qAbq (cs : List Str) : FS :=
  (qCr (qAg (qFy cs) [] (qAc (qFc (qC3 cs) [.int 13] (qAc (qAe 0) qAm)) (qAc (qAe 1) qAm))))
theorem qAot {K : PySem.W.Frag} {cs : List Str} (T : KF K cs) (hRatio : ("Ratio" : Str) ∈ cs) (hPoly : ("Poly" : Str) ∈ cs) (hPlace : ("Place" : Str) ∈ cs) (E : XK) : SS K Ta [] [] [] [] (fun _ => E) (qRe K cs E) (qAbq cs) :=
  (qAq (by decide) (qAk Lift.refl qAf (qAa (qHi Lift.refl (qD8 qAf) (qAa (qAb (by decide)) qAd)) (qAa (qAb (by decide)) qAd))))
def qPc (K : PySem.W.Frag) (cs : List Str) : TS :=
  (tSeq (tAsg (tCall (lift K qE3) [] E0 (tCons (tVar 0) tNil)) (gName 1))
  (tSeq (tIfS (tTest (tOp qJ0 (tVar 1) (tC .non))) (tRet (tTup (tCons (tC (.str "inside")) tNil))) tNext)
  (tSeq (tIfS (tTest (tOp (qIo (He.ga K "Ratio") (lift K (fRB fun a b => decide (a < b))) E0) (tOp (rIxT K) (tVar 1) (tC (.int 3))) (tC (.int 0)))) (tRet (tTup (tCons (tC (.str "out")) (tCons (tOp (rIxT K) (tVar 1) (tC (.int 0))) tNil)))) tNext)
  (tRet (tTup (tCons (tC (.str "border")) (tCons (tOp (rIxT K) (tVar 1) (tC (.int 0))) tNil)))))))
def qSq (cs : List Str) : FS :=
  (qAy (qCu 1 (qAg qE3 [] (qAc (qAe 0) qAm)))
  (qAy (qC1 (fB (fOp qRf (qAe 1) (fC .non))) (qCr (qRs (qAc (fC (.str "inside")) qAm))) qAv)
  (qAy (qC1 (fB (fOp (qBk "Ratio" (fRB fun a b => decide (a < b))) (fOp qEw (qAe 1) (fC (.int 3))) (fC (.int 0)))) (qCr (qRs (qAc (fC (.str "out")) (qAc (fOp qEw (qAe 1) (fC (.int 0))) qAm)))) qAv)
  (qCr (qRs (qAc (fC (.str "border")) (qAc (fOp qEw (qAe 1) (fC (.int 0))) qAm)))))))
theorem qAjy {K : PySem.W.Frag} {cs : List Str} (T : KF K cs) (hRatio : ("Ratio" : Str) ∈ cs) (hPoly : ("Poly" : Str) ∈ cs) : SS K Ta [] [] [] [] (fun _ => E0) (qPc K cs) (qSq cs) :=
  (qAl (ow1 := []) (qAx (by decide) (by decide) (qAk Lift.refl qAf (qAa (qAb (by decide)) qAd)))
  (qAl (ow1 := []) (qBl (by decide) (qAp (qAi (fun _ => qH0) (qAb (by decide)) qCl)) (qAq (by decide) (qNp (qAa qGd qAd))) (qAn (by decide)))
  (qAl (ow1 := []) (qBl (by decide) (qAp (qAi (fun _ => (qBe Lift.refl)) (qAi (fun _ => qDk) (qAb (by decide)) qAj) qAj)) (qAq (by decide) (qNp (qAa qGd (qAa (qAi (fun _ => qDk) (qAb (by decide)) qAj) qAd)))) (qAn (by decide)))
  (qAq (by decide) (qNp (qAa qGd (qAa (qAi (fun _ => qDk) (qAb (by decide)) qAj) qAd)))))))
def qV9 (K : PySem.W.Frag) (cs : List Str) (E : XK) : TS :=
  (tRet (tCall (lift K qJ8) [] E0 (tCons (tCall (lift K (qFl cs)) [] E (tCons (tVar 0) (tCons (tVar 1) tNil))) tNil)))
def qAkh (cs : List Str) : FS :=
  (qCr (qAg qJ8 [] (qAc (qFc (qFl cs) [] (qAc (qAe 0) (qAc (qAe 1) qAm))) qAm)))
theorem qArg {K : PySem.W.Frag} {cs : List Str} (T : KF K cs) (hRatio : ("Ratio" : Str) ∈ cs) (hPoly : ("Poly" : Str) ∈ cs) (hPlace : ("Place" : Str) ∈ cs) (E : XK) : SS K Ta [] [] [] [] (fun _ => E) (qV9 K cs E) (qAkh cs) :=
  (qAq (by decide) (qAk Lift.refl qAf (qAa (qHi Lift.refl qAf (qAa (qAb (by decide)) (qAa (qAb (by decide)) qAd))) qAd)))
theorem qAor {cs : List Str} (hR : ("Ratio" : Str) ∈ cs) (hP : ("Poly" : Str) ∈ cs) (hPl : ("Place" : Str) ∈ cs) (ds : List D) (P : D → Prop) (X : XP) (h : qFl cs ds P X) : qAbq cs (qFj P X) (qA0 2 ds) := by
  obtain ⟨d, ms, x, y, K, al, c, rfl, hd, l0, l1, hpl, hok, p⟩ := h
  simp_arith [qAbq]
  refine qAch hd l0 l1 ?_
  exact ⟨ms, x, y, K, al, c, rfl, hpl, hok, p⟩
theorem qAj1 {cs : List Str} (hR : ("Ratio" : Str) ∈ cs) (hP : ("Poly" : Str) ∈ cs) (ds : List D) (P : D → Prop) (X : XP) (h : qJ8 ds P X) : qSq cs (qFj P X0) (qA0 2 ds) := by
  obtain ⟨l, rfl, hz, p⟩ := h
  simp_arith [qSq]
  refine ⟨l, rfl, hz, ?_⟩
  cases hs : qH1 l with
  | none =>
    rw [hs] at p
    simp_arith [qAok]
    exact ⟨by decide, p⟩
  | some s =>
    rw [hs] at p
    simp_arith [qAok, qA9, Bool.not_true]
    refine ⟨_, 3, .rat s.2.2.2, .inr rfl, rfl, rfl, ?_⟩
    simp_arith [qO1]
    refine ⟨hz s (List.mem_of_find?_eq_some hs), ?_⟩
    rw [Rat.intCast_zero]
    unfold qS5 at p
    dsimp only at p
    by_cases h : s.2.2.2 < 0
    · rw [if_pos h] at p
      rw [if_pos (decide_eq_true h)]
      exact ⟨_, 0, _, .inr rfl, rfl, rfl, by decide, p⟩
    · rw [if_neg h] at p
      rw [if_neg (fun z => h (of_decide_eq_true z))]
      exact ⟨_, 0, _, .inr rfl, rfl, rfl, by decide, p⟩
theorem qAr0 {cs : List Str} (hR : ("Ratio" : Str) ∈ cs) (hP : ("Poly" : Str) ∈ cs) (hPl : ("Place" : Str) ∈ cs) (ds : List D) (P : D → Prop) (X : XP) (h : qIr cs ds P X) : qAkh cs (qFj P X) (qA0 2 ds) := by
  obtain ⟨d, ms, x, y, K, al, c, rfl, hd, l0, l1, hpl, hok, p⟩ := h
  simp_arith [qAkh]
  refine ⟨d, ms, x, y, K, al, c, rfl, hd, l0, l1, hpl, hok, ?_⟩
  exact ⟨_, rfl, fun s hs => (qAsx hok s hs).w, p⟩
theorem qAhc {K : PySem.W.Frag} {cs : List Str} (vs : List V) (H : Hp) (Q : VK) (E : XK) (h : (lift K (qFl cs)) vs H Q E) : vs.length = 2 := qAr (fun ds P X h => by unfold qFl at h; first | ((repeat (first | (obtain ⟨rfl, _⟩ := h; exact rfl) | obtain ⟨_, h⟩ := h)); done) | (split at h <;> first | rfl | exact h.elim)) h
theorem qAmi {K : PySem.W.Frag} {cs : List Str} (T : KF K cs) (hRatio : ("Ratio" : Str) ∈ cs) (hPoly : ("Poly" : Str) ∈ cs) (hPlace : ("Place" : Str) ∈ cs) (vs : List V) (H : Hp) (Q : VK) (E : XK) (h : (lift K (qFl cs)) vs H Q E) : qRe K cs E { nx := fun _ H' => Q .non H', rt := Q } (start ["row", "place"] vs) H :=
  qU4 (t := fun E => qRe K cs E) rfl (qAot T hRatio hPoly hPlace) (qAor hRatio hPoly hPlace) vs H Q E h
theorem qAbo {K : PySem.W.Frag} {cs : List Str} (vs : List V) (H : Hp) (Q : VK) (E : XK) (h : (lift K qJ8) vs H Q E) : vs.length = 1 := qAr (fun ds P X h => by unfold qJ8 at h; first | ((repeat (first | (obtain ⟨rfl, _⟩ := h; exact rfl) | obtain ⟨_, h⟩ := h)); done) | (split at h <;> first | rfl | exact h.elim)) h
theorem qAge {K : PySem.W.Frag} {cs : List Str} (T : KF K cs) (hRatio : ("Ratio" : Str) ∈ cs) (hPoly : ("Poly" : Str) ∈ cs) (vs : List V) (H : Hp) (Q : VK) (E : XK) (h : (lift K qJ8) vs H Q E) : qPc K cs { nx := fun _ H' => Q .non H', rt := Q } (start ["found", "step"] vs) H :=
  qCx rfl (qAjy T hRatio hPoly) (qAj1 hRatio hPoly) vs H Q E h
theorem qAl8 {K : PySem.W.Frag} {cs : List Str} (vs : List V) (H : Hp) (Q : VK) (E : XK) (h : (lift K (qIr cs)) vs H Q E) : vs.length = 2 := qAr (fun ds P X h => by unfold qIr at h; first | ((repeat (first | (obtain ⟨rfl, _⟩ := h; exact rfl) | obtain ⟨_, h⟩ := h)); done) | (split at h <;> first | rfl | exact h.elim)) h
theorem qApz {K : PySem.W.Frag} {cs : List Str} (T : KF K cs) (hRatio : ("Ratio" : Str) ∈ cs) (hPoly : ("Poly" : Str) ∈ cs) (hPlace : ("Place" : Str) ∈ cs) (vs : List V) (H : Hp) (Q : VK) (E : XK) (h : (lift K (qIr cs)) vs H Q E) : qV9 K cs E { nx := fun _ H' => Q .non H', rt := Q } (start ["row", "place"] vs) H :=
  qU4 (t := fun E => qV9 K cs E) rfl (qArg T hRatio hPoly hPlace) (qAr0 hRatio hPoly hPlace) vs H Q E h
end MR

set_option Elab.async false
set_option linter.all false
set_option maxRecDepth 100000
set_option maxHeartbeats 4000000
set_option exponentiation.threshold 20000
namespace MR
open PySem PySem.Spec PyProof.Rows L2
/-- what a lot of the law holds -/
structure LotOk (n : Nat) (xs ws : List Int) (b c : Int) : Prop where
  l : xs.length = ws.length
  l1 : xs.length ≤ 100
  x : ∀ x, x ∈ xs → x.natAbs < 2 ^ 70
  w : ∀ w, w ∈ ws → w.natAbs < 2 ^ n
  b0 : 0 < b
  b1 : b.natAbs < 2 ^ 6
  c0 : 0 < c
  c1 : c.natAbs < 2 ^ n
/-- a drawn lot -/
structure LotS (k : Int) (xs ws : List Int) (b c : Int) : Prop extends LotOk 28 xs ws b c where
  sx : ∀ x, x ∈ xs → x.natAbs < 2 ^ 34
  sb : b ≤ 5
  sc : c ≤ 9
  sl : (xs.length : Int) ≤ k
abbrev lotD (xs ws : List Int) (b c : Int) : D := .lst [.lst (qMe xs), .lst (qMe ws), .int b, .int c]
def qV6 : FSp := fun ds P _ => ∃ k : Int, ds = [.feed, .int k] ∧ 0 ≤ k ∧ k ≤ 90 ∧ ∀ xs ws b c, LotS k xs ws b c → P (lotD xs ws b c)
def powL (ws xs : List Int) (k : Nat) : List Int := (List.range xs.length).map fun i => ws.getD i 0 * xs.getD i 0 ^ k
def qY1 (xs ws : List Int) (b c : Int) (k : Nat) : Int × Int := ((powL ws xs k).sum, c * b ^ k)
def qArr : FSp := fun ds P _ => ∃ xs ws b c n d, ds = [lotD xs ws b c, .int d] ∧ LotOk n xs ws b c ∧ n ≤ 400 ∧ -1 ≤ d ∧ d ≤ 12 ∧ P (.lst (prL ((List.range (d + 1).toNat).map (qY1 xs ws b c))))
/-! ### a lot is drawn -/
theorem qAea {k z : Int} {FD : FEnds} {mx : Nat} (hmx : mx ≤ 90) (z0 : 0 < z) (z1 : z ≤ 2 ^ 27)
    (fin : ∀ xs ws v3 v6, xs.length = ws.length → xs.length ≤ mx → (∀ x, x ∈ xs → x.natAbs < 2 ^ 34) → (∀ w, w ∈ ws → w.natAbs < 2 ^ 28) → FD.nx [some .feed, some (.int k), some (.int z), v3, some (.lst (qMe xs)), some (.lst (qMe ws)), v6]) :
    ∀ (items : List D) (xs ws : List Int) (t : Int) (v6 : Option D), xs.length = ws.length → xs.length + items.length ≤ mx → t.natAbs ≤ (xs.length + 1) * 2 ^ 27 → (∀ x, x ∈ xs → x.natAbs < 2 ^ 34) → (∀ w, w ∈ ws → w.natAbs < 2 ^ 28) →
      qCk (qBf 6) (qAy (qQc 4 (qAe 3))
  (qAy (qQc 5 (fOp qKu (fC (.int 1)) (qAg qBp [] (qAc (qAe 0) (qAc (qAe 2) qAm)))))
  (qCu 3 (fOp qKu (fOp qKu (qAe 3) (fC (.int 1))) (qAg qBp [] (qAc (qAe 0) (qAc (qAe 2) qAm))))))) FD items [some .feed, some (.int k), some (.int z), some (.int t), some (.lst (qMe xs)), some (.lst (qMe ws)), v6]
  | [], xs, ws, t, v6, l1, l2, ht, hx, hw => by
    simp only [List.length_nil, Nat.add_zero] at l2
    exact fin xs ws _ _ l1 l2 hx hw
  | d :: items, xs, ws, t, v6, l1, l2, ht, hx, hw => by
    rw [List.length_cons] at l2
    unfold qCk
    simp_arith [qGr]
    refine ⟨qCg (by omega), ?_⟩
    refine qC6 z0 (p2 (n := 30) (by omega) (by decide)) fun a a0 a1 => ?_
    simp_arith [qGr]
    refine ⟨qCg (by omega), ?_⟩
    refine qC6 z0 (p2 (n := 30) (by omega) (by decide)) fun b b0 b1 => ?_
    simp_arith []
    rw [qAde, qAde]
    have ht2 : t.natAbs < 2 ^ 34 := by
      have : (xs.length + 1) * 2 ^ 27 ≤ 91 * 2 ^ 27 := Nat.mul_le_mul_right _ (by omega)
      omega
    refine qAea hmx z0 z1 fin items (xs ++ [t]) (ws ++ [1 + a]) (t + 1 + b) _ (by simp [l1]) (by simp; omega) ?_ (fun x h => ?_) (fun w h => ?_)
    · rw [List.length_append, List.length_singleton, Nat.add_mul (xs.length + 1) 1]
      omega
    · rcases List.mem_append.mp h with h | h
      · exact hx x h
      · rw [List.mem_singleton.mp h]; exact ht2
    · rcases List.mem_append.mp h with h | h
      · exact hw w h
      · rw [List.mem_singleton.mp h]; omega
/-! ### the numbers of a lot -/
theorem qAhd {n : Nat} : ∀ {xs : List Int}, (∀ x, x ∈ xs → x.natAbs < 2 ^ n) → xs.sum.natAbs ≤ xs.length * 2 ^ n
  | [], _ => by simp
  | x :: xs, h => by
    have h1 := h x (List.mem_cons_self ..)
    have h2 := qAhd fun y hy => h y (List.mem_cons_of_mem _ hy)
    rw [List.sum_cons, List.length_cons, Nat.add_mul, Nat.one_mul]
    omega
theorem qGx {xs : List Int} {i : Nat} (h : i < xs.length) : xs.getD i 0 ∈ xs := by
  rw [List.getD_eq_getElem?_getD, List.getElem?_eq_getElem h]
  exact List.getElem_mem h
theorem qWc {xs : List Int} {i : Nat} (h : i < xs.length) : xs[i]? = some (xs.getD i 0) := by
  rw [List.getD_eq_getElem?_getD, List.getElem?_eq_getElem h]
  rfl
theorem qAds {x : Int} {m : Nat} (h : x.natAbs < 2 ^ m) : ∀ k, (x ^ k).natAbs < 2 ^ (m * k + 1)
  | 0 => by simp
  | k + 1 => by
    rw [Int.pow_succ]
    have := qAc6 (qAds h k) h
    exact Nat.lt_of_lt_of_le this (Nat.pow_le_pow_right (by decide) (by rw [Nat.mul_add]; omega))
theorem qMo (ws xs : List Int) (k : Nat) : (powL ws xs k).length = xs.length := by simp [powL]
theorem qV1 {ws xs : List Int} {k i : Nat} (h : i < xs.length) : (powL ws xs k)[i]? = some (ws.getD i 0 * xs.getD i 0 ^ k) := by
  unfold powL
  rw [List.getElem?_map, List.getElem?_range h]
  rfl
section
variable {n : Nat} {xs ws : List Int} {b c : Int}
theorem LotOk.pw (h : LotOk n xs ws b c) (k : Nat) (x : Int) (hx : x ∈ powL ws xs k) : x.natAbs < 2 ^ (n + (70 * k + 1)) := by
  unfold powL at hx
  obtain ⟨i, hi, rfl⟩ := List.mem_map.mp hx
  have hi' := List.mem_range.mp hi
  exact qAc6 (h.w _ (qGx (by rw [← h.l]; exact hi'))) (qAds (h.x _ (qGx hi')) k)
theorem LotOk.bt (h : LotOk n xs ws b c) (k : Nat) : (c * b ^ k).natAbs < 2 ^ (n + (6 * k + 1)) := qAc6 h.c1 (qAds (m := 6) h.b1 k)
theorem LotOk.num (h : LotOk n xs ws b c) {k : Nat} (hk : k ≤ 12) : SzP (n + 848) (qY1 xs ws b c k) := by
  have s := qAhd (h.pw k)
  have p0 : 2 ^ (n + (70 * k + 1)) ≤ 2 ^ (n + 841) := Nat.pow_le_pow_right (by decide) (by omega)
  have l1 := h.l1
  refine ⟨?_, ?_, ?_⟩
  · show (powL ws xs k).sum.natAbs < _
    rw [qMo] at s
    have : xs.length * 2 ^ (n + (70 * k + 1)) ≤ 100 * 2 ^ (n + 841) := Nat.mul_le_mul l1 p0
    have e : 2 ^ (n + 848) = 128 * 2 ^ (n + 841) := by rw [show n + 848 = 7 + (n + 841) by omega, Nat.pow_add]
    have pos : 0 < 2 ^ (n + 841) := Nat.pow_pos (by decide)
    omega
  · exact Nat.lt_of_lt_of_le (h.bt k) (Nat.pow_le_pow_right (by decide) (by omega))
  · exact Int.mul_pos h.c0 (Int.pow_pos h.b0)
theorem lix {i : Int} {e : D} {P : D → Prop} {X : XP} {ds : List D} (h : atI ds i = some e) (p : P e) : oIx (.lst ds) (.int i) P X := ⟨_, _, _, .inl rfl, rfl, h, p⟩
theorem ixa {a b c d : D} {P : D → Prop} {X : XP} : oIx (.lst [a, b, c, d]) (.int 0) P X ↔ P a := by
  constructor
  · rintro ⟨ds, n, e, h, hn, ha, p⟩
    cases hn
    rcases h with h | h <;> cases h
    cases ha; exact p
  · exact fun p => ⟨_, _, a, .inl rfl, rfl, rfl, p⟩
theorem ixb {a b c d : D} {P : D → Prop} {X : XP} : oIx (.lst [a, b, c, d]) (.int 1) P X ↔ P b := by
  constructor
  · rintro ⟨ds, n, e, h, hn, ha, p⟩
    cases hn
    rcases h with h | h <;> cases h
    cases ha; exact p
  · exact fun p => ⟨_, _, b, .inl rfl, rfl, rfl, p⟩
theorem ixc {a b c d : D} {P : D → Prop} {X : XP} : oIx (.lst [a, b, c, d]) (.int 2) P X ↔ P c := by
  constructor
  · rintro ⟨ds, n, e, h, hn, ha, p⟩
    cases hn
    rcases h with h | h <;> cases h
    cases ha; exact p
  · exact fun p => ⟨_, _, c, .inl rfl, rfl, rfl, p⟩
theorem ixd {a b c d : D} {P : D → Prop} {X : XP} : oIx (.lst [a, b, c, d]) (.int 3) P X ↔ P d := by
  constructor
  · rintro ⟨ds, n, e, h, hn, ha, p⟩
    cases hn
    rcases h with h | h <;> cases h
    cases ha; exact p
  · exact fun p => ⟨_, _, d, .inl rfl, rfl, rfl, p⟩
def toPw (ws xs : List Int) (k : Nat) (d : D) : D := match d with
  | .int i => .int (ws.getD i.toNat 0 * xs.getD i.toNat 0 ^ k)
  | e => e
theorem qAe4 {FD : FEnds} {d : Int} (h : LotOk n xs ws b c) (hn : n ≤ 400) {N : Nat} (hN : N ≤ 13)
    (fin : ∀ v3 v4 v5 v6 v7, FD.nx [some (lotD xs ws b c), some (.int d), some (.lst (prL ((List.range N).map (qY1 xs ws b c)))), v3, v4, v5, v6, v7]) :
    ∀ (r k : Nat) (v5 v6 v7 : Option D), k + r = N → qCk (qBf 5) (qAy (qQc 2 (qF1 (qAc (fLs oSum (qAc (fLc (qQz (qAe 3)) (qBf 7) qI8 (fLs qXq (qAc (qAe 7) qAm)) [7]) qAm)) (qAc (qAe 4) qAm))))
  (qAy (qCu 3 (fLc (qFa (qAc (fLs qIx (qAc (qAe 3) qAm)) qAm)) (qBf 6) qI8 (fOp qQ6 (fOp qBu (qAe 3) (qAe 6)) (fOp qBu (fOp qBu (qAe 0) (fC (.int 0))) (qAe 6))) [6]))
  (qCu 4 (fOp qQ6 (qAe 4) (fOp qBu (qAe 0) (fC (.int 2))))))) FD (qKx (k : Nat) r) [some (lotD xs ws b c), some (.int d), some (.lst (prL ((List.range k).map (qY1 xs ws b c)))), some (.lst (qMe (powL ws xs k))), some (.int (c * b ^ k)), v5, v6, v7]
  | 0, k, v5, v6, v7, hk => by
    have : k = N := by omega
    subst this
    exact fin _ _ _ _ _
  | r + 1, k, v5, v6, v7, hk => by
    have ih := qAe4 h hn hN fin r (k + 1)
    have l1 := h.l1
    have hl := h.l
    rw [qGj]
    unfold qCk
    simp_arith [fLc, qQz]
    refine qMl id _ [] (fun e he Q q => ?_) ?_ ?_
    · unfold qMe at he
      obtain ⟨i, _, rfl⟩ := List.mem_map.mp he
      simp only [qIv]
      simp_arith []
      exact q
    · rw [qGr, qMo]
      exact qCg (by simp only [List.length_nil]; omega)
    · rw [List.nil_append, List.map_id]
      refine ⟨_, rfl, ?_⟩
      simp_arith [fLc, qFa, qGr, qMo, qAhl]
      refine ⟨by decide, qCg (by simp; omega), by omega, by omega, ?_⟩
      rw [Int.toNat_natCast]
      refine qMl (toPw ws xs (k + 1)) _ [] (fun e he Q q => ?_) ?_ ?_
      · obtain ⟨j, hj, rfl⟩ := List.mem_map.mp he
        have hj' := List.mem_range.mp hj
        simp only [qIv]
        simp_arith [ixa]
        have e0 : (0 : Int) + (j : Int) = (j : Int) := by omega
        rw [e0]
        refine qEx rfl (qAdd (qV1 hj')) ?_
        refine qEx rfl (qAdd (qWc hj')) ?_
        simp_arith []
        have q' : Q (.int (ws.getD ((0 : Int) + (j : Int)).toNat 0 * xs.getD ((0 : Int) + (j : Int)).toNat 0 ^ (k + 1))) := q
        rw [show ((0 : Int) + (j : Int)).toNat = j by omega, Int.pow_succ, ← Int.mul_assoc] at q'
        exact ⟨qAjq (h.pw k _ (List.mem_of_getElem? (qV1 hj'))) (h.x _ (qGx hj')) (by omega), q'⟩
      · simp only [qKx, List.length_map, List.length_range, List.length_nil]
        exact qCg (by omega)
      · have e2 : (qKx 0 xs.length).map (toPw ws xs (k + 1)) = qMe (powL ws xs (k + 1)) := by
          unfold qKx qMe powL
          rw [List.map_map, List.map_map]
          refine List.map_congr_left fun j _ => ?_
          show D.int (ws.getD ((0 : Int) + (j : Int)).toNat 0 * xs.getD ((0 : Int) + (j : Int)).toNat 0 ^ (k + 1)) = _
          rw [show ((0 : Int) + (j : Int)).toNat = j by omega]
          rfl
        rw [List.nil_append, e2]
        simp_arith [ixc]
        refine ⟨qAjq (h.bt k) (m := 6) h.b1 (by omega), ?_⟩
        have z := ih (some (.int (k : Nat))) v6 v7 (by omega)
        rw [List.range_succ, List.map_append, List.map_singleton, ← qAom, Int.pow_succ, ← Int.mul_assoc] at z
        exact z
end
end MR

set_option Elab.async false
set_option linter.all false
set_option maxRecDepth 100000
set_option maxHeartbeats 4000000
/-! FL: max(xs), min(xs) -/
namespace MR
open PySem PySem.Spec PyProof.Rows L2 LamX
section
variable {K : PySem.W.Frag} {E1 : XK}
def qAk0 : OL := fun as P _ => ∃ ns : List Int, as = [.lst (qMe ns)] ∧ 0 < ns.length ∧ ∀ m, m ∈ ns → (∀ y, y ∈ ns → y ≤ m) → P (.int m)
def qAlx : OL := fun as P _ => ∃ ns : List Int, as = [.lst (qMe ns)] ∧ 0 < ns.length ∧ ∀ m, m ∈ ns → (∀ y, y ∈ ns → m ≤ y) → P (.int m)
theorem qAoa : LsS K E1 (rMax K) qAk0 := by
  intro F M H xs as P X Q lv ra h q x'
  obtain ⟨ns, rfl, h0, p⟩ := h
  obtain ⟨v, rfl, r⟩ := qMr ra
  obtain ⟨a, vs, rfl, ok, e, r⟩ := r
  rw [qMm r] at e
  exact ⟨a, ns, rfl, SqL.of e, h0, fun m hm hy => q _ _ _ (p m hm hy) .refl rfl⟩
theorem qApb : LsS K E1 (rMin K) qAlx := by
  intro F M H xs as P X Q lv ra h q x'
  obtain ⟨ns, rfl, h0, p⟩ := h
  obtain ⟨v, rfl, r⟩ := qMr ra
  obtain ⟨a, vs, rfl, ok, e, r⟩ := r
  rw [qMm r] at e
  exact ⟨a, ns, rfl, SqL.of e, h0, fun m hm hy => q _ _ _ (p m hm hy) .refl rfl⟩
end
end MR

set_option Elab.async false
set_option linter.all false
set_option maxRecDepth 100000
set_option maxHeartbeats 4000000
set_option exponentiation.threshold 20000
namespace MR
open PySem PySem.Spec PyProof.Rows L2
def optI : Option Int → D
  | none => .non
  | some i => .int i
/-- the ends of a drawn place -/
structure EndsOk (lo hi : Option Int) : Prop where
  no : lo = none → hi = none
  lt : ∀ a b, lo = some a → hi = some b → a < b
  la : ∀ a, lo = some a → a.natAbs < 2 ^ 36
  lb : ∀ b, hi = some b → b.natAbs < 2 ^ 36
def qJv : FSp := qArr
def qIn : FSp := fun ds P _ => ∃ xs ws b c k, ds = [.feed, lotD xs ws b c] ∧ LotS k xs ws b c ∧ ∀ lo hi : Option Int, EndsOk lo hi → P (.lst [optI lo, optI hi])
def optR (b : Int) : Option Int → Option Rat
  | none => none
  | some a => some (Rat.divInt a b)
def qGm (cs : List Str) : FSp := fun ds P _ => ∃ lo hi b, ds = [.lst [optI lo, optI hi], .int b] ∧ EndsOk lo hi ∧ 0 < b ∧ b ≤ 1000 ∧ P (qB0 (optR b lo) (optR b hi))
/-- a drawn row: tops, bottoms -/
structure SzT (p : Int × Int) : Prop where
  a : p.1.natAbs < 2 ^ 320
  b : p.2.natAbs < 2 ^ 24
  pos : 0 < p.2
def qMp : FSp := fun ds P _ => ∃ xs ws b c k, ∃ d : Int, ds = [.feed, lotD xs ws b c, .int d] ∧ LotS k xs ws b c ∧ k ≤ 6 ∧ 0 ≤ d ∧ d ≤ 8 ∧ ∀ ps : List (Int × Int), (ps.length : Int) = d + 1 → (∀ p, p ∈ ps → SzT p) → P (.lst (prL ps))
def qSu (K : PySem.W.Frag) (cs : List Str) : TS :=
  (tSeq (tAsg (tOp (rIxL K) (tLst (tCons (tC (.int 2)) (tCons (tC (.int 40)) (tCons (tOp qApg (tC (.int 10)) (tC (.int 4))) tNil)))) (tCall (lift K qBp) [] E0 (tCons (tVar 0) (tCons (tC (.int 3)) tNil)))) (gName 2))
  (tSeq (tAsg (tCall (lift K qEz) [] E0 (tCons (tVar 0) (tCons (tVar 2) tNil))) (gName 3))
  (tSeq (tAsg (tLst tNil) (gName 4))
  (tSeq (tAsg (tLst tNil) (gName 5))
  (tSeq (tFor (iRng1 (tCons (tCall (lift K qBp) [] E0 (tCons (tVar 0) (tCons (tOp qEf (tVar 1) (tC (.int 1))) tNil))) tNil)) (gName 6) (tSeq (tDrop (tBM K "list" rAppend (tVar 4) (tCons (tVar 3) tNil)))
  (tSeq (tDrop (tBM K "list" rAppend (tVar 5) (tCons (tOp qEf (tC (.int 1)) (tCall (lift K qBp) [] E0 (tCons (tVar 0) (tCons (tVar 2) tNil)))) tNil)))
  (tAsg (tOp qEf (tOp qEf (tVar 3) (tC (.int 1))) (tCall (lift K qBp) [] E0 (tCons (tVar 0) (tCons (tVar 2) tNil)))) (gName 3)))))
  (tRet (tLst (tCons (tVar 4) (tCons (tVar 5) (tCons (tOp qEf (tC (.int 1)) (tCall (lift K qBp) [] E0 (tCons (tVar 0) (tCons (tC (.int 5)) tNil)))) (tCons (tOp qEf (tC (.int 1)) (tCall (lift K qBp) [] E0 (tCons (tVar 0) (tCons (tC (.int 9)) tNil)))) tNil)))))))))))
def qVl (cs : List Str) : FS :=
  (qAy (qCu 2 (fOp qBu (qF1 (qAc (fC (.int 2)) (qAc (fC (.int 40)) (qAc (fOp oPow (fC (.int 10)) (fC (.int 4))) qAm)))) (qAg qBp [] (qAc (qAe 0) (qAc (fC (.int 3)) qAm)))))
  (qAy (qCu 3 (qAg qEz [] (qAc (qAe 0) (qAc (qAe 2) qAm))))
  (qAy (qS9 4 (qF1 qAm))
  (qAy (qS9 5 (qF1 qAm))
  (qAy (qGn (qFa (qAc (qAg qBp [] (qAc (qAe 0) (qAc (fOp qKu (qAe 1) (fC (.int 1))) qAm))) qAm)) (qBf 6) (qAy (qQc 4 (qAe 3))
  (qAy (qQc 5 (fOp qKu (fC (.int 1)) (qAg qBp [] (qAc (qAe 0) (qAc (qAe 2) qAm)))))
  (qCu 3 (fOp qKu (fOp qKu (qAe 3) (fC (.int 1))) (qAg qBp [] (qAc (qAe 0) (qAc (qAe 2) qAm))))))))
  (qCr (qF1 (qAc (qAe 4) (qAc (qAe 5) (qAc (fOp qKu (fC (.int 1)) (qAg qBp [] (qAc (qAe 0) (qAc (fC (.int 5)) qAm)))) (qAc (fOp qKu (fC (.int 1)) (qAg qBp [] (qAc (qAe 0) (qAc (fC (.int 9)) qAm)))) qAm)))))))))))
theorem qAk5 {K : PySem.W.Frag} {cs : List Str} (T : KF K cs) (hRatio : ("Ratio" : Str) ∈ cs) : SS K Ta [] [] [] [] (fun _ => E0) (qSu K cs) (qVl cs) :=
  (qAl (ow1 := []) (qAx (by decide) (by decide) (qAi (fun _ => qAz) (qD2 (qAa qAj (qAa qAj (qAa (qAi (fun _ => qArw) qAj qAj) qAd)))) (qAk Lift.refl qAf (qAa (qAb (by decide)) (qAa qAj qAd)))))
  (qAl (ow1 := []) (qAx (by decide) (by decide) (qAk Lift.refl qAf (qAa (qAb (by decide)) (qAa (qAb (by decide)) qAd))))
  (qAl (ow1 := [4]) (qJn (by decide) (by decide) (qQe qAd))
  (qAl (ow1 := [5, 4]) (qJn (by decide) (by decide) (qQe qAd))
  (qAl (ow1 := [5, 4]) (qE5 (by decide) (qFo (qAa (qAk Lift.refl qAf (qAa (qAb (by decide)) (qAa (qAi (fun _ => qD1) (qAb (by decide)) qAj) qAd))) qAd)) (qBy (by decide)) (qAl (ow1 := [5, 4]) (qK1 (by decide) (by decide) (qAb (by decide)))
  (qAl (ow1 := [5, 4]) (qK1 (by decide) (by decide) (qAi (fun _ => qD1) qAj (qAk Lift.refl qAf (qAa (qAb (by decide)) (qAa (qAb (by decide)) qAd)))))
  (qAx (by decide) (by decide) (qAi (fun _ => qD1) (qAi (fun _ => qD1) (qAb (by decide)) qAj) (qAk Lift.refl qAf (qAa (qAb (by decide)) (qAa (qAb (by decide)) qAd))))))))
  (qL4 (ow1 := []) (by decide) (qAq (by decide) (qD2 (qAa (qAb (by decide)) (qAa (qAb (by decide)) (qAa (qAi (fun _ => qD1) qAj (qAk Lift.refl qAf (qAa (qAb (by decide)) (qAa qAj qAd)))) (qAa (qAi (fun _ => qD1) qAj (qAk Lift.refl qAf (qAa (qAb (by decide)) (qAa qAj qAd)))) qAd))))))))))))
def qIk (K : PySem.W.Frag) (cs : List Str) : TS :=
  (tSeq (tAsg (tLst tNil) (gName 2))
  (tSeq (tAsg (tCB (qUv K) (tCons (tOp (rIxL K) (tVar 0) (tC (.int 1))) tNil)) (gName 3))
  (tSeq (tAsg (tOp (rIxL K) (tVar 0) (tC (.int 3))) (gName 4))
  (tSeq (tFor (iRng1 (tCons (tOp qEf (tVar 1) (tC (.int 1))) tNil)) (gName 5) (tSeq (tDrop (tBM K "list" rAppend (tVar 2) (tCons (tLst (tCons (tCB (rSum K) (tCons (tLc (iList K (tVar 3)) (gName 7) tYes (tCB qTi (tCons (tVar 7) tNil)) [7]) tNil)) (tCons (tVar 4) tNil))) tNil)))
  (tSeq (tAsg (tLc (iRng1 (tCons (tCB (qFq K) (tCons (tVar 3) tNil)) tNil)) (gName 6) tYes (tOp qFp (tOp (rIxL K) (tVar 3) (tVar 6)) (tOp (rIxL K) (tOp (rIxL K) (tVar 0) (tC (.int 0))) (tVar 6))) [6]) (gName 3))
  (tAsg (tOp qFp (tVar 4) (tOp (rIxL K) (tVar 0) (tC (.int 2)))) (gName 4)))))
  (tRet (tVar 2))))))
def qJy (cs : List Str) : FS :=
  (qAy (qS9 2 (qF1 qAm))
  (qAy (qCu 3 (fLs qQh (qAc (fOp qBu (qAe 0) (fC (.int 1))) qAm)))
  (qAy (qCu 4 (fOp qBu (qAe 0) (fC (.int 3))))
  (qAy (qGn (qFa (qAc (fOp qKu (qAe 1) (fC (.int 1))) qAm)) (qBf 5) (qAy (qQc 2 (qF1 (qAc (fLs oSum (qAc (fLc (qQz (qAe 3)) (qBf 7) qI8 (fLs qXq (qAc (qAe 7) qAm)) [7]) qAm)) (qAc (qAe 4) qAm))))
  (qAy (qCu 3 (fLc (qFa (qAc (fLs qIx (qAc (qAe 3) qAm)) qAm)) (qBf 6) qI8 (fOp qQ6 (fOp qBu (qAe 3) (qAe 6)) (fOp qBu (fOp qBu (qAe 0) (fC (.int 0))) (qAe 6))) [6]))
  (qCu 4 (fOp qQ6 (qAe 4) (fOp qBu (qAe 0) (fC (.int 2))))))))
  (qAab 2)))))
theorem qY0 {K : PySem.W.Frag} {cs : List Str} (T : KF K cs) (hRatio : ("Ratio" : Str) ∈ cs) : SS K Ta [] [] [] [] (fun _ => E0) (qIk K cs) (qJy cs) :=
  (qAl (ow1 := [2]) (qJn (by decide) (by decide) (qQe qAd))
  (qAl (ow1 := [2]) (qAx (by decide) (by decide) (SF.se (qYk (qAa (qAi (fun _ => qAz) (qAb (by decide)) qAj) qAd))))
  (qAl (ow1 := [2]) (qAx (by decide) (by decide) (qAi (fun _ => qAz) (qAb (by decide)) qAj))
  (qAl (ow1 := [2]) (qE5 (by decide) (qFo (qAa (qAi (fun _ => qD1) (qAb (by decide)) qAj) qAd)) (qBy (by decide)) (qAl (ow1 := [2]) (qK1 (by decide) (by decide) (qD2 (qAa (qEg (fun _ => qAqk) (qAa (SF.se (qO5 (by decide) (by decide) (qIt (qAb (by decide))) (qBy (by decide)) qH5 (qEg (fun _ => qAdm) (qAa (qAb (by decide)) qAd)))) qAd)) (qAa (qAb (by decide)) qAd))))
  (qAl (ow1 := [2]) (qAx (by decide) (by decide) (SF.se (qO5 (by decide) (by decide) (qFo (qAa (qEg (fun _ => qD0) (qAa (qAb (by decide)) qAd)) qAd)) (qBy (by decide)) qH5 (qAi (fun _ => qEt) (qAi (fun _ => qAz) (qAb (by decide)) (qAb (by decide))) (qAi (fun _ => qAz) (qAi (fun _ => qAz) (qAb (by decide)) qAj) (qAb (by decide)))))))
  (qAx (by decide) (by decide) (qAi (fun _ => qEt) (qAb (by decide)) (qAi (fun _ => qAz) (qAb (by decide)) qAj))))))
  (qAj6 (by decide))))))
def qOs (K : PySem.W.Frag) (cs : List Str) : TS :=
  (tSeq (tAsg (tCall (lift K qBp) [] E0 (tCons (tVar 0) (tCons (tC (.int 3)) tNil))) (gName 2))
  (tSeq (tIfS (tTest (tOp rEq (tVar 2) (tC (.int 0)))) (tRet (tLst (tCons (tC .non) (tCons (tC .non) tNil)))) tNext)
  (tSeq (tAsg (tOp rCat (tLc (iList K (tOp (rIxL K) (tVar 1) (tC (.int 0)))) (gName 6) tYes (tCB qTi (tCons (tVar 6) tNil)) [6]) (tLst (tCons (tC (.int 0)) tNil))) (gName 3))
  (tSeq (tAsg (tOp qNi (tCB (rMin K) (tCons (tLc (iList K (tVar 3)) (gName 6) tYes (tCB qTi (tCons (tVar 6) tNil)) [6]) tNil)) (tOp (rIxL K) (tLst (tCons (tC (.int 0)) (tCons (tC (.int 0)) (tCons (tC (.int 1)) (tCons (tC (.int 7)) tNil))))) (tCall (lift K qBp) [] E0 (tCons (tVar 0) (tCons (tC (.int 4)) tNil))))) (gName 4))
  (tSeq (tIfS (tAnd (tTest (tOp rGt0 (tCB (qFq K) (tCons (tOp (rIxL K) (tVar 1) (tC (.int 0))) tNil)) (tC (.int 0)))) (tAnd (tTest (tOp rGt0 (tOp (rIxL K) (tOp (rIxL K) (tVar 1) (tC (.int 0))) (tC (.int 0))) (tC (.int 0)))) (tTest (tOp rEq (tCall (lift K qBp) [] E0 (tCons (tVar 0) (tCons (tC (.int 2)) tNil))) (tC (.int 0)))))) (tAsg (tOp (rIxL K) (tOp (rIxL K) (tVar 1) (tC (.int 0))) (tC (.int 0))) (gName 4)) tNext)
  (tSeq (tIfS (tTest (tOp rEq (tVar 2) (tC (.int 1)))) (tRet (tLst (tCons (tVar 4) (tCons (tC .non) tNil)))) tNext)
  (tSeq (tAsg (tOp qEf (tCB (rMax K) (tCons (tLc (iList K (tVar 3)) (gName 6) tYes (tCB qTi (tCons (tVar 6) tNil)) [6]) tNil)) (tOp (rIxL K) (tLst (tCons (tC (.int 0)) (tCons (tC (.int 0)) (tCons (tC (.int 1)) (tCons (tC (.int 7)) tNil))))) (tCall (lift K qBp) [] E0 (tCons (tVar 0) (tCons (tC (.int 4)) tNil))))) (gName 5))
  (tSeq (tIfS (tAnd (tTest (tOp rGt0 (tCB (qFq K) (tCons (tOp (rIxL K) (tVar 1) (tC (.int 0))) tNil)) (tC (.int 0)))) (tAnd (tTest (tOp rLt0 (tOp (rIxL K) (tOp (rIxL K) (tVar 1) (tC (.int 0))) (tUn qO2 (tC (.int 1)))) (tC (.int 0)))) (tTest (tOp rEq (tCall (lift K qBp) [] E0 (tCons (tVar 0) (tCons (tC (.int 2)) tNil))) (tC (.int 0)))))) (tAsg (tOp (rIxL K) (tOp (rIxL K) (tVar 1) (tC (.int 0))) (tUn qO2 (tC (.int 1)))) (gName 5)) tNext)
  (tSeq (tIfS (tTest (tOp rLe0 (tVar 5) (tVar 4))) (tAsg (tOp qEf (tVar 4) (tC (.int 1))) (gName 5)) tNext)
  (tRet (tLst (tCons (tVar 4) (tCons (tVar 5) tNil)))))))))))))
def qAhj (cs : List Str) : FS :=
  (qCr (qF1 (qAc (qAe 4) (qAc (qAe 5) qAm))))
def qAil (cs : List Str) : FS :=
  qAy (qC1 (fB (fOp oLe (qAe 5) (qAe 4))) (qCu 5 (fOp qKu (qAe 4) (fC (.int 1)))) qAv) (qAhj cs)
def qAm3 (cs : List Str) : FS :=
  qAy (qC1 (qRh (fB (fOp oGt (fLs qIx (qAc (fOp qBu (qAe 1) (fC (.int 0))) qAm)) (fC (.int 0)))) (qRh (fB (fOp oLt (fOp qBu (fOp qBu (qAe 1) (fC (.int 0))) (fUn qQ7 (fC (.int 1)))) (fC (.int 0)))) (fB (fOp oEq (qAg qBp [] (qAc (qAe 0) (qAc (fC (.int 2)) qAm))) (fC (.int 0)))))) (qCu 5 (fOp qBu (fOp qBu (qAe 1) (fC (.int 0))) (fUn qQ7 (fC (.int 1))))) qAv) (qAil cs)
def qAnl (cs : List Str) : FS :=
  qAy (qCu 5 (fOp qKu (fLs qAk0 (qAc (fLc (qQz (qAe 3)) (qBf 6) qI8 (fLs qXq (qAc (qAe 6) qAm)) [6]) qAm)) (fOp qBu (qF1 (qAc (fC (.int 0)) (qAc (fC (.int 0)) (qAc (fC (.int 1)) (qAc (fC (.int 7)) qAm))))) (qAg qBp [] (qAc (qAe 0) (qAc (fC (.int 4)) qAm)))))) (qAm3 cs)
def qAim (cs : List Str) : FS :=
  qAy (qC1 (fB (fOp oEq (qAe 2) (fC (.int 1)))) (qCr (qF1 (qAc (qAe 4) (qAc (fC .non) qAm)))) qAv) (qAnl cs)
def qAm7 (cs : List Str) : FS :=
  qAy (qC1 (qRh (fB (fOp oGt (fLs qIx (qAc (fOp qBu (qAe 1) (fC (.int 0))) qAm)) (fC (.int 0)))) (qRh (fB (fOp oGt (fOp qBu (fOp qBu (qAe 1) (fC (.int 0))) (fC (.int 0))) (fC (.int 0)))) (fB (fOp oEq (qAg qBp [] (qAc (qAe 0) (qAc (fC (.int 2)) qAm))) (fC (.int 0)))))) (qCu 4 (fOp qBu (fOp qBu (qAe 1) (fC (.int 0))) (fC (.int 0)))) qAv) (qAim cs)
def qAmy (cs : List Str) : FS :=
  qAy (qCu 4 (fOp qXp (fLs qAlx (qAc (fLc (qQz (qAe 3)) (qBf 6) qI8 (fLs qXq (qAc (qAe 6) qAm)) [6]) qAm)) (fOp qBu (qF1 (qAc (fC (.int 0)) (qAc (fC (.int 0)) (qAc (fC (.int 1)) (qAc (fC (.int 7)) qAm))))) (qAg qBp [] (qAc (qAe 0) (qAc (fC (.int 4)) qAm)))))) (qAm7 cs)
def qAm2 (cs : List Str) : FS :=
  qAy (qCu 3 (fOp oCat (fLc (qQz (fOp qBu (qAe 1) (fC (.int 0)))) (qBf 6) qI8 (fLs qXq (qAc (qAe 6) qAm)) [6]) (qF1 (qAc (fC (.int 0)) qAm)))) (qAmy cs)
def qAnz (cs : List Str) : FS :=
  qAy (qC1 (fB (fOp oEq (qAe 2) (fC (.int 0)))) (qCr (qF1 (qAc (fC .non) (qAc (fC .non) qAm)))) qAv) (qAm2 cs)
def qAm5 (cs : List Str) : FS :=
  qAy (qCu 2 (qAg qBp [] (qAc (qAe 0) (qAc (fC (.int 3)) qAm)))) (qAnz cs)
def qSy (cs : List Str) : FS :=
  (qAy (qCu 2 (qAg qBp [] (qAc (qAe 0) (qAc (fC (.int 3)) qAm))))
  (qAy (qC1 (fB (fOp oEq (qAe 2) (fC (.int 0)))) (qCr (qF1 (qAc (fC .non) (qAc (fC .non) qAm)))) qAv)
  (qAy (qCu 3 (fOp oCat (fLc (qQz (fOp qBu (qAe 1) (fC (.int 0)))) (qBf 6) qI8 (fLs qXq (qAc (qAe 6) qAm)) [6]) (qF1 (qAc (fC (.int 0)) qAm))))
  (qAy (qCu 4 (fOp qXp (fLs qAlx (qAc (fLc (qQz (qAe 3)) (qBf 6) qI8 (fLs qXq (qAc (qAe 6) qAm)) [6]) qAm)) (fOp qBu (qF1 (qAc (fC (.int 0)) (qAc (fC (.int 0)) (qAc (fC (.int 1)) (qAc (fC (.int 7)) qAm))))) (qAg qBp [] (qAc (qAe 0) (qAc (fC (.int 4)) qAm))))))
  (qAy (qC1 (qRh (fB (fOp oGt (fLs qIx (qAc (fOp qBu (qAe 1) (fC (.int 0))) qAm)) (fC (.int 0)))) (qRh (fB (fOp oGt (fOp qBu (fOp qBu (qAe 1) (fC (.int 0))) (fC (.int 0))) (fC (.int 0)))) (fB (fOp oEq (qAg qBp [] (qAc (qAe 0) (qAc (fC (.int 2)) qAm))) (fC (.int 0)))))) (qCu 4 (fOp qBu (fOp qBu (qAe 1) (fC (.int 0))) (fC (.int 0)))) qAv)
  (qAy (qC1 (fB (fOp oEq (qAe 2) (fC (.int 1)))) (qCr (qF1 (qAc (qAe 4) (qAc (fC .non) qAm)))) qAv)
  (qAy (qCu 5 (fOp qKu (fLs qAk0 (qAc (fLc (qQz (qAe 3)) (qBf 6) qI8 (fLs qXq (qAc (qAe 6) qAm)) [6]) qAm)) (fOp qBu (qF1 (qAc (fC (.int 0)) (qAc (fC (.int 0)) (qAc (fC (.int 1)) (qAc (fC (.int 7)) qAm))))) (qAg qBp [] (qAc (qAe 0) (qAc (fC (.int 4)) qAm))))))
  (qAy (qC1 (qRh (fB (fOp oGt (fLs qIx (qAc (fOp qBu (qAe 1) (fC (.int 0))) qAm)) (fC (.int 0)))) (qRh (fB (fOp oLt (fOp qBu (fOp qBu (qAe 1) (fC (.int 0))) (fUn qQ7 (fC (.int 1)))) (fC (.int 0)))) (fB (fOp oEq (qAg qBp [] (qAc (qAe 0) (qAc (fC (.int 2)) qAm))) (fC (.int 0)))))) (qCu 5 (fOp qBu (fOp qBu (qAe 1) (fC (.int 0))) (fUn qQ7 (fC (.int 1))))) qAv)
  (qAy (qC1 (fB (fOp oLe (qAe 5) (qAe 4))) (qCu 5 (fOp qKu (qAe 4) (fC (.int 1)))) qAv)
  (qCr (qF1 (qAc (qAe 4) (qAc (qAe 5) qAm)))))))))))))
theorem qAhm {K : PySem.W.Frag} {cs : List Str} (T : KF K cs) (hRatio : ("Ratio" : Str) ∈ cs) : SS K Ta [] [] [] [] (fun _ => E0) (qOs K cs) (qSy cs) :=
  (qAl (ow1 := []) (qAx (by decide) (by decide) (qAk Lift.refl qAf (qAa (qAb (by decide)) (qAa qAj qAd))))
  (qAl (ow1 := []) (qBl (by decide) (qAp (qAi (fun _ => qQy) (qAb (by decide)) qAj)) (qAq (by decide) (qD2 (qAa qCl (qAa qCl qAd)))) (qAn (by decide)))
  (qAl (ow1 := []) (qAx (by decide) (by decide) (qAi (fun _ => qAr5) (SF.se (qO5 (by decide) (by decide) (qIt (qAi (fun _ => qAz) (qAb (by decide)) qAj)) (qBy (by decide)) qH5 (qEg (fun _ => qAdm) (qAa (qAb (by decide)) qAd)))) (qD2 (qAa qAj qAd))))
  (qAl (ow1 := []) (qAx (by decide) (by decide) (qAi (fun _ => qJ2) (qEg (fun _ => qApb) (qAa (SF.se (qO5 (by decide) (by decide) (qIt (qAb (by decide))) (qBy (by decide)) qH5 (qEg (fun _ => qAdm) (qAa (qAb (by decide)) qAd)))) qAd)) (qAi (fun _ => qAz) (qD2 (qAa qAj (qAa qAj (qAa qAj (qAa qAj qAd))))) (qAk Lift.refl qAf (qAa (qAb (by decide)) (qAa qAj qAd))))))
  (qAl (ow1 := []) (qBl (by decide) (qPw (qAp (qAi (fun _ => qY2) (qEg (fun _ => qD0) (qAa (qAi (fun _ => qAz) (qAb (by decide)) qAj) qAd)) qAj)) (qPw (qAp (qAi (fun _ => qY2) (qAi (fun _ => qAz) (qAi (fun _ => qAz) (qAb (by decide)) qAj) qAj) qAj)) (qAp (qAi (fun _ => qQy) (qAk Lift.refl qAf (qAa (qAb (by decide)) (qAa qAj qAd))) qAj)))) (qAx (by decide) (by decide) (qAi (fun _ => qAz) (qAi (fun _ => qAz) (qAb (by decide)) qAj) qAj)) (qAn (by decide)))
  (qAl (ow1 := []) (qBl (by decide) (qAp (qAi (fun _ => qQy) (qAb (by decide)) qAj)) (qAq (by decide) (qD2 (qAa (qAb (by decide)) (qAa qCl qAd)))) (qAn (by decide)))
  (qAl (ow1 := []) (qAx (by decide) (by decide) (qAi (fun _ => qD1) (qEg (fun _ => qAoa) (qAa (SF.se (qO5 (by decide) (by decide) (qIt (qAb (by decide))) (qBy (by decide)) qH5 (qEg (fun _ => qAdm) (qAa (qAb (by decide)) qAd)))) qAd)) (qAi (fun _ => qAz) (qD2 (qAa qAj (qAa qAj (qAa qAj (qAa qAj qAd))))) (qAk Lift.refl qAf (qAa (qAb (by decide)) (qAa qAj qAd))))))
  (qAl (ow1 := []) (qBl (by decide) (qPw (qAp (qAi (fun _ => qY2) (qEg (fun _ => qD0) (qAa (qAi (fun _ => qAz) (qAb (by decide)) qAj) qAd)) qAj)) (qPw (qAp (qAi (fun _ => qAfy) (qAi (fun _ => qAz) (qAi (fun _ => qAz) (qAb (by decide)) qAj) (qOg (fun _ => qK0) qAj)) qAj)) (qAp (qAi (fun _ => qQy) (qAk Lift.refl qAf (qAa (qAb (by decide)) (qAa qAj qAd))) qAj)))) (qAx (by decide) (by decide) (qAi (fun _ => qAz) (qAi (fun _ => qAz) (qAb (by decide)) qAj) (qOg (fun _ => qK0) qAj))) (qAn (by decide)))
  (qAl (ow1 := []) (qBl (by decide) (qAp (qAi (fun _ => qAsb) (qAb (by decide)) (qAb (by decide)))) (qAx (by decide) (by decide) (qAi (fun _ => qD1) (qAb (by decide)) qAj)) (qAn (by decide)))
  (qAq (by decide) (qD2 (qAa (qAb (by decide)) (qAa (qAb (by decide)) qAd)))))))))))))
def qL8 (K : PySem.W.Frag) (cs : List Str) : TS :=
  (tSeq (tIfS (tTest (tOp qJ0 (tOp (rIxL K) (tVar 0) (tC (.int 0))) (tC .non))) (tRet (tMake (He.ga K "Place") (qG6 K "Place" (qC0 cs)) [.non, .non] E0 tNil)) tNext)
  (tSeq (tIfS (tTest (tOp qJ0 (tOp (rIxL K) (tVar 0) (tC (.int 1))) (tC .non))) (tRet (tMake (He.ga K "Place") (qG6 K "Place" (qC0 cs)) [.non] E0 (tCons (tMake (He.ga K "Ratio") (qA8 K) [] E0 (tCons (tOp (rIxL K) (tVar 0) (tC (.int 0))) (tCons (tVar 1) tNil))) tNil))) tNext)
  (tRet (tMake (He.ga K "Place") (qG6 K "Place" (qC0 cs)) [] E0 (tCons (tMake (He.ga K "Ratio") (qA8 K) [] E0 (tCons (tOp (rIxL K) (tVar 0) (tC (.int 0))) (tCons (tVar 1) tNil))) (tCons (tMake (He.ga K "Ratio") (qA8 K) [] E0 (tCons (tOp (rIxL K) (tVar 0) (tC (.int 1))) (tCons (tVar 1) tNil))) tNil))))))
def qH4 (cs : List Str) : FS :=
  (qAy (qC1 (fB (fOp qRf (fOp qBu (qAe 0) (fC (.int 0))) (fC .non))) (qCr (qAg (qC0 cs) [.non, .non] qAm)) qAv)
  (qAy (qC1 (fB (fOp qRf (fOp qBu (qAe 0) (fC (.int 1))) (fC .non))) (qCr (qAg (qC0 cs) [.non] (qAc (qAg qHv [] (qAc (fOp qBu (qAe 0) (fC (.int 0))) (qAc (qAe 1) qAm))) qAm))) qAv)
  (qCr (qAg (qC0 cs) [] (qAc (qAg qHv [] (qAc (fOp qBu (qAe 0) (fC (.int 0))) (qAc (qAe 1) qAm))) (qAc (qAg qHv [] (qAc (fOp qBu (qAe 0) (fC (.int 1))) (qAc (qAe 1) qAm))) qAm))))))
theorem qAfe {K : PySem.W.Frag} {cs : List Str} (T : KF K cs) (hRatio : ("Ratio" : Str) ∈ cs) (hPlace : ("Place" : Str) ∈ cs) : SS K Ta [] [] [] [] (fun _ => E0) (qL8 K cs) (qH4 cs) :=
  (qAl (ow1 := []) (qBl (by decide) (qAp (qAi (fun _ => qH0) (qAi (fun _ => qAz) (qAb (by decide)) qAj) qCl)) (qAq (by decide) (qA2 qEi (qAbx (qAbx qAf)) qAd)) (qAn (by decide)))
  (qAl (ow1 := []) (qBl (by decide) (qAp (qAi (fun _ => qH0) (qAi (fun _ => qAz) (qAb (by decide)) qAj) qCl)) (qAq (by decide) (qA2 qEi (qAbx qAf) (qAa (qA2 qFk qAf (qAa (qAi (fun _ => qAz) (qAb (by decide)) qAj) (qAa (qAb (by decide)) qAd))) qAd))) (qAn (by decide)))
  (qAq (by decide) (qA2 qEi qAf (qAa (qA2 qFk qAf (qAa (qAi (fun _ => qAz) (qAb (by decide)) qAj) (qAa (qAb (by decide)) qAd))) (qAa (qA2 qFk qAf (qAa (qAi (fun _ => qAz) (qAb (by decide)) qAj) (qAa (qAb (by decide)) qAd))) qAd))))))
def qSo (K : PySem.W.Frag) (cs : List Str) : TS :=
  (tSeq (tAsg (tCall (qNa K qJv) [] E0 (tCons (tVar 1) (tCons (tVar 2) tNil))) (gName 3))
  (tSeq (tAsg (tCall (lift K qBp) [] E0 (tCons (tVar 0) (tCons (tC (.int 4)) tNil))) (gName 4))
  (tSeq (tIfS (tTest (tOp rEq (tVar 4) (tC (.int 0)))) (tSeq (tAsg (tCall (lift K qBp) [] E0 (tCons (tVar 0) (tCons (tOp qEf (tVar 2) (tC (.int 1))) tNil))) (gName 5))
  (tAsg (tLst (tCons (tOp qEf (tOp (rIxL K) (tOp (rIxL K) (tVar 3) (tVar 5)) (tC (.int 0))) (tOp (rIxL K) (tLst (tCons (tC (.int 1)) (tCons (tUn qO2 (tC (.int 1))) (tCons (tC (.int 1000)) tNil)))) (tCall (lift K qBp) [] E0 (tCons (tVar 0) (tCons (tC (.int 3)) tNil))))) (tCons (tOp (rIxL K) (tOp (rIxL K) (tVar 3) (tVar 5)) (tC (.int 1))) tNil))) (gSub (tVar 3) (tVar 5) rSetL))) tNext)
  (tSeq (tIfS (tTest (tOp rEq (tVar 4) (tC (.int 1)))) (tFor (iRng1 (tCons (tOp qEf (tVar 2) (tC (.int 1))) tNil)) (gName 6) (tAsg (tLst (tCons (tOp qEf (tOp (rIxL K) (tOp (rIxL K) (tVar 3) (tVar 6)) (tC (.int 0))) (tCall (lift K qEz) [] E0 (tCons (tVar 0) (tCons (tC (.int 4)) tNil)))) (tCons (tOp (rIxL K) (tOp (rIxL K) (tVar 3) (tVar 6)) (tC (.int 1))) tNil))) (gSub (tVar 3) (tVar 6) rSetL))) tNext)
  (tRet (tVar 3))))))
def qV5 (cs : List Str) : FS :=
  (qAy (qS9 3 (qAg qJv [] (qAc (qAe 1) (qAc (qAe 2) qAm))))
  (qAy (qCu 4 (qAg qBp [] (qAc (qAe 0) (qAc (fC (.int 4)) qAm))))
  (qAy (qC1 (fB (fOp oEq (qAe 4) (fC (.int 0)))) (qAy (qCu 5 (qAg qBp [] (qAc (qAe 0) (qAc (fOp qKu (qAe 2) (fC (.int 1))) qAm))))
  (qLx 3 (qF1 (qAc (fOp qKu (fOp qBu (fOp oIx (qAe 3) (qAe 5)) (fC (.int 0))) (fOp qBu (qF1 (qAc (fC (.int 1)) (qAc (fUn qQ7 (fC (.int 1))) (qAc (fC (.int 1000)) qAm)))) (qAg qBp [] (qAc (qAe 0) (qAc (fC (.int 3)) qAm))))) (qAc (fOp qBu (fOp oIx (qAe 3) (qAe 5)) (fC (.int 1))) qAm))) (qAe 5))) qAv)
  (qAy (qC1 (fB (fOp oEq (qAe 4) (fC (.int 1)))) (qGn (qFa (qAc (fOp qKu (qAe 2) (fC (.int 1))) qAm)) (qBf 6) (qLx 3 (qF1 (qAc (fOp qKu (fOp qBu (fOp oIx (qAe 3) (qAe 6)) (fC (.int 0))) (qAg qEz [] (qAc (qAe 0) (qAc (fC (.int 4)) qAm)))) (qAc (fOp qBu (fOp oIx (qAe 3) (qAe 6)) (fC (.int 1))) qAm))) (qAe 6))) qAv)
  (qCr (qAe 3))))))
theorem qAkx {K : PySem.W.Frag} {cs : List Str} (T : KF K cs) (hRatio : ("Ratio" : Str) ∈ cs) : SS K Ta [] [] [] [] (fun _ => E0) (qSo K cs) (qV5 cs) :=
  (qAl (ow1 := [3]) (qJn (by decide) (by decide) (qAlg qAf (qAa (qAb (by decide)) (qAa (qAb (by decide)) qAd))))
  (qAl (ow1 := [3]) (qAx (by decide) (by decide) (qAk Lift.refl qAf (qAa (qAb (by decide)) (qAa qAj qAd))))
  (qAl (ow1 := [3]) (qBl (by decide) (qAp (qAi (fun _ => qQy) (qAb (by decide)) qAj)) (qAl (ow1 := [3]) (qAx (by decide) (by decide) (qAk Lift.refl qAf (qAa (qAb (by decide)) (qAa (qAi (fun _ => qD1) (qAb (by decide)) qAj) qAd))))
  (qAbj (by decide) (by decide) (qD2 (qAa (qAi (fun _ => qD1) (qAi (fun _ => qAz) (qZ7 (by decide) (qAb (by decide))) qAj) (qAi (fun _ => qAz) (qD2 (qAa qAj (qAa (qOg (fun _ => qK0) qAj) (qAa qAj qAd)))) (qAk Lift.refl qAf (qAa (qAb (by decide)) (qAa qAj qAd))))) (qAa (qAi (fun _ => qAz) (qZ7 (by decide) (qAb (by decide))) qAj) qAd))) (qAb (by decide)))) (qAn (by decide)))
  (qAl (ow1 := [3]) (qBl (by decide) (qAp (qAi (fun _ => qQy) (qAb (by decide)) qAj)) (qE5 (by decide) (qFo (qAa (qAi (fun _ => qD1) (qAb (by decide)) qAj) qAd)) (qBy (by decide)) (qAbj (by decide) (by decide) (qD2 (qAa (qAi (fun _ => qD1) (qAi (fun _ => qAz) (qZ7 (by decide) (qAb (by decide))) qAj) (qAk Lift.refl qAf (qAa (qAb (by decide)) (qAa qAj qAd)))) (qAa (qAi (fun _ => qAz) (qZ7 (by decide) (qAb (by decide))) qAj) qAd))) (qAb (by decide)))) (qAn (by decide)))
  (qL4 (ow1 := []) (by decide) (qAq (by decide) (qAb (by decide))))))))
theorem qAl9 {cs : List Str} (hR : ("Ratio" : Str) ∈ cs) (ds : List D) (P : D → Prop) (X : XP) (h : qV6 ds P X) : qVl cs (qFj P X0) (qA0 7 ds) := by
  obtain ⟨k, rfl, k0, k1, p⟩ := h
  simp_arith [qVl, qGn, qFa]
  refine ⟨⟨by decide, by decide, by decide⟩, by decide, ?_⟩
  refine qC6 (by decide) (by decide) fun d d0 d1 => ?_
  refine ix3 d0 d1 fun z hz => ?_
  have z1 : 0 < z ∧ z ≤ 2 ^ 27 := by rcases hz with rfl | rfl | rfl <;> decide
  refine qSe z1.1 (p2 (n := 30) (by omega) (by decide)) fun t t0 t1 => ?_
  refine ⟨by decide, by decide, by decide, by decide, ?_⟩
  refine qC6 (by omega) (p2 (n := 30) (by omega) (by decide)) fun r r0 r1 => ?_
  simp_arith []
  refine ⟨by omega, by omega, ?_⟩
  refine qAea (mx := k.toNat) (by omega) z1.1 z1.2 (fun xs ws v3 v6 h1 h2 h3 h4 => ?_) _ [] [] t _ rfl (by simp [qKx]; omega) (by simp; omega) (fun _ h => nomatch h) (fun _ h => nomatch h)
  simp_arith []
  refine qC6 (by decide) (by decide) fun b b0 b1 => ?_
  simp_arith []
  refine qC6 (by decide) (by decide) fun c c0 c1 => ?_
  simp_arith []
  refine ⟨by decide, p xs ws (1 + b) (1 + c) ⟨⟨h1, by omega, fun x hx => Nat.lt_of_lt_of_le (h3 x hx) (Nat.pow_le_pow_right (by decide) (by decide)), h4, by omega, by omega, by omega, by omega⟩, h3, by omega, by omega, by omega⟩⟩
theorem qZb {cs : List Str} (hR : ("Ratio" : Str) ∈ cs) (ds : List D) (P : D → Prop) (X : XP) (h : qJv ds P X) : qJy cs (topN P X0) (qA0 8 ds) := by
  obtain ⟨xs, ws, b, c, n, d, rfl, h, hn, d0, d1, p⟩ := h
  simp_arith [qJy, topN, qAab, qGn, qFa, ixb, ixd]
  have e0 : qMe ws = qMe (powL ws xs 0) := by
    congr 1
    apply List.ext_getElem?
    intro i
    by_cases hi : i < xs.length
    · rw [qV1 hi, qWc (by rw [← h.l]; exact hi)]
      simp
    · rw [List.getElem?_eq_none (by rw [← h.l]; omega), List.getElem?_eq_none (by rw [qMo]; omega)]
  refine ⟨by decide, by decide, by omega, by omega, ?_⟩
  have z := qAe4 (FD := (⟨qAab 2 ⟨fun _ => False, fun _ => False, fun _ => False, fun _ => False, fun x _ => X0 x, P⟩, fun _ => False, fun _ => False, fun _ => False, fun x _ => X0 x, P⟩ : FEnds)) (d := d) h hn (N := (d + 1).toNat) (by omega) (fun v3 v4 v5 v6 v7 => ⟨_, rfl, p⟩) (d + 1).toNat 0 none none none (by omega)
  rw [Int.pow_zero, Int.mul_one, ← e0] at z
  exact z
theorem ix4 {a b c e : Int} {k : Int} {P : D → Prop} {X : XP} (h0 : 0 ≤ k) (h3 : k < 4) (p : ∀ z, z = a ∨ z = b ∨ z = c ∨ z = e → P (.int z)) : oIx (.lst [.int a, .int b, .int c, .int e]) (.int k) P X := by
  have : k = 0 ∨ k = 1 ∨ k = 2 ∨ k = 3 := by omega
  rcases this with rfl | rfl | rfl | rfl
  · exact ⟨_, _, _, .inl rfl, rfl, rfl, p _ (.inl rfl)⟩
  · exact ⟨_, _, _, .inl rfl, rfl, rfl, p _ (.inr (.inl rfl))⟩
  · exact ⟨_, _, _, .inl rfl, rfl, rfl, p _ (.inr (.inr (.inl rfl)))⟩
  · exact ⟨_, _, _, .inl rfl, rfl, rfl, p _ (.inr (.inr (.inr rfl)))⟩
theorem qAp3 {P : D → Prop} {X : XP} {xs : List Int} (p : ∀ m : Int, (∀ x, x ∈ xs → m ≤ x) → (m ∈ xs ∨ m = 0) → m ≤ 0 → P (.int m)) : qAlx [.lst (qMe (xs ++ [0]))] P X :=
  ⟨xs ++ [0], rfl, by simp, fun m hm h => p m (fun x hx => h x (by simp [hx])) (by simpa using hm) (h 0 (by simp))⟩
theorem qApa {P : D → Prop} {X : XP} {xs : List Int} (p : ∀ m : Int, (∀ x, x ∈ xs → x ≤ m) → (m ∈ xs ∨ m = 0) → 0 ≤ m → P (.int m)) : qAk0 [.lst (qMe (xs ++ [0]))] P X :=
  ⟨xs ++ [0], rfl, by simp, fun m hm h => p m (fun x hx => h x (by simp [hx])) (by simpa using hm) (h 0 (by simp))⟩
/-- the bounds of an end -/
def EB (a : Int) : Prop := -(2 ^ 35) < a ∧ a < 2 ^ 35
theorem qAgs {cs : List Str} (hR : ("Ratio" : Str) ∈ cs) (ds : List D) (P : D → Prop) (X : XP) (h : qIn ds P X) : qSy cs (qFj P X0) (qA0 7 ds) := by
  obtain ⟨xs, ws, b, c, k, rfl, hl, p⟩ := h
  have hx : ∀ x, x ∈ xs → -(2 ^ 34) < x ∧ x < 2 ^ 34 := fun x h => by have := hl.sx x h; omega
  have l1 := hl.l1
  have small : ∀ n : Nat, n ≤ 1000 → n ≤ sizeLine := fun n h => Nat.le_trans h (by decide)
  have one : ∀ lo, EB lo → P (.lst [.int lo, .non]) := fun lo h => p (some lo) none ⟨fun z => (nomatch z), fun _ _ _ z => (nomatch z), fun a z => by cases z; unfold EB at h; omega, fun _ z => (nomatch z)⟩
  have two : ∀ lo hi : Int, lo < hi → EB lo → hi ≤ 2 ^ 35 → -(2 ^ 35) ≤ hi → P (.lst [.int lo, .int hi]) := fun lo hi h1 h2 h3 h4 => p (some lo) (some hi) ⟨fun z => (nomatch z), fun a b z y => by cases z; cases y; exact h1, fun a z => by cases z; unfold EB at h2; omega, fun b z => by cases z; omega⟩
  rw [show qSy cs = qAm5 cs from rfl]
  simp_arith [qAm5]
  refine qC6 (by decide) (by decide) fun sh s0 s1 => ?_
  simp_arith [qAnz]
  by_cases h0 : sh = 0
  · rw [if_pos (decide_eq_true h0)]
    exact ⟨by decide, p none none ⟨fun _ => rfl, fun _ _ z => (nomatch z), fun _ z => (nomatch z), fun _ z => (nomatch z)⟩⟩
  rw [if_neg (fun z => h0 (of_decide_eq_true z))]
  have last : ∀ (lo hi : Int) (v3 v6 : Option D), EB lo → EB hi → qAil cs (qFj P X0) [some .feed, some (lotD xs ws b c), some (.int sh), v3, some (.int lo), some (.int hi), v6] := fun lo hi v3 v6 h1 h2 => by
    simp_arith [qAil]
    unfold EB at h1 h2
    by_cases h : hi ≤ lo
    · rw [if_pos (decide_eq_true h)]
      simp_arith [qAhj]
      exact ⟨by decide, two _ _ (by omega) h1 (by omega) (by omega)⟩
    · rw [if_neg (fun z => h (of_decide_eq_true z))]
      simp_arith [qAhj]
      exact ⟨by decide, two _ _ (by omega) h1 (by omega) (by omega)⟩
  simp_arith [qAm2, fLc, qIv, ixa]
  refine lc_list D.int D.int xs [] (fun x hx Q q => by simp_arith []; exact q) (by simp only [List.length_nil, Nat.zero_add]; exact Nat.lt_of_le_of_lt l1 (by decide)) ?_
  refine ⟨by decide, ?_⟩
  rw [List.nil_append]
  simp_arith [List.length_map]
  refine ⟨small _ (by omega), ?_⟩
  have el : xs.map D.int ++ [D.int 0] = (xs ++ [0]).map D.int := by rw [List.map_append]; rfl
  rw [el]
  have sz1 : xs.length + 1 < sizeLine := Nat.lt_of_le_of_lt (show xs.length + 1 ≤ 1000 by omega) (by decide)
  have mid : ∀ lo : Int, EB lo → qAim cs (qFj P X0) [some .feed, some (lotD xs ws b c), some (.int sh), some (.lst ((xs ++ [0]).map D.int)), some (.int lo), none, none] := fun lo h1 => by
    simp_arith [qAim]
    by_cases h2 : sh = 1
    · rw [if_pos (decide_eq_true h2)]
      exact ⟨by decide, one lo h1⟩
    rw [if_neg (fun z => h2 (of_decide_eq_true z))]
    simp_arith [qAnl, fLc, qIv]
    refine lc_list D.int D.int (xs ++ [0]) [] (fun x hx Q q => by simp_arith []; exact q) (by simp only [List.length_nil, Nat.zero_add, List.length_append, List.length_singleton]; exact sz1) ?_
    rw [List.nil_append]
    refine qApa fun m hm hmem m0 => ?_
    have mb : m < 2 ^ 34 := by
      rcases hmem with h | h
      · exact (hx m h).2
      · omega
    refine ⟨by decide, qC6 (by decide) (by decide) fun t t0 t1 => ix4 t0 t1 fun z hz => ?_⟩
    have zb : 0 ≤ z ∧ z ≤ 7 := by omega
    have e1 : EB (m + z) := by unfold EB; omega
    simp_arith [qAm3, ixa]
    by_cases hn : 0 < xs.length
    · have hg : (qMe xs)[xs.length - 1]? = some (.int (xs.getD (xs.length - 1) 0)) := by
        unfold qMe
        rw [List.getElem?_map, qWc (by omega)]
        rfl
      have hmx := hx _ (qGx (xs := xs) (i := xs.length - 1) (by omega))
      have hat : atI (qMe xs) (-1) = some (.int (xs.getD (xs.length - 1) 0)) := by
        unfold atI ixN
        rw [qGr, if_neg (by omega), if_pos (by omega)]
        show (qMe xs)[((xs.length : Int) + -1).toNat]? = _
        rw [show ((xs.length : Int) + -1).toNat = xs.length - 1 by omega]
        exact hg
      rw [if_pos (decide_eq_true (by rw [qGr]; omega))]
      refine lix hat ?_
      simp_arith []
      split
      · refine qC6 (by decide) (by decide) fun t t0 t1 => ?_
        refine ⟨_, rfl, ?_⟩
        split
        · refine lix hat ?_
          exact last _ _ _ _ h1 (by unfold EB; omega)
        · exact last _ _ _ _ h1 e1
      · exact last _ _ _ _ h1 e1
    · rw [if_neg (fun z => hn (by have := of_decide_eq_true z; rw [qGr] at this; omega))]
      exact last _ _ _ _ h1 e1
  simp_arith [qAmy, fLc, qIv]
  refine lc_list D.int D.int (xs ++ [0]) [] (fun x hx Q q => by simp_arith []; exact q) (by simp only [List.length_nil, Nat.zero_add, List.length_append, List.length_singleton]; exact sz1) ?_
  rw [List.nil_append]
  refine qAp3 fun m hm hmem m0 => ?_
  have mb : -(2 ^ 34) < m := by
    rcases hmem with h | h
    · exact (hx m h).1
    · omega
  refine ⟨by decide, qC6 (by decide) (by decide) fun t t0 t1 => ix4 t0 t1 fun z hz => ?_⟩
  have zb : 0 ≤ z ∧ z ≤ 7 := by omega
  have e1 : EB (m - z) := by unfold EB; omega
  simp_arith [qAm7, ixa]
  by_cases hn : 0 < xs.length
  · have hmx := hx _ (qGx (xs := xs) (i := 0) (by omega))
    have hat : atI (qMe xs) 0 = some (.int (xs.getD 0 0)) := by
      refine atI_nat (j := 0) ?_
      unfold qMe
      rw [List.getElem?_map, qWc (by omega)]
      rfl
    rw [if_pos (decide_eq_true (by rw [qGr]; omega))]
    refine lix hat ?_
    simp_arith []
    split
    · refine qC6 (by decide) (by decide) fun t t0 t1 => ?_
      refine ⟨_, rfl, ?_⟩
      split
      · refine lix hat ?_
        exact mid _ (by unfold EB; omega)
      · exact mid _ e1
    · exact mid _ e1
  · rw [if_neg (fun z => hn (by have := of_decide_eq_true z; rw [qGr] at this; omega))]
    exact mid _ e1
theorem qAmu {l h b : Int} (b0 : 0 < b) (hl : l < h) : Rat.divInt l b < Rat.divInt h b := by
  have b1 : (0 : Rat) < (b : Rat) := Rat.intCast_lt_intCast.mpr b0
  have l1 : (l : Rat) < (h : Rat) := Rat.intCast_lt_intCast.mpr hl
  rw [Rat.divInt_eq_div, Rat.divInt_eq_div, Rat.div_def, Rat.div_def]
  exact Rat.mul_lt_mul_of_pos_right l1 (Rat.inv_pos.mpr b1)
theorem qAgg {cs : List Str} (hR : ("Ratio" : Str) ∈ cs) (hP : ("Place" : Str) ∈ cs) (ds : List D) (P : D → Prop) (X : XP) (h : qGm cs ds P X) : qH4 cs (qFj P X0) (qA0 2 ds) := by
  obtain ⟨lo, hi, b, rfl, he, b0, b1, p⟩ := h
  have bn : b ≠ 0 := by omega
  have zb : b.natAbs < 2 ^ 36 := by omega
  have a0 : ∀ {u v : D} {P : D → Prop} {X : XP}, P u → oIx (.lst [u, v]) (.int 0) P X := fun p => ⟨_, 0, _, .inl rfl, rfl, rfl, p⟩
  have a1 : ∀ {u v : D} {P : D → Prop} {X : XP}, P v → oIx (.lst [u, v]) (.int 1) P X := fun p => ⟨_, 1, _, .inl rfl, rfl, rfl, p⟩
  cases lo with
  | none =>
    obtain rfl := he.no rfl
    simp_arith [qH4, optI]
    refine a0 ?_
    simp_arith []
    exact qSh (a := none) (b := none) (.inl rfl) p
  | some x =>
    cases hi with
    | none =>
      simp_arith [qH4, optI]
      refine a0 ?_
      simp_arith []
      refine a1 ?_
      simp_arith []
      refine a0 ?_
      simp_arith [qPp]
      refine ⟨bn, trivial, ?_⟩
      exact qSh (a := some (Rat.divInt x b)) (b := none) (.inl rfl) p
    | some y =>
      simp_arith [qH4, optI]
      refine a0 ?_
      simp_arith []
      refine a1 ?_
      simp_arith []
      refine a0 ?_
      simp_arith [qPp]
      refine ⟨bn, trivial, ?_⟩
      refine a1 ?_
      simp_arith [qPp]
      refine ⟨bn, trivial, ?_⟩
      exact qSh (a := some (Rat.divInt x b)) (b := some (Rat.divInt y b)) (.inr ⟨_, _, rfl, rfl, ⟨36, 36, qNc bn (he.la x rfl) zb, qNc bn (he.lb y rfl) zb, by decide⟩, qAmu b0 (he.lt x y rfl rfl)⟩) p
theorem qAmr {k : Int} {xs ws : List Int} {b c : Int} (h : LotS k xs ws b c) (hk : k ≤ 6) {j : Nat} (hj : j ≤ 8) : (qY1 xs ws b c j).1.natAbs < 2 ^ 319 ∧ (qY1 xs ws b c j).2.natAbs < 2 ^ 24 ∧ 0 < (qY1 xs ws b c j).2 := by
  have h6 : xs.length ≤ 6 := by have := h.sl; omega
  refine ⟨?_, ?_, ?_⟩
  · have hs := qAhd (n := 302) (xs := powL ws xs j) fun y hy => by
      unfold powL at hy
      obtain ⟨i, hi, rfl⟩ := List.mem_map.mp hy
      have hi := List.mem_range.mp hi
      have h1 := h.sx _ (qGx hi)
      have h2 := h.w _ (qGx (xs := ws) (i := i) (by rw [← h.l]; exact hi))
      have h3 := qAds h1 j
      have h4 : (2 : Nat) ^ (34 * j + 1) ≤ 2 ^ 273 := Nat.pow_le_pow_right (by decide) (by omega)
      rw [Int.natAbs_mul]
      refine Nat.lt_of_lt_of_le (Nat.mul_lt_mul'' h2 (Nat.lt_of_lt_of_le h3 h4)) ?_
      rw [← Nat.pow_add]
      exact Nat.pow_le_pow_right (by decide) (by decide)
    rw [qMo] at hs
    have : xs.length * 2 ^ 302 ≤ 6 * 2 ^ 302 := Nat.mul_le_mul_right _ h6
    show (powL ws xs j).sum.natAbs < 2 ^ 319
    exact Nat.lt_of_le_of_lt (Nat.le_trans hs this) (by decide)
  · show (c * b ^ j).natAbs < _
    rw [Int.natAbs_mul, Int.natAbs_pow]
    have h1 : b.natAbs ≤ 5 := by have := h.sb; have := h.b0; omega
    have h2 : c.natAbs ≤ 9 := by have := h.sc; have := h.c0; omega
    have h3 : b.natAbs ^ j ≤ 5 ^ 8 := Nat.le_trans (Nat.pow_le_pow_left h1 j) (Nat.pow_le_pow_right (by decide) hj)
    exact Nat.lt_of_le_of_lt (Nat.mul_le_mul h2 h3) (by decide)
  · exact Int.mul_pos h.c0 (Int.pow_pos h.b0)
/-- a row under change -/
structure SzM (m : Nat) (p : Int × Int) : Prop where
  a : p.1.natAbs < 2 ^ 319 + m
  b : p.2.natAbs < 2 ^ 24
  pos : 0 < p.2
theorem qAi7 {ps : List (Int × Int)} {i : Nat} {p : Int × Int} : (prL ps).set i (prD p) = prL (ps.set i p) := by
  unfold prL
  rw [List.map_set]
theorem qAnc {ps : List (Int × Int)} {i : Int} (h0 : 0 ≤ i) (h1 : i < (ps.length : Int)) : ∃ p, p ∈ ps ∧ atI (prL ps) i = some (prD p) ∧ ixN (prL ps).length i = some i.toNat := by
  have hi : ixN (prL ps).length i = some i.toNat := by
    unfold ixN
    rw [qAhl, if_pos h0, if_pos h1]
  have hl : i.toNat < ps.length := by omega
  refine ⟨ps[i.toNat], List.getElem_mem hl, ?_, hi⟩
  unfold atI
  rw [hi]
  exact qAn1 (List.getElem?_eq_getElem hl)
abbrev anL : FS := (qLx 3 (qF1 (qAc (fOp qKu (fOp qBu (fOp oIx (qAe 3) (qAe 6)) (fC (.int 0))) (qAg qEz [] (qAc (qAe 0) (qAc (fC (.int 4)) qAm)))) (qAc (fOp qBu (fOp oIx (qAe 3) (qAe 6)) (fC (.int 1))) qAm))) (qAe 6))
theorem qAnu {m m' : Nat} {ps : List (Int × Int)} {i : Nat} {p : Int × Int} (h : ∀ q, q ∈ ps → SzM m q) (hm : m ≤ m') (hp : SzM m' p) : ∀ q, q ∈ ps.set i p → SzM m' q := fun q hq => by
  rcases List.mem_or_eq_of_mem_set hq with h1 | rfl
  · have := h q h1
    exact ⟨by have := this.a; omega, this.b, this.pos⟩
  · exact hp
theorem qAdk {FD : FEnds} {N : Nat} {v1 v2 v4 v5 : Option D} (fin : ∀ ps v6, ps.length = N → (∀ p, p ∈ ps → SzM (4 * N) p) → FD.nx [some .feed, v1, v2, some (.lst (prL ps)), v4, v5, v6]) :
    ∀ (k j : Nat) (ps : List (Int × Int)) (v6 : Option D), k + j = N → ps.length = N → (∀ p, p ∈ ps → SzM (4 * j) p) →
      qCk (qBf 6) anL FD ((List.range' j k).map fun (i : Nat) => D.int (i : Int)) [some .feed, v1, v2, some (.lst (prL ps)), v4, v5, v6]
  | 0, j, ps, v6, hj, l, h => by
    obtain rfl : j = N := by omega
    exact fin ps v6 l h
  | k + 1, j, ps, v6, hj, l, h => by
    rw [List.range'_succ, List.map_cons]
    unfold qCk
    obtain ⟨p, pm, pa, pi⟩ := qAnc (ps := ps) (i := (j : Int)) (by omega) (by omega)
    simp_arith []
    refine lix pa ?_
    simp_arith [prD]
    refine lix (i := 0) (e := .int p.1) rfl ?_
    refine qSe (by decide) (by decide) fun d d0 d1 => ?_
    simp_arith []
    refine lix pa ?_
    simp_arith [prD]
    refine lix (i := 1) (e := .int p.2) rfl ?_
    refine ⟨by decide, _, pi, ?_⟩
    have e : D.lst [.int (p.1 + d), .int p.2] = prD (p.1 + d, p.2) := rfl
    rw [e, qAi7]
    have := h p pm
    exact qAdk fin k (j + 1) _ _ (by omega) (by rw [List.length_set]; exact l) (qAnu h (by omega) ⟨by have := this.a; show (p.1 + d).natAbs < _; omega, this.b, this.pos⟩)
theorem qAl1 {cs : List Str} (hR : ("Ratio" : Str) ∈ cs) (ds : List D) (P : D → Prop) (X : XP) (h : qMp ds P X) : qV5 cs (qFj P X0) (qA0 7 ds) := by
  obtain ⟨xs, ws, b, c, k, d, rfl, hl, k6, d0, d8, p⟩ := h
  have gt : ∀ {m : Nat} {ps : List (Int × Int)}, m ≤ 2 ^ 20 → (∀ p, p ∈ ps → SzM m p) → ∀ p, p ∈ ps → SzT p := fun hm h p hp => by
    have := h p hp
    exact ⟨Nat.lt_of_lt_of_le this.a (Nat.le_trans (Nat.add_le_add_left hm _) (by decide)), this.b, this.pos⟩
  simp_arith [qV5]
  refine ⟨by decide, xs, ws, b, c, 28, d, rfl, hl.toLotOk, by decide, by omega, by omega, ?_⟩
  generalize hps : (List.range (d + 1).toNat).map (qY1 xs ws b c) = ps
  have l : ps.length = (d + 1).toNat := by rw [← hps]; simp
  have h0 : ∀ p, p ∈ ps → SzM 0 p := fun p hp => by
    rw [← hps] at hp
    obtain ⟨j, hj, rfl⟩ := List.mem_map.mp hp
    have hj := List.mem_range.mp hj
    have := qAmr hl k6 (j := j) (by omega)
    exact ⟨this.1, this.2.1, this.2.2⟩
  clear hps
  refine qC6 (by decide) (by decide) fun t t0 t1 => ?_
  simp_arith []
  have last : ∀ ps' (v5 v6 : Option D), ps'.length = (d + 1).toNat → (∀ p, p ∈ ps' → SzM 2000 p) → P (.lst (prL ps')) := fun ps' v5 v6 l h => p ps' (by omega) (gt (by decide) h)
  have up : ∀ {m m' : Nat} {ps : List (Int × Int)}, m ≤ m' → (∀ p, p ∈ ps → SzM m p) → ∀ p, p ∈ ps → SzM m' p := fun hm h p hp => ⟨by have := (h p hp).a; omega, (h p hp).b, (h p hp).pos⟩
  by_cases z : t = 0
  · rw [if_pos (decide_eq_true z)]
    refine qC6 (by omega) (p2 (n := 30) (by omega) (by decide)) fun a a0 a1 => ?_
    obtain ⟨q, qm, qa, qi⟩ := qAnc (ps := ps) (i := a) a0 (by omega)
    refine lix qa ?_
    simp_arith [prD]
    refine lix (i := 0) (e := .int q.1) rfl ?_
    refine ⟨by decide, qC6 (by decide) (by decide) fun s s0 s1 => ?_⟩
    refine ix3 s0 s1 fun e he => ?_
    simp_arith []
    refine lix qa ?_
    simp_arith [prD]
    refine lix (i := 1) (e := .int q.2) rfl ?_
    refine ⟨by decide, _, qi, ?_⟩
    have e' : D.lst [.int (q.1 + e), .int q.2] = prD (q.1 + e, q.2) := rfl
    rw [e', qAi7, if_neg (by rw [z]; decide)]
    have := h0 q qm
    exact last _ none none (by rw [List.length_set]; exact l) (qAnu h0 (by omega) ⟨by have := this.a; show (q.1 + e).natAbs < _; omega, this.b, this.pos⟩)
  · rw [if_neg (fun h => z (of_decide_eq_true h))]
    by_cases y : t = 1
    · rw [if_pos (decide_eq_true y)]
      simp_arith [qGn, qFa]
      refine ⟨by omega, by omega, ?_⟩
      unfold qKx
      simp only [Int.zero_add, List.range_eq_range']
      refine qAdk (N := (d + 1).toNat) (fun ps' v6 l h => ?_) (d + 1).toNat 0 ps none (by omega) l (up (by omega) h0)
      simp_arith []
      exact last ps' none none l (up (by omega) h)
    · rw [if_neg (fun h => y (of_decide_eq_true h))]
      exact last ps none none l (up (by omega) h0)
theorem qAgc {K : PySem.W.Frag} {cs : List Str} (vs : List V) (H : Hp) (Q : VK) (E : XK) (h : (lift K qV6) vs H Q E) : vs.length = 2 := qAr (fun ds P X h => by unfold qV6 at h; first | ((repeat (first | (obtain ⟨rfl, _⟩ := h; exact rfl) | obtain ⟨_, h⟩ := h)); done) | (split at h <;> first | rfl | exact h.elim)) h
theorem qAh8 {K : PySem.W.Frag} {cs : List Str} (T : KF K cs) (hRatio : ("Ratio" : Str) ∈ cs) (vs : List V) (H : Hp) (Q : VK) (E : XK) (h : (lift K qV6) vs H Q E) : qSu K cs { nx := fun _ H' => Q .non H', rt := Q } (start ["_law_feed_here", "_law_most", "_law_size", "_law_top", "_law_points", "_law_weights", "_law_k"] vs) H :=
  qCx rfl (qAk5 T hRatio) (qAl9 hRatio) vs H Q E h
theorem qTe {K : PySem.W.Frag} {cs : List Str} (vs : List V) (H : Hp) (Q : VK) (E : XK) (h : (qNa K qJv) vs H Q E) : vs.length = 2 := qAad (fun ds P X h => by unfold qJv at h; first | ((repeat (first | (obtain ⟨rfl, _⟩ := h; exact rfl) | obtain ⟨_, h⟩ := h)); done) | (split at h <;> first | rfl | exact h.elim)) h
theorem qVg {K : PySem.W.Frag} {cs : List Str} (T : KF K cs) (hRatio : ("Ratio" : Str) ∈ cs) (vs : List V) (H : Hp) (Q : VK) (E : XK) (h : (qNa K qJv) vs H Q E) : qIk K cs { nx := fun _ H' => Q .non H', rt := Q } (start ["_law_lot_here", "_law_d", "_law_row", "_law_powers", "_law_bottom", "_law_k", "_law_j", "_law_power"] vs) H :=
  qAib rfl (qY0 T hRatio) (qZb hRatio) vs H Q E h
theorem qAba {K : PySem.W.Frag} {cs : List Str} (vs : List V) (H : Hp) (Q : VK) (E : XK) (h : (lift K qIn) vs H Q E) : vs.length = 2 := qAr (fun ds P X h => by unfold qIn at h; first | ((repeat (first | (obtain ⟨rfl, _⟩ := h; exact rfl) | obtain ⟨_, h⟩ := h)); done) | (split at h <;> first | rfl | exact h.elim)) h
theorem qAft {K : PySem.W.Frag} {cs : List Str} (T : KF K cs) (hRatio : ("Ratio" : Str) ∈ cs) (vs : List V) (H : Hp) (Q : VK) (E : XK) (h : (lift K qIn) vs H Q E) : qOs K cs { nx := fun _ H' => Q .non H', rt := Q } (start ["_law_feed_here", "_law_lot_here", "_law_shape", "_law_points", "_law_low", "_law_high", "_law_x"] vs) H :=
  qCx rfl (qAhm T hRatio) (qAgs hRatio) vs H Q E h
theorem qYr {K : PySem.W.Frag} {cs : List Str} (vs : List V) (H : Hp) (Q : VK) (E : XK) (h : (lift K (qGm cs)) vs H Q E) : vs.length = 2 := qAr (fun ds P X h => by unfold qGm at h; first | ((repeat (first | (obtain ⟨rfl, _⟩ := h; exact rfl) | obtain ⟨_, h⟩ := h)); done) | (split at h <;> first | rfl | exact h.elim)) h
theorem qAbf {K : PySem.W.Frag} {cs : List Str} (T : KF K cs) (hRatio : ("Ratio" : Str) ∈ cs) (hPlace : ("Place" : Str) ∈ cs) (vs : List V) (H : Hp) (Q : VK) (E : XK) (h : (lift K (qGm cs)) vs H Q E) : qL8 K cs { nx := fun _ H' => Q .non H', rt := Q } (start ["_law_ends_here", "_law_bottom"] vs) H :=
  qCx rfl (qAfe T hRatio hPlace) (qAgg hRatio hPlace) vs H Q E h
theorem qAf4 {K : PySem.W.Frag} {cs : List Str} (vs : List V) (H : Hp) (Q : VK) (E : XK) (h : (lift K qMp) vs H Q E) : vs.length = 3 := qAr (fun ds P X h => by unfold qMp at h; first | ((repeat (first | (obtain ⟨rfl, _⟩ := h; exact rfl) | obtain ⟨_, h⟩ := h)); done) | (split at h <;> first | rfl | exact h.elim)) h
theorem qAje {K : PySem.W.Frag} {cs : List Str} (T : KF K cs) (hRatio : ("Ratio" : Str) ∈ cs) (vs : List V) (H : Hp) (Q : VK) (E : XK) (h : (lift K qMp) vs H Q E) : qSo K cs { nx := fun _ H' => Q .non H', rt := Q } (start ["_law_feed_here", "_law_lot_here", "_law_d", "_law_row", "_law_choice", "_law_at", "_law_k"] vs) H :=
  qCx rfl (qAkx T hRatio) (qAl1 hRatio) vs H Q E h
end MR

set_option Elab.async false
set_option linter.all false
set_option maxRecDepth 100000
set_option maxHeartbeats 4000000
set_option exponentiation.threshold 20000
namespace MR
open PySem PySem.Spec PyProof.Rows L2
/-! ### the binomial numbers -/
/-! ### sums over a lot -/
/-- a row that is good -/
def qAlf (n : Nat) (d : D) (as : List Rat) : Prop := ∃ is, itD d = some is ∧ qEp is = some as ∧ 0 < as.length ∧ as.length ≤ 13 ∧ SzL n as ∧ 0 < n
theorem qAez {cs : List Str} {n : Nat} {d : D} {as : List Rat} {P : D → Prop} {X : XP} (h : qAlf n d as) (p : P (.lst (qBj as))) : qC3 cs [d, .int 13] P X := by
  obtain ⟨is, hi, hq, h0, h13, _, _⟩ := h
  have le := qX8 hq
  exact ⟨d, 13, rfl, .inl ⟨is, as, hi, fun e => by rw [e] at le; simp at le; omega, by omega, by omega, hq, p⟩⟩
section
variable {d e : D} {as bs : List Rat} {n : Nat} {FD : FEnds}
end
end MR

set_option Elab.async false
set_option linter.all false
set_option maxRecDepth 100000
set_option maxHeartbeats 4000000
set_option exponentiation.threshold 20000
namespace MR
open PySem PySem.Spec PyProof.Rows L2
def qDh (cs : List Str) : FSp := fun ds P X => ∃ d e as n b, ds = [d, e] ∧ qAlf n d as ∧ qTa cs e = some b ∧ (b = false → X ⟨"NoNumber", [("word", .str "by")]⟩) ∧
  (b = true → ∃ s, numV e = some s ∧ Sz 200 s ∧ (∀ k i, k + i < as.length → Sz 4400 (itr s k (coef as) i)) ∧ P (.lst (qBj (qJ7 s as))))
def qF6 (s : Rat) (as : List Rat) : List Rat := (List.range as.length).map fun k => s ^ k * coef as k
def qCs (cs : List Str) : FSp := fun ds P X => ∃ d e as n b, ds = [d, e] ∧ qAlf n d as ∧ qTa cs e = some b ∧ (b = false → X ⟨"NoNumber", [("word", .str "by")]⟩) ∧
  (b = true → ∃ s, numV e = some s ∧ Sz 300 s ∧ n ≤ 4000 ∧ P (.lst (qBj (qF6 s as))))
/-- what is left at stage k -/
def stg (s : Rat) (as : List Rat) (k : Nat) : List Rat := (List.range (as.length - k)).map fun i => itr s k (coef as) i
theorem qAmt (s : Rat) (as : List Rat) : stg s as 0 = as := by
  refine qY9 (by simp [stg]) fun k => ?_
  unfold stg
  rw [qKc]
  split
  · rfl
  · exact (qBb (by omega)).symm
theorem qAbw (s : Rat) (as : List Rat) (k : Nat) : (stg s as k).length = as.length - k := by simp [stg]
theorem qAcc {s : Rat} {as : List Rat} {k i : Nat} (h : k + i < as.length) : (qBj (stg s as k))[i]? = some (.rat (itr s k (coef as) i)) := by
  unfold stg qBj
  rw [List.getElem?_map, List.getElem?_map, List.getElem?_range (by omega)]
  rfl
def qHg (K : PySem.W.Frag) (cs : List Str) (E : XK) : TS :=
  (tSeq (tAsg (tCall (lift K (qC3 cs)) [.int 13] E (tCons (tVar 0) tNil)) (gName 2))
  (tSeq (tAsg (tCall (lift K (qCv cs)) [] E (tCons (tVar 1) (tCons (tC (.str "by")) tNil))) (gName 3))
  (tSeq (tAsg (tLst tNil) (gName 4))
  (tSeq (tWhile (qAbh K (tVar 2)) (tSeq (tDrop (tBM K "list" rAppend (tVar 4) (tCons (tOp (rIxL K) (tVar 2) (tC (.int 0))) tNil)))
  (tAsg (tLc (iRng1 (tCons (tOp qNi (tCB (qFq K) (tCons (tVar 2) tNil)) (tC (.int 1))) tNil)) (gName 5) tYes (tOp (qIo (He.ga K "Ratio") (lift K (fR2 fun a b => a + b)) E0) (tOp (rIxL K) (tVar 2) (tOp qEf (tVar 5) (tC (.int 1)))) (tOp (qIo (He.ga K "Ratio") (lift K (fR2 fun a b => a * b)) E0) (tVar 3) (tOp (rIxL K) (tVar 2) (tVar 5)))) [5]) (gName 2))))
  (tRet (tVar 4))))))
def qLt (cs : List Str) : FS :=
  (qAy (qCu 2 (qFc (qC3 cs) [.int 13] (qAc (qAe 0) qAm)))
  (qAy (qCu 3 (qFc (qCv cs) [] (qAc (qAe 1) (qAc (fC (.str "by")) qAm))))
  (qAy (qS9 4 (qF1 qAm))
  (qAy (qAen (fTru (qAe 2)) (qAy (qQc 4 (fOp qBu (qAe 2) (fC (.int 0))))
  (qCu 2 (fLc (qFa (qAc (fOp qXp (fLs qIx (qAc (qAe 2) qAm)) (fC (.int 1))) qAm)) (qBf 5) qI8 (fOp (qBk "Ratio" (fR2 fun a b => a + b)) (fOp qBu (qAe 2) (fOp qKu (qAe 5) (fC (.int 1)))) (fOp (qBk "Ratio" (fR2 fun a b => a * b)) (qAe 3) (fOp qBu (qAe 2) (qAe 5)))) [5]))))
  (qCr (qAe 4))))))
theorem qAbd {K : PySem.W.Frag} {cs : List Str} (T : KF K cs) (hRatio : ("Ratio" : Str) ∈ cs) (E : XK) : SS K Ta [] [] [] [] (fun _ => E) (qHg K cs E) (qLt cs) :=
  (qAl (ow1 := []) (qAx (by decide) (by decide) (qHi Lift.refl (qD8 qAf) (qAa (qAb (by decide)) qAd)))
  (qAl (ow1 := []) (qAx (by decide) (by decide) (qHi Lift.refl qAf (qAa (qAb (by decide)) (qAa qGd qAd))))
  (qAl (ow1 := [4]) (qJn (by decide) (by decide) (qQe qAd))
  (qAl (ow1 := [4]) (qAeb (by decide) (qXv (qAb (by decide))) (qAl (ow1 := [4]) (qK1 (by decide) (by decide) (qAi (fun _ => qAz) (qAb (by decide)) qAj))
  (qAx (by decide) (by decide) (SF.se (qO5 (by decide) (by decide) (qFo (qAa (qAi (fun _ => qJ2) (qEg (fun _ => qD0) (qAa (qAb (by decide)) qAd)) qAj) qAd)) (qBy (by decide)) qH5 (qAi (fun _ => (qBe Lift.refl)) (qAi (fun _ => qAz) (qAb (by decide)) (qAi (fun _ => qD1) (qAb (by decide)) qAj)) (qAi (fun _ => (qBe Lift.refl)) (qAb (by decide)) (qAi (fun _ => qAz) (qAb (by decide)) (qAb (by decide))))))))))
  (qL4 (ow1 := []) (by decide) (qAq (by decide) (qAb (by decide))))))))
def qGp (K : PySem.W.Frag) (cs : List Str) (E : XK) : TS :=
  (tSeq (tAsg (tCall (lift K (qC3 cs)) [.int 13] E (tCons (tVar 0) tNil)) (gName 2))
  (tSeq (tAsg (tCall (lift K (qCv cs)) [] E (tCons (tVar 1) (tCons (tC (.str "by")) tNil))) (gName 3))
  (tSeq (tAsg (tMake (He.ga K "Ratio") (qA8 K) [.int 1] E (tCons (tC (.int 1)) tNil)) (gName 4))
  (tSeq (tAsg (tLst tNil) (gName 5))
  (tSeq (tFor (iList K (tVar 2)) (gName 6) (tSeq (tDrop (tBM K "list" rAppend (tVar 5) (tCons (tOp (qIo (He.ga K "Ratio") (lift K (fR2 fun a b => a * b)) E0) (tVar 4) (tVar 6)) tNil)))
  (tAsg (tOp (qIo (He.ga K "Ratio") (lift K (fR2 fun a b => a * b)) E0) (tVar 4) (tVar 3)) (gName 4))))
  (tRet (tVar 5)))))))
def qKa (cs : List Str) : FS :=
  (qAy (qCu 2 (qFc (qC3 cs) [.int 13] (qAc (qAe 0) qAm)))
  (qAy (qCu 3 (qFc (qCv cs) [] (qAc (qAe 1) (qAc (fC (.str "by")) qAm))))
  (qAy (qCu 4 (qFc qHv [.int 1] (qAc (fC (.int 1)) qAm)))
  (qAy (qS9 5 (qF1 qAm))
  (qAy (qGn (qQz (qAe 2)) (qBf 6) (qAy (qQc 5 (fOp (qBk "Ratio" (fR2 fun a b => a * b)) (qAe 4) (qAe 6)))
  (qCu 4 (fOp (qBk "Ratio" (fR2 fun a b => a * b)) (qAe 4) (qAe 3)))))
  (qCr (qAe 5)))))))
theorem qXu {K : PySem.W.Frag} {cs : List Str} (T : KF K cs) (hRatio : ("Ratio" : Str) ∈ cs) (E : XK) : SS K Ta [] [] [] [] (fun _ => E) (qGp K cs E) (qKa cs) :=
  (qAl (ow1 := []) (qAx (by decide) (by decide) (qHi Lift.refl (qD8 qAf) (qAa (qAb (by decide)) qAd)))
  (qAl (ow1 := []) (qAx (by decide) (by decide) (qHi Lift.refl qAf (qAa (qAb (by decide)) (qAa qGd qAd))))
  (qAl (ow1 := []) (qAx (by decide) (by decide) (qL5 qFk (qD8 qAf) (qAa qAj qAd)))
  (qAl (ow1 := [5]) (qJn (by decide) (by decide) (qQe qAd))
  (qAl (ow1 := [5]) (qE5 (by decide) (qIt (qAb (by decide))) (qBy (by decide)) (qAl (ow1 := [5]) (qK1 (by decide) (by decide) (qAi (fun _ => (qBe Lift.refl)) (qAb (by decide)) (qAb (by decide))))
  (qAx (by decide) (by decide) (qAi (fun _ => (qBe Lift.refl)) (qAb (by decide)) (qAb (by decide))))))
  (qL4 (ow1 := []) (by decide) (qAq (by decide) (qAb (by decide)))))))))
def toMv (s : Rat) (k : Nat) (f : Nat → Rat) (d : D) : D := match d with
  | .int i => .rat (itr s (k + 1) f i.toNat)
  | e => e
theorem qAa5 {cs : List Str} (hR : ("Ratio" : Str) ∈ cs) (ds : List D) (P : D → Prop) (X : XP) (h : qDh cs ds P X) : qLt cs (qFj P X) (qA0 6 ds) := by
  obtain ⟨d, e, as, n, b, rfl, h1, hb, hx, hg⟩ := h
  simp_arith [qLt]
  refine qAez h1 ?_
  cases b with
  | false => exact ⟨e, "by", false, rfl, hb, fun _ => hx rfl, fun z => nomatch z⟩
  | true =>
    obtain ⟨s, hs, zs, hz, p⟩ := hg rfl
    obtain ⟨_, _, _, _, l1, _, _⟩ := h1
    refine qU2 hR hs ?_
    refine ⟨by decide, by decide, ?_⟩
    refine ⟨fun m ρ => ∃ k v5, m = as.length - k ∧ k ≤ as.length ∧ ρ = [some d, some e, some (.lst (qBj (stg s as k))), some (.rat s), some (.lst (qBj ((List.range k).map fun k => itr s k (coef as) 0))), v5], ⟨_, 0, none, rfl, Nat.zero_le _, by rw [qAmt]; rfl⟩, ?_⟩
    rintro m ρ ⟨k, v5, rfl, hk, rfl⟩
    simp_arith []
    by_cases hlt : k < as.length
    · have he : (qBj (stg s as k)).isEmpty = false := by
        have : (qBj (stg s as k)).length ≠ 0 := by rw [qBq, qAbw]; omega
        cases hh : qBj (stg s as k) with
        | nil => rw [hh] at this; simp at this
        | cons a l => rfl
      simp_arith [he, Bool.not_false]
      refine qEx (k := 0) rfl (qAcc (by omega)) ?_
      simp_arith [fLc, qFa, qBq, qAbw]
      refine ⟨qCg (by simp; omega), by omega, by omega, ?_⟩
      refine qMl (toMv s k (coef as)) _ [] (fun dd hd Q q => ?_) ?_ ?_
      · obtain ⟨j, hj, rfl⟩ := List.mem_map.mp hd
        have hj' := List.mem_range.mp hj
        simp only [qIv]
        simp_arith []
        rw [show (0 : Int) + (j : Int) + 1 = ((j + 1 : Nat) : Int) by omega, show (0 : Int) + (j : Int) = ((j : Nat) : Int) by omega]
        refine qEx rfl (qAcc (by omega)) ?_
        refine qEx rfl (qAcc (by omega)) ?_
        simp_arith [qDo]
        have z0 := hz k j (by omega)
        have z1 := hz k (j + 1) (by omega)
        refine ⟨⟨_, _, zs, z0, by decide⟩, ⟨_, _, z1, zs.mul z0, by decide⟩, ?_⟩
        have q' : Q (.rat (itr s (k + 1) (coef as) ((0 : Int) + (j : Int)).toNat)) := q
        rw [show ((0 : Int) + (j : Int)).toNat = j by omega] at q'
        exact q'
      · simp only [qKx, List.length_map, List.length_range, List.length_nil]
        exact qCg (by omega)
      · rw [List.nil_append]
        refine ⟨as.length - (k + 1), by omega, k + 1, v5, rfl, hlt, ?_⟩
        have e1 : (qKx 0 (((as.length - k : Nat) : Int) - 1).toNat).map (toMv s k (coef as)) = qBj (stg s as (k + 1)) := by
          unfold qKx qBj stg
          rw [List.map_map, List.map_map, show (((as.length - k : Nat) : Int) - 1).toNat = as.length - (k + 1) by omega]
          refine List.map_congr_left fun j _ => ?_
          show D.rat (itr s (k + 1) (coef as) ((0 : Int) + (j : Int)).toNat) = _
          rw [show ((0 : Int) + (j : Int)).toNat = j by omega]
          rfl
        rw [e1]
        simp [qBj, List.range_succ]
    · have : k = as.length := by omega
      subst this
      have he : (qBj (stg s as as.length)).isEmpty = true := by
        have : (qBj (stg s as as.length)).length = 0 := by rw [qBq, qAbw]; omega
        rw [List.length_eq_zero_iff.mp this]; rfl
      simp_arith [he, Bool.not_true]
      exact p
theorem qAjx {n : Nat} {s : Rat} (h : Sz n s) : ∀ k, Sz (n * k + 1) (s ^ k)
  | 0 => by
    rw [Rat.pow_zero]
    exact (⟨by decide, by decide⟩ : Sz 1 (1 : Rat)).mono (by omega)
  | k + 1 => by
    rw [Rat.pow_succ]
    refine ((qAjx h k).mul h).mono ?_
    rw [Nat.mul_add]
    omega
theorem qRv {FD : FEnds} {d e : D} {as : List Rat} {n : Nat} {s : Rat} (l1 : as.length ≤ 13) (z1 : SzL n as) (n0 : 0 < n) (hn : n ≤ 4000) (zs : Sz 300 s) {l2 : D}
    (fin : ∀ v4 v6, FD.nx [some d, some e, some l2, some (.rat s), v4, some (.lst (qBj (qF6 s as))), v6]) :
    ∀ (r k : Nat) (v6 : Option D), k + r = as.length → qCk (qBf 6) (qAy (qQc 5 (fOp (qBk "Ratio" (fR2 fun a b => a * b)) (qAe 4) (qAe 6)))
  (qCu 4 (fOp (qBk "Ratio" (fR2 fun a b => a * b)) (qAe 4) (qAe 3)))) FD (qBj (as.drop k)) [some d, some e, some l2, some (.rat s), some (.rat (s ^ k)), some (.lst (qBj ((List.range k).map fun k => s ^ k * coef as k))), v6]
  | 0, k, v6, hk => by
    have : k = as.length := by omega
    subst this
    rw [List.drop_length]
    exact fin _ _
  | r + 1, k, v6, hk => by
    have ih := qRv l1 z1 n0 hn zs fin r (k + 1)
    have zk : Sz 3601 (s ^ k) := (qAjx zs k).mono (by
      have : 300 * k ≤ 300 * 12 := Nat.mul_le_mul_left _ (by omega)
      omega)
    rw [qMu (by omega), qJr]
    unfold qCk
    simp_arith [qDo, qBq]
    refine ⟨⟨_, _, zk, z1.coef n0 k, by omega⟩, qCg (by simp; omega), ⟨_, _, zk, zs, by decide⟩, ?_⟩
    have := ih (some (.rat (coef as k))) (by omega)
    rw [Rat.pow_succ] at this
    have e : qBj ((List.range k).map fun k => s ^ k * coef as k) ++ [.rat (s ^ k * coef as k)] = qBj ((List.range (k + 1)).map fun k => s ^ k * coef as k) := by
      simp [qBj, List.range_succ]
    rw [e]
    exact this
theorem qX4 {cs : List Str} (hR : ("Ratio" : Str) ∈ cs) (ds : List D) (P : D → Prop) (X : XP) (h : qCs cs ds P X) : qKa cs (qFj P X) (qA0 7 ds) := by
  obtain ⟨d, e, as, n, b, rfl, h1, hb, hx, hg⟩ := h
  simp_arith [qKa]
  refine qAez h1 ?_
  cases b with
  | false => exact ⟨e, "by", false, rfl, hb, fun _ => hx rfl, fun z => nomatch z⟩
  | true =>
    obtain ⟨s, hs, zs, hn, p⟩ := hg rfl
    obtain ⟨_, _, _, _, l1, z1, n0⟩ := h1
    refine qU2 hR hs ?_
    simp_arith [qSv, qGn]
    refine ⟨by decide, by decide, ?_⟩
    have := qRv (FD := (⟨fun ρ => (∃ d, ρ[5]? = some (some d) ∧ P d), P, fun _ => False, fun _ => False, fun x _ => X x, P⟩ : FEnds)) (d := d) (e := e) (l2 := .lst (qBj as)) l1 z1 n0 hn zs (fun v4 v6 => ⟨_, rfl, p⟩) as.length 0 none (by omega)
    rw [Rat.pow_zero, List.drop_zero] at this
    exact this
theorem qU5 {K : PySem.W.Frag} {cs : List Str} (vs : List V) (H : Hp) (Q : VK) (E : XK) (h : (lift K (qDh cs)) vs H Q E) : vs.length = 2 := qAr (fun ds P X h => by unfold qDh at h; first | ((repeat (first | (obtain ⟨rfl, _⟩ := h; exact rfl) | obtain ⟨_, h⟩ := h)); done) | (split at h <;> first | rfl | exact h.elim)) h
theorem qYm {K : PySem.W.Frag} {cs : List Str} (T : KF K cs) (hRatio : ("Ratio" : Str) ∈ cs) (vs : List V) (H : Hp) (Q : VK) (E : XK) (h : (lift K (qDh cs)) vs H Q E) : qHg K cs E { nx := fun _ H' => Q .non H', rt := Q } (start ["row", "by", "numbers", "step", "result", "k"] vs) H :=
  qU4 (t := fun E => qHg K cs E) rfl (qAbd T hRatio) (qAa5 hRatio) vs H Q E h
theorem qTz {K : PySem.W.Frag} {cs : List Str} (vs : List V) (H : Hp) (Q : VK) (E : XK) (h : (lift K (qCs cs)) vs H Q E) : vs.length = 2 := qAr (fun ds P X h => by unfold qCs at h; first | ((repeat (first | (obtain ⟨rfl, _⟩ := h; exact rfl) | obtain ⟨_, h⟩ := h)); done) | (split at h <;> first | rfl | exact h.elim)) h
theorem qWx {K : PySem.W.Frag} {cs : List Str} (T : KF K cs) (hRatio : ("Ratio" : Str) ∈ cs) (vs : List V) (H : Hp) (Q : VK) (E : XK) (h : (lift K (qCs cs)) vs H Q E) : qGp K cs E { nx := fun _ H' => Q .non H', rt := Q } (start ["row", "by", "numbers", "times", "power", "result", "m"] vs) H :=
  qU4 (t := fun E => qGp K cs E) rfl (qXu T hRatio) (qX4 hRatio) vs H Q E h
end MR

set_option Elab.async false
set_option linter.all false
set_option maxRecDepth 100000
set_option maxHeartbeats 4000000
/-! FLA2: a = b = e -/
namespace MR
open PySem PySem.Spec PyProof.Rows L2
section
variable {K : PySem.W.Frag} {Ta : List (Addr × Str)} {ow owb owx : List Nat} {E : L2.St → XK}
end
end MR

set_option Elab.async false
set_option linter.all false
set_option maxRecDepth 100000
set_option maxHeartbeats 4000000
/-! FLA3: two except clauses; a, b = a list -/
namespace MR
open PySem PySem.Spec PyProof.Rows L2
section
variable {K : PySem.W.Frag} {Ta : List (Addr × Str)} {ow ow' owb owx : List Nat} {E : L2.St → XK}
end
end MR

set_option Elab.async false
set_option linter.all false
set_option maxRecDepth 100000
set_option maxHeartbeats 4000000
/-! FLA4: t[::-1] of a tuple -/
namespace HT
open PySem PyProof.Rows
section
variable {prog : Program} {w : World} {A : Around} {E : Value → Shared → Prop} {s : Shared}
theorem qQr {sl : Addr} {vs : Value} {n : Nat} {Q : Int × Int × Nat → Shared → Prop} (hs : s.heap.IsSliceOf sl .none .none vs) (ps : IsPart vs (some (-1)))
    (h : Q ((n : Int) - 1, -1, n) s) : wpAny (model prog w) A (Builtin.Slice.sliceApplied (.ref sl) (pure (n : Int))) Q E s := by
  obtain ⟨os, hos, hcs, hds⟩ := id hs
  unfold Builtin.Slice.sliceApplied Builtin.Slice.sliceFields
  refine wpAny_bind (wpAny_bind (wpAny_field hos hds (x := .none) rfl (wpAny_bind (wpAny_field hos hds (x := .none) rfl (wpAny_bind (wpAny_field hos hds (x := vs) rfl (wpAny_pure ?_)))))))
  refine wpAny_bind (slicePart_ ps ?_)
  show wpAny _ _ (if ((-1 : Int) == 0) = true then _ else _) _ _ s
  rw [if_neg (by decide)]
  refine wpAny_bind (slicePart_none (wpAny_bind (slicePart_none (wpAny_bind (wpAny_pure ?_)))))
  show wpAny _ _ (pure ((n : Int) - 1, (-1 : Int), Builtin.Slice.slicePlaces ((n : Int) - 1) (-1) (-1))) _ _ s
  have e : Builtin.Slice.slicePlaces ((n : Int) - 1) (-1) (-1) = n := by
    unfold Builtin.Slice.slicePlaces
    rw [if_neg (by decide), Int.neg_neg, Int.ediv_one]
    split <;> omega
  rw [e]
  exact wpAny_pure h
theorem qY6 {α β : Type} {f g : α → Option β} : ∀ l : List α, (∀ x, x ∈ l → f x = g x) → l.filterMap f = l.filterMap g
  | [], _ => rfl
  | a :: l, h => by
    have e := qY6 l fun x hx => h x (List.mem_cons_of_mem _ hx)
    rw [List.filterMap_cons, List.filterMap_cons, h a (List.mem_cons_self ..), e]
theorem qAkr (xs : Array Value) : ((List.range xs.size).filterMap fun (m : Nat) => xs[((xs.size : Int) - 1 + (m : Int) * (-1)).toNat]?).toArray = xs.toList.reverse.toArray := by
  congr 1
  have e : ∀ m : Nat, m ∈ List.range xs.size → xs[((xs.size : Int) - 1 + (m : Int) * (-1)).toNat]? = some (xs.toList.reverse.getD m .none) := fun m hm => by
    have hm := List.mem_range.mp hm
    have e1 : ((xs.size : Int) - 1 + (m : Int) * (-1)).toNat = xs.size - 1 - m := by omega
    rw [e1, List.getD_eq_getElem?_getD, List.getElem?_reverse (by rw [Array.length_toList]; exact hm), Array.length_toList, Array.getElem?_toList, Array.getElem?_eq_getElem (show xs.size - 1 - m < xs.size by omega)]
    rfl
  rw [qY6 _ e]
  rw [show (fun m => some (xs.toList.reverse.getD m Value.none)) = some ∘ (fun m => xs.toList.reverse.getD m Value.none) from rfl, List.filterMap_eq_map]
  refine List.ext_getElem? fun i => ?_
  rw [List.getElem?_map]
  by_cases hi : i < xs.size
  · rw [List.getElem?_range hi, Option.map_some, List.getD_eq_getElem?_getD, List.getElem?_eq_getElem (show i < xs.toList.reverse.length by rw [List.length_reverse, Array.length_toList]; exact hi)]
    rfl
  · rw [List.getElem?_eq_none (by rw [List.length_range]; omega), List.getElem?_eq_none (by rw [List.length_reverse, Array.length_toList]; omega)]
    rfl
theorem getItem_tuple_rev {t sl : Addr} {items : Array Value} {vs : Value} {Q : Value → Shared → Prop} (ht : IsTup s.heap t items) (hs : s.heap.IsSliceOf sl .none .none vs) (ps : IsPart vs (some (-1)))
    (h : Q (.ref s.heap.objs.size) { s with heap := s.heap.push { cls := .type "tuple", data := .seq items.toList.reverse.toArray } })
    (hsz : items.size ≤ sizeLine) : wpAny (model prog w) A (getItem (.ref t) (.ref sl)) Q E s := by
  have htake : sizeOk (.seq items.toList.reverse.toArray) := by
    show items.toList.reverse.toArray.size ≤ sizeLine
    rw [List.size_toArray, List.length_reverse, Array.length_toList]
    exact hsz
  obtain ⟨os, hos, hcs, hds⟩ := id hs
  have hTs : s.TypeIs (.ref sl) "slice" := ⟨os, hos, hcs⟩
  unfold getItem
  try with_reducible refine wpAny_holding ?_
  first | refine wpAny_bind (wpAny_pure ?_) | skip
  refine wpAny_bind (wpAny_sequenceKey ht.typeIs (by decide) ?_)
  refine wpAny_bind (wpAny_callSpecial?_slot (name := Str.ofString "__getitem__") ht.typeIs PyProof.Rows.slot_tuple_getitem
    (wpAny_call_entry PyProof.Rows.slot_tuple_getitem ht.typeIs entry_tuple_getitem ?_ (args_tuple_getitem _ _)))
  show wpAny _ _ (Builtin.Tuple.tupleItemsOf (.ref t) >>= _) _ _ s
  refine wpAny_bind (tupleItemsOf_ ht ?_)
  refine wpAny_bind (wpAny_typeOf hTs ?_)
  rw [if_pos (by decide)]
  refine wpAny_bind (qQr hs ps ?_)
  have hno : ¬ ((((items.size : Int) - 1) == 0 && (-1 : Int) == 1 && items.size == items.size) = true) := by
    intro q
    rw [Bool.and_eq_true, Bool.and_eq_true] at q
    exact absurd (eq_of_beq q.1.2) (by decide)
  show wpAny _ _ (if (((items.size : Int) - 1) == 0 && (-1 : Int) == 1 && items.size == items.size) = true then _ else _) _ _ s
  rw [if_neg hno, qAkr]
  first
    | exact wpAny_bind (m := Builtin.Tuple.tupleExact _) (wpAny_newObj_type (wpAny_pure ⟨_, rfl, wpAny_pure h⟩) htake)
    | exact wpAny_bind (m := Builtin.Tuple.tupleExact _) (wpAny_newObj_type (wpAny_bind (wpAny_pure (wpAny_pure ⟨_, rfl, wpAny_pure h⟩))) htake)
    | exact wpAny_bind (wpAny_bind (m := Builtin.Tuple.tupleExact _) (wpAny_newObj_type (wpAny_pure (wpAny_pure ⟨_, rfl, wpAny_pure h⟩)) htake))
    | exact wpAny_bind (wpAny_bind (m := Builtin.Tuple.tupleExact _) (wpAny_newObj_type (wpAny_pure ⟨_, rfl, wpAny_pure h⟩) htake))
end
end HT
namespace L2
open PySem PySem.Spec PyProof.Rows
section
variable {X : Cx}
def qAp1 (K : PySem.W.Frag) (te : TE) : TE := fun σ H Q => te σ H fun x H1 => ∃ a xs, x = .ref a ∧ SqT K H1 a xs ∧ ∀ p, H1 p = none → Q (.ref p) (upd H1 p (.tup xs.reverse))
theorem qApi {e : Expr} {te : TE} {k : Nat} {p1 p2 p3 pos : Pos} (he : PE X e te) : PE X (.Subscript e (.Slice none none (some (.UnaryOp .USub (.Constant (.int 1) k p1) p2)) p3) pos) (qAp1 X.K te) := by
  refine ⟨fun pins s σ H Q I h => ?_⟩
  refine Subscript_ (thn (he.run pins s σ H _ I h) fun v s1 ⟨x, H1, I1, r1, q1⟩ => ?_)
  obtain ⟨a, xs, ex, hx, q⟩ := q1
  subst ex
  cases r1
  have hst : PO X (some (.UnaryOp .USub (.Constant (.int 1) k p1) p2)) (tPart (tUn (rU fun i => .int (-i)) (tC (.int 1)))) := po_some (pe_un un_neg pe_int)
  refine wpAny_Slice (thn (po_none.run pins s1 σ H1 (fun o H2 => o = none ∧ H2 = H1) I1 ⟨rfl, rfl⟩) fun vl s2 ⟨l, H2, I2, pl, el, e2⟩ => ?_)
  subst el e2
  refine thn (po_none.run pins s2 σ H2 (fun o H3 => o = none ∧ H3 = H2) I2 ⟨rfl, rfl⟩) fun vu s3 ⟨u, H3, I3, pu, eu, e3⟩ => ?_
  subst eu e3
  refine thn (hst.run pins s3 σ H3 (fun o H4 => o = some (-1) ∧ H4 = H3) I3 ⟨1, rfl, -1, rfl, rfl, rfl⟩) fun vs s4 ⟨o, H4, I4, ps, eo, e4⟩ => ?_
  subst eo e4
  cases pl
  cases pu
  have I5 : Inv X pins σ H4 { s4 with heap := s4.heap.push { cls := .type "slice", data := .fields #[.none, .none, vs] } } := I4.kept (t' := s4.toks) fun b ob q => Heap.get?_push_of_some _ q
  obtain ⟨its, r, ht, hz⟩ := I5.tuple hx
  have hlen : its.toArray.size = xs.length := by rw [List.size_toArray]; exact r.length.symm
  show wpAny (model X.prog X.w) X.A (subscriptTail e (.Slice none none (some (.UnaryOp .USub (.Constant (.int 1) k p1) p2)) p3) (.ref a) (.ref s4.heap.objs.size)) (EP X pins σ Q) X.xe { s4 with heap := s4.heap.push { cls := .type "slice", data := .fields #[.none, .none, vs] } }
  refine tail_any (ops := [.ref a, .ref s4.heap.objs.size]) ht.typeIs (PyProof.Rows.slot_tuple_getitem.lookup) ?_ (by with_unfolding_all rfl)
  refine HT.getItem_tuple_rev ht (Heap.IsSliceOf.new _ .none .none vs) ps ?_ (by rw [hlen]; exact hz)
  refine ⟨.ref _, _, I5.laid (t' := s4.toks) (o := .tup xs.reverse) (fun b ob q => Heap.get?_push_of_some _ q) (Nat.le_refl _) ?_, rfl, q _ (I5.hok.fresh (Nat.le_refl _))⟩
  exact ⟨by rw [List.length_reverse]; exact hz, _, r.reverse, IsTup.new _ _⟩
end
end L2
namespace MR
open PySem PySem.Spec PyProof.Rows L2
section
variable {K : PySem.W.Frag} {Ta : List (Addr × Str)} {ow : List Nat} {E : L2.St → XK}
def qAo4 (fe : FE) : FE := fun ρ P X => fe ρ (fun d => ∃ ds, d = .tup ds ∧ P (.tup ds.reverse)) X
theorem qAn4 {te : TE} {fe : FE} (he : SE K Ta ow E te fe) : SE K Ta ow E (qAp1 K te) (qAo4 fe) := by
  intro w H σ ρ P X Q e h q x
  refine he w H σ ρ _ X _ e h (fun d v H1 hd g1 r => ?_) x
  have e1 := e.grow g1
  obtain ⟨ds, rfl, p⟩ := hd
  obtain ⟨a, vs, rfl, ok, ha, rs⟩ := r
  exact ⟨a, vs, rfl, SqT.of ha, fun pp np => q _ _ _ p (g1.trans (.new np)) (qRg e1.lv np rs.reverse)⟩
end
end MR

set_option Elab.async false
set_option linter.all false
set_option maxRecDepth 100000
set_option maxHeartbeats 4000000
set_option exponentiation.threshold 20000
namespace MR
open PySem PySem.Spec PyProof.Rows L2
structure StSz (s : Step) : Prop where
  u0 : 0 < s.2.1.length
  p0 : 0 < s.2.2.1.length
  lu : s.2.1.length ≤ 3
  lp : s.2.2.1.length ≤ 8
  zu : SzL 20000 s.2.1
  zp : SzL 20000 s.2.2.1
  zw : Sz 60000 s.2.2.2
  num : s.1 < 20
def qBw : FSp := fun ds P _ => ∃ p x, ds = [.poly p, .rat x] ∧ p.length ≤ 8 ∧ SzL 20000 p ∧ Sz 200 x ∧ P (.rat (evL p x))
def qEa : FSp := fun ds P _ => ∃ a b, ∃ n : Nat, ds = [.rat a, .rat b, .int (n : Int)] ∧ Sz 170000 a ∧ Sz 200 b ∧ n ≤ 20 ∧ P (.rat (a * b ^ n))
def qVe : FSp := fun ds P _ => ∃ l l' t, ds = [.lst (l.map qA9), .lst (l'.map qA9), .rat t] ∧ All2 (QMv t) l l' ∧ l.length ≤ 1000 ∧ (∀ s, s ∈ l → StSz s) ∧ (∀ s, s ∈ l' → StSz s) ∧ Sz 100 t ∧ P (.bl true)
def qNq : FSp := fun ds P _ => ∃ l l' t, ds = [.lst (l.map qA9), .lst (l'.map qA9), .rat t] ∧ All2 (QSc t) l l' ∧ l.length ≤ 1000 ∧ (∀ s, s ∈ l → StSz s) ∧ (∀ s, s ∈ l' → StSz s) ∧ Sz 100 t ∧ P (.bl true)
def qLr (K : PySem.W.Frag) (cs : List Str) : TS :=
  (tSeq (tAsg (tMake (He.ga K "Ratio") (qA8 K) [.int 1] E0 (tCons (tC (.int 0)) tNil)) (gName 2))
  (tSeq (tFor (iTup K (qAp1 K (tFld K (tVar 0) "coefficients"))) (gName 3) (tAsg (tOp (qIo (He.ga K "Ratio") (lift K (fR2 fun a b => a + b)) E0) (tOp (qIo (He.ga K "Ratio") (lift K (fR2 fun a b => a * b)) E0) (tVar 2) (tVar 1)) (tVar 3)) (gName 2)))
  (tRet (tVar 2))))
def qO0 (cs : List Str) : FS :=
  (qAy (qCu 2 (qAg qHv [.int 1] (qAc (fC (.int 0)) qAm)))
  (qAy (qGn (fItT (qAo4 (qCy "Poly" "coefficients" (qAe 0)))) (qBf 3) (qCu 2 (fOp (qBk "Ratio" (fR2 fun a b => a + b)) (fOp (qBk "Ratio" (fR2 fun a b => a * b)) (qAe 2) (qAe 1)) (qAe 3))))
  (qCr (qAe 2))))
theorem qAfm {K : PySem.W.Frag} {cs : List Str} (T : KF K cs) (hRatio : ("Ratio" : Str) ∈ cs) (hPoly : ("Poly" : Str) ∈ cs) : SS K Ta [] [] [] [] (fun _ => E0) (qLr K cs) (qO0 cs) :=
  (qAl (ow1 := []) (qAx (by decide) (by decide) (qA2 qFk (qD8 qAf) (qAa qAj qAd)))
  (qAl (ow1 := []) (qE5 (by decide) (qAq9 (qAn4 (qAo (T.fld _ hPoly _ (by decide)) (qAb (by decide))))) (qBy (by decide)) (qAx (by decide) (by decide) (qAi (fun _ => (qBe Lift.refl)) (qAi (fun _ => (qBe Lift.refl)) (qAb (by decide)) (qAb (by decide))) (qAb (by decide)))))
  (qAq (by decide) (qAb (by decide)))))
def qMa (K : PySem.W.Frag) (cs : List Str) : TS :=
  (tSeq (tFor (iRng1 (tCons (tVar 2) tNil)) (gName 3) (tAsg (tOp (qIo (He.ga K "Ratio") (lift K (fR2 fun a b => a * b)) E0) (tVar 0) (tVar 1)) (gName 0)))
  (tRet (tVar 0)))
def qOj (cs : List Str) : FS :=
  (qAy (qGn (qFa (qAc (qAe 2) qAm)) (qBf 3) (qCu 0 (fOp (qBk "Ratio" (fR2 fun a b => a * b)) (qAe 0) (qAe 1))))
  (qCr (qAe 0)))
theorem qAe9 {K : PySem.W.Frag} {cs : List Str} (T : KF K cs) (hRatio : ("Ratio" : Str) ∈ cs) : SS K Ta [] [] [] [] (fun _ => E0) (qMa K cs) (qOj cs) :=
  (qAl (ow1 := []) (qE5 (by decide) (qFo (qAa (qAb (by decide)) qAd)) (qBy (by decide)) (qAx (by decide) (by decide) (qAi (fun _ => (qBe Lift.refl)) (qAb (by decide)) (qAb (by decide)))))
  (qAq (by decide) (qAb (by decide))))
def qLz (K : PySem.W.Frag) (cs : List Str) : TS :=
  (tSeq (tIfS (tTest (tOp rNe (tCB (qFq K) (tCons (tVar 0) tNil)) (tCB (qFq K) (tCons (tVar 1) tNil)))) (tRet (tC (.bl false))) tNext)
  (tSeq (tFor (iRng1 (tCons (tCB (qFq K) (tCons (tVar 0) tNil)) tNil)) (gName 3) (tSeq (tIfS (tOr (tTest (tOp rNe (tOp (rIxT K) (tOp (rIxL K) (tVar 1) (tVar 3)) (tC (.int 0))) (tOp (rIxT K) (tOp (rIxL K) (tVar 0) (tVar 3)) (tC (.int 0))))) (tNot (tTest (tOp (qIo (He.ga K "Ratio") (lift K (fRB fun a b => decide (a = b))) E0) (tOp (rIxT K) (tOp (rIxL K) (tVar 1) (tVar 3)) (tC (.int 3))) (tOp (rIxT K) (tOp (rIxL K) (tVar 0) (tVar 3)) (tC (.int 3))))))) (tRet (tC (.bl false))) tNext)
  (tFor (iRng2 (tCons (tUn qO2 (tC (.int 4))) (tCons (tC (.int 5)) tNil))) (gName 4) (tSeq (tIfS (tNot (tTest (tOp (qIo (He.ga K "Ratio") (lift K (fRB fun a b => decide (a = b))) E0) (tCall (lift K qBw) [] E0 (tCons (tOp (rIxT K) (tOp (rIxL K) (tVar 1) (tVar 3)) (tC (.int 2))) (tCons (tOp (qAb1 (He.ga K "Ratio") (lift K (fRI fun a b => b + a)) E0) (tVar 4) (tVar 2)) tNil))) (tCall (lift K qBw) [] E0 (tCons (tOp (rIxT K) (tOp (rIxL K) (tVar 0) (tVar 3)) (tC (.int 2))) (tCons (tMake (He.ga K "Ratio") (qA8 K) [.int 1] E0 (tCons (tVar 4) tNil)) tNil)))))) (tRet (tC (.bl false))) tNext)
  (tIfS (tNot (tTest (tOp (qIo (He.ga K "Ratio") (lift K (fRB fun a b => decide (a = b))) E0) (tCall (lift K qBw) [] E0 (tCons (tOp (rIxT K) (tOp (rIxL K) (tVar 1) (tVar 3)) (tC (.int 1))) (tCons (tOp (qAb1 (He.ga K "Ratio") (lift K (fRI fun a b => b + a)) E0) (tVar 4) (tVar 2)) tNil))) (tCall (lift K qBw) [] E0 (tCons (tOp (rIxT K) (tOp (rIxL K) (tVar 0) (tVar 3)) (tC (.int 1))) (tCons (tMake (He.ga K "Ratio") (qA8 K) [.int 1] E0 (tCons (tVar 4) tNil)) tNil)))))) (tRet (tC (.bl false))) tNext)))))
  (tRet (tC (.bl true)))))
def qOf (cs : List Str) : FS :=
  (qAy (qC1 (fB (fOp oNe (fLs qIx (qAc (qAe 0) qAm)) (fLs qIx (qAc (qAe 1) qAm)))) (qCr (fC (.bl false))) qAv)
  (qAy (qGn (qFa (qAc (fLs qIx (qAc (qAe 0) qAm)) qAm)) (qBf 3) (qAy (qC1 (fOr (fB (fOp oNe (fOp qEw (fOp qBu (qAe 1) (qAe 3)) (fC (.int 0))) (fOp qEw (fOp qBu (qAe 0) (qAe 3)) (fC (.int 0))))) (qGq (fB (fOp (qBk "Ratio" (fRB fun a b => decide (a = b))) (fOp qEw (fOp qBu (qAe 1) (qAe 3)) (fC (.int 3))) (fOp qEw (fOp qBu (qAe 0) (qAe 3)) (fC (.int 3))))))) (qCr (fC (.bl false))) qAv)
  (qGn (qAb9 (qAc (fUn qQ7 (fC (.int 4))) (qAc (fC (.int 5)) qAm))) (qBf 4) (qAy (qC1 (qGq (fB (fOp (qBk "Ratio" (fRB fun a b => decide (a = b))) (qAg qBw [] (qAc (fOp qEw (fOp qBu (qAe 1) (qAe 3)) (fC (.int 2))) (qAc (fOp (qLf "Ratio" (fRI fun a b => b + a)) (qAe 4) (qAe 2)) qAm))) (qAg qBw [] (qAc (fOp qEw (fOp qBu (qAe 0) (qAe 3)) (fC (.int 2))) (qAc (qAg qHv [.int 1] (qAc (qAe 4) qAm)) qAm)))))) (qCr (fC (.bl false))) qAv)
  (qC1 (qGq (fB (fOp (qBk "Ratio" (fRB fun a b => decide (a = b))) (qAg qBw [] (qAc (fOp qEw (fOp qBu (qAe 1) (qAe 3)) (fC (.int 1))) (qAc (fOp (qLf "Ratio" (fRI fun a b => b + a)) (qAe 4) (qAe 2)) qAm))) (qAg qBw [] (qAc (fOp qEw (fOp qBu (qAe 0) (qAe 3)) (fC (.int 1))) (qAc (qAg qHv [.int 1] (qAc (qAe 4) qAm)) qAm)))))) (qCr (fC (.bl false))) qAv)))))
  (qCr (fC (.bl true)))))
theorem qAfw {K : PySem.W.Frag} {cs : List Str} (T : KF K cs) (hRatio : ("Ratio" : Str) ∈ cs) (hPoly : ("Poly" : Str) ∈ cs) : SS K Ta [] [] [] [] (fun _ => E0) (qLz K cs) (qOf cs) :=
  (qAl (ow1 := []) (qBl (by decide) (qAp (qAi (fun _ => qAbc) (qEg (fun _ => qD0) (qAa (qAb (by decide)) qAd)) (qEg (fun _ => qD0) (qAa (qAb (by decide)) qAd)))) (qAq (by decide) qJl) (qAn (by decide)))
  (qAl (ow1 := []) (qE5 (by decide) (qFo (qAa (qEg (fun _ => qD0) (qAa (qAb (by decide)) qAd)) qAd)) (qBy (by decide)) (qAl (ow1 := []) (qBl (by decide) (qAcx (qAp (qAi (fun _ => qAbc) (qAi (fun _ => qDk) (qAi (fun _ => qAz) (qAb (by decide)) (qAb (by decide))) qAj) (qAi (fun _ => qDk) (qAi (fun _ => qAz) (qAb (by decide)) (qAb (by decide))) qAj))) (qEb (qAp (qAi (fun _ => (qBe Lift.refl)) (qAi (fun _ => qDk) (qAi (fun _ => qAz) (qAb (by decide)) (qAb (by decide))) qAj) (qAi (fun _ => qDk) (qAi (fun _ => qAz) (qAb (by decide)) (qAb (by decide))) qAj))))) (qAq (by decide) qJl) (qAn (by decide)))
  (qE5 (by decide) (qAit (qAa (qOg (fun _ => qK0) qAj) (qAa qAj qAd))) (qBy (by decide)) (qAl (ow1 := []) (qBl (by decide) (qEb (qAp (qAi (fun _ => (qBe Lift.refl)) (qAk Lift.refl qAf (qAa (qAi (fun _ => qDk) (qAi (fun _ => qAz) (qAb (by decide)) (qAb (by decide))) qAj) (qAa (qAi (fun _ => (qWv Lift.refl)) (qAb (by decide)) (qAb (by decide))) qAd))) (qAk Lift.refl qAf (qAa (qAi (fun _ => qDk) (qAi (fun _ => qAz) (qAb (by decide)) (qAb (by decide))) qAj) (qAa (qA2 qFk (qD8 qAf) (qAa (qAb (by decide)) qAd)) qAd)))))) (qAq (by decide) qJl) (qAn (by decide)))
  (qBl (by decide) (qEb (qAp (qAi (fun _ => (qBe Lift.refl)) (qAk Lift.refl qAf (qAa (qAi (fun _ => qDk) (qAi (fun _ => qAz) (qAb (by decide)) (qAb (by decide))) qAj) (qAa (qAi (fun _ => (qWv Lift.refl)) (qAb (by decide)) (qAb (by decide))) qAd))) (qAk Lift.refl qAf (qAa (qAi (fun _ => qDk) (qAi (fun _ => qAz) (qAb (by decide)) (qAb (by decide))) qAj) (qAa (qA2 qFk (qD8 qAf) (qAa (qAb (by decide)) qAd)) qAd)))))) (qAq (by decide) qJl) (qAn (by decide)))))))
  (qAq (by decide) qJl)))
def qGw (K : PySem.W.Frag) (cs : List Str) : TS :=
  (tSeq (tIfS (tTest (tOp rNe (tCB (qFq K) (tCons (tVar 0) tNil)) (tCB (qFq K) (tCons (tVar 1) tNil)))) (tRet (tC (.bl false))) tNext)
  (tSeq (tFor (iRng1 (tCons (tCB (qFq K) (tCons (tVar 0) tNil)) tNil)) (gName 3) (tSeq (tIfS (tOr (tTest (tOp rNe (tOp (rIxT K) (tOp (rIxL K) (tVar 1) (tVar 3)) (tC (.int 0))) (tOp (rIxT K) (tOp (rIxL K) (tVar 0) (tVar 3)) (tC (.int 0))))) (tNot (tTest (tOp (qIo (He.ga K "Ratio") (lift K (fRB fun a b => decide (a = b))) E0) (tOp (rIxT K) (tOp (rIxL K) (tVar 1) (tVar 3)) (tC (.int 3))) (tCall (lift K qEa) [] E0 (tCons (tOp (rIxT K) (tOp (rIxL K) (tVar 0) (tVar 3)) (tC (.int 3))) (tCons (tVar 2) (tCons (tOp (rIxT K) (tOp (rIxL K) (tVar 0) (tVar 3)) (tC (.int 0))) tNil)))))))) (tRet (tC (.bl false))) tNext)
  (tFor (iRng2 (tCons (tUn qO2 (tC (.int 4))) (tCons (tC (.int 5)) tNil))) (gName 4) (tSeq (tAsg (tCall (lift K qEa) [] E0 (tCons (tCall (lift K qBw) [] E0 (tCons (tOp (rIxT K) (tOp (rIxL K) (tVar 0) (tVar 3)) (tC (.int 2))) (tCons (tMake (He.ga K "Ratio") (qA8 K) [.int 1] E0 (tCons (tVar 4) tNil)) tNil))) (tCons (tVar 2) (tCons (tOp qNi (tCB (qFq K) (tCons (tFld K (tOp (rIxT K) (tOp (rIxL K) (tVar 0) (tVar 3)) (tC (.int 2))) "coefficients") tNil)) (tC (.int 1))) tNil)))) (gName 5))
  (tSeq (tIfS (tNot (tTest (tOp (qIo (He.ga K "Ratio") (lift K (fRB fun a b => decide (a = b))) E0) (tCall (lift K qBw) [] E0 (tCons (tOp (rIxT K) (tOp (rIxL K) (tVar 1) (tVar 3)) (tC (.int 2))) (tCons (tOp (qAb1 (He.ga K "Ratio") (lift K (fRI fun a b => b * a)) E0) (tVar 4) (tVar 2)) tNil))) (tVar 5)))) (tRet (tC (.bl false))) tNext)
  (tSeq (tAsg (tCall (lift K qEa) [] E0 (tCons (tCall (lift K qBw) [] E0 (tCons (tOp (rIxT K) (tOp (rIxL K) (tVar 0) (tVar 3)) (tC (.int 1))) (tCons (tMake (He.ga K "Ratio") (qA8 K) [.int 1] E0 (tCons (tVar 4) tNil)) tNil))) (tCons (tVar 2) (tCons (tOp qNi (tCB (qFq K) (tCons (tFld K (tOp (rIxT K) (tOp (rIxL K) (tVar 0) (tVar 3)) (tC (.int 1))) "coefficients") tNil)) (tC (.int 1))) tNil)))) (gName 5))
  (tIfS (tNot (tTest (tOp (qIo (He.ga K "Ratio") (lift K (fRB fun a b => decide (a = b))) E0) (tCall (lift K qBw) [] E0 (tCons (tOp (rIxT K) (tOp (rIxL K) (tVar 1) (tVar 3)) (tC (.int 1))) (tCons (tOp (qAb1 (He.ga K "Ratio") (lift K (fRI fun a b => b * a)) E0) (tVar 4) (tVar 2)) tNil))) (tVar 5)))) (tRet (tC (.bl false))) tNext)))))))
  (tRet (tC (.bl true)))))
def qHj (cs : List Str) : FS :=
  (qAy (qC1 (fB (fOp oNe (fLs qIx (qAc (qAe 0) qAm)) (fLs qIx (qAc (qAe 1) qAm)))) (qCr (fC (.bl false))) qAv)
  (qAy (qGn (qFa (qAc (fLs qIx (qAc (qAe 0) qAm)) qAm)) (qBf 3) (qAy (qC1 (fOr (fB (fOp oNe (fOp qEw (fOp qBu (qAe 1) (qAe 3)) (fC (.int 0))) (fOp qEw (fOp qBu (qAe 0) (qAe 3)) (fC (.int 0))))) (qGq (fB (fOp (qBk "Ratio" (fRB fun a b => decide (a = b))) (fOp qEw (fOp qBu (qAe 1) (qAe 3)) (fC (.int 3))) (qAg qEa [] (qAc (fOp qEw (fOp qBu (qAe 0) (qAe 3)) (fC (.int 3))) (qAc (qAe 2) (qAc (fOp qEw (fOp qBu (qAe 0) (qAe 3)) (fC (.int 0))) qAm)))))))) (qCr (fC (.bl false))) qAv)
  (qGn (qAb9 (qAc (fUn qQ7 (fC (.int 4))) (qAc (fC (.int 5)) qAm))) (qBf 4) (qAy (qCu 5 (qAg qEa [] (qAc (qAg qBw [] (qAc (fOp qEw (fOp qBu (qAe 0) (qAe 3)) (fC (.int 2))) (qAc (qAg qHv [.int 1] (qAc (qAe 4) qAm)) qAm))) (qAc (qAe 2) (qAc (fOp qXp (fLs qIx (qAc (qCy "Poly" "coefficients" (fOp qEw (fOp qBu (qAe 0) (qAe 3)) (fC (.int 2)))) qAm)) (fC (.int 1))) qAm)))))
  (qAy (qC1 (qGq (fB (fOp (qBk "Ratio" (fRB fun a b => decide (a = b))) (qAg qBw [] (qAc (fOp qEw (fOp qBu (qAe 1) (qAe 3)) (fC (.int 2))) (qAc (fOp (qLf "Ratio" (fRI fun a b => b * a)) (qAe 4) (qAe 2)) qAm))) (qAe 5)))) (qCr (fC (.bl false))) qAv)
  (qAy (qCu 5 (qAg qEa [] (qAc (qAg qBw [] (qAc (fOp qEw (fOp qBu (qAe 0) (qAe 3)) (fC (.int 1))) (qAc (qAg qHv [.int 1] (qAc (qAe 4) qAm)) qAm))) (qAc (qAe 2) (qAc (fOp qXp (fLs qIx (qAc (qCy "Poly" "coefficients" (fOp qEw (fOp qBu (qAe 0) (qAe 3)) (fC (.int 1)))) qAm)) (fC (.int 1))) qAm)))))
  (qC1 (qGq (fB (fOp (qBk "Ratio" (fRB fun a b => decide (a = b))) (qAg qBw [] (qAc (fOp qEw (fOp qBu (qAe 1) (qAe 3)) (fC (.int 1))) (qAc (fOp (qLf "Ratio" (fRI fun a b => b * a)) (qAe 4) (qAe 2)) qAm))) (qAe 5)))) (qCr (fC (.bl false))) qAv)))))))
  (qCr (fC (.bl true)))))
theorem qT1 {K : PySem.W.Frag} {cs : List Str} (T : KF K cs) (hRatio : ("Ratio" : Str) ∈ cs) (hPoly : ("Poly" : Str) ∈ cs) : SS K Ta [] [] [] [] (fun _ => E0) (qGw K cs) (qHj cs) :=
  (qAl (ow1 := []) (qBl (by decide) (qAp (qAi (fun _ => qAbc) (qEg (fun _ => qD0) (qAa (qAb (by decide)) qAd)) (qEg (fun _ => qD0) (qAa (qAb (by decide)) qAd)))) (qAq (by decide) qJl) (qAn (by decide)))
  (qAl (ow1 := []) (qE5 (by decide) (qFo (qAa (qEg (fun _ => qD0) (qAa (qAb (by decide)) qAd)) qAd)) (qBy (by decide)) (qAl (ow1 := []) (qBl (by decide) (qAcx (qAp (qAi (fun _ => qAbc) (qAi (fun _ => qDk) (qAi (fun _ => qAz) (qAb (by decide)) (qAb (by decide))) qAj) (qAi (fun _ => qDk) (qAi (fun _ => qAz) (qAb (by decide)) (qAb (by decide))) qAj))) (qEb (qAp (qAi (fun _ => (qBe Lift.refl)) (qAi (fun _ => qDk) (qAi (fun _ => qAz) (qAb (by decide)) (qAb (by decide))) qAj) (qAk Lift.refl qAf (qAa (qAi (fun _ => qDk) (qAi (fun _ => qAz) (qAb (by decide)) (qAb (by decide))) qAj) (qAa (qAb (by decide)) (qAa (qAi (fun _ => qDk) (qAi (fun _ => qAz) (qAb (by decide)) (qAb (by decide))) qAj) qAd)))))))) (qAq (by decide) qJl) (qAn (by decide)))
  (qE5 (by decide) (qAit (qAa (qOg (fun _ => qK0) qAj) (qAa qAj qAd))) (qBy (by decide)) (qAl (ow1 := []) (qAx (by decide) (by decide) (qAk Lift.refl qAf (qAa (qAk Lift.refl qAf (qAa (qAi (fun _ => qDk) (qAi (fun _ => qAz) (qAb (by decide)) (qAb (by decide))) qAj) (qAa (qA2 qFk (qD8 qAf) (qAa (qAb (by decide)) qAd)) qAd))) (qAa (qAb (by decide)) (qAa (qAi (fun _ => qJ2) (qEg (fun _ => qD0) (qAa (qAo (T.fld _ hPoly _ (by decide)) (qAi (fun _ => qDk) (qAi (fun _ => qAz) (qAb (by decide)) (qAb (by decide))) qAj)) qAd)) qAj) qAd)))))
  (qAl (ow1 := []) (qBl (by decide) (qEb (qAp (qAi (fun _ => (qBe Lift.refl)) (qAk Lift.refl qAf (qAa (qAi (fun _ => qDk) (qAi (fun _ => qAz) (qAb (by decide)) (qAb (by decide))) qAj) (qAa (qAi (fun _ => (qWv Lift.refl)) (qAb (by decide)) (qAb (by decide))) qAd))) (qAb (by decide))))) (qAq (by decide) qJl) (qAn (by decide)))
  (qAl (ow1 := []) (qAx (by decide) (by decide) (qAk Lift.refl qAf (qAa (qAk Lift.refl qAf (qAa (qAi (fun _ => qDk) (qAi (fun _ => qAz) (qAb (by decide)) (qAb (by decide))) qAj) (qAa (qA2 qFk (qD8 qAf) (qAa (qAb (by decide)) qAd)) qAd))) (qAa (qAb (by decide)) (qAa (qAi (fun _ => qJ2) (qEg (fun _ => qD0) (qAa (qAo (T.fld _ hPoly _ (by decide)) (qAi (fun _ => qDk) (qAi (fun _ => qAz) (qAb (by decide)) (qAb (by decide))) qAj)) qAd)) qAj) qAd)))))
  (qBl (by decide) (qEb (qAp (qAi (fun _ => (qBe Lift.refl)) (qAk Lift.refl qAf (qAa (qAi (fun _ => qDk) (qAi (fun _ => qAz) (qAb (by decide)) (qAb (by decide))) qAj) (qAa (qAi (fun _ => (qWv Lift.refl)) (qAb (by decide)) (qAb (by decide))) qAd))) (qAb (by decide))))) (qAq (by decide) qJl) (qAn (by decide)))))))))
  (qAq (by decide) qJl)))
abbrev hvB : FS :=
  (qCu 2 (fOp (qBk "Ratio" (fR2 fun a b => a + b)) (fOp (qBk "Ratio" (fR2 fun a b => a * b)) (qAe 2) (qAe 1)) (qAe 3)))
abbrev htB : FS :=
  (qCu 0 (fOp (qBk "Ratio" (fR2 fun a b => a * b)) (qAe 0) (qAe 1)))
abbrev mvI : FS :=
  (qAy (qC1 (qGq (fB (fOp (qBk "Ratio" (fRB fun a b => decide (a = b))) (qAg qBw [] (qAc (fOp qEw (fOp qBu (qAe 1) (qAe 3)) (fC (.int 2))) (qAc (fOp (qLf "Ratio" (fRI fun a b => b + a)) (qAe 4) (qAe 2)) qAm))) (qAg qBw [] (qAc (fOp qEw (fOp qBu (qAe 0) (qAe 3)) (fC (.int 2))) (qAc (qAg qHv [.int 1] (qAc (qAe 4) qAm)) qAm)))))) (qCr (fC (.bl false))) qAv)
  (qC1 (qGq (fB (fOp (qBk "Ratio" (fRB fun a b => decide (a = b))) (qAg qBw [] (qAc (fOp qEw (fOp qBu (qAe 1) (qAe 3)) (fC (.int 1))) (qAc (fOp (qLf "Ratio" (fRI fun a b => b + a)) (qAe 4) (qAe 2)) qAm))) (qAg qBw [] (qAc (fOp qEw (fOp qBu (qAe 0) (qAe 3)) (fC (.int 1))) (qAc (qAg qHv [.int 1] (qAc (qAe 4) qAm)) qAm)))))) (qCr (fC (.bl false))) qAv))
abbrev mvO : FS :=
  (qAy (qC1 (fOr (fB (fOp oNe (fOp qEw (fOp qBu (qAe 1) (qAe 3)) (fC (.int 0))) (fOp qEw (fOp qBu (qAe 0) (qAe 3)) (fC (.int 0))))) (qGq (fB (fOp (qBk "Ratio" (fRB fun a b => decide (a = b))) (fOp qEw (fOp qBu (qAe 1) (qAe 3)) (fC (.int 3))) (fOp qEw (fOp qBu (qAe 0) (qAe 3)) (fC (.int 3))))))) (qCr (fC (.bl false))) qAv)
  (qGn (qAb9 (qAc (fUn qQ7 (fC (.int 4))) (qAc (fC (.int 5)) qAm))) (qBf 4) (qAy (qC1 (qGq (fB (fOp (qBk "Ratio" (fRB fun a b => decide (a = b))) (qAg qBw [] (qAc (fOp qEw (fOp qBu (qAe 1) (qAe 3)) (fC (.int 2))) (qAc (fOp (qLf "Ratio" (fRI fun a b => b + a)) (qAe 4) (qAe 2)) qAm))) (qAg qBw [] (qAc (fOp qEw (fOp qBu (qAe 0) (qAe 3)) (fC (.int 2))) (qAc (qAg qHv [.int 1] (qAc (qAe 4) qAm)) qAm)))))) (qCr (fC (.bl false))) qAv)
  (qC1 (qGq (fB (fOp (qBk "Ratio" (fRB fun a b => decide (a = b))) (qAg qBw [] (qAc (fOp qEw (fOp qBu (qAe 1) (qAe 3)) (fC (.int 1))) (qAc (fOp (qLf "Ratio" (fRI fun a b => b + a)) (qAe 4) (qAe 2)) qAm))) (qAg qBw [] (qAc (fOp qEw (fOp qBu (qAe 0) (qAe 3)) (fC (.int 1))) (qAc (qAg qHv [.int 1] (qAc (qAe 4) qAm)) qAm)))))) (qCr (fC (.bl false))) qAv))))
abbrev stI : FS :=
  (qAy (qCu 5 (qAg qEa [] (qAc (qAg qBw [] (qAc (fOp qEw (fOp qBu (qAe 0) (qAe 3)) (fC (.int 2))) (qAc (qAg qHv [.int 1] (qAc (qAe 4) qAm)) qAm))) (qAc (qAe 2) (qAc (fOp qXp (fLs qIx (qAc (qCy "Poly" "coefficients" (fOp qEw (fOp qBu (qAe 0) (qAe 3)) (fC (.int 2)))) qAm)) (fC (.int 1))) qAm)))))
  (qAy (qC1 (qGq (fB (fOp (qBk "Ratio" (fRB fun a b => decide (a = b))) (qAg qBw [] (qAc (fOp qEw (fOp qBu (qAe 1) (qAe 3)) (fC (.int 2))) (qAc (fOp (qLf "Ratio" (fRI fun a b => b * a)) (qAe 4) (qAe 2)) qAm))) (qAe 5)))) (qCr (fC (.bl false))) qAv)
  (qAy (qCu 5 (qAg qEa [] (qAc (qAg qBw [] (qAc (fOp qEw (fOp qBu (qAe 0) (qAe 3)) (fC (.int 1))) (qAc (qAg qHv [.int 1] (qAc (qAe 4) qAm)) qAm))) (qAc (qAe 2) (qAc (fOp qXp (fLs qIx (qAc (qCy "Poly" "coefficients" (fOp qEw (fOp qBu (qAe 0) (qAe 3)) (fC (.int 1)))) qAm)) (fC (.int 1))) qAm)))))
  (qC1 (qGq (fB (fOp (qBk "Ratio" (fRB fun a b => decide (a = b))) (qAg qBw [] (qAc (fOp qEw (fOp qBu (qAe 1) (qAe 3)) (fC (.int 1))) (qAc (fOp (qLf "Ratio" (fRI fun a b => b * a)) (qAe 4) (qAe 2)) qAm))) (qAe 5)))) (qCr (fC (.bl false))) qAv))))
abbrev stO : FS :=
  (qAy (qC1 (fOr (fB (fOp oNe (fOp qEw (fOp qBu (qAe 1) (qAe 3)) (fC (.int 0))) (fOp qEw (fOp qBu (qAe 0) (qAe 3)) (fC (.int 0))))) (qGq (fB (fOp (qBk "Ratio" (fRB fun a b => decide (a = b))) (fOp qEw (fOp qBu (qAe 1) (qAe 3)) (fC (.int 3))) (qAg qEa [] (qAc (fOp qEw (fOp qBu (qAe 0) (qAe 3)) (fC (.int 3))) (qAc (qAe 2) (qAc (fOp qEw (fOp qBu (qAe 0) (qAe 3)) (fC (.int 0))) qAm)))))))) (qCr (fC (.bl false))) qAv)
  (qGn (qAb9 (qAc (fUn qQ7 (fC (.int 4))) (qAc (fC (.int 5)) qAm))) (qBf 4) (qAy (qCu 5 (qAg qEa [] (qAc (qAg qBw [] (qAc (fOp qEw (fOp qBu (qAe 0) (qAe 3)) (fC (.int 2))) (qAc (qAg qHv [.int 1] (qAc (qAe 4) qAm)) qAm))) (qAc (qAe 2) (qAc (fOp qXp (fLs qIx (qAc (qCy "Poly" "coefficients" (fOp qEw (fOp qBu (qAe 0) (qAe 3)) (fC (.int 2)))) qAm)) (fC (.int 1))) qAm)))))
  (qAy (qC1 (qGq (fB (fOp (qBk "Ratio" (fRB fun a b => decide (a = b))) (qAg qBw [] (qAc (fOp qEw (fOp qBu (qAe 1) (qAe 3)) (fC (.int 2))) (qAc (fOp (qLf "Ratio" (fRI fun a b => b * a)) (qAe 4) (qAe 2)) qAm))) (qAe 5)))) (qCr (fC (.bl false))) qAv)
  (qAy (qCu 5 (qAg qEa [] (qAc (qAg qBw [] (qAc (fOp qEw (fOp qBu (qAe 0) (qAe 3)) (fC (.int 1))) (qAc (qAg qHv [.int 1] (qAc (qAe 4) qAm)) qAm))) (qAc (qAe 2) (qAc (fOp qXp (fLs qIx (qAc (qCy "Poly" "coefficients" (fOp qEw (fOp qBu (qAe 0) (qAe 3)) (fC (.int 1)))) qAm)) (fC (.int 1))) qAm)))))
  (qC1 (qGq (fB (fOp (qBk "Ratio" (fRB fun a b => decide (a = b))) (qAg qBw [] (qAc (fOp qEw (fOp qBu (qAe 1) (qAe 3)) (fC (.int 1))) (qAc (fOp (qLf "Ratio" (fRI fun a b => b * a)) (qAe 4) (qAe 2)) qAm))) (qAe 5)))) (qCr (fC (.bl false))) qAv))))))
theorem qAmm (c : Rat) (p : List Rat) (x : Rat) : evL (c :: p) x = evL p x * x + c := by
  unfold evL evF
  rw [List.length_cons, qH7, Rat.mul_comm (sm p.length _) x, ← qFz]
  have e : sm p.length (fun i => coef (c :: p) (i + 1) * x ^ (i + 1)) = sm p.length (fun i => x * (coef p i * x ^ i)) := qA3 fun i _ => by
    show coef p i * x ^ (i + 1) = _
    rw [Rat.pow_succ]
    grind
  rw [e]
  show c * x ^ 0 + _ = _
  rw [Rat.pow_zero, Rat.mul_one, Rat.add_comm]
theorem qAb2 (x : Rat) : ∀ p : List Rat, p.reverse.foldl (fun a c => a * x + c) 0 = evL p x
  | [] => rfl
  | c :: p => by
    rw [List.reverse_cons, List.foldl_append, qAb2 x p, qAmm]
    rfl
theorem qAdj (w : Int) : Rat.divInt w 1 = (w : Rat) := by
  rw [Rat.divInt_eq_div, Rat.intCast_one]
  grind
theorem qAed {x : Rat} {v0 : Option D} (zx : Sz 200 x) {FD : FEnds} : ∀ (p : List Rat) (acc : Rat) (n : Nat) (v3 : Option D), SzL 20000 p → Sz n acc → n + p.length * 20300 ≤ 800000 → (∀ v3, FD.nx [v0, some (.rat x), some (.rat (p.foldl (fun a c => a * x + c) acc)), v3]) → qCk (qBf 3) hvB FD (qBj p) [v0, some (.rat x), some (.rat acc), v3]
  | [], acc, n, v3, _, _, _, k => k v3
  | c :: p, acc, n, v3, zp, za, hn, k => by
    have zc := zp c (List.mem_cons_self ..)
    rw [List.length_cons] at hn
    have z1 := Sz.mul za zx
    have z2 := Sz.add z1 zc
    have ih := qAed (v0 := v0) (FD := FD) zx p (acc * x + c) _ (some (.rat c)) (fun q hq => zp q (List.mem_cons_of_mem _ hq)) z2 (by omega) k
    show qCk _ _ _ (D.rat c :: qBj p) _
    unfold qCk hvB
    simp_arith [qDo]
    exact ⟨⟨_, _, za, zx, by omega⟩, ⟨_, _, z1, zc, by omega⟩, ih⟩
theorem qAf7 {cs : List Str} (hR : ("Ratio" : Str) ∈ cs) (hP : ("Poly" : Str) ∈ cs) (ds : List D) (P : D → Prop) (X : XP) (h : qBw ds P X) : qO0 cs (qFj P X0) (qA0 4 ds) := by
  obtain ⟨p, x, rfl, l8, zp, zx, k⟩ := h
  simp_arith [qO0, qPp, qGn, qAo4, qSz]
  refine ⟨by decide, by decide, ?_⟩
  rw [show (Rat.divInt 0 1) = 0 from qAdj 0, show (qBj p).reverse = qBj p.reverse from (by unfold qBj; rw [List.map_reverse])]
  refine qAed zx p.reverse 0 1 none (fun c hc => zp c (List.mem_reverse.mp hc)) qOp (by rw [List.length_reverse]; omega) fun v3 => ?_
  simp_arith []
  rw [qAb2]
  exact k
theorem qAd6 {b : Rat} {n : Nat} {v2 : Option D} (zb : Sz 200 b) {FD : FEnds} {a : Rat} (fin : ∀ v3, FD.nx [some (.rat (a * b ^ n)), some (.rat b), v2, v3]) : ∀ (r k : Nat) (m : Nat) (v3 : Option D), k + r = n → Sz m (a * b ^ k) → m + r * 200 ≤ 800000 → qCk (qBf 3) htB FD (qKx (k : Int) r) [some (.rat (a * b ^ k)), some (.rat b), v2, v3]
  | 0, k, m, v3, hk, _, _ => by
    rw [show k = n by omega]
    exact fin v3
  | r + 1, k, m, v3, hk, za, hm => by
    have z1 := Sz.mul za zb
    have e : a * b ^ k * b = a * b ^ (k + 1) := by rw [Rat.pow_succ, Rat.mul_assoc]
    have ih := qAd6 zb fin r (k + 1) _ (some (.int (k : Int))) (by omega) (e ▸ z1) (by omega)
    rw [qGj]
    unfold qCk htB
    simp_arith [qDo]
    refine ⟨⟨_, _, za, zb, by omega⟩, ?_⟩
    rw [show ((k + 1 : Nat) : Int) = (k : Int) + 1 by omega, ← e] at ih
    exact ih
theorem qAgf {cs : List Str} (hR : ("Ratio" : Str) ∈ cs) (ds : List D) (P : D → Prop) (X : XP) (h : qEa ds P X) : qOj cs (qFj P X0) (qA0 4 ds) := by
  obtain ⟨a, b, n, rfl, za, zb, hn, k⟩ := h
  simp_arith [qOj, qGn, qFa]
  refine ⟨by omega, by omega, ?_⟩
  rw [Int.toNat_natCast]
  have e : a * b ^ 0 = a := by rw [Rat.pow_zero, Rat.mul_one]
  have g := qAd6 (v2 := some (.int (n : Int))) zb (FD := ?_) (a := a) (n := n) (fun v3 => ?_) n 0 170000 none (by omega) (by rw [e]; exact za) (by omega)
  · rw [e] at g
    exact g
  · simp_arith []
    exact k
theorem qXk {a b c d : D} {P : D → Prop} {X : XP} : oIx (.tup [a, b, c, d]) (.int 0) P X ↔ P a := by
  constructor
  · rintro ⟨ds, n, e, h | h, hn, ha, p⟩
    · cases h
    · cases h; cases hn; cases ha; exact p
  · exact fun p => ⟨_, 0, _, .inr rfl, rfl, rfl, p⟩
theorem qW8 {a b c d : D} {P : D → Prop} {X : XP} : oIx (.tup [a, b, c, d]) (.int 1) P X ↔ P b := by
  constructor
  · rintro ⟨ds, n, e, h | h, hn, ha, p⟩
    · cases h
    · cases h; cases hn; cases ha; exact p
  · exact fun p => ⟨_, 1, _, .inr rfl, rfl, rfl, p⟩
theorem qVy {a b c d : D} {P : D → Prop} {X : XP} : oIx (.tup [a, b, c, d]) (.int 2) P X ↔ P c := by
  constructor
  · rintro ⟨ds, n, e, h | h, hn, ha, p⟩
    · cases h
    · cases h; cases hn; cases ha; exact p
  · exact fun p => ⟨_, 2, _, .inr rfl, rfl, rfl, p⟩
theorem qV4 {a b c d : D} {P : D → Prop} {X : XP} : oIx (.tup [a, b, c, d]) (.int 3) P X ↔ P d := by
  constructor
  · rintro ⟨ds, n, e, h | h, hn, ha, p⟩
    · cases h
    · cases h; cases hn; cases ha; exact p
  · exact fun p => ⟨_, 3, _, .inr rfl, rfl, rfl, p⟩
theorem qAia {i : Int} (h1 : -10 ≤ i) (h2 : i ≤ 10) : Sz 5 (i : Rat) := by
  rw [← qAdj]
  exact (qNc (n := 4) (a := i) (b := 1) (by decide) (by omega) (by decide)).mono (by decide)
theorem qAj8 {x : Rat} (zx : Sz 200 x) : ∀ (p : List Rat) (acc : Rat) (n : Nat), SzL 20000 p → Sz n acc → Sz (n + p.length * 20300) (p.foldl (fun a c => a * x + c) acc)
  | [], acc, n, _, za => za.mono (by omega)
  | c :: p, acc, n, zp, za => (qAj8 zx p (acc * x + c) (n + 20300) (fun q hq => zp q (List.mem_cons_of_mem _ hq)) ((Sz.add (Sz.mul za zx) (zp c (List.mem_cons_self ..))).mono (by omega))).mono (by rw [List.length_cons]; omega)
theorem qPz {p : List Rat} {x : Rat} (zx : Sz 200 x) (zp : SzL 20000 p) (l8 : p.length ≤ 8) : Sz 170000 (evL p x) := by
  rw [← qAb2]
  exact (qAj8 zx p.reverse 0 1 (fun c hc => zp c (List.mem_reverse.mp hc)) qOp).mono (by rw [List.length_reverse]; omega)
theorem qAnj {l l' : List Step} {t : Rat} {k : Nat} {s s' : Step} (hs : l[k]? = some s) (hs' : l'[k]? = some s') (q : QMv t s s') (z : StSz s) (z' : StSz s') (zt : Sz 100 t) {FD : FEnds}
    (fin : ∀ v4, FD.nx [some (.lst (l.map qA9)), some (.lst (l'.map qA9)), some (.rat t), some (.int (k : Int)), v4]) :
    ∀ (r : Nat) (i : Int) (v4 : Option D), i + (r : Int) = 5 → -4 ≤ i → qCk (qBf 4) mvI FD (qKx i r) [some (.lst (l.map qA9)), some (.lst (l'.map qA9)), some (.rat t), some (.int (k : Int)), v4]
  | 0, i, v4, _, _ => fin v4
  | r + 1, i, v4, hi, h4 => by
    have ih := qAnj hs hs' q z z' zt fin r (i + 1) (some (.int i)) (by omega) (by omega)
    have g1 : (l.map qA9)[k]? = some (qA9 s) := by rw [List.getElem?_map, hs]; rfl
    have g2 : (l'.map qA9)[k]? = some (qA9 s') := by rw [List.getElem?_map, hs']; rfl
    have zi : Sz 5 (i : Rat) := qAia (by omega) (by omega)
    have zx : Sz 200 ((i : Rat) + t) := (Sz.add zi zt).mono (by omega)
    rw [qGj]
    unfold qCk mvI
    simp_arith []
    refine qEx rfl g2 ?_
    have zj : Sz 200 (i : Rat) := zi.mono (by omega)
    have one : ∀ {P : D → Prop} {X : XP}, P (.rat (i : Rat)) → qHv [.int i, .int 1] P X := fun p => qPp.mpr ⟨by decide, by decide, by rw [qAdj]; exact p⟩
    have add : ∀ {P : D → Prop} {X : XP}, P (.rat ((i : Rat) + t)) → fRI (fun a b => b + a) [.rat t, .int i] P X := fun p => ⟨⟨_, _, zt, zi, by omega⟩, p⟩
    have lu := z.lu
    have lu' := z'.lu
    simp_arith [qA9, qXk, qW8, qVy, qV4]
    refine add ⟨_, _, rfl, z'.lp, z'.zp, zx, ?_⟩
    refine qEx rfl g1 ?_
    simp_arith [qA9, qXk, qW8, qVy, qV4]
    refine one ⟨_, _, rfl, z.lp, z.zp, zj, ?_⟩
    rw [q.2.2.2 i]
    simp_arith [qJ6]
    refine ⟨⟨_, _, qPz zj z.zp z.lp, qPz zj z.zp z.lp, by omega⟩, ?_⟩
    simp_arith [decide_true, Bool.not_true]
    refine qEx rfl g2 ?_
    simp_arith [qA9, qXk, qW8, qVy, qV4]
    refine add ⟨_, _, rfl, by omega, z'.zu, zx, ?_⟩
    refine qEx rfl g1 ?_
    simp_arith [qA9, qXk, qW8, qVy, qV4]
    refine one ⟨_, _, rfl, by omega, z.zu, zj, ?_⟩
    rw [q.2.2.1 i]
    simp_arith [qJ6]
    refine ⟨⟨_, _, qPz zj z.zu (by omega), qPz zj z.zu (by omega), by omega⟩, ?_⟩
    simp_arith [decide_true, Bool.not_true]
    exact ih
theorem qAne {l l' : List Step} {t : Rat} (hq : All2 (QMv t) l l') (hz : ∀ s, s ∈ l → StSz s) (hz' : ∀ s, s ∈ l' → StSz s) (zt : Sz 100 t) {FD : FEnds}
    (fin : ∀ v3 v4, FD.nx [some (.lst (l.map qA9)), some (.lst (l'.map qA9)), some (.rat t), v3, v4]) :
    ∀ (r k : Nat) (v3 v4 : Option D), k + r = l.length → qCk (qBf 3) mvO FD (qKx (k : Int) r) [some (.lst (l.map qA9)), some (.lst (l'.map qA9)), some (.rat t), v3, v4]
  | 0, k, v3, v4, _ => fin v3 v4
  | r + 1, k, v3, v4, hk => by
    have hs : l[k]? = some l[k] := List.getElem?_eq_getElem (by omega)
    obtain ⟨s', hs', q⟩ := hq.get k _ hs
    have z := hz _ (List.mem_of_getElem? hs)
    have z' := hz' _ (List.mem_of_getElem? hs')
    generalize l[k] = s at hs q z
    have g1 : (l.map qA9)[k]? = some (qA9 s) := by rw [List.getElem?_map, hs]; rfl
    have g2 : (l'.map qA9)[k]? = some (qA9 s') := by rw [List.getElem?_map, hs']; rfl
    rw [qGj]
    unfold qCk mvO
    simp_arith []
    refine qEx rfl g2 ?_
    simp_arith [qA9, qXk, qW8, qVy, qV4]
    refine qEx rfl g1 ?_
    simp_arith [qA9, qXk, qW8, qVy, qV4]
    rw [if_neg (by rw [q.1]; simp)]
    refine qEx rfl g2 ?_
    simp_arith [qA9, qXk, qW8, qVy, qV4]
    refine qEx rfl g1 ?_
    simp_arith [qA9, qXk, qW8, qVy, qV4]
    rw [q.2.1]
    simp_arith [qJ6]
    refine ⟨⟨_, _, z.zw, z.zw, by omega⟩, ?_⟩
    simp_arith [decide_true, Bool.not_true, qGn, qAb9]
    refine ⟨by decide, qAnj hs hs' q z z' zt (fun v4 => ?_) 9 (-4) v4 (by decide) (by decide)⟩
    have ih := qAne hq hz hz' zt fin r (k + 1) (some (.int (k : Int))) v4 (by omega)
    rw [show ((k + 1 : Nat) : Int) = (k : Int) + 1 by omega] at ih
    exact ih
theorem qAgd {cs : List Str} (hR : ("Ratio" : Str) ∈ cs) (hP : ("Poly" : Str) ∈ cs) (ds : List D) (P : D → Prop) (X : XP) (h : qVe ds P X) : qOf cs (qFj P X0) (qA0 5 ds) := by
  obtain ⟨l, l', t, rfl, hq, hl, hz, hz', zt, k⟩ := h
  have ll := hq.len
  simp_arith [qOf, qGn, qFa]
  rw [List.length_map, List.length_map, ll]
  rw [if_neg (by simp)]
  refine ⟨by omega, by omega, ?_⟩
  rw [Int.toNat_natCast]
  refine qAne hq hz hz' zt (fun v3 v4 => ?_) l.length 0 none none (by omega)
  simp_arith []
  exact k
theorem qAmz {l l' : List Step} {t : Rat} {k : Nat} {s s' : Step} (hs : l[k]? = some s) (hs' : l'[k]? = some s') (q : QSc t s s') (z : StSz s) (z' : StSz s') (zt : Sz 100 t) {FD : FEnds}
    (fin : ∀ v4 v5, FD.nx [some (.lst (l.map qA9)), some (.lst (l'.map qA9)), some (.rat t), some (.int (k : Int)), v4, v5]) :
    ∀ (r : Nat) (i : Int) (v4 v5 : Option D), i + (r : Int) = 5 → -4 ≤ i → qCk (qBf 4) stI FD (qKx i r) [some (.lst (l.map qA9)), some (.lst (l'.map qA9)), some (.rat t), some (.int (k : Int)), v4, v5]
  | 0, i, v4, v5, _, _ => fin v4 v5
  | r + 1, i, v4, v5, hi, h4 => by
    have g1 : (l.map qA9)[k]? = some (qA9 s) := by rw [List.getElem?_map, hs]; rfl
    have g2 : (l'.map qA9)[k]? = some (qA9 s') := by rw [List.getElem?_map, hs']; rfl
    have zi : Sz 5 (i : Rat) := qAia (by omega) (by omega)
    have zx : Sz 200 ((i : Rat) * t) := (Sz.mul zi zt).mono (by omega)
    have zt2 : Sz 200 t := zt.mono (by omega)
    have zj : Sz 200 (i : Rat) := zi.mono (by omega)
    have one : ∀ {P : D → Prop} {X : XP}, P (.rat (i : Rat)) → qHv [.int i, .int 1] P X := fun p => qPp.mpr ⟨by decide, by decide, by rw [qAdj]; exact p⟩
    have mul : ∀ {P : D → Prop} {X : XP}, P (.rat ((i : Rat) * t)) → fRI (fun a b => b * a) [.rat t, .int i] P X := fun p => ⟨⟨_, _, zt, zi, by omega⟩, p⟩
    have lu := z.lu
    have lu' := z'.lu
    have lp := z.lp
    have lu0 := z.u0
    have lp0 := z.p0
    have e1 := q.2.2.2 i
    have e2 := q.2.2.1 i
    have zz1 := qPz zx z'.zp z'.lp
    have zz2 := qPz zx z'.zu (by omega)
    have ih := fun v5 => qAmz hs hs' q z z' zt fin r (i + 1) (some (.int i)) v5 (by omega) (by omega)
    rw [qGj]
    unfold qCk stI
    simp_arith []
    refine qEx rfl g1 ?_
    simp_arith [qA9, qXk, qW8, qVy, qV4]
    refine one ⟨_, _, rfl, z.lp, z.zp, zj, ?_⟩
    refine qEx rfl g1 ?_
    simp_arith [qA9, qXk, qW8, qVy, qV4, qSz, qBq]
    refine ⟨_, _, _, by rw [show (s.2.2.1.length : Int) - 1 = ((s.2.2.1.length - 1 : Nat) : Int) by omega], qPz zj z.zp z.lp, zt2, by omega, ?_⟩
    rw [← e1]
    simp_arith []
    refine qEx rfl g2 ?_
    simp_arith [qA9, qXk, qW8, qVy, qV4]
    refine mul ⟨_, _, rfl, z'.lp, z'.zp, zx, ?_⟩
    simp_arith [qJ6]
    refine ⟨⟨_, _, zz1, zz1, by omega⟩, ?_⟩
    simp_arith [decide_true, Bool.not_true]
    refine qEx rfl g1 ?_
    simp_arith [qA9, qXk, qW8, qVy, qV4]
    refine one ⟨_, _, rfl, by omega, z.zu, zj, ?_⟩
    refine qEx rfl g1 ?_
    simp_arith [qA9, qXk, qW8, qVy, qV4, qSz, qBq]
    refine ⟨_, _, _, by rw [show (s.2.1.length : Int) - 1 = ((s.2.1.length - 1 : Nat) : Int) by omega], qPz zj z.zu (by omega), zt2, by omega, ?_⟩
    rw [← e2]
    simp_arith []
    refine qEx rfl g2 ?_
    simp_arith [qA9, qXk, qW8, qVy, qV4]
    refine mul ⟨_, _, rfl, by omega, z'.zu, zx, ?_⟩
    simp_arith [qJ6]
    refine ⟨⟨_, _, zz2, zz2, by omega⟩, ?_⟩
    simp_arith [decide_true, Bool.not_true]
    exact ih _
theorem qAnd {l l' : List Step} {t : Rat} (hq : All2 (QSc t) l l') (hz : ∀ s, s ∈ l → StSz s) (hz' : ∀ s, s ∈ l' → StSz s) (zt : Sz 100 t) {FD : FEnds}
    (fin : ∀ v3 v4 v5, FD.nx [some (.lst (l.map qA9)), some (.lst (l'.map qA9)), some (.rat t), v3, v4, v5]) :
    ∀ (r k : Nat) (v3 v4 v5 : Option D), k + r = l.length → qCk (qBf 3) stO FD (qKx (k : Int) r) [some (.lst (l.map qA9)), some (.lst (l'.map qA9)), some (.rat t), v3, v4, v5]
  | 0, k, v3, v4, v5, _ => fin v3 v4 v5
  | r + 1, k, v3, v4, v5, hk => by
    have hs : l[k]? = some l[k] := List.getElem?_eq_getElem (by omega)
    obtain ⟨s', hs', q⟩ := hq.get k _ hs
    have z := hz _ (List.mem_of_getElem? hs)
    have z' := hz' _ (List.mem_of_getElem? hs')
    generalize l[k] = s at hs q z
    have g1 : (l.map qA9)[k]? = some (qA9 s) := by rw [List.getElem?_map, hs]; rfl
    have g2 : (l'.map qA9)[k]? = some (qA9 s') := by rw [List.getElem?_map, hs']; rfl
    have zz := z'.zw
    have e1 := q.2.1
    have zn := z.num
    rw [qGj]
    unfold qCk stO
    simp_arith []
    refine qEx rfl g2 ?_
    simp_arith [qA9, qXk, qW8, qVy, qV4]
    refine qEx rfl g1 ?_
    simp_arith [qA9, qXk, qW8, qVy, qV4]
    rw [if_neg (by rw [q.1]; simp)]
    refine qEx rfl g2 ?_
    simp_arith [qA9, qXk, qW8, qVy, qV4]
    refine qEx rfl g1 ?_
    simp_arith [qA9, qXk, qW8, qVy, qV4]
    refine qEx rfl g1 ?_
    simp_arith [qA9, qXk, qW8, qVy, qV4]
    refine ⟨_, _, _, rfl, z.zw.mono (by omega), zt.mono (by omega), by omega, ?_⟩
    rw [← e1]
    simp_arith [qJ6]
    refine ⟨⟨_, _, zz, zz, by omega⟩, ?_⟩
    simp_arith [decide_true, Bool.not_true, qGn, qAb9]
    refine ⟨by decide, qAmz hs hs' q z z' zt (fun v4 v5 => ?_) 9 (-4) v4 v5 (by decide) (by decide)⟩
    have ih := qAnd hq hz hz' zt fin r (k + 1) (some (.int (k : Int))) v4 v5 (by omega)
    rw [show ((k + 1 : Nat) : Int) = (k : Int) + 1 by omega] at ih
    exact ih
theorem qTt {cs : List Str} (hR : ("Ratio" : Str) ∈ cs) (hP : ("Poly" : Str) ∈ cs) (ds : List D) (P : D → Prop) (X : XP) (h : qNq ds P X) : qHj cs (qFj P X0) (qA0 6 ds) := by
  obtain ⟨l, l', t, rfl, hq, hl, hz, hz', zt, k⟩ := h
  have ll := hq.len
  simp_arith [qHj, qGn, qFa]
  rw [List.length_map, List.length_map, ll]
  rw [if_neg (by simp)]
  refine ⟨by omega, by omega, ?_⟩
  rw [Int.toNat_natCast]
  refine qAnd hq hz hz' zt (fun v3 v4 v5 => ?_) l.length 0 none none none (by omega)
  simp_arith []
  exact k
theorem qZm {K : PySem.W.Frag} {cs : List Str} (vs : List V) (H : Hp) (Q : VK) (E : XK) (h : (lift K qBw) vs H Q E) : vs.length = 2 := qAr (fun ds P X h => by unfold qBw at h; first | ((repeat (first | (obtain ⟨rfl, _⟩ := h; exact rfl) | obtain ⟨_, h⟩ := h)); done) | (split at h <;> first | rfl | exact h.elim)) h
theorem qAcv {K : PySem.W.Frag} {cs : List Str} (T : KF K cs) (hRatio : ("Ratio" : Str) ∈ cs) (hPoly : ("Poly" : Str) ∈ cs) (vs : List V) (H : Hp) (Q : VK) (E : XK) (h : (lift K qBw) vs H Q E) : qLr K cs { nx := fun _ H' => Q .non H', rt := Q } (start ["_law_p", "_law_x", "_law_total", "_law_c"] vs) H :=
  qCx rfl (qAfm T hRatio hPoly) (qAf7 hRatio hPoly) vs H Q E h
theorem qY5 {K : PySem.W.Frag} {cs : List Str} (vs : List V) (H : Hp) (Q : VK) (E : XK) (h : (lift K qEa) vs H Q E) : vs.length = 3 := qAr (fun ds P X h => by unfold qEa at h; first | ((repeat (first | (obtain ⟨rfl, _⟩ := h; exact rfl) | obtain ⟨_, h⟩ := h)); done) | (split at h <;> first | rfl | exact h.elim)) h
theorem qAay {K : PySem.W.Frag} {cs : List Str} (T : KF K cs) (hRatio : ("Ratio" : Str) ∈ cs) (vs : List V) (H : Hp) (Q : VK) (E : XK) (h : (lift K qEa) vs H Q E) : qMa K cs { nx := fun _ H' => Q .non H', rt := Q } (start ["_law_value_here", "_law_by", "_law_many", "_law_k"] vs) H :=
  qCx rfl (qAe9 T hRatio) (qAgf hRatio) vs H Q E h
theorem qYt {K : PySem.W.Frag} {cs : List Str} (vs : List V) (H : Hp) (Q : VK) (E : XK) (h : (lift K qVe) vs H Q E) : vs.length = 3 := qAr (fun ds P X h => by unfold qVe at h; first | ((repeat (first | (obtain ⟨rfl, _⟩ := h; exact rfl) | obtain ⟨_, h⟩ := h)); done) | (split at h <;> first | rfl | exact h.elim)) h
theorem qAcn {K : PySem.W.Frag} {cs : List Str} (T : KF K cs) (hRatio : ("Ratio" : Str) ∈ cs) (hPoly : ("Poly" : Str) ∈ cs) (vs : List V) (H : Hp) (Q : VK) (E : XK) (h : (lift K qVe) vs H Q E) : qLz K cs { nx := fun _ H' => Q .non H', rt := Q } (start ["_law_old", "_law_new", "_law_by", "_law_k", "_law_x"] vs) H :=
  qCx rfl (qAfw T hRatio hPoly) (qAgd hRatio hPoly) vs H Q E h
theorem qQi {K : PySem.W.Frag} {cs : List Str} (vs : List V) (H : Hp) (Q : VK) (E : XK) (h : (lift K qNq) vs H Q E) : vs.length = 3 := qAr (fun ds P X h => by unfold qNq at h; first | ((repeat (first | (obtain ⟨rfl, _⟩ := h; exact rfl) | obtain ⟨_, h⟩ := h)); done) | (split at h <;> first | rfl | exact h.elim)) h
theorem qRo {K : PySem.W.Frag} {cs : List Str} (T : KF K cs) (hRatio : ("Ratio" : Str) ∈ cs) (hPoly : ("Poly" : Str) ∈ cs) (vs : List V) (H : Hp) (Q : VK) (E : XK) (h : (lift K qNq) vs H Q E) : qGw K cs { nx := fun _ H' => Q .non H', rt := Q } (start ["_law_old", "_law_new", "_law_by", "_law_k", "_law_x", "_law_due"] vs) H :=
  qCx rfl (qT1 T hRatio hPoly) (qTt hRatio hPoly) vs H Q E h
end MR

set_option Elab.async false
set_option linter.all false
set_option maxRecDepth 100000
set_option maxHeartbeats 1000000
set_option exponentiation.threshold 20000
/-! N22b: sizes of the steps of moved and stretched rows -/
namespace MR
open PySem PySem.Spec PyProof.Rows L2
theorem qAau {n : Nat} {q : Rat} (h : Sz n q) : Sz n (-q) := ⟨by rw [Rat.neg_num, Int.natAbs_neg]; exact h.num, by rw [Rat.neg_den]; exact h.den⟩
theorem qAry {m : Nat} {x y : Option Rat} (zx : SzO m x) (zy : SzO m y) (m1 : 1 ≤ m) {u : List Rat} (hu : u ∈ qKm x y) : 0 < u.length ∧ u.length ≤ 3 ∧ ∃ d, Cd ((2 * m + 1) * 4) d u := by
  have one : Sz (2 * m + 1) 1 := Sz.mono (n := 2) ⟨by decide, by decide⟩ (by omega)
  have one1 : SzL (2 * m + 1) [1] := fun c hc => by
    obtain rfl : c = 1 := by simpa using hc
    exact one
  have key : u.length ≤ 3 → 0 < u.length → SzL (2 * m + 1) u → 0 < u.length ∧ u.length ≤ 3 ∧ ∃ d, Cd ((2 * m + 1) * 4) d u := fun h3 h0 hz => by
    refine ⟨h0, h3, ?_⟩
    have := qAdv (L := 3) (qAqj hz) (by rw [List.length_map]; exact h3)
    rw [qAop] at this
    exact ⟨_, this⟩
  cases x with
  | none =>
    obtain rfl : u = [1] := by simpa [qKm] using hu
    exact key (by simp) (by simp) fun c hc => one1 c hc
  | some a =>
    have za : Sz (2 * m + 1) (-a) := (qAau zx).mono (by omega)
    cases y with
    | none =>
      have : u = [1] ∨ u = [-a, 1] := by simpa [qKm] using hu
      rcases this with rfl | rfl
      · exact key (by simp) (by simp) fun c hc => one1 c hc
      · exact key (by simp) (by simp) fun c hc => by
          have : c = -a ∨ c = 1 := by simpa using hc
          rcases this with rfl | rfl
          · exact za
          · exact one
    | some b =>
      have zb : Sz (2 * m + 1) b := Sz.mono zy (by omega)
      have zab : Sz (2 * m + 1) (-(a * b)) := qAau ((Sz.mul zx zy).mono (by omega))
      have zs : Sz (2 * m + 1) (a + b) := (Sz.add zx zy).mono (by omega)
      have zn : Sz (2 * m + 1) (-1) := qAau one
      have : u = [1] ∨ u = [-a, 1] ∨ u = [b, -1] ∨ u = [-(a * b), a + b, -1] := by simpa [qKm] using hu
      rcases this with rfl | rfl | rfl | rfl
      · exact key (by simp) (by simp) fun c hc => one1 c hc
      · exact key (by simp) (by simp) fun c hc => by
          have : c = -a ∨ c = 1 := by simpa using hc
          rcases this with rfl | rfl
          · exact za
          · exact one
      · exact key (by simp) (by simp) fun c hc => by
          have : c = b ∨ c = -1 := by simpa using hc
          rcases this with rfl | rfl
          · exact zb
          · exact zn
      · exact key (by simp) (by simp) fun c hc => by
          have : c = -(a * b) ∨ c = a + b ∨ c = -1 := by simpa using hc
          rcases this with rfl | rfl | rfl
          · exact zab
          · exact zs
          · exact zn
theorem st22 {ms : List Rat} {M : Int} {x y : Option Rat} (hM : Cd 3248 M ms) (hl : ms.length ≤ 9) (zx : SzO 60 x) (zy : SzO 60 y) : StOk 4 ms (qKm x y) 484 3248 :=
  ⟨by decide, by omega, ⟨M, hM⟩, fun u hu => qAry zx zy (by decide) hu, by decide⟩
theorem qAmg {ms : List Rat} {x y : Option Rat} (h : StOk 4 ms (qKm x y) 484 3248) (hl : ms.length ≤ 9) : ∀ s, s ∈ goN ms (qKm x y) ms.length 0 → StSz s := by
  intro s hs
  have h0 : ∀ u, u ∈ qKm x y → 0 < u.length := fun u hu => (h.cu u hu).1
  have hw0 : ∀ u, u ∈ qKm x y → ∀ j, j < qBz u 0 → 0 < (chN (shL u ms) j).1.2 := fun u hu j hj => by
    have c0 : qBz u 0 = 0 := by
      have := h0 u hu
      unfold qBz
      omega
    omega
  obtain ⟨u, i, hu, ho, _, hi, rfl, hw⟩ := qAh6 h0 ms.length 0 hw0 s hs
  obtain ⟨u0, u3, d, hd⟩ := h.cu u hu
  obtain ⟨c1, c2⟩ := qKy u0 ho
  have k4 : qBz u i ≤ 4 := by omega
  obtain ⟨D, hD⟩ := h.lv hu k4 (hw u hu)
  have w := h.worth hu k4 (hw u hu)
  have t : tbN (484 + 3248 + 4) 4 = 14965 := by decide
  rw [t] at hD w
  obtain ⟨l1, _⟩ := qXn (shL u ms) (qBz u i)
  exact ⟨u0, by show 0 < (chN (shL u ms) (qBz u i)).1.1.length; omega, u3, by show (chN (shL u ms) (qBz u i)).1.1.length ≤ 8; omega, fun c hc => (hd.szL c hc).mono (by decide), fun c hc => (hD.szL c hc).mono (by decide), w.mono (by decide), by show i < 20; omega⟩
/-! ### moved and stretched rows over one bottom -/
theorem qR6 {c j r : Nat} {M t : Int} {q : Rat} (h : Ov (2 ^ c * 64 ^ j) (M * t ^ j) q) (ht : t.natAbs ≤ 64) (hr : j + r = 8) : Ov (2 ^ (c + 48)) (M * t ^ 8) q := by
  have h1 := h.lift (t ^ r)
  have e1 : M * t ^ j * t ^ r = M * t ^ 8 := by rw [Int.mul_assoc, ← Int.pow_add, hr]
  rw [e1] at h1
  refine h1.mono ?_
  rw [Int.natAbs_pow]
  have := Nat.pow_le_pow_left ht r
  calc 2 ^ c * 64 ^ j * t.natAbs ^ r ≤ 2 ^ c * 64 ^ j * 64 ^ r := Nat.mul_le_mul_left _ this
    _ = 2 ^ c * 64 ^ 8 := by rw [Nat.mul_assoc, ← Nat.pow_add, hr]
    _ = 2 ^ (c + 48) := by rw [Nat.pow_add]
theorem qAkb {c : Nat} {M t : Int} (M0 : 0 < M) (hM : M.natAbs ≤ 2 ^ c) (t0 : 0 < t) (ht : t.natAbs ≤ 64) : 0 < M * t ^ 8 ∧ (M * t ^ 8).natAbs ≤ 2 ^ (c + 48) := by
  refine ⟨Int.mul_pos M0 (Int.pow_pos t0), ?_⟩
  rw [Int.natAbs_mul, Int.natAbs_pow, Nat.pow_add]
  exact Nat.mul_le_mul hM (Nat.pow_le_pow_left ht 8)
theorem qAkw {c : Nat} {M t u : Int} {s : Rat} {ms : List Rat} (hM : Cd c M ms) (hl : ms.length ≤ 9) (hs : s * (t : Rat) = (u : Rat)) (t0 : 0 < t) (ht : t.natAbs + u.natAbs ≤ 64) : Cd (c + 48) (M * t ^ 8) (qJ7 s ms) := by
  obtain ⟨b1, b2⟩ := qAkb hM.pos hM.le t0 (show t.natAbs ≤ 64 by omega)
  refine ⟨b1, b2, fun i => ?_⟩
  by_cases hi : i < ms.length
  · rw [qUh hi]
    have h := qAe3 (n := ms.length) hs (Nat.le_refl _) (fun j _ => hM.ov j) i 0 (by omega)
    refine qR6 (j := i) (r := 8 - i) (h.mono (Nat.mul_le_mul_left _ (Nat.pow_le_pow_left ht i))) (by omega) (by omega)
  · rw [qBb (by unfold qJ7; simp; omega)]
    exact Ov.zero
theorem qJe {s : Rat} {ms : List Rat} {j : Nat} (hj : j < ms.length) : coef (qF6 s ms) j = s ^ j * coef ms j := by
  unfold qF6
  exact qRj (by rw [List.getElem?_map, List.getElem?_range hj]; rfl)
theorem qAnk {s : Rat} {t u : Int} (hs : s * (t : Rat) = (u : Rat)) : ∀ j : Nat, Ov (u.natAbs ^ j) (t ^ j) (s ^ j)
  | 0 => ⟨1, by rw [Rat.pow_zero, Int.pow_zero, Rat.one_mul], by rw [Nat.pow_zero]; decide⟩
  | j + 1 => by
    have h := Ov.mul (qAnk hs j) (show Ov u.natAbs t s from ⟨u, hs, Nat.le_refl _⟩)
    rw [Rat.pow_succ, Int.pow_succ, Nat.pow_succ]
    exact h
theorem qAgp {c : Nat} {M t u : Int} {s : Rat} {ms : List Rat} (hM : Cd c M ms) (hl : ms.length ≤ 9) (hs : s * (t : Rat) = (u : Rat)) (t0 : 0 < t) (ht : t.natAbs + u.natAbs ≤ 64) : Cd (c + 48) (M * t ^ 8) (qF6 s ms) := by
  obtain ⟨b1, b2⟩ := qAkb hM.pos hM.le t0 (show t.natAbs ≤ 64 by omega)
  refine ⟨b1, b2, fun i => ?_⟩
  by_cases hi : i < ms.length
  · rw [qJe hi]
    have h := Ov.mul (qAnk hs i) (hM.ov i)
    rw [Int.mul_comm (t ^ i) M, Nat.mul_comm (u.natAbs ^ i)] at h
    exact qR6 (j := i) (r := 8 - i) (h.mono (Nat.mul_le_mul_left _ (Nat.pow_le_pow_left (by omega) i))) (by omega) (by omega)
  · rw [qBb (by unfold qF6; simp; omega)]
    exact Ov.zero
/-! ### kind -/
theorem qHx (s : Step) : qS5 (some s) = if s.2.2.2 < 0 then .tup [.str "out", .int ((s.1 : Nat) : Int)] else .tup [.str "border", .int ((s.1 : Nat) : Int)] := rfl
theorem qAox {t : Rat} {l l' : List Step} (h : All2 (QMv t) l l') : qS5 (qH1 l') = qS5 (qH1 l) := by
  rcases qAd5 (fun s s' q => by unfold qQn; rw [q.2.1]) h with ⟨e1, e2⟩ | ⟨s, s', e1, e2, q⟩
  · rw [e1, e2]
  · rw [e1, e2]
    rw [qHx, qHx, q.1, q.2.1]
theorem qAdz {w p : Rat} (hp : 0 < p) : (0 < w * p ↔ 0 < w) ∧ (w * p < 0 ↔ w < 0) := by
  have h1 : ∀ v : Rat, 0 < v → 0 < v * p := fun v hv => Rat.mul_pos hv hp
  by_cases a : 0 < w
  · have := h1 w a
    exact ⟨⟨fun _ => a, fun _ => this⟩, ⟨fun z => by grind, fun z => by grind⟩⟩
  · by_cases b : w = 0
    · subst b
      rw [Rat.zero_mul]
      exact ⟨Iff.rfl, Iff.rfl⟩
    · have c : 0 < -w := by grind
      have := h1 _ c
      have d : w * p < 0 := by grind
      exact ⟨⟨fun z => by grind, fun z => by grind⟩, ⟨fun _ => by grind, fun _ => d⟩⟩
theorem qAod {t : Rat} (t0 : 0 < t) {l l' : List Step} (h : All2 (QSc t) l l') : qS5 (qH1 l') = qS5 (qH1 l) := by
  rcases qAd5 (fun s s' q => by
    unfold qQn
    rw [q.2.1]
    have := (qAdz (w := s.2.2.2) (Rat.pow_pos t0 : 0 < t ^ s.1)).1
    by_cases g : 0 < s.2.2.2
    · rw [decide_eq_true g, decide_eq_true (this.mpr g)]
    · rw [decide_eq_false g, decide_eq_false fun z => g (this.mp z)]) h with ⟨e1, e2⟩ | ⟨s, s', e1, e2, q⟩
  · rw [e1, e2]
  · rw [e1, e2]
    have := (qAdz (w := s.2.2.2) (Rat.pow_pos t0 : 0 < t ^ s.1)).2
    rw [qHx, qHx, q.1, q.2.1]
    by_cases g : s.2.2.2 < 0
    · rw [if_pos g, if_pos (this.mpr g)]
    · rw [if_neg g, if_neg fun z => g (this.mp z)]
theorem qAg4 {o : Option Step} {P : D → Prop} {X : XP} (p : P (.bl true)) : oEqD (qS5 o) (qS5 o) P X := by
  have h1 : PyData.strOk ("inside" : Str) = true := by decide +kernel
  have h2 : PyData.strOk ("out" : Str) = true := by decide +kernel
  have h3 : PyData.strOk ("border" : Str) = true := by decide +kernel
  cases o with
  | none =>
    refine ⟨_, _, rfl, rfl, by simp [SeqAt.shaped, PyData.canLay0, PyData.depth, PyData.canLayAll0, PyData.depthAll, h1], by simp [SeqAt.shaped, PyData.canLay0, PyData.depth, PyData.canLayAll0, PyData.depthAll, h1], ?_⟩
    rw [show PyData.eqv (.tuple [.str "inside"]) (.tuple [.str "inside"]) = true from by simp [PyData.eqv, PyData.eqvAll]]
    exact p
  | some s =>
    have key : ∀ w : Str, PyData.strOk w = true → oEqD (.tup [.str w, .int ((s.1 : Nat) : Int)]) (.tup [.str w, .int ((s.1 : Nat) : Int)]) P X := fun w hw => by
      refine ⟨_, _, rfl, rfl, by simp [SeqAt.shaped, PyData.canLay0, PyData.depth, PyData.canLayAll0, PyData.depthAll, hw], by simp [SeqAt.shaped, PyData.canLay0, PyData.depth, PyData.canLayAll0, PyData.depthAll, hw], ?_⟩
      rw [show PyData.eqv (.tuple [.str w, .int ((s.1 : Nat) : Int)]) (.tuple [.str w, .int ((s.1 : Nat) : Int)]) = true from by simp [PyData.eqv, PyData.eqvAll]]
      exact p
    rw [qHx]
    by_cases g : s.2.2.2 < 0
    · rw [if_pos g]
      exact key _ h2
    · rw [if_neg g]
      exact key _ h3
end MR

set_option Elab.async false
set_option linter.all false
set_option maxRecDepth 100000
set_option maxHeartbeats 4000000
set_option exponentiation.threshold 20000
namespace MR
open PySem PySem.Spec PyProof.Rows L2
def qR9 (cs : List Str) : FS :=
  (qC1 (qGq (fB (fOp oEqD (qAg (qIr cs) [] (qAc (qAg (qCs cs) [] (qAc (qAe 6) (qAc (qAe 8) qAm))) (qAc (qFb "Place" "stretched" (qHz cs) (qAe 5) (qAc (qAe 8) qAm)) qAm))) (qAg (qIr cs) [] (qAc (qAe 6) (qAc (qAe 5) qAm)))))) (qCr (fC (.bl false))) qAv)
def qAef (cs : List Str) : FS :=
  qAy (qC1 (qGq (fB (qAg qNq [] (qAc (qAe 7) (qAc (qAg (qFl cs) [] (qAc (qAg (qCs cs) [] (qAc (qAe 6) (qAc (qAe 8) qAm))) (qAc (qFb "Place" "stretched" (qHz cs) (qAe 5) (qAc (qAe 8) qAm)) qAm))) (qAc (qAe 8) qAm)))))) (qCr (fC (.bl false))) qAv) (qR9 cs)
def qUq (cs : List Str) : FS :=
  qAy (qCu 8 (qAg qHv [] (qAc (fOp qKu (fC (.int 1)) (qAg qBp [] (qAc (qAe 1) (qAc (fC (.int 30)) qAm)))) (qAc (fOp qKu (fC (.int 1)) (qAg qBp [] (qAc (qAe 1) (qAc (fC (.int 9)) qAm)))) qAm)))) (qAef cs)
def qAd4 (cs : List Str) : FS :=
  qAy (qC1 (qGq (fB (fOp oEqD (qAg (qIr cs) [] (qAc (qAg (qDh cs) [] (qAc (qAe 6) (qAc (qAe 8) qAm))) (qAc (qFb "Place" "moved" (qEd cs) (qAe 5) (qAc (qAe 8) qAm)) qAm))) (qAg (qIr cs) [] (qAc (qAe 6) (qAc (qAe 5) qAm)))))) (qCr (fC (.bl false))) qAv) (qUq cs)
def qAdc (cs : List Str) : FS :=
  qAy (qC1 (qGq (fB (qAg qVe [] (qAc (qAe 7) (qAc (qAg (qFl cs) [] (qAc (qAg (qDh cs) [] (qAc (qAe 6) (qAc (qAe 8) qAm))) (qAc (qFb "Place" "moved" (qEd cs) (qAe 5) (qAc (qAe 8) qAm)) qAm))) (qAc (qAe 8) qAm)))))) (qCr (fC (.bl false))) qAv) (qAd4 cs)
def qV7 (cs : List Str) : FS :=
  qAy (qCu 8 (qAg qHv [] (qAc (qAg qEz [] (qAc (qAe 1) (qAc (fC (.int 30)) qAm))) (qAc (fOp qKu (fC (.int 1)) (qAg qBp [] (qAc (qAe 1) (qAc (fC (.int 9)) qAm)))) qAm)))) (qAdc cs)
def qAet (cs : List Str) : FS :=
  qAy (qCu 7 (qAg (qFl cs) [] (qAc (qAe 6) (qAc (qAe 5) qAm)))) (qV7 cs)
def qAdf (cs : List Str) : FS :=
  qAy (qCu 6 (qAg qGg [] (qAc (qAg qMp [] (qAc (qAe 1) (qAc (qAe 3) (qAc (qAg qBp [] (qAc (qAe 1) (qAc (fC (.int 9)) qAm))) qAm)))) qAm))) (qAet cs)
def qAe5 (cs : List Str) : FS :=
  qAy (qCu 5 (qAg (qGm cs) [] (qAc (qAe 4) (qAc (fOp qBu (qAe 3) (fC (.int 2))) qAm)))) (qAdf cs)
def qAdn (cs : List Str) : FS :=
  qAy (qCu 4 (qAg qIn [] (qAc (qAe 1) (qAc (qAe 3) qAm)))) (qAe5 cs)
def qRa (cs : List Str) : FS :=
  qAy (qCu 3 (qAg qV6 [] (qAc (qAe 1) (qAc (fC (.int 6)) qAm)))) (qAdn cs)
def qAct (K : PySem.W.Frag) (cs : List Str) : TS :=
  (tSeq (tFor (iRng1 (tCons (tOp qEf (tC (.int 1)) (tCall (lift K qBp) [] E0 (tCons (tVar 1) (tCons (tC (.int 2)) tNil)))) tNil)) (gName 2) (tSeq (tAsg (tCall (lift K qV6) [] E0 (tCons (tVar 1) (tCons (tC (.int 6)) tNil))) (gName 3))
  (tSeq (tAsg (tCall (lift K qIn) [] E0 (tCons (tVar 1) (tCons (tVar 3) tNil))) (gName 4))
  (tSeq (tAsg (tCall (lift K (qGm cs)) [] E0 (tCons (tVar 4) (tCons (tOp (rIxL K) (tVar 3) (tC (.int 2))) tNil))) (gName 5))
  (tSeq (tAsg (tCall (lift K qGg) [] E0 (tCons (tCall (lift K qMp) [] E0 (tCons (tVar 1) (tCons (tVar 3) (tCons (tCall (lift K qBp) [] E0 (tCons (tVar 1) (tCons (tC (.int 9)) tNil))) tNil)))) tNil)) (gName 6))
  (tSeq (tAsg (tCall (lift K (qFl cs)) [] E0 (tCons (tVar 6) (tCons (tVar 5) tNil))) (gName 7))
  (tSeq (tAsg (tMake (He.ga K "Ratio") (qA8 K) [] E0 (tCons (tCall (lift K qEz) [] E0 (tCons (tVar 1) (tCons (tC (.int 30)) tNil))) (tCons (tOp qEf (tC (.int 1)) (tCall (lift K qBp) [] E0 (tCons (tVar 1) (tCons (tC (.int 9)) tNil)))) tNil))) (gName 8))
  (tSeq (tIfS (tNot (tB (tCall (lift K qVe) [] E0 (tCons (tVar 7) (tCons (tCall (lift K (qFl cs)) [] E0 (tCons (tCall (lift K (qDh cs)) [] E0 (tCons (tVar 6) (tCons (tVar 8) tNil))) (tCons (tMeth (He.ga K "Place") "moved" (lift K (qEd cs)) [] E0 (tVar 5) (tCons (tVar 8) tNil)) tNil))) (tCons (tVar 8) tNil)))))) (tRet (tC (.bl false))) tNext)
  (tSeq (tIfS (tNot (tTest (tOp (rEqD K) (tCall (lift K (qIr cs)) [] E0 (tCons (tCall (lift K (qDh cs)) [] E0 (tCons (tVar 6) (tCons (tVar 8) tNil))) (tCons (tMeth (He.ga K "Place") "moved" (lift K (qEd cs)) [] E0 (tVar 5) (tCons (tVar 8) tNil)) tNil))) (tCall (lift K (qIr cs)) [] E0 (tCons (tVar 6) (tCons (tVar 5) tNil)))))) (tRet (tC (.bl false))) tNext)
  (tSeq (tAsg (tMake (He.ga K "Ratio") (qA8 K) [] E0 (tCons (tOp qEf (tC (.int 1)) (tCall (lift K qBp) [] E0 (tCons (tVar 1) (tCons (tC (.int 30)) tNil)))) (tCons (tOp qEf (tC (.int 1)) (tCall (lift K qBp) [] E0 (tCons (tVar 1) (tCons (tC (.int 9)) tNil)))) tNil))) (gName 8))
  (tSeq (tIfS (tNot (tB (tCall (lift K qNq) [] E0 (tCons (tVar 7) (tCons (tCall (lift K (qFl cs)) [] E0 (tCons (tCall (lift K (qCs cs)) [] E0 (tCons (tVar 6) (tCons (tVar 8) tNil))) (tCons (tMeth (He.ga K "Place") "stretched" (lift K (qHz cs)) [] E0 (tVar 5) (tCons (tVar 8) tNil)) tNil))) (tCons (tVar 8) tNil)))))) (tRet (tC (.bl false))) tNext)
  (tIfS (tNot (tTest (tOp (rEqD K) (tCall (lift K (qIr cs)) [] E0 (tCons (tCall (lift K (qCs cs)) [] E0 (tCons (tVar 6) (tCons (tVar 8) tNil))) (tCons (tMeth (He.ga K "Place") "stretched" (lift K (qHz cs)) [] E0 (tVar 5) (tCons (tVar 8) tNil)) tNil))) (tCall (lift K (qIr cs)) [] E0 (tCons (tVar 6) (tCons (tVar 5) tNil)))))) (tRet (tC (.bl false))) tNext))))))))))))
  (tRet (tC (.bl true))))
def qPd (cs : List Str) : FS :=
  (qAy (qGn (qFa (qAc (fOp qKu (fC (.int 1)) (qAg qBp [] (qAc (qAe 1) (qAc (fC (.int 2)) qAm)))) qAm)) (qBf 2) (qRa cs))
  (qCr (fC (.bl true))))
theorem qAfr {K : PySem.W.Frag} {cs : List Str} (T : KF K cs) (hRatio : ("Ratio" : Str) ∈ cs) (hPlace : ("Place" : Str) ∈ cs) (hPoly : ("Poly" : Str) ∈ cs) : SS K Ta [] [] [] [] (fun _ => E0) (qAct K cs) (qPd cs) :=
  (qAl (ow1 := []) (qE5 (by decide) (qFo (qAa (qAi (fun _ => qD1) qAj (qAk Lift.refl qAf (qAa (qAb (by decide)) (qAa qAj qAd)))) qAd)) (qBy (by decide)) (qAl (ow1 := []) (qAx (by decide) (by decide) (qAk Lift.refl qAf (qAa (qAb (by decide)) (qAa qAj qAd))))
  (qAl (ow1 := []) (qAx (by decide) (by decide) (qAk Lift.refl qAf (qAa (qAb (by decide)) (qAa (qAb (by decide)) qAd))))
  (qAl (ow1 := []) (qAx (by decide) (by decide) (qAk Lift.refl qAf (qAa (qAb (by decide)) (qAa (qAi (fun _ => qAz) (qAb (by decide)) qAj) qAd))))
  (qAl (ow1 := []) (qAx (by decide) (by decide) (qAk Lift.refl qAf (qAa (qAk Lift.refl qAf (qAa (qAb (by decide)) (qAa (qAb (by decide)) (qAa (qAk Lift.refl qAf (qAa (qAb (by decide)) (qAa qAj qAd))) qAd)))) qAd)))
  (qAl (ow1 := []) (qAx (by decide) (by decide) (qAk Lift.refl qAf (qAa (qAb (by decide)) (qAa (qAb (by decide)) qAd))))
  (qAl (ow1 := []) (qAx (by decide) (by decide) (qA2 qFk qAf (qAa (qAk Lift.refl qAf (qAa (qAb (by decide)) (qAa qAj qAd))) (qAa (qAi (fun _ => qD1) qAj (qAk Lift.refl qAf (qAa (qAb (by decide)) (qAa qAj qAd)))) qAd))))
  (qAl (ow1 := []) (qBl (by decide) (qEb (qOh (qAk Lift.refl qAf (qAa (qAb (by decide)) (qAa (qAk Lift.refl qAf (qAa (qAk Lift.refl qAf (qAa (qAb (by decide)) (qAa (qAb (by decide)) qAd))) (qAa (qKd Lift.refl (qAb (by decide)) (qAa (qAb (by decide)) qAd)) qAd))) (qAa (qAb (by decide)) qAd)))))) (qAq (by decide) qJl) (qAn (by decide)))
  (qAl (ow1 := []) (qBl (by decide) (qEb (qAp (qAi (fun _ => qAnp) (qAk Lift.refl qAf (qAa (qAk Lift.refl qAf (qAa (qAb (by decide)) (qAa (qAb (by decide)) qAd))) (qAa (qKd Lift.refl (qAb (by decide)) (qAa (qAb (by decide)) qAd)) qAd))) (qAk Lift.refl qAf (qAa (qAb (by decide)) (qAa (qAb (by decide)) qAd)))))) (qAq (by decide) qJl) (qAn (by decide)))
  (qAl (ow1 := []) (qAx (by decide) (by decide) (qA2 qFk qAf (qAa (qAi (fun _ => qD1) qAj (qAk Lift.refl qAf (qAa (qAb (by decide)) (qAa qAj qAd)))) (qAa (qAi (fun _ => qD1) qAj (qAk Lift.refl qAf (qAa (qAb (by decide)) (qAa qAj qAd)))) qAd))))
  (qAl (ow1 := []) (qBl (by decide) (qEb (qOh (qAk Lift.refl qAf (qAa (qAb (by decide)) (qAa (qAk Lift.refl qAf (qAa (qAk Lift.refl qAf (qAa (qAb (by decide)) (qAa (qAb (by decide)) qAd))) (qAa (qKd Lift.refl (qAb (by decide)) (qAa (qAb (by decide)) qAd)) qAd))) (qAa (qAb (by decide)) qAd)))))) (qAq (by decide) qJl) (qAn (by decide)))
  (qBl (by decide) (qEb (qAp (qAi (fun _ => qAnp) (qAk Lift.refl qAf (qAa (qAk Lift.refl qAf (qAa (qAb (by decide)) (qAa (qAb (by decide)) qAd))) (qAa (qKd Lift.refl (qAb (by decide)) (qAa (qAb (by decide)) qAd)) qAd))) (qAk Lift.refl qAf (qAa (qAb (by decide)) (qAa (qAb (by decide)) qAd)))))) (qAq (by decide) qJl) (qAn (by decide))))))))))))))
  (qAq (by decide) qJl))
def qAnv (K : PySem.W.Frag) (cs : List Str) : TS :=
  (tSeq (tAsg (tCall (qOd K) [] E0 (tCons (tVar 0) tNil)) (gName 1))
  (tSeq (tFor (iRng1 (tCons (tOp qEf (tC (.int 1)) (tCall (lift K qBp) [] E0 (tCons (tVar 1) (tCons (tC (.int 2)) tNil)))) tNil)) (gName 2) (tSeq (tAsg (tCall (lift K qV6) [] E0 (tCons (tVar 1) (tCons (tC (.int 6)) tNil))) (gName 3))
  (tSeq (tAsg (tCall (lift K qIn) [] E0 (tCons (tVar 1) (tCons (tVar 3) tNil))) (gName 4))
  (tSeq (tAsg (tCall (lift K (qGm cs)) [] E0 (tCons (tVar 4) (tCons (tOp (rIxL K) (tVar 3) (tC (.int 2))) tNil))) (gName 5))
  (tSeq (tAsg (tCall (lift K qGg) [] E0 (tCons (tCall (lift K qMp) [] E0 (tCons (tVar 1) (tCons (tVar 3) (tCons (tCall (lift K qBp) [] E0 (tCons (tVar 1) (tCons (tC (.int 9)) tNil))) tNil)))) tNil)) (gName 6))
  (tSeq (tAsg (tCall (lift K (qFl cs)) [] E0 (tCons (tVar 6) (tCons (tVar 5) tNil))) (gName 7))
  (tSeq (tAsg (tMake (He.ga K "Ratio") (qA8 K) [] E0 (tCons (tCall (lift K qEz) [] E0 (tCons (tVar 1) (tCons (tC (.int 30)) tNil))) (tCons (tOp qEf (tC (.int 1)) (tCall (lift K qBp) [] E0 (tCons (tVar 1) (tCons (tC (.int 9)) tNil)))) tNil))) (gName 8))
  (tSeq (tIfS (tNot (tB (tCall (lift K qVe) [] E0 (tCons (tVar 7) (tCons (tCall (lift K (qFl cs)) [] E0 (tCons (tCall (lift K (qDh cs)) [] E0 (tCons (tVar 6) (tCons (tVar 8) tNil))) (tCons (tMeth (He.ga K "Place") "moved" (lift K (qEd cs)) [] E0 (tVar 5) (tCons (tVar 8) tNil)) tNil))) (tCons (tVar 8) tNil)))))) (tRet (tC (.bl false))) tNext)
  (tSeq (tIfS (tNot (tTest (tOp (rEqD K) (tCall (lift K (qIr cs)) [] E0 (tCons (tCall (lift K (qDh cs)) [] E0 (tCons (tVar 6) (tCons (tVar 8) tNil))) (tCons (tMeth (He.ga K "Place") "moved" (lift K (qEd cs)) [] E0 (tVar 5) (tCons (tVar 8) tNil)) tNil))) (tCall (lift K (qIr cs)) [] E0 (tCons (tVar 6) (tCons (tVar 5) tNil)))))) (tRet (tC (.bl false))) tNext)
  (tSeq (tAsg (tMake (He.ga K "Ratio") (qA8 K) [] E0 (tCons (tOp qEf (tC (.int 1)) (tCall (lift K qBp) [] E0 (tCons (tVar 1) (tCons (tC (.int 30)) tNil)))) (tCons (tOp qEf (tC (.int 1)) (tCall (lift K qBp) [] E0 (tCons (tVar 1) (tCons (tC (.int 9)) tNil)))) tNil))) (gName 8))
  (tSeq (tIfS (tNot (tB (tCall (lift K qNq) [] E0 (tCons (tVar 7) (tCons (tCall (lift K (qFl cs)) [] E0 (tCons (tCall (lift K (qCs cs)) [] E0 (tCons (tVar 6) (tCons (tVar 8) tNil))) (tCons (tMeth (He.ga K "Place") "stretched" (lift K (qHz cs)) [] E0 (tVar 5) (tCons (tVar 8) tNil)) tNil))) (tCons (tVar 8) tNil)))))) (tRet (tC (.bl false))) tNext)
  (tIfS (tNot (tTest (tOp (rEqD K) (tCall (lift K (qIr cs)) [] E0 (tCons (tCall (lift K (qCs cs)) [] E0 (tCons (tVar 6) (tCons (tVar 8) tNil))) (tCons (tMeth (He.ga K "Place") "stretched" (lift K (qHz cs)) [] E0 (tVar 5) (tCons (tVar 8) tNil)) tNil))) (tCall (lift K (qIr cs)) [] E0 (tCons (tVar 6) (tCons (tVar 5) tNil)))))) (tRet (tC (.bl false))) tNext))))))))))))
  (tRet (tC (.bl true)))))
section
variable {cs : List Str} {ms : List Rat} {x y : Option Rat}
structure R22 (c m : Nat) (ms : List Rat) (x y : Option Rat) : Prop where
  l0 : 0 < ms.length
  l9 : ms.length ≤ 9
  cd : ∃ M, Cd c M ms
  zx : SzO m x
  zy : SzO m y
  no : x = none → y = none
  od : y = none ∨ ∃ a b, x = some a ∧ y = some b ∧ a < b
theorem SzO.mono {n m : Nat} {o : Option Rat} (h : SzO n o) (hn : n ≤ m) : SzO m o := by
  cases o with
  | none => trivial
  | some q => exact Sz.mono h hn
theorem R22.st {c m : Nat} (h : R22 c m ms x y) (hc : c ≤ 3248) (hm : m ≤ 60) : StOk 4 ms (qKm x y) 484 3248 := by
  obtain ⟨M, hM⟩ := h.cd
  exact st22 (hM.mono hc) h.l9 (h.zx.mono hm) (h.zy.mono hm)
theorem R22.pl {c m : Nat} (h : R22 c m ms x y) (hm : m ≤ 60) : Pl16 x y := ⟨h.no, h.zx.mono (by omega), h.zy.mono (by omega)⟩
theorem R22.steps {c m : Nat} (h : R22 c m ms x y) (hc : c ≤ 3248) (hm : m ≤ 60) {P : D → Prop} {X : XP} (p : P (.lst ((goN ms (qKm x y) ms.length 0).map qA9))) : qFl cs [.lst (qBj ms), qB0 x y] P X := by
  have := h.l9
  exact ⟨_, ms, x, y, 4, 484, 3248, rfl, rfl, h.l0, by omega, h.pl hm, h.st hc hm, p⟩
theorem R22.kind {c m : Nat} (h : R22 c m ms x y) (hc : c ≤ 3248) (hm : m ≤ 60) {P : D → Prop} {X : XP} (p : P (qS5 (qH1 (goN ms (qKm x y) ms.length 0)))) : qIr cs [.lst (qBj ms), qB0 x y] P X := by
  have := h.l9
  exact ⟨_, ms, x, y, 4, 484, 3248, rfl, rfl, h.l0, by omega, h.pl hm, h.st hc hm, p⟩
theorem R22.ord {c m : Nat} (h : R22 c m ms x y) (hm : m ≤ 60) : qR8 x y := by
  rcases h.od with e | ⟨a, b, rfl, rfl, l⟩
  · exact .inl e
  · exact .inr ⟨a, b, rfl, rfl, ⟨m, m, h.zx, h.zy, by omega⟩, l⟩
/-- the number to move or to stretch by -/
structure By (t : Rat) : Prop where
  ex : ∃ a b : Int, t * (b : Rat) = (a : Rat) ∧ 0 < b ∧ b.natAbs + a.natAbs ≤ 64
  z : Sz 6 t
theorem qAri {a b : Int} (b0 : 0 < b) (b1 : b ≤ 10) (a1 : a.natAbs ≤ 40) : By (Rat.divInt a b) := by
  refine ⟨⟨a, b, ?_, b0, by omega⟩, qNc (n := 6) (by omega) (by omega) (by omega)⟩
  have : (b : Rat) ≠ 0 := Rat.ne_of_gt (Rat.intCast_pos.mpr b0)
  rw [Rat.divInt_eq_div]
  grind
theorem R22.moved {t : Rat} (h : R22 3200 40 ms x y) (ht : By t) : R22 3248 60 (qJ7 t ms) (x.map (· + t)) (y.map (· + t)) := by
  obtain ⟨M, hM⟩ := h.cd
  obtain ⟨a, b, e, b0, hb⟩ := ht.ex
  have hl : (qJ7 t ms).length = ms.length := by unfold qJ7; simp
  refine ⟨by rw [hl]; exact h.l0, by rw [hl]; exact h.l9, ⟨_, qAkw hM h.l9 e b0 hb⟩, ?_, ?_, fun z => ?_, ?_⟩
  · cases x with
    | none => trivial
    | some q => exact (Sz.add (h.zx : Sz 40 q) ht.z).mono (by decide)
  · cases y with
    | none => trivial
    | some q => exact (Sz.add (h.zy : Sz 40 q) ht.z).mono (by decide)
  · cases x with
    | none => rw [h.no rfl]; rfl
    | some q => cases z
  · rcases h.od with e | ⟨p, q, rfl, rfl, l⟩
    · exact .inl (by rw [e]; rfl)
    · exact .inr ⟨p + t, q + t, rfl, rfl, by grind⟩
theorem R22.scaled {t : Rat} (h : R22 3200 40 ms x y) (ht : By t) (t0 : 0 < t) : R22 3248 60 (qF6 t ms) (x.map (· * t)) (y.map (· * t)) := by
  obtain ⟨M, hM⟩ := h.cd
  obtain ⟨a, b, e, b0, hb⟩ := ht.ex
  have hl : (qF6 t ms).length = ms.length := by unfold qF6; simp
  refine ⟨by rw [hl]; exact h.l0, by rw [hl]; exact h.l9, ⟨_, qAgp hM h.l9 e b0 hb⟩, ?_, ?_, fun z => ?_, ?_⟩
  · cases x with
    | none => trivial
    | some q => exact (Sz.mul (h.zx : Sz 40 q) ht.z).mono (by decide)
  · cases y with
    | none => trivial
    | some q => exact (Sz.mul (h.zy : Sz 40 q) ht.z).mono (by decide)
  · cases x with
    | none => rw [h.no rfl]; rfl
    | some q => cases z
  · rcases h.od with e | ⟨p, q, rfl, rfl, l⟩
    · exact .inl (by rw [e]; rfl)
    · exact .inr ⟨p * t, q * t, rfl, rfl, by
        have : 0 < (q - p) * t := Rat.mul_pos (by grind) t0
        grind⟩
theorem R22.itrs {t : Rat} (h : R22 3200 40 ms x y) (ht : By t) : ∀ k i, k + i < ms.length → Sz 4400 (itr t k (coef ms) i) := fun k i hi => by
  have l9 := h.l9
  obtain ⟨M, hM⟩ := h.cd
  obtain ⟨a, b, e, b0, hb⟩ := ht.ex
  obtain ⟨b1, b2⟩ := qAkb hM.pos hM.le b0 (show b.natAbs ≤ 64 by omega)
  have h1 := qAe3 (n := ms.length) e (Nat.le_refl _) (fun j _ => hM.ov j) k i (by omega)
  exact (qTr (qR6 (j := k) (r := 8 - k) (h1.mono (Nat.mul_le_mul_left _ (Nat.pow_le_pow_left hb k))) (by omega) (by omega)) b1 b2).mono (by decide)
theorem R22.row (h : R22 3200 40 ms x y) : qAlf 3201 (.lst (qBj ms)) ms := by
  have := h.l9
  obtain ⟨M, hM⟩ := h.cd
  exact ⟨_, rfl, qNh ms, h.l0, by omega, hM.szL, by decide⟩
theorem R22.mrow {t : Rat} (h : R22 3200 40 ms x y) (ht : By t) (hR : ("Ratio" : Str) ∈ cs) {P : D → Prop} {X : XP} (p : P (.lst (qBj (qJ7 t ms)))) : qDh cs [.lst (qBj ms), .rat t] P X :=
  ⟨_, _, ms, 3201, true, rfl, h.row, qDs hR rfl, fun z => (nomatch z), fun _ => ⟨t, rfl, ht.z.mono (by decide), h.itrs ht, p⟩⟩
theorem R22.srow {t : Rat} (h : R22 3200 40 ms x y) (ht : By t) (hR : ("Ratio" : Str) ∈ cs) {P : D → Prop} {X : XP} (p : P (.lst (qBj (qF6 t ms)))) : qCs cs [.lst (qBj ms), .rat t] P X :=
  ⟨_, _, ms, 3201, true, rfl, h.row, qDs hR rfl, fun z => (nomatch z), fun _ => ⟨t, rfl, ht.z.mono (by decide), by decide, p⟩⟩
theorem R22.mplace {t : Rat} (h : R22 3200 40 ms x y) (ht : By t) (hR : ("Ratio" : Str) ∈ cs) {P : D → Prop} {X : XP} (p : P (qB0 (x.map (· + t)) (y.map (· + t)))) : qEd cs [qB0 x y, .rat t] P X :=
  ⟨x, y, _, true, rfl, qDs hR rfl, fun z => (nomatch z), fun _ => ⟨t, 40, 6, rfl, h.zx, h.zy, ht.z, by decide, h.ord (by decide), p⟩⟩
theorem R22.splace {t : Rat} (h : R22 3200 40 ms x y) (ht : By t) (t0 : 0 < t) (hR : ("Ratio" : Str) ∈ cs) {P : D → Prop} {X : XP} (p : P (qB0 (x.map (· * t)) (y.map (· * t)))) : qHz cs [qB0 x y, .rat t] P X :=
  ⟨x, y, _, true, rfl, qDs hR rfl, fun z => (nomatch z), fun _ => ⟨t, 40, 6, rfl, h.zx, h.zy, ht.z, by decide, h.ord (by decide), .inl ⟨t0, p⟩⟩⟩
theorem R22.of {lo hi : Option Int} {b : Int} {ps : List (Int × Int)} (he : EndsOk lo hi) (b0 : 0 < b) (b5 : b ≤ 5) (hz : ∀ p, p ∈ ps → SzT p) (l9 : ps.length ≤ 9) (l0 : 0 < ps.length) : R22 3200 40 (ps.map valP) (optR b lo) (optR b hi) := by
  have hz2 : ∀ p, p ∈ ps → SzP 320 p := fun p hp => ⟨(hz p hp).a, Nat.lt_of_lt_of_le (hz p hp).b (Nat.pow_le_pow_right (by decide) (by decide)), (hz p hp).pos⟩
  refine ⟨by rw [List.length_map]; exact l0, by rw [List.length_map]; exact l9, ⟨_, qAdv (L := 9) hz2 l9⟩, ?_, ?_, fun z => ?_, ?_⟩
  · cases lo with
    | none => trivial
    | some a => exact (qNc (n := 36) (by omega) (he.la a rfl) (by omega)).mono (by decide)
  · cases hi with
    | none => trivial
    | some a => exact (qNc (n := 36) (by omega) (he.lb a rfl) (by omega)).mono (by decide)
  · cases lo with
    | none => rw [he.no rfl]; rfl
    | some a => cases z
  · cases hi with
    | none => exact .inl rfl
    | some q =>
      cases lo with
      | none => cases he.no rfl
      | some a => exact .inr ⟨_, _, rfl, rfl, qAp8 b0 (he.lt a q rfl rfl)⟩
abbrev E22 (sc v2 v3 v4 : Option D) (x y : Option Rat) (ms : List Rat) (r : Env) : Env :=
  sc :: some .feed :: v2 :: v3 :: v4 :: some (qB0 x y) :: some (.lst (qBj ms)) :: some (.lst ((goN ms (qKm x y) ms.length 0).map qA9)) :: r
theorem qSc (t : Rat) (ms : List Rat) : (qF6 t ms).length = ms.length := by unfold qF6; simp
theorem qAng (ms : List Rat) (fs : List (List Rat)) : ∀ r k, (goN ms fs r k).length ≤ r * fs.length
  | 0, _ => Nat.zero_le _
  | r + 1, k => by
    have h1 := qQ8 ms k fs
    have h2 := qAng ms fs r (k + 1)
    rw [goN, List.length_append, Nat.add_mul, Nat.one_mul]
    split
    · omega
    · simp; omega
theorem qAgt {ms : List Rat} {x y : Option Rat} (h : StOk 4 ms (qKm x y) 484 3248) : (goN ms (qKm x y) ms.length 0).length ≤ 1000 := by
  have l := h.len
  have f4 : (qKm x y).length ≤ 4 := by
    cases x with
    | none => simp [qKm]
    | some a => cases y <;> simp [qKm]
  have g := qAng ms (qKm x y) ms.length 0
  have := Nat.mul_le_mul (show ms.length ≤ 10 by omega) f4
  omega
variable {FD : FEnds} {sc v2 v3 v4 : Option D}
theorem qAog (h : R22 3200 40 ms x y) (hR : ("Ratio" : Str) ∈ cs) {t : Rat} (ht : By t) (t0 : 0 < t) (k : ∀ v8, FD.nx (E22 sc v2 v3 v4 x y ms [v8])) : qR9 cs FD (E22 sc v2 v3 v4 x y ms [some (.rat t)]) := by
  simp_arith [qR9]
  refine h.srow ht hR ?_
  refine ⟨⟨rfl, by decide⟩, h.splace ht t0 hR ?_⟩
  have h' := h.scaled ht t0
  refine h'.kind (by decide) (by decide) ?_
  refine h.kind (by decide) (by decide) ?_
  have rel := qYy t0 (qSc t ms) (fun j hj => qJe hj) (qT5 t x y)
  rw [qAod t0 rel]
  refine qAg4 ?_
  simp_arith [Bool.not_true]
  exact k _
theorem qAqu (h : R22 3200 40 ms x y) (hR : ("Ratio" : Str) ∈ cs) {v8 : Option D} (k : ∀ v8, FD.nx (E22 sc v2 v3 v4 x y ms [v8])) : qUq cs FD (E22 sc v2 v3 v4 x y ms [v8]) := by
  simp_arith [qUq]
  refine qC6 (by decide) (by decide) fun a a0 a1 => ?_
  simp_arith []
  refine qC6 (by decide) (by decide) fun b b0 b1 => ?_
  simp_arith [qPp]
  refine ⟨by omega, sml _, ?_⟩
  have ht := qAri (a := 1 + a) (b := 1 + b) (by omega) (by omega) (by omega)
  have t0 : 0 < Rat.divInt (1 + a) (1 + b) := by
    have n1 : (0 : Rat) < ((1 + a : Int) : Rat) := Rat.intCast_pos.mpr (by omega)
    have n2 : (0 : Rat) < ((1 + b : Int) : Rat) := Rat.intCast_pos.mpr (by omega)
    rw [Rat.divInt_eq_div, Rat.div_def]
    exact Rat.mul_pos n1 (Rat.inv_pos.mpr n2)
  generalize Rat.divInt (1 + a) (1 + b) = t at *
  have h' := h.scaled ht t0
  simp_arith [qAef]
  refine h.srow ht hR ?_
  refine ⟨⟨rfl, by decide⟩, h.splace ht t0 hR ?_⟩
  refine h'.steps (by decide) (by decide) ?_
  have rel := qYy t0 (qSc t ms) (fun j hj => qJe hj) (qT5 t x y)
  have s1 := h.st (by decide) (by decide)
  have s2 := h'.st (by decide) (by decide)
  refine ⟨_, _, t, rfl, rel, qAgt s1, qAmg s1 h.l9, qAmg s2 h'.l9, ht.z.mono (by decide), ?_⟩
  simp_arith [Bool.not_true]
  exact qAog h hR ht t0 k
theorem qArs (h : R22 3200 40 ms x y) (hR : ("Ratio" : Str) ∈ cs) (k : ∀ v8, FD.nx (E22 sc v2 v3 v4 x y ms [v8])) {v8 : Option D} : qV7 cs FD (E22 sc v2 v3 v4 x y ms [v8]) := by
  simp_arith [qV7]
  refine qSe (by decide) (by decide) fun a a0 a1 => ?_
  refine qC6 (by decide) (by decide) fun b b0 b1 => ?_
  simp_arith [qPp]
  refine ⟨by omega, sml _, ?_⟩
  have ht := qAri (a := a) (b := 1 + b) (by omega) (by omega) (by omega)
  generalize Rat.divInt a (1 + b) = t at *
  have h' := h.moved ht
  have rel := qAl2 (qAgh t ms) (fun j hj => qUh hj) (qAi4 t x y)
  have s1 := h.st (by decide) (by decide)
  have s2 := h'.st (by decide) (by decide)
  simp_arith [qAdc]
  refine h.mrow ht hR ?_
  refine ⟨⟨rfl, by decide⟩, h.mplace ht hR ?_⟩
  refine h'.steps (by decide) (by decide) ?_
  refine ⟨_, _, t, rfl, rel, qAgt s1, qAmg s1 h.l9, qAmg s2 h'.l9, ht.z.mono (by decide), ?_⟩
  simp_arith [Bool.not_true]
  simp_arith [qAd4]
  refine h.mrow ht hR ?_
  refine ⟨⟨rfl, by decide⟩, h.mplace ht hR ?_⟩
  refine h'.kind (by decide) (by decide) ?_
  refine h.kind (by decide) (by decide) ?_
  rw [qAox rel]
  refine qAg4 ?_
  simp_arith [Bool.not_true]
  exact qAqu h hR k
theorem qAq4 (hR : ("Ratio" : Str) ∈ cs) (k : ∀ sc v2 v3 v4 v5 v6 v7 v8, FD.nx [sc, some .feed, v2, v3, v4, v5, v6, v7, v8]) {v5 v6 v7 v8 : Option D} : qRa cs FD [sc, some .feed, v2, v3, v4, v5, v6, v7, v8] := by
  simp_arith [qRa]
  refine ⟨6, rfl, by decide, by decide, fun xs ws b c hl => ?_⟩
  have b0 := hl.b0
  have b5 := hl.sb
  simp_arith [qAdn]
  refine ⟨xs, ws, b, c, 6, rfl, hl, fun lo hi he => ?_⟩
  simp_arith [qAe5, ixc]
  refine ⟨lo, hi, b, rfl, he, b0, by omega, ?_⟩
  simp_arith [qAdf]
  refine qC6 (by decide) (by decide) fun d d0 d1 => ?_
  refine ⟨xs, ws, b, c, 6, d, rfl, hl, by decide, d0, by omega, fun ps hps hz => ?_⟩
  have l0 : 0 < ps.length := by omega
  have l9 : ps.length ≤ 9 := by omega
  have hzp : ∀ p, p ∈ ps → SzP 320 p := fun p hp => ⟨(hz p hp).a, Nat.lt_of_lt_of_le (hz p hp).b (Nat.pow_le_pow_right (by decide) (by decide)), (hz p hp).pos⟩
  refine ⟨ps, 320, rfl, hzp, by decide, by omega, ?_⟩
  have h := R22.of he b0 b5 hz l9 l0
  generalize ps.map valP = ms at h
  generalize optR b lo = x at *
  generalize optR b hi = y at *
  simp_arith [qAet]
  refine h.steps (by decide) (by decide) ?_
  exact qArs h hR fun v8 => k _ _ _ _ _ _ _ _
end
theorem qAsy {cs : List Str} (hRatio : ("Ratio" : Str) ∈ cs) (hPlace : ("Place" : Str) ∈ cs) (hPoly : ("Poly" : Str) ∈ cs) : qPd cs (qFj yes X0) (some .exc :: some .feed :: List.replicate 7 none) := by
  simp_arith [qPd, List.replicate, qGn, qFa]
  refine qC6 (by decide) (by decide) fun m m0 m1 => ?_
  simp_arith []
  refine ⟨by omega, by omega, ?_⟩
  obtain ⟨n, hn⟩ := Int.eq_ofNat_of_zero_le (show 0 ≤ 1 + m by omega)
  rw [hn, Int.toNat_natCast]
  have go : ∀ (r : Nat) (k : Int) (FD : FEnds) (sc v2 v3 v4 v5 v6 v7 v8 : Option D), (∀ sc v2 v3 v4 v5 v6 v7 v8, FD.nx [sc, some .feed, v2, v3, v4, v5, v6, v7, v8]) → qCk (qBf 2) (qRa cs) FD (qKx k r) [sc, some .feed, v2, v3, v4, v5, v6, v7, v8] := by
    intro r
    induction r with
    | zero => exact fun k FD _ _ _ _ _ _ _ _ h => h _ _ _ _ _ _ _ _
    | succ r ih =>
      intro k FD sc v2 v3 v4 v5 v6 v7 v8 h
      rw [qGj]
      unfold qCk
      simp_arith []
      exact qAq4 hRatio fun sc v2 v3 v4 v5 v6 v7 v8 => ih _ _ _ _ _ _ _ _ _ _ h
  refine go n 0 _ _ _ _ _ _ _ _ _ fun sc v2 v3 v4 v5 v6 v7 v8 => ?_
  simp_arith []
  rfl
theorem qAq5 {K : PySem.W.Frag} {cs : List Str} (T : KF K cs) (hRatio : ("Ratio" : Str) ∈ cs) (hPlace : ("Place" : Str) ∈ cs) (hPoly : ("Poly" : Str) ∈ cs) (vs : List V) (H : Hp) (Q : VK) (E : XK) (h : qAkz K vs H Q E) : qAnv K cs { nx := fun _ H' => Q .non H', rt := Q } (start ["_law_script", "_law_feed_here", "_law_k", "_law_lot_here", "_law_ends_here", "_law_place_here", "_law_row", "_law_old", "_law_by"] vs) H :=
  qArd (n := 7) rfl (qAfr T hRatio hPlace hPoly) (qAsy hRatio hPlace hPoly) vs H Q E h
end MR

set_option Elab.async false
set_option linter.all false
set_option maxRecDepth 100000
set_option maxHeartbeats 4000000
/-! MR: the head's run, looked at in parts -/
namespace MR
open PySem PySem.Spec PyProof.Rows L2 He
section
variable {α β γ : Type} {o : Option α} {fr : α → PySem.W.Frag}
def PartB (o : Option α) (fr : α → PySem.W.Frag) (bs : List Fct) : Prop := o.map (fun s => bs.all fun f => f (fr s)) = some true
def PartD (o : Option α) (fr : α → PySem.W.Frag) (fn : List DefD) : Prop := o.map (fun s => (fn.all fun d => d.ok (fr s), fn.map fun d => fnW (fr s) d.at_)) = some (true, fn.map DefD.val)
theorem PartB.app {b1 b2 : List Fct} (h1 : PartB o fr b1) (h2 : PartB o fr b2) : PartB o fr (b1 ++ b2) := by
  unfold PartB at *
  cases o with
  | none => cases h1
  | some s =>
    have e1 : (b1.all fun f => f (fr s)) = true := Option.some.inj h1
    have e2 : (b2.all fun f => f (fr s)) = true := Option.some.inj h2
    show some ((b1 ++ b2).all fun f => f (fr s)) = some true
    rw [List.all_append, e1, e2]
    rfl
theorem PartD.app {b1 b2 : List DefD} (h1 : PartD o fr b1) (h2 : PartD o fr b2) : PartD o fr (b1 ++ b2) := by
  unfold PartD at *
  cases o with
  | none => cases h1
  | some s =>
    have e1 := Prod.mk.inj (Option.some.inj h1)
    have e2 := Prod.mk.inj (Option.some.inj h2)
    show some (_, _) = some (true, _)
    rw [List.all_append, List.map_append, List.map_append, e1.1, e2.1, e1.2, e2.2]
    rfl
theorem qAsv {l : α → Bool} {q : α → β} {x : β} {bs : List Fct} {fn : List DefD} (h : o.map (fun s => (l s, q s)) = some (true, x)) (hb : PartB o fr bs) (hd : PartD o fr fn) : o.map (fun s => (l s, q s, obsM bs fn (fr s))) = some (true, x, valM fn) := by
  unfold PartB PartD at *
  cases o with
  | none => cases h
  | some s =>
    have e1 := Prod.mk.inj (Option.some.inj h)
    have e2 : (bs.all fun f => f (fr s)) = true := Option.some.inj hb
    have e3 := Prod.mk.inj (Option.some.inj hd)
    show some (_, _, (_ && _), _) = some (true, x, true, _)
    rw [e1.1, e1.2, e2, e3.1, e3.2]
    rfl
end
end MR

set_option Elab.async false
set_option linter.all false
set_option maxRecDepth 100000
set_option maxHeartbeats 4000000
/-! MR: the written part, gathered quickly (a number as the set of the places seen) -/
namespace MR
open PySem PySem.Spec PyProof.Rows L2 He
/-- the places of l that the set m lacks, each once; k goes on with the set -/
def ddU (k : Nat → List Addr → List Addr) : List Addr → Nat → List Addr → List Addr
  | [], m, acc => k m acc
  | a :: l, m, acc => match Nat.beq (Nat.land (Nat.shiftRight m a) 1) 0 with
    | true => ddU k l (Nat.lor m (Nat.shiftLeft 1 a)) (a :: acc)
    | false => ddU k l m acc
def outU (g : Addr → Option Obj) (as : List Addr) : List Addr := as.flatMap fun a => match g a with
  | some o => refsD o
  | none => []
def asU (g : Addr → Option Obj) : Nat → Nat → List Addr → List Addr
  | 0, _, _ => []
  | n + 1, m, fr => ddU (fun m' nf => nf ++ asU g n m' nf) (outU g fr) m []
/-- the written part: what the module's names reach in n steps, without empty tables -/
def frU (g : Addr → Option Obj) (n : Nat) : PySem.W.Frag := (He.frG g (sysModules :: mainGlobals :: cStatics :: asU g n (Nat.lor (Nat.shiftLeft 1 mainGlobals) (Nat.lor (Nat.shiftLeft 1 cStatics) (Nat.shiftLeft 1 sysModules))) [mainGlobals, cStatics])).filter fun p => !qAqz (some p.2)
theorem qAqs {n : Nat} {h : Heap} : (frU h.get? n).In h := fun a o e => by
  have hm0 := qAnq e
  unfold frU at hm0
  have hm := (List.mem_filter.mp hm0).1
  unfold He.frG at hm
  obtain ⟨b, _, hb⟩ := List.mem_filterMap.mp hm
  cases hg : h.get? b with
  | none =>
    rw [hg] at hb
    cases hb
  | some u =>
    rw [hg] at hb
    cases hb
    exact hg
def obsN (n : Nat) (bs : List Fct) (fn : List He.DefD) (g : Addr → Option Obj) : AlM := obsM bs fn (frU g n)
def qAre (n : Nat) (bs : List Fct) (fn : List He.DefD) : PySem.W.Hook where
  α := AlM
  obs := fun s => obsN n bs fn s.heap.get?
  val := fun _ => valM fn
  says := fun _ h => ∃ K : PySem.W.Frag, K.In h ∧ SaysM bs fn K
  of := fun _ _ e => ⟨_, qAqs, e⟩
  keeps := fun _ _ _ ⟨K, hK, c⟩ k => ⟨K, PySem.W.Frag.In.keeps hK k, c⟩
theorem qApp {n : Nat} {bs : List Fct} {fn : List He.DefD} {g : Addr → Option Obj} {s : Shared} (h : ∀ a, g a = s.heap.get? a) : obsN n bs fn g = (qAre n bs fn).obs s := by
  rw [show g = s.heap.get? from funext h]
  rfl
end MR

set_option Elab.async false
set_option linter.all false
set_option maxRecDepth 100000
set_option maxHeartbeats 4000000
set_option exponentiation.threshold 20000
namespace MR
open PySem PySem.Spec PyProof.Rows L2
def top (i : Nat) : Stmt := PySem.Challenge.pw_momentrows_k22_whole_steps_move_along.main.body.getD i (.Pass ⟨0, 0, 0, 0⟩)
abbrev qB7 : Stmt := top 11
abbrev qBn : Stmt := top 12
abbrev qB6 : Stmt := inClass (top 13) 0
abbrev qCm : Stmt := inClass (top 13) 7
abbrev qJ3 : Stmt := inClass (top 13) 9
abbrev qCp : Stmt := inClass (top 13) 11
abbrev qB8 : Stmt := inClass (top 13) 12
abbrev qCo : Stmt := inClass (top 13) 19
abbrev qC8 : Stmt := inClass (top 13) 1
abbrev qLu : Stmt := inClass (top 13) 2
abbrev qDc : Stmt := inClass (top 13) 3
abbrev qC5 : Stmt := inClass (top 13) 5
abbrev qLo : Stmt := inClass (top 13) 6
abbrev qCn : Stmt := top 19
abbrev qC9 : Stmt := top 20
abbrev qB5 : Stmt := inClass (top 13) 21
abbrev qCe : Stmt := top 33
abbrev qB9 : Stmt := inClass (top 13) 8
abbrev qCc : Stmt := top 36
abbrev qB4 : Stmt := top 37
abbrev qFe : Stmt := top 48
abbrev qCd : Stmt := top 49
abbrev qCq : Stmt := top 50
abbrev qBm : Stmt := top 51
abbrev qBg : Stmt := top 52
abbrev qEs : Stmt := top 53
abbrev qBi : Stmt := top 54
abbrev qCt : Stmt := top 55
abbrev qB3 : Stmt := inClass (top 46) 0
abbrev qDb : Stmt := top 56
abbrev qEr : Stmt := top 57
abbrev qBo : Stmt := inClass (top 46) 5
abbrev qA7 : Stmt := inClass (top 46) 6
abbrev qBd : Stmt := top 27
abbrev qA5 : Stmt := top 26
abbrev qFv : Stmt := top 28
abbrev qBr : Stmt := top 29
abbrev qCa : Stmt := inClass (top 22) 0
abbrev qCw : Stmt := inClass (top 22) 5
abbrev qC4 : Stmt := inClass (top 22) 7
abbrev qAw : Stmt := inClass (top 46) 7
abbrev qDf : Stmt := top 34
abbrev qAu : Stmt := top 35
abbrev qDv : Stmt := top 39
abbrev qCb : Stmt := top 40
abbrev qB2 : Stmt := top 42
abbrev qFt : Stmt := top 41
abbrev qDu : Stmt := top 43
abbrev qHo : Stmt := top 44
abbrev qDe : Stmt := top 58
abbrev qC7 : Stmt := top 59
abbrev qDa : Stmt := top 60
abbrev qBh : Stmt := top 61
abbrev qK2 : Stmt := top 62
theorem qUw : FnScope ["value"] ["value"] (defScope qB7) := ⟨rfl, rfl, rfl, by decide +kernel, rfl, by decide +kernel, by decide +kernel⟩
theorem qHk : FnScope ["one", "other"] ["one", "other"] (defScope qBn) := ⟨rfl, rfl, rfl, by decide +kernel, rfl, by decide +kernel, by decide +kernel⟩
theorem qI1 : FnScope ["self", "top", "bottom", "divisor"] ["self", "top", "bottom"] (defScope qB6) := ⟨rfl, rfl, rfl, by decide +kernel, rfl, by decide +kernel, by decide +kernel⟩
theorem qZz : FnScope ["self", "other"] ["self", "other"] (defScope qCm) := ⟨rfl, rfl, rfl, by decide +kernel, rfl, by decide +kernel, by decide +kernel⟩
theorem qX9 : FnScope ["self", "other"] ["self", "other"] (defScope qCp) := ⟨rfl, rfl, rfl, by decide +kernel, rfl, by decide +kernel, by decide +kernel⟩
theorem qU8 : FnScope ["self", "other"] ["self", "other"] (defScope qB8) := ⟨rfl, rfl, rfl, by decide +kernel, rfl, by decide +kernel, by decide +kernel⟩
theorem qZe : FnScope ["self"] ["self"] (defScope qCo) := ⟨rfl, rfl, rfl, by decide +kernel, rfl, by decide +kernel, by decide +kernel⟩
theorem qAbn : FnScope ["self", "other"] ["self", "other"] (defScope qC8) := ⟨rfl, rfl, rfl, by decide +kernel, rfl, by decide +kernel, by decide +kernel⟩
theorem qAc3 : FnScope ["self", "other"] ["self", "other"] (defScope qDc) := ⟨rfl, rfl, rfl, by decide +kernel, rfl, by decide +kernel, by decide +kernel⟩
theorem qAcg : FnScope ["self", "other"] ["self", "other"] (defScope qC5) := ⟨rfl, rfl, rfl, by decide +kernel, rfl, by decide +kernel, by decide +kernel⟩
theorem qZc : FnScope ["value"] ["value"] (defScope qCn) := ⟨rfl, rfl, rfl, by decide +kernel, rfl, by decide +kernel, by decide +kernel⟩
theorem qAb4 : FnScope ["value", "word"] ["value", "word"] (defScope qC9) := ⟨rfl, rfl, rfl, by decide +kernel, rfl, by decide +kernel, by decide +kernel⟩
theorem qN8 : FnScope ["self", "other", "divisor"] ["self", "other"] (defScope qB5) := ⟨rfl, rfl, rfl, by decide +kernel, rfl, by decide +kernel, by decide +kernel⟩
theorem qF2 : FnScope ["row", "limit", "index", "item"] ["row", "limit"] (defScope qCe) := ⟨rfl, rfl, rfl, by decide +kernel, rfl, by decide +kernel, by decide +kernel⟩
theorem qVd : FnScope ["self", "other"] ["self", "other"] (defScope qB9) := ⟨rfl, rfl, rfl, by decide +kernel, rfl, by decide +kernel, by decide +kernel⟩
theorem qD4 : FnScope ["row", "by", "numbers", "step", "result", "k"] ["row", "by"] (defScope qCc) := ⟨rfl, rfl, rfl, by decide +kernel, rfl, by decide +kernel, by decide +kernel⟩
theorem qDm : FnScope ["row", "by", "numbers", "times", "power", "result", "m"] ["row", "by"] (defScope qB4) := ⟨rfl, rfl, rfl, by decide +kernel, rfl, by decide +kernel, by decide +kernel⟩
theorem qJq : FnScope ["_law_script", "_law_cell"] ["_law_script"] (defScope qCd) := ⟨rfl, rfl, rfl, by decide +kernel, rfl, by decide +kernel, by decide +kernel⟩
theorem qE6 : FnScope ["_law_feed_here", "_law_size", "_law_number_here", "_law_cell", "_law_digit"] ["_law_feed_here", "_law_size"] (defScope qCq) := ⟨rfl, rfl, rfl, by decide +kernel, rfl, by decide +kernel, by decide +kernel⟩
theorem qKz : FnScope ["_law_feed_here", "_law_size", "_law_sign"] ["_law_feed_here", "_law_size"] (defScope qBm) := ⟨rfl, rfl, rfl, by decide +kernel, rfl, by decide +kernel, by decide +kernel⟩
theorem qHl : FnScope ["_law_pairs", "_law_pair"] ["_law_pairs"] (defScope qBg) := ⟨rfl, rfl, rfl, by decide +kernel, rfl, by decide +kernel, by decide +kernel⟩
theorem qG4 : FnScope ["_law_feed_here", "_law_most", "_law_size", "_law_top", "_law_points", "_law_weights", "_law_k"] ["_law_feed_here", "_law_most"] (defScope qEs) := ⟨rfl, rfl, rfl, by decide +kernel, rfl, by decide +kernel, by decide +kernel⟩
theorem qBs : FnScope ["_law_lot_here", "_law_d", "_law_row", "_law_powers", "_law_bottom", "_law_k", "_law_j", "_law_power"] ["_law_lot_here", "_law_d"] (defScope qBi) := ⟨rfl, rfl, rfl, by decide +kernel, rfl, by decide +kernel, by decide +kernel⟩
theorem qCh : FnScope ["_law_feed_here", "_law_lot_here", "_law_shape", "_law_points", "_law_low", "_law_high", "_law_x"] ["_law_feed_here", "_law_lot_here"] (defScope qCt) := ⟨rfl, rfl, rfl, by decide +kernel, rfl, by decide +kernel, by decide +kernel⟩
theorem qU0 : FnScope ["self", "low", "high"] ["self", "low", "high"] (defScope qB3) := ⟨rfl, rfl, rfl, by decide +kernel, rfl, by decide +kernel, by decide +kernel⟩
theorem qAbu : FnScope ["_law_ends_here", "_law_bottom"] ["_law_ends_here", "_law_bottom"] (defScope qDb) := ⟨rfl, rfl, rfl, by decide +kernel, rfl, by decide +kernel, by decide +kernel⟩
theorem qJ1 : FnScope ["_law_feed_here", "_law_lot_here", "_law_d", "_law_row", "_law_choice", "_law_at", "_law_k"] ["_law_feed_here", "_law_lot_here", "_law_d"] (defScope qEr) := ⟨rfl, rfl, rfl, by decide +kernel, rfl, by decide +kernel, by decide +kernel⟩
theorem qFu : FnScope ["self", "by", "step", "low", "high"] ["self", "by"] (defScope qBo) := ⟨rfl, rfl, rfl, by decide +kernel, rfl, by decide +kernel, by decide +kernel⟩
theorem qD3 : FnScope ["self", "by", "times", "low", "high"] ["self", "by"] (defScope qA7) := ⟨rfl, rfl, rfl, by decide +kernel, rfl, by decide +kernel, by decide +kernel⟩
theorem qGb : FnScope ["row", "size"] ["row"] (defScope qBd) := ⟨rfl, rfl, rfl, by decide +kernel, rfl, by decide +kernel, by decide +kernel⟩
theorem qNo : FnScope ["value"] ["value"] (defScope qA5) := ⟨rfl, rfl, rfl, by decide +kernel, rfl, by decide +kernel, by decide +kernel⟩
theorem qNn : FnScope ["one", "other", "row", "k", "total"] ["one", "other"] (defScope qFv) := ⟨rfl, rfl, rfl, by decide +kernel, rfl, by decide +kernel, by decide +kernel⟩
theorem qDl : FnScope ["one", "other", "row", "i", "a", "_", "j", "b"] ["one", "other"] (defScope qBr) := ⟨rfl, rfl, rfl, by decide +kernel, rfl, by decide +kernel, by decide +kernel⟩
theorem qF3 : FnScope ["self", "coefficients", "item", "kept"] ["self", "coefficients"] (defScope qCa) := ⟨rfl, rfl, rfl, by decide +kernel, rfl, by decide +kernel, by decide +kernel⟩
theorem qIu : FnScope ["self", "other", "row", "c"] ["self", "other"] (defScope qCw) := ⟨rfl, rfl, rfl, by decide +kernel, rfl, by decide +kernel, by decide +kernel⟩
theorem qSb : FnScope ["self", "other", "row"] ["self", "other"] (defScope qC4) := ⟨rfl, rfl, rfl, by decide +kernel, rfl, by decide +kernel, by decide +kernel⟩
theorem qGf : FnScope ["self", "found"] ["self"] (defScope qAw) := ⟨rfl, rfl, rfl, by decide +kernel, rfl, by decide +kernel, by decide +kernel⟩
theorem qGu : FnScope ["numbers", "p", "total", "k", "c"] ["numbers", "p"] (defScope qDf) := ⟨rfl, rfl, rfl, by decide +kernel, rfl, by decide +kernel, by decide +kernel⟩
theorem qDp : FnScope ["numbers", "p", "size", "k"] ["numbers", "p"] (defScope qAu) := ⟨rfl, rfl, rfl, by decide +kernel, rfl, by decide +kernel, by decide +kernel⟩
theorem qGt : FnScope ["numbers", "previous", "before", "x", "following", "p", "worth"] ["numbers", "previous", "before"] (defScope qDv) := ⟨rfl, rfl, rfl, by decide +kernel, rfl, by decide +kernel, by decide +kernel⟩
theorem qBc : FnScope ["numbers", "place", "found", "last", "inside", "factors", "shifted", "k", "u", "which", "previous", "before", "p", "worth"] ["numbers", "place"] (defScope qCb) := ⟨rfl, rfl, rfl, by decide +kernel, rfl, by decide +kernel, by decide +kernel⟩
theorem qNv : FnScope ["found", "step"] ["found"] (defScope qB2) := ⟨rfl, rfl, rfl, by decide +kernel, rfl, by decide +kernel, by decide +kernel⟩
theorem qAli : FnScope ["row", "place"] ["row", "place"] (defScope qFt) := ⟨rfl, rfl, rfl, by decide +kernel, rfl, by decide +kernel, by decide +kernel⟩
theorem qT9 : FnScope ["found", "step"] ["found"] (defScope qDu) := ⟨rfl, rfl, rfl, by decide +kernel, rfl, by decide +kernel, by decide +kernel⟩
theorem qApf : FnScope ["row", "place"] ["row", "place"] (defScope qHo) := ⟨rfl, rfl, rfl, by decide +kernel, rfl, by decide +kernel, by decide +kernel⟩
theorem qIy : FnScope ["_law_p", "_law_x", "_law_total", "_law_c"] ["_law_p", "_law_x"] (defScope qDe) := ⟨rfl, rfl, rfl, by decide +kernel, rfl, by decide +kernel, by decide +kernel⟩
theorem qLl : FnScope ["_law_value_here", "_law_by", "_law_many", "_law_k"] ["_law_value_here", "_law_by", "_law_many"] (defScope qC7) := ⟨rfl, rfl, rfl, by decide +kernel, rfl, by decide +kernel, by decide +kernel⟩
theorem qL1 : FnScope ["_law_old", "_law_new", "_law_by", "_law_k", "_law_x"] ["_law_old", "_law_new", "_law_by"] (defScope qDa) := ⟨rfl, rfl, rfl, by decide +kernel, rfl, by decide +kernel, by decide +kernel⟩
theorem qD9 : FnScope ["_law_old", "_law_new", "_law_by", "_law_k", "_law_x", "_law_due"] ["_law_old", "_law_new", "_law_by"] (defScope qBh) := ⟨rfl, rfl, rfl, by decide +kernel, rfl, by decide +kernel, by decide +kernel⟩
theorem qLa : FnScope ["_law_script", "_law_feed_here", "_law_k", "_law_lot_here", "_law_ends_here", "_law_place_here", "_law_row", "_law_old", "_law_by"] ["_law_script"] (defScope qK2) := ⟨rfl, rfl, rfl, by decide +kernel, rfl, by decide +kernel, by decide +kernel⟩
def qMs : He.DefD := ⟨("is_integer", none), "is_integer", "is_integer", defArgs qB7, defBody qB7, defScope qB7, [], []⟩
def qK3 : He.DefD := ⟨("common_part", none), "common_part", "common_part", defArgs qBn, defBody qBn, defScope qBn, [], []⟩
def qNx : He.DefD := ⟨("Ratio", some "__init__"), "__init__", "Ratio.__init__", defArgs qB6, defBody qB6, defScope qB6, [.int 1], []⟩
def qQb : He.DefD := ⟨("Ratio", some "__add__"), "__add__", "Ratio.__add__", defArgs qCm, defBody qCm, defScope qCm, [], []⟩
def qYw : He.DefD := ⟨("Ratio", some "__sub__"), "__sub__", "Ratio.__sub__", defArgs qJ3, defBody qJ3, defScope qJ3, [], []⟩
def qP8 : He.DefD := ⟨("Ratio", some "__mul__"), "__mul__", "Ratio.__mul__", defArgs qCp, defBody qCp, defScope qCp, [], []⟩
def qMv : He.DefD := ⟨("Ratio", some "__rmul__"), "__rmul__", "Ratio.__rmul__", defArgs qB8, defBody qB8, defScope qB8, [], []⟩
def qPn : He.DefD := ⟨("Ratio", some "__neg__"), "__neg__", "Ratio.__neg__", defArgs qCo, defBody qCo, defScope qCo, [], []⟩
def qR2 : He.DefD := ⟨("Ratio", some "__eq__"), "__eq__", "Ratio.__eq__", defArgs qC8, defBody qC8, defScope qC8, [], []⟩
def qAb3 : He.DefD := ⟨("Ratio", some "__ne__"), "__ne__", "Ratio.__ne__", defArgs qLu, defBody qLu, defScope qLu, [], []⟩
def qRz : He.DefD := ⟨("Ratio", some "__lt__"), "__lt__", "Ratio.__lt__", defArgs qDc, defBody qDc, defScope qDc, [], []⟩
def qSn : He.DefD := ⟨("Ratio", some "__gt__"), "__gt__", "Ratio.__gt__", defArgs qC5, defBody qC5, defScope qC5, [], []⟩
def qAa6 : He.DefD := ⟨("Ratio", some "__ge__"), "__ge__", "Ratio.__ge__", defArgs qLo, defBody qLo, defScope qLo, [], []⟩
def qPr : He.DefD := ⟨("is_number", none), "is_number", "is_number", defArgs qCn, defBody qCn, defScope qCn, [], []⟩
def qR1 : He.DefD := ⟨("as_ratio", none), "as_ratio", "as_ratio", defArgs qC9, defBody qC9, defScope qC9, [], []⟩
def qMj : He.DefD := ⟨("Ratio", some "over"), "over", "Ratio.over", defArgs qB5, defBody qB5, defScope qB5, [], []⟩
def qPu : He.DefD := ⟨("check_row", none), "check_row", "check_row", defArgs qCe, defBody qCe, defScope qCe, [.int 13], []⟩
def qM0 : He.DefD := ⟨("Ratio", some "__radd__"), "__radd__", "Ratio.__radd__", defArgs qB9, defBody qB9, defScope qB9, [], []⟩
def qP2 : He.DefD := ⟨("moved_row", none), "moved_row", "moved_row", defArgs qCc, defBody qCc, defScope qCc, [], []⟩
def qN0 : He.DefD := ⟨("scaled_row", none), "scaled_row", "scaled_row", defArgs qB4, defBody qB4, defScope qB4, [], []⟩
def qNt : He.DefD := ⟨("_law_is_integer", none), "_law_is_integer", "_law_is_integer", defArgs qFe, defBody qFe, defScope qFe, [], []⟩
def qPv : He.DefD := ⟨("_law_feed", none), "_law_feed", "_law_feed", defArgs qCd, defBody qCd, defScope qCd, [], []⟩
def qP3 : He.DefD := ⟨("_law_take", none), "_law_take", "_law_take", defArgs qCq, defBody qCq, defScope qCq, [], []⟩
def qK8 : He.DefD := ⟨("_law_number", none), "_law_number", "_law_number", defArgs qBm, defBody qBm, defScope qBm, [], []⟩
def qK9 : He.DefD := ⟨("_law_ratios", none), "_law_ratios", "_law_ratios", defArgs qBg, defBody qBg, defScope qBg, [], []⟩
def qZr : He.DefD := ⟨("_law_lot", none), "_law_lot", "_law_lot", defArgs qEs, defBody qEs, defScope qEs, [], []⟩
def qNs : He.DefD := ⟨("_law_numbers", none), "_law_numbers", "_law_numbers", defArgs qBi, defBody qBi, defScope qBi, [], []⟩
def qUc : He.DefD := ⟨("_law_ends", none), "_law_ends", "_law_ends", defArgs qCt, defBody qCt, defScope qCt, [], []⟩
def qNr : He.DefD := ⟨("Place", some "__init__"), "__init__", "Place.__init__", defArgs qB3, defBody qB3, defScope qB3, [.non, .non], []⟩
def qRm : He.DefD := ⟨("_law_place", none), "_law_place", "_law_place", defArgs qDb, defBody qDb, defScope qDb, [], []⟩
def qZv : He.DefD := ⟨("_law_any", none), "_law_any", "_law_any", defArgs qEr, defBody qEr, defScope qEr, [], []⟩
def qK7 : He.DefD := ⟨("Place", some "moved"), "moved", "Place.moved", defArgs qBo, defBody qBo, defScope qBo, [], []⟩
def qHf : He.DefD := ⟨("Place", some "stretched"), "stretched", "Place.stretched", defArgs qA7, defBody qA7, defScope qA7, [], []⟩
def qI6 : He.DefD := ⟨("without_zeros", none), "without_zeros", "without_zeros", defArgs qBd, defBody qBd, defScope qBd, [], []⟩
def qG8 : He.DefD := ⟨("coefficients_of", none), "coefficients_of", "coefficients_of", defArgs qA5, defBody qA5, defScope qA5, [], []⟩
def qAdg : He.DefD := ⟨("added", none), "added", "added", defArgs qFv, defBody qFv, defScope qFv, [], []⟩
def qM4 : He.DefD := ⟨("multiplied", none), "multiplied", "multiplied", defArgs qBr, defBody qBr, defScope qBr, [], []⟩
def qQf : He.DefD := ⟨("Poly", some "__init__"), "__init__", "Poly.__init__", defArgs qCa, defBody qCa, defScope qCa, [], []⟩
def qSf : He.DefD := ⟨("Poly", some "__sub__"), "__sub__", "Poly.__sub__", defArgs qCw, defBody qCw, defScope qCw, [], []⟩
def qS0 : He.DefD := ⟨("Poly", some "__mul__"), "__mul__", "Poly.__mul__", defArgs qC4, defBody qC4, defScope qC4, [], []⟩
def qGe : He.DefD := ⟨("Place", some "all_factors"), "all_factors", "Place.all_factors", defArgs qAw, defBody qAw, defScope qAw, [], []⟩
def qRq : He.DefD := ⟨("mean_of", none), "mean_of", "mean_of", defArgs qDf, defBody qDf, defScope qDf, [], []⟩
def qGv : He.DefD := ⟨("shifted_numbers", none), "shifted_numbers", "shifted_numbers", defArgs qAu, defBody qAu, defScope qAu, [], []⟩
def qUd : He.DefD := ⟨("step_of", none), "step_of", "step_of", defArgs qDv, defBody qDv, defScope qDv, [], []⟩
def qPy : He.DefD := ⟨("step_list", none), "step_list", "step_list", defArgs qCb, defBody qCb, defScope qCb, [], []⟩
def qMn : He.DefD := ⟨("first_stop", none), "first_stop", "first_stop", defArgs qB2, defBody qB2, defScope qB2, [], []⟩
def qAdy : He.DefD := ⟨("steps", none), "steps", "steps", defArgs qFt, defBody qFt, defScope qFt, [], []⟩
def qUo : He.DefD := ⟨("kind_of", none), "kind_of", "kind_of", defArgs qDu, defBody qDu, defScope qDu, [], []⟩
def qAis : He.DefD := ⟨("kind", none), "kind", "kind", defArgs qHo, defBody qHo, defScope qHo, [], []⟩
def qRl : He.DefD := ⟨("_law_value", none), "_law_value", "_law_value", defArgs qDe, defBody qDe, defScope qDe, [], []⟩
def qS2 : He.DefD := ⟨("_law_times", none), "_law_times", "_law_times", defArgs qC7, defBody qC7, defScope qC7, [], []⟩
def qRr : He.DefD := ⟨("_law_moved", none), "_law_moved", "_law_moved", defArgs qDa, defBody qDa, defScope qDa, [], []⟩
def qJt : He.DefD := ⟨("_law_stretched", none), "_law_stretched", "_law_stretched", defArgs qBh, defBody qBh, defScope qBh, [], []⟩
def qAnr : He.DefD := ⟨("law", none), "law", "law", defArgs qK2, defBody qK2, defScope qK2, [], []⟩
def fn0 : List He.DefD := [qMs, qK3, qNx, qQb, qYw, qP8, qMv, qPn, qR2, qAb3, qRz, qSn, qAa6, qPr, qR1, qMj, qPu, qM0, qP2, qN0, qNt, qPv, qP3, qK8, qK9, qZr, qNs, qUc, qNr, qRm, qZv, qK7, qHf, qI6, qG8, qAdg, qM4, qQf, qSf, qS0, qGe, qRq, qGv, qUd, qPy, qMn, qAdy, qUo, qAis, qRl, qS2, qRr, qJt, qAnr]
def fnL : List He.DefD := fn0
abbrev csL : List Str := ["Ratio", "Place", "Poly"]
def bs0 : List Fct := [(fun K => (He.Fa.free "isinstance").ok K),
  (fun K => (He.Fa.free "int").ok K),
  (fun K => (He.Fa.free "bool").ok K),
  (fun K => (He.Fa.free "abs").ok K),
  (fun K => (He.Fa.free "list").ok K),
  (fun K => (He.Fa.free "tuple").ok K),
  (fun K => (He.Fa.free "len").ok K),
  (fun K => (He.Fa.free "enumerate").ok K),
  (fun K => (He.Fa.free "range").ok K),
  (fun K => (He.Fa.free "max").ok K),
  (fun K => (He.Fa.free "sum").ok K),
  (fun K => (He.Fa.free "min").ok K),
  (fun K => (He.Fa.glo "is_integer").ok K),
  (fun K => (He.Fa.glo "common_part").ok K),
  (fun K => (He.Fa.glo "NoRatio").ok K),
  (fun K => (He.Fa.glo "Ratio").ok K),
  (fun K => (He.Fa.glo "is_number").ok K),
  (fun K => (He.Fa.glo "NoNumber").ok K),
  (fun K => (He.Fa.glo "as_ratio").ok K),
  (fun K => (He.Fa.glo "NoRow").ok K),
  (fun K => (He.Fa.glo "check_row").ok K),
  (fun K => (He.Fa.glo "moved_row").ok K),
  (fun K => (He.Fa.glo "scaled_row").ok K),
  (fun K => (He.Fa.glo "_law_is_integer").ok K),
  (fun K => (He.Fa.glo "_law_feed").ok K),
  (fun K => (He.Fa.glo "_law_take").ok K),
  (fun K => (He.Fa.glo "_law_number").ok K),
  (fun K => (He.Fa.glo "_law_ratios").ok K),
  (fun K => (He.Fa.glo "_law_lot").ok K),
  (fun K => (He.Fa.glo "_law_numbers").ok K),
  (fun K => (He.Fa.glo "_law_ends").ok K),
  (fun K => (He.Fa.glo "NoPlace").ok K),
  (fun K => (He.Fa.glo "Place").ok K),
  (fun K => (He.Fa.glo "_law_place").ok K),
  (fun K => (He.Fa.glo "_law_any").ok K),
  (fun K => (He.Fa.glo "without_zeros").ok K),
  (fun K => (He.Fa.glo "Poly").ok K),
  (fun K => (He.Fa.glo "coefficients_of").ok K),
  (fun K => (He.Fa.glo "added").ok K),
  (fun K => (He.Fa.glo "multiplied").ok K),
  (fun K => (He.Fa.glo "NoPoly").ok K),
  (fun K => (He.Fa.glo "mean_of").ok K),
  (fun K => (He.Fa.glo "shifted_numbers").ok K),
  (fun K => (He.Fa.glo "step_of").ok K),
  (fun K => (He.Fa.glo "step_list").ok K),
  (fun K => (He.Fa.glo "first_stop").ok K),
  (fun K => (He.Fa.glo "steps").ok K),
  (fun K => (He.Fa.glo "kind_of").ok K),
  (fun K => (He.Fa.glo "kind").ok K),
  (fun K => (He.Fa.glo "_law_value").ok K),
  (fun K => (He.Fa.glo "_law_times").ok K),
  (fun K => (He.Fa.glo "_law_moved").ok K),
  (fun K => (He.Fa.glo "_law_stretched").ok K),
  (fun K => (He.Fa.glo "law").ok K),
  (supF PySem.Challenge.pw_momentrows_k22_whole_steps_move_along "NoRatio" "word"),
  (supF PySem.Challenge.pw_momentrows_k22_whole_steps_move_along "NoNumber" "word"),
  (supF PySem.Challenge.pw_momentrows_k22_whole_steps_move_along "NoRow" "index"),
  (supF PySem.Challenge.pw_momentrows_k22_whole_steps_move_along "NoPlace" "part"),
  (ex0F "NoPoly"),
  (ktF csL)]
def bs1 : List Fct := [seeF,
  (opF "Ratio" "add"),
  (opF "Ratio" "mul"),
  (opF "Poly" "mul"),
  (opF "Poly" "sub"),
  (op2F "Poly" "Ratio" "mul"),
  (op2F "Poly" "Ratio" "sub"),
  (fun K => (He.Fa.mkr "Ratio").ok K),
  (fun K => (He.Fa.meth "Ratio" "__add__").ok K),
  (fun K => (He.Fa.meth "Ratio" "__sub__").ok K),
  (fun K => (He.Fa.meth "Ratio" "__mul__").ok K),
  (fun K => (He.Fa.meth "Ratio" "__rmul__").ok K),
  (fun K => (He.Fa.meth "Ratio" "__neg__").ok K),
  (fun K => (He.Fa.meth "Ratio" "__eq__").ok K),
  (fun K => (He.Fa.meth "Ratio" "__ne__").ok K),
  (fun K => (He.Fa.meth "Ratio" "__lt__").ok K),
  (fun K => (He.Fa.meth "Ratio" "__gt__").ok K),
  (fun K => (He.Fa.meth "Ratio" "__ge__").ok K),
  (fun K => (He.Fa.meth "Ratio" "over").ok K),
  (fun K => (He.Fa.meth "Ratio" "__radd__").ok K),
  (fun K => (He.Fa.mkr "Place").ok K),
  (fun K => (He.Fa.meth "Place" "moved").ok K),
  (fun K => (He.Fa.meth "Place" "stretched").ok K),
  (fun K => (He.Fa.mkr "Poly").ok K),
  (fun K => (He.Fa.meth "Poly" "__sub__").ok K),
  (fun K => (He.Fa.meth "Poly" "__mul__").ok K),
  (fun K => (He.Fa.meth "Place" "all_factors").ok K)]
def bsL : List Fct := bs0 ++ (bs1)
structure Bd (K : PySem.W.Frag) (mg : Str → Option Value) : Prop where
  st : ∃ h : Heap, K.In h ∧ h.Ns mainGlobals mg
  says : SaysM bsL fnL K
section
variable {K : PySem.W.Frag} {mg : Str → Option Value}
theorem qBa (B : Bd K mg) : mg "isinstance" = none := let ⟨_, X, G⟩ := B.st; He.free_ok X G (B.says.fact 0 rfl)
theorem qK5 (B : Bd K mg) : mg "int" = none := let ⟨_, X, G⟩ := B.st; He.free_ok X G (B.says.fact 1 rfl)
theorem qAoe (B : Bd K mg) : mg "bool" = none := let ⟨_, X, G⟩ := B.st; He.free_ok X G (B.says.fact 2 rfl)
theorem qAht (B : Bd K mg) : mg "abs" = none := let ⟨_, X, G⟩ := B.st; He.free_ok X G (B.says.fact 3 rfl)
theorem qXm (B : Bd K mg) : mg "list" = none := let ⟨_, X, G⟩ := B.st; He.free_ok X G (B.says.fact 4 rfl)
theorem qWk (B : Bd K mg) : mg "tuple" = none := let ⟨_, X, G⟩ := B.st; He.free_ok X G (B.says.fact 5 rfl)
theorem qDq (B : Bd K mg) : mg "len" = none := let ⟨_, X, G⟩ := B.st; He.free_ok X G (B.says.fact 6 rfl)
theorem qF4 (B : Bd K mg) : mg "enumerate" = none := let ⟨_, X, G⟩ := B.st; He.free_ok X G (B.says.fact 7 rfl)
theorem qDn (B : Bd K mg) : mg "range" = none := let ⟨_, X, G⟩ := B.st; He.free_ok X G (B.says.fact 8 rfl)
theorem qAdi (B : Bd K mg) : mg "max" = none := let ⟨_, X, G⟩ := B.st; He.free_ok X G (B.says.fact 9 rfl)
theorem qArn (B : Bd K mg) : mg "sum" = none := let ⟨_, X, G⟩ := B.st; He.free_ok X G (B.says.fact 10 rfl)
theorem qArm (B : Bd K mg) : mg "min" = none := let ⟨_, X, G⟩ := B.st; He.free_ok X G (B.says.fact 11 rfl)
theorem qVi (B : Bd K mg) : mg "is_integer" = some (.ref (He.ga K "is_integer")) := let ⟨_, X, G⟩ := B.st; He.glo_ok X G (B.says.fact 12 rfl)
theorem qTq (B : Bd K mg) : mg "common_part" = some (.ref (He.ga K "common_part")) := let ⟨_, X, G⟩ := B.st; He.glo_ok X G (B.says.fact 13 rfl)
theorem qKf (B : Bd K mg) : mg "NoRatio" = some (.ref (He.ga K "NoRatio")) := let ⟨_, X, G⟩ := B.st; He.glo_ok X G (B.says.fact 14 rfl)
theorem qFg (B : Bd K mg) : mg "Ratio" = some (.ref (He.ga K "Ratio")) := let ⟨_, X, G⟩ := B.st; He.glo_ok X G (B.says.fact 15 rfl)
theorem qXs (B : Bd K mg) : mg "is_number" = some (.ref (He.ga K "is_number")) := let ⟨_, X, G⟩ := B.st; He.glo_ok X G (B.says.fact 16 rfl)
theorem qSk (B : Bd K mg) : mg "NoNumber" = some (.ref (He.ga K "NoNumber")) := let ⟨_, X, G⟩ := B.st; He.glo_ok X G (B.says.fact 17 rfl)
theorem qAbg (B : Bd K mg) : mg "as_ratio" = some (.ref (He.ga K "as_ratio")) := let ⟨_, X, G⟩ := B.st; He.glo_ok X G (B.says.fact 18 rfl)
theorem qAex (B : Bd K mg) : mg "NoRow" = some (.ref (He.ga K "NoRow")) := let ⟨_, X, G⟩ := B.st; He.glo_ok X G (B.says.fact 19 rfl)
theorem qZi (B : Bd K mg) : mg "check_row" = some (.ref (He.ga K "check_row")) := let ⟨_, X, G⟩ := B.st; He.glo_ok X G (B.says.fact 20 rfl)
theorem qAah (B : Bd K mg) : mg "moved_row" = some (.ref (He.ga K "moved_row")) := let ⟨_, X, G⟩ := B.st; He.glo_ok X G (B.says.fact 21 rfl)
theorem qVm (B : Bd K mg) : mg "scaled_row" = some (.ref (He.ga K "scaled_row")) := let ⟨_, X, G⟩ := B.st; He.glo_ok X G (B.says.fact 22 rfl)
theorem qX5 (B : Bd K mg) : mg "_law_feed" = some (.ref (He.ga K "_law_feed")) := let ⟨_, X, G⟩ := B.st; He.glo_ok X G (B.says.fact 24 rfl)
theorem qYz (B : Bd K mg) : mg "_law_take" = some (.ref (He.ga K "_law_take")) := let ⟨_, X, G⟩ := B.st; He.glo_ok X G (B.says.fact 25 rfl)
theorem qTg (B : Bd K mg) : mg "_law_number" = some (.ref (He.ga K "_law_number")) := let ⟨_, X, G⟩ := B.st; He.glo_ok X G (B.says.fact 26 rfl)
theorem qT2 (B : Bd K mg) : mg "_law_ratios" = some (.ref (He.ga K "_law_ratios")) := let ⟨_, X, G⟩ := B.st; He.glo_ok X G (B.says.fact 27 rfl)
theorem qAan (B : Bd K mg) : mg "_law_lot" = some (.ref (He.ga K "_law_lot")) := let ⟨_, X, G⟩ := B.st; He.glo_ok X G (B.says.fact 28 rfl)
theorem qS8 (B : Bd K mg) : mg "_law_numbers" = some (.ref (He.ga K "_law_numbers")) := let ⟨_, X, G⟩ := B.st; He.glo_ok X G (B.says.fact 29 rfl)
theorem qZ9 (B : Bd K mg) : mg "_law_ends" = some (.ref (He.ga K "_law_ends")) := let ⟨_, X, G⟩ := B.st; He.glo_ok X G (B.says.fact 30 rfl)
theorem qO9 (B : Bd K mg) : mg "NoPlace" = some (.ref (He.ga K "NoPlace")) := let ⟨_, X, G⟩ := B.st; He.glo_ok X G (B.says.fact 31 rfl)
theorem qV0 (B : Bd K mg) : mg "Place" = some (.ref (He.ga K "Place")) := let ⟨_, X, G⟩ := B.st; He.glo_ok X G (B.says.fact 32 rfl)
theorem qWh (B : Bd K mg) : mg "_law_place" = some (.ref (He.ga K "_law_place")) := let ⟨_, X, G⟩ := B.st; He.glo_ok X G (B.says.fact 33 rfl)
theorem qAcd (B : Bd K mg) : mg "_law_any" = some (.ref (He.ga K "_law_any")) := let ⟨_, X, G⟩ := B.st; He.glo_ok X G (B.says.fact 34 rfl)
theorem qQv (B : Bd K mg) : mg "without_zeros" = some (.ref (He.ga K "without_zeros")) := let ⟨_, X, G⟩ := B.st; He.glo_ok X G (B.says.fact 35 rfl)
theorem qAgx (B : Bd K mg) : mg "Poly" = some (.ref (He.ga K "Poly")) := let ⟨_, X, G⟩ := B.st; He.glo_ok X G (B.says.fact 36 rfl)
theorem qM2 (B : Bd K mg) : mg "coefficients_of" = some (.ref (He.ga K "coefficients_of")) := let ⟨_, X, G⟩ := B.st; He.glo_ok X G (B.says.fact 37 rfl)
theorem qAlh (B : Bd K mg) : mg "added" = some (.ref (He.ga K "added")) := let ⟨_, X, G⟩ := B.st; He.glo_ok X G (B.says.fact 38 rfl)
theorem qVv (B : Bd K mg) : mg "multiplied" = some (.ref (He.ga K "multiplied")) := let ⟨_, X, G⟩ := B.st; He.glo_ok X G (B.says.fact 39 rfl)
theorem qZl (B : Bd K mg) : mg "NoPoly" = some (.ref (He.ga K "NoPoly")) := let ⟨_, X, G⟩ := B.st; He.glo_ok X G (B.says.fact 40 rfl)
theorem qAf5 (B : Bd K mg) : mg "mean_of" = some (.ref (He.ga K "mean_of")) := let ⟨_, X, G⟩ := B.st; He.glo_ok X G (B.says.fact 41 rfl)
theorem qNz (B : Bd K mg) : mg "shifted_numbers" = some (.ref (He.ga K "shifted_numbers")) := let ⟨_, X, G⟩ := B.st; He.glo_ok X G (B.says.fact 42 rfl)
theorem qAfd (B : Bd K mg) : mg "step_of" = some (.ref (He.ga K "step_of")) := let ⟨_, X, G⟩ := B.st; He.glo_ok X G (B.says.fact 43 rfl)
theorem qY7 (B : Bd K mg) : mg "step_list" = some (.ref (He.ga K "step_list")) := let ⟨_, X, G⟩ := B.st; He.glo_ok X G (B.says.fact 44 rfl)
theorem qXe (B : Bd K mg) : mg "first_stop" = some (.ref (He.ga K "first_stop")) := let ⟨_, X, G⟩ := B.st; He.glo_ok X G (B.says.fact 45 rfl)
theorem qAl4 (B : Bd K mg) : mg "steps" = some (.ref (He.ga K "steps")) := let ⟨_, X, G⟩ := B.st; He.glo_ok X G (B.says.fact 46 rfl)
theorem qAfi (B : Bd K mg) : mg "kind_of" = some (.ref (He.ga K "kind_of")) := let ⟨_, X, G⟩ := B.st; He.glo_ok X G (B.says.fact 47 rfl)
theorem qAp2 (B : Bd K mg) : mg "kind" = some (.ref (He.ga K "kind")) := let ⟨_, X, G⟩ := B.st; He.glo_ok X G (B.says.fact 48 rfl)
theorem qXc (B : Bd K mg) : mg "_law_value" = some (.ref (He.ga K "_law_value")) := let ⟨_, X, G⟩ := B.st; He.glo_ok X G (B.says.fact 49 rfl)
theorem qXd (B : Bd K mg) : mg "_law_times" = some (.ref (He.ga K "_law_times")) := let ⟨_, X, G⟩ := B.st; He.glo_ok X G (B.says.fact 50 rfl)
theorem qVf (B : Bd K mg) : mg "_law_moved" = some (.ref (He.ga K "_law_moved")) := let ⟨_, X, G⟩ := B.st; He.glo_ok X G (B.says.fact 51 rfl)
theorem qOw (B : Bd K mg) : mg "_law_stretched" = some (.ref (He.ga K "_law_stretched")) := let ⟨_, X, G⟩ := B.st; He.glo_ok X G (B.says.fact 52 rfl)
theorem qAro (B : Bd K mg) : mg "law" = some (.ref (He.ga K "law")) := let ⟨_, X, G⟩ := B.st; He.glo_ok X G (B.says.fact 53 rfl)
theorem qH8 (B : Bd K mg) : SupC PySem.Challenge.pw_momentrows_k22_whole_steps_move_along K (He.ga K "NoRatio") (He.ma K (He.ga K "NoRatio") "__init__") "word" := qW9 (B.says.fact 54 rfl)
theorem qP4 (B : Bd K mg) : SupC PySem.Challenge.pw_momentrows_k22_whole_steps_move_along K (He.ga K "NoNumber") (He.ma K (He.ga K "NoNumber") "__init__") "word" := qW9 (B.says.fact 55 rfl)
theorem qYl (B : Bd K mg) : SupC PySem.Challenge.pw_momentrows_k22_whole_steps_move_along K (He.ga K "NoRow") (He.ma K (He.ga K "NoRow") "__init__") "index" := qW9 (B.says.fact 56 rfl)
theorem qLj (B : Bd K mg) : SupC PySem.Challenge.pw_momentrows_k22_whole_steps_move_along K (He.ga K "NoPlace") (He.ma K (He.ga K "NoPlace") "__init__") "part" := qW9 (B.says.fact 57 rfl)
theorem qYc (B : Bd K mg) : Ex0 K (He.ga K "NoPoly") := qApc (B.says.fact 58 rfl)
theorem KFB (B : Bd K mg) : KF K csL := qAqr (B.says.fact 59 rfl)
theorem qOz (B : Bd K mg) : Op2C K (He.ga K "Poly") (He.ga K "Ratio") "mul" := qAiy (B.says.fact 65 rfl)
theorem qPj (B : Bd K mg) : Op2C K (He.ga K "Poly") (He.ga K "Ratio") "sub" := qAiy (B.says.fact 66 rfl)
theorem see (B : Bd K mg) : SeeC K := qAn3 (B.says.fact 60 rfl)
theorem qAt (B : Bd K mg) : OpC K (He.ga K "Ratio") "add" := qAd8 (B.says.fact 61 rfl)
theorem qBv (B : Bd K mg) : OpC K (He.ga K "Ratio") "mul" := qAd8 (B.says.fact 62 rfl)
theorem qG1 (B : Bd K mg) : OpC K (He.ga K "Poly") "mul" := qAd8 (B.says.fact 63 rfl)
theorem qRn (B : Bd K mg) : OpC K (He.ga K "Poly") "sub" := qAd8 (B.says.fact 64 rfl)
theorem RT (B : Bd K mg) : RTxt K := ⟨(KFB B).own _ (by decide), ((KFB B).fld "Ratio" (by decide) "top" (by decide)).na, ((KFB B).fld "Ratio" (by decide) "bottom" (by decide)).na⟩
end
section
variable {w : World} {K : PySem.W.Frag} {mg : Str → Option Value} {base : Heap}
theorem qWt (B : Bd K mg) : ∃ fd, FunD K "is_integer" "is_integer" (defArgs qB7) (defBody qB7) (defScope qB7) [] [] (He.ga K "is_integer") fd ∧ FnOk PySem.Challenge.pw_momentrows_k22_whole_steps_move_along w K mg base (CXX PySem.Challenge.pw_momentrows_k22_whole_steps_move_along w) 1 (He.ga K "is_integer") fd ["value"] (qEl K) := by
  obtain ⟨fd, F0⟩ := B.says.def_ 0 (d := qMs) rfl
  have F : FunD K "is_integer" "is_integer" (defArgs qB7) (defBody qB7) (defScope qB7) [] [] (He.ga K "is_integer") fd := F0
  refine ⟨fd, F, F.ok qUw (fun vs H Q E h => ?_) (fun cdv A outer s H vs Q E hr h => ⟨qP5 K, ?_, qSr vs H Q E h⟩)⟩
  · first | (obtain ⟨_, rfl, _⟩ := h; rfl) | (obtain ⟨_, _, rfl, _⟩ := h; rfl) | (obtain ⟨_, _, _, rfl, _⟩ := h; rfl) | (obtain ⟨_, _, _, _, rfl, _⟩ := h; rfl) | (obtain ⟨_, _, _, _, _, rfl, _⟩ := h; rfl) | (obtain ⟨_, _, _, _, _, _, rfl, _⟩ := h; rfl) | (obtain ⟨_, _, _, _, _, _, _, rfl, _⟩ := h; rfl) | (obtain ⟨_, _, _, _, _, _, _, _, rfl, _⟩ := h; rfl) | (obtain ⟨_, _, _, _, _, _, _, _, _, rfl, _⟩ := h; rfl) | (obtain ⟨_, _, _, _, _, _, _, _, _, _, rfl, _⟩ := h; rfl) | (obtain ⟨_, _, _, _, _, _, _, _, _, _, _, rfl, _⟩ := h; rfl) | (obtain ⟨_, _, _, _, _, _, _, _, _, _, _, _, rfl, _⟩ := h; rfl)
  · exact (pss_one (ps_ret (pe_and (pe_callB call_isi (by rfl) (qBa B) (by decide +kernel) (pa_cons (pv 0) (pa_cons (pe_bltn (v := .ty "int") (by rfl) (qK5 B) (by decide +kernel) rfl) pa_nil))) (pe_one (pe_not (pe_callB call_isi (by rfl) (qBa B) (by decide +kernel) (pa_cons (pv 0) (pa_cons (pe_bltn (v := .ty "bool") (by rfl) (qAoe B) (by decide +kernel) rfl) pa_nil))))))))
theorem qBx (B : Bd K mg) : qEo PySem.Challenge.pw_momentrows_k22_whole_steps_move_along w K mg base 1 "is_integer" [] (qEl K) := by
  obtain ⟨fd, F, G⟩ := qWt (w := w) (base := base) B
  exact ⟨_, fd, ["value"], [], qVi B, F.kp, G, F.bindsN fun _ _ _ _ _ _ us hl => match us, hl with | [_], _ => rfl, .nil⟩
theorem qTo (B : Bd K mg) : ∃ fd, FunD K "common_part" "common_part" (defArgs qBn) (defBody qBn) (defScope qBn) [] [] (He.ga K "common_part") fd ∧ FnOk PySem.Challenge.pw_momentrows_k22_whole_steps_move_along w K mg base (CXX PySem.Challenge.pw_momentrows_k22_whole_steps_move_along w) 1 (He.ga K "common_part") fd ["one", "other"] qAlo := by
  obtain ⟨fd, F0⟩ := B.says.def_ 1 (d := qK3) rfl
  have F : FunD K "common_part" "common_part" (defArgs qBn) (defBody qBn) (defScope qBn) [] [] (He.ga K "common_part") fd := F0
  refine ⟨fd, F, F.ok qHk (fun vs H Q E h => ?_) (fun cdv A outer s H vs Q E hr h => ⟨qNj K, ?_, qQp vs H Q E h⟩)⟩
  · first | (obtain ⟨_, rfl, _⟩ := h; rfl) | (obtain ⟨_, _, rfl, _⟩ := h; rfl) | (obtain ⟨_, _, _, rfl, _⟩ := h; rfl) | (obtain ⟨_, _, _, _, rfl, _⟩ := h; rfl) | (obtain ⟨_, _, _, _, _, rfl, _⟩ := h; rfl) | (obtain ⟨_, _, _, _, _, _, rfl, _⟩ := h; rfl) | (obtain ⟨_, _, _, _, _, _, _, rfl, _⟩ := h; rfl) | (obtain ⟨_, _, _, _, _, _, _, _, rfl, _⟩ := h; rfl) | (obtain ⟨_, _, _, _, _, _, _, _, _, rfl, _⟩ := h; rfl) | (obtain ⟨_, _, _, _, _, _, _, _, _, _, rfl, _⟩ := h; rfl) | (obtain ⟨_, _, _, _, _, _, _, _, _, _, _, rfl, _⟩ := h; rfl) | (obtain ⟨_, _, _, _, _, _, _, _, _, _, _, _, rfl, _⟩ := h; rfl)
  · exact (pss_cons (ps_par (by rfl) qHk.nd rfl rfl (by decide) rfl rfl (pa_cons (pe_callB call_abs (by rfl) (qAht B) (by decide +kernel) (pa_cons (pv 0) pa_nil)) (pa_cons (pe_callB call_abs (by rfl) (qAht B) (by decide +kernel) (pa_cons (pv 1) pa_nil)) pa_nil)) (by rfl))
  (pss_cons (ps_while (passes_of rfl) (pt_cmpR op_gt (pv 1) pe_int (nomark _)) (pss_one (ps_par (by rfl) qHk.nd rfl rfl (by decide) rfl rfl (pa_cons (pv 1) (pa_cons (pe_op op_modN (pv 0) (pv 1)) pa_nil)) (by rfl))))
  (pss_one (ps_ret (pv 0)))))
theorem qVa (B : Bd K mg) : qEo PySem.Challenge.pw_momentrows_k22_whole_steps_move_along w K mg base 1 "common_part" [] qAlo := by
  obtain ⟨fd, F, G⟩ := qTo (w := w) (base := base) B
  exact ⟨_, fd, ["one", "other"], [], qTq B, F.kp, G, F.bindsN fun _ _ _ _ _ _ us hl => match us, hl with | [_, _], _ => rfl, .nil⟩
theorem qAae (B : Bd K mg) : ∃ fd, FunD K "_law_feed" "_law_feed" (defArgs qCd) (defBody qCd) (defScope qCd) [] [] (He.ga K "_law_feed") fd ∧ FnOk PySem.Challenge.pw_momentrows_k22_whole_steps_move_along w K mg base (CXX PySem.Challenge.pw_momentrows_k22_whole_steps_move_along w) 1 (He.ga K "_law_feed") fd ["_law_script"] (qOd K) := by
  obtain ⟨fd, F0⟩ := B.says.def_ 21 (d := qPv) rfl
  have F : FunD K "_law_feed" "_law_feed" (defArgs qCd) (defBody qCd) (defScope qCd) [] [] (He.ga K "_law_feed") fd := F0
  refine ⟨fd, F, F.ok qJq (fun vs H Q E h => ?_) (fun cdv A outer s H vs Q E hr h => ⟨qSa K, ?_, qAf0 vs H Q E h⟩)⟩
  · first | (obtain ⟨_, rfl, _⟩ := h; rfl) | (obtain ⟨_, _, rfl, _⟩ := h; rfl) | (obtain ⟨_, _, _, rfl, _⟩ := h; rfl) | (obtain ⟨_, _, _, _, rfl, _⟩ := h; rfl) | (obtain ⟨_, _, _, _, _, rfl, _⟩ := h; rfl) | (obtain ⟨_, _, _, _, _, _, rfl, _⟩ := h; rfl) | (obtain ⟨_, _, _, _, _, _, _, rfl, _⟩ := h; rfl) | (obtain ⟨_, _, _, _, _, _, _, _, rfl, _⟩ := h; rfl) | (obtain ⟨_, _, _, _, _, _, _, _, _, rfl, _⟩ := h; rfl) | (obtain ⟨_, _, _, _, _, _, _, _, _, _, rfl, _⟩ := h; rfl) | (obtain ⟨_, _, _, _, _, _, _, _, _, _, _, rfl, _⟩ := h; rfl) | (obtain ⟨_, _, _, _, _, _, _, _, _, _, _, _, rfl, _⟩ := h; rfl)
  · exact (pss_one (ps_ret (pe_lst (pa_cons (pe_lc (own := [("_law_cell", 1)]) (g := (gName 1)) (tt := tYes) rfl qJq.nd (pi_list (pe_slice sl_list (pv 0) po_none (po_some pe_int))) (blkOk_by (N := ["_law_script", "_law_cell"]) (sc := defScope qCd) (own := [("_law_cell", 1)]) (by decide +kernel)) (fun _ _ _ _ _ => pg_name (i := 1) qJq.nd rfl (Or.inl rfl)) (fun _ _ _ _ _ => pts_nil) (fun _ _ _ _ _ => (pe_callB call_abs (by rfl) (qAht B) (by decide +kernel) (pa_cons (pe_callTy call_int1 (by rfl) (qK5 B) (by decide +kernel) (pa_cons (pv 1) pa_nil)) pa_nil)))) (pa_cons pe_int (pa_cons pe_int (pa_cons pe_int (pa_cons pe_int (pa_cons pe_int pa_nil)))))))))
theorem qAbz (B : Bd K mg) : qEo PySem.Challenge.pw_momentrows_k22_whole_steps_move_along w K mg base 1 "_law_feed" [] (qOd K) := by
  obtain ⟨fd, F, G⟩ := qAae (w := w) (base := base) B
  exact ⟨_, fd, ["_law_script"], [], qX5 B, F.kp, G, F.bindsN fun _ _ _ _ _ _ us hl => match us, hl with | [_], _ => rfl, .nil⟩
theorem qW2 (B : Bd K mg) : ∃ fd, FunD K "_law_numbers" "_law_numbers" (defArgs qBi) (defBody qBi) (defScope qBi) [] [] (He.ga K "_law_numbers") fd ∧ FnOk PySem.Challenge.pw_momentrows_k22_whole_steps_move_along w K mg base (CXX PySem.Challenge.pw_momentrows_k22_whole_steps_move_along w) 1 (He.ga K "_law_numbers") fd ["_law_lot_here", "_law_d"] (qNa K qJv) := by
  obtain ⟨fd, F0⟩ := B.says.def_ 26 (d := qNs) rfl
  have F : FunD K "_law_numbers" "_law_numbers" (defArgs qBi) (defBody qBi) (defScope qBi) [] [] (He.ga K "_law_numbers") fd := F0
  refine ⟨fd, F, F.ok qBs (fun vs H Q E h => ?_) (fun cdv A outer s H vs Q E hr h => ⟨qIk K csL, ?_, qVg (KFB B) (by decide) vs H Q E h⟩)⟩
  · exact qTe (cs := csL) _ _ _ _ h
  · exact (pss_cons (ps_set (i := 2) qBs.nd rfl (Or.inl rfl) (pe_lst pa_nil))
  (pss_cons (ps_set (i := 3) qBs.nd rfl (Or.inr rfl) (pe_callTy call_list_of (by rfl) (qXm B) (by decide +kernel) (pa_cons (pe_ix ix_list (pv 0) pe_int (fun _ _ => rfl)) pa_nil)))
  (pss_cons (ps_set (i := 4) qBs.nd rfl (Or.inl rfl) (pe_ix ix_list (pv 0) pe_int (fun _ _ => rfl)))
  (pss_cons (ps_for (passes_of rfl) rfl (pi_range1 (by rfl) (qDn B) (pa_cons (pe_op op_add (pv 1) pe_int) pa_nil)) (pg_name (i := 5) qBs.nd rfl (Or.inl rfl)) (pss_cons (ps_expr (pe_bm PySem.F.plainAttrs_list PySem.F.slot_list_append PySem.F.type_list_append mt_append (pv 2) (pa_cons (pe_lst (pa_cons (pe_callB (cr_sum rfl) (by rfl) (qArn B) (by decide +kernel) (pa_cons (pe_lc (own := [("_law_power", 7)]) (g := (gName 7)) (tt := tYes) rfl qBs.nd (pi_list (pv 3)) (blkOk_by (N := ["_law_lot_here", "_law_d", "_law_row", "_law_powers", "_law_bottom", "_law_k", "_law_j", "_law_power"]) (sc := defScope qBi) (own := [("_law_power", 7)]) (by decide +kernel)) (fun _ _ _ _ _ => pg_name (i := 7) qBs.nd rfl (Or.inl rfl)) (fun _ _ _ _ _ => pts_nil) (fun _ _ _ _ _ => (pe_callTy call_int1 (by rfl) (qK5 B) (by decide +kernel) (pa_cons (pv 7) pa_nil)))) pa_nil)) (pa_cons (pv 4) pa_nil))) pa_nil)))
  (pss_cons (ps_set (i := 3) qBs.nd rfl (Or.inr rfl) (pe_lc (own := [("_law_j", 6)]) (g := (gName 6)) (tt := tYes) rfl qBs.nd (pi_range1 (by rfl) (qDn B) (pa_cons (pe_callB call_len (by rfl) (qDq B) (by decide +kernel) (pa_cons (pv 3) pa_nil)) pa_nil)) (blkOk_by (N := ["_law_lot_here", "_law_d", "_law_row", "_law_powers", "_law_bottom", "_law_k", "_law_j", "_law_power"]) (sc := defScope qBi) (own := [("_law_j", 6)]) (by decide +kernel)) (fun _ _ _ _ _ => pg_name (i := 6) qBs.nd rfl (Or.inl rfl)) (fun _ _ _ _ _ => pts_nil) (fun _ _ _ _ _ => (pe_op qCi (pe_ix ix_list (pv 3) (pv 6) (fun _ _ => rfl)) (pe_ix ix_list (pe_ix ix_list (pv 0) pe_int (fun _ _ => rfl)) (pv 6) (fun _ _ => rfl))))))
  (pss_one (ps_set (i := 4) qBs.nd rfl (Or.inl rfl) (pe_op qCi (pv 4) (pe_ix ix_list (pv 0) pe_int (fun _ _ => rfl))))))))
  (pss_one (ps_ret (pv 2)))))))
theorem qX6 (B : Bd K mg) : qEo PySem.Challenge.pw_momentrows_k22_whole_steps_move_along w K mg base 1 "_law_numbers" [] (qNa K qJv) := by
  obtain ⟨fd, F, G⟩ := qW2 (w := w) (base := base) B
  exact ⟨_, fd, ["_law_lot_here", "_law_d"], [], qS8 B, F.kp, G, F.bindsN fun _ _ _ _ _ _ us hl => match us, hl with | [_, _], _ => rfl, .nil⟩
theorem qQx (B : Bd K mg) : ∃ fd, FunD K "without_zeros" "without_zeros" (defArgs qBd) (defBody qBd) (defScope qBd) [] [] (He.ga K "without_zeros") fd ∧ FnOk PySem.Challenge.pw_momentrows_k22_whole_steps_move_along w K mg base (CXX PySem.Challenge.pw_momentrows_k22_whole_steps_move_along w) 1 (He.ga K "without_zeros") fd ["row"] (lift K qNf) := by
  obtain ⟨fd, F0⟩ := B.says.def_ 33 (d := qI6) rfl
  have F : FunD K "without_zeros" "without_zeros" (defArgs qBd) (defBody qBd) (defScope qBd) [] [] (He.ga K "without_zeros") fd := F0
  refine ⟨fd, F, F.ok qGb (fun vs H Q E h => ?_) (fun cdv A outer s H vs Q E hr h => ⟨qF8 K csL, ?_, qQs (KFB B) (by decide) (by decide) vs H Q E h⟩)⟩
  · exact qOm (cs := csL) _ _ _ _ h
  · exact (pss_cons (ps_set (i := 1) qGb.nd rfl (Or.inl rfl) (pe_callB call_len (by rfl) (qDq B) (by decide +kernel) (pa_cons (pv 0) pa_nil)))
  (pss_cons (ps_while (passes_of rfl) (PW.pt (pw_and (pt_cmpR op_gt (pv 1) pe_int (nomark _)) (pw_and1 (pt_cmpR op_eq (pe_fld (pe_ix ix_list (pv 0) (pe_op op_sub (pv 1) pe_int) (fun _ _ => rfl)) rfl) pe_int (nomark _))))) (pss_one (ps_set (i := 1) qGb.nd rfl (Or.inl rfl) (pe_op op_sub (pv 1) pe_int))))
  (pss_one (ps_ret (pe_slice sl_list (pv 0) po_none (po_some (pv 1)))))))
theorem qSj (B : Bd K mg) : qEo PySem.Challenge.pw_momentrows_k22_whole_steps_move_along w K mg base 1 "without_zeros" [] (lift K qNf) := by
  obtain ⟨fd, F, G⟩ := qQx (w := w) (base := base) B
  exact ⟨_, fd, ["row"], [], qQv B, F.kp, G, F.bindsN fun _ _ _ _ _ _ us hl => match us, hl with | [_], _ => rfl, .nil⟩
theorem qAcq (B : Bd K mg) : ∃ fd, FunD K "__eq__" "Ratio.__eq__" (defArgs qC8) (defBody qC8) (defScope qC8) [] [] (He.ma K (He.ga K "Ratio") "__eq__") fd ∧ FnOk PySem.Challenge.pw_momentrows_k22_whole_steps_move_along w K mg base (CXX PySem.Challenge.pw_momentrows_k22_whole_steps_move_along w) 3 (He.ma K (He.ga K "Ratio") "__eq__") fd ["self", "other"] (lift K (fRB fun a b => decide (a = b))) := by
  obtain ⟨fd, F0⟩ := B.says.def_ 8 (d := qR2) rfl
  have F : FunD K "__eq__" "Ratio.__eq__" (defArgs qC8) (defBody qC8) (defScope qC8) [] [] (He.ma K (He.ga K "Ratio") "__eq__") fd := F0
  refine ⟨fd, F, F.ok qAbn (fun vs H Q E h => ?_) (fun cdv A outer s H vs Q E hr h => ⟨qLd K csL, ?_, qAcl (KFB B) (by decide) vs H Q E h⟩)⟩
  · exact qZg (cs := csL) _ _ _ _ h
  · exact (pss_cons (ps_if (pt_val (pe_callB call_isi (by rfl) (qBa B) (by decide +kernel) (pa_cons (pv 1) (pa_cons (pe_glob (v := .ref (He.ga K "Ratio")) (by rfl) (qFg B) rfl) pa_nil)))) (pss_one (ps_ret (pe_and (pe_cmpR op_eq (pe_fld (pv 0) rfl) (pe_fld (pv 1) rfl) (nomark _)) (pe_one (pe_cmpR op_eq (pe_fld (pv 0) rfl) (pe_fld (pv 1) rfl) (nomark _)))))) pss_nil)
  (pss_cons (ps_if (pt_val (qAh (dvs := []) (qBx B) (hr.mono (by decide)) rfl passL (pa_cons (pv 1) pa_nil))) (pss_one (ps_ret (pe_and (pe_cmpR op_eq (pe_fld (pv 0) rfl) pe_int (nomark _)) (pe_one (pe_cmpR op_eq (pe_fld (pv 0) rfl) (pv 1) (nomark _)))))) pss_nil)
  (pss_one (ps_ret pe_bl))))
theorem qGs (B : Bd K mg) : qEj PySem.Challenge.pw_momentrows_k22_whole_steps_move_along w K mg base 3 (He.ga K "Ratio") "__eq__" [] (lift K (fRB fun a b => decide (a = b))) := by
  obtain ⟨fd, F, G⟩ := qAcq (w := w) (base := base) B
  exact ⟨_, fd, ["self", "other"], [], ((KFB B).own _ (by decide)).cl, He.meth_ok (B.says.fact 73 rfl), G, F.bindsN fun _ _ _ _ _ _ us hl => match us, hl with | [_, _], _ => rfl, .nil⟩
theorem qAcu (B : Bd K mg) : ∃ fd, FunD K "__lt__" "Ratio.__lt__" (defArgs qDc) (defBody qDc) (defScope qDc) [] [] (He.ma K (He.ga K "Ratio") "__lt__") fd ∧ FnOk PySem.Challenge.pw_momentrows_k22_whole_steps_move_along w K mg base (CXX PySem.Challenge.pw_momentrows_k22_whole_steps_move_along w) 3 (He.ma K (He.ga K "Ratio") "__lt__") fd ["self", "other"] (lift K (fRB fun a b => decide (a < b))) := by
  obtain ⟨fd, F0⟩ := B.says.def_ 10 (d := qRz) rfl
  have F : FunD K "__lt__" "Ratio.__lt__" (defArgs qDc) (defBody qDc) (defScope qDc) [] [] (He.ma K (He.ga K "Ratio") "__lt__") fd := F0
  refine ⟨fd, F, F.ok qAc3 (fun vs H Q E h => ?_) (fun cdv A outer s H vs Q E hr h => ⟨qL0 K csL, ?_, qAbi (KFB B) (by decide) vs H Q E h⟩)⟩
  · exact qAai (cs := csL) _ _ _ _ h
  · exact (pss_cons (ps_if (pt_val (pe_callB call_isi (by rfl) (qBa B) (by decide +kernel) (pa_cons (pv 1) (pa_cons (pe_glob (v := .ref (He.ga K "Ratio")) (by rfl) (qFg B) rfl) pa_nil)))) (pss_one (ps_ret (pe_cmpR op_lt (pe_op qCi (pe_fld (pv 0) rfl) (pe_fld (pv 1) rfl)) (pe_op qCi (pe_fld (pv 1) rfl) (pe_fld (pv 0) rfl)) (nomark _)))) pss_nil)
  (pss_cons (ps_if (pt_val (qAh (dvs := []) (qBx B) (hr.mono (by decide)) rfl passL (pa_cons (pv 1) pa_nil))) (pss_one (ps_ret (pe_cmpR op_lt (pe_fld (pv 0) rfl) (pe_op qCi (pv 1) (pe_fld (pv 0) rfl)) (nomark _)))) pss_nil)
  (pss_one ps_never)))
theorem qT7 (B : Bd K mg) : qEj PySem.Challenge.pw_momentrows_k22_whole_steps_move_along w K mg base 3 (He.ga K "Ratio") "__lt__" [] (lift K (fRB fun a b => decide (a < b))) := by
  obtain ⟨fd, F, G⟩ := qAcu (w := w) (base := base) B
  exact ⟨_, fd, ["self", "other"], [], ((KFB B).own _ (by decide)).cl, He.meth_ok (B.says.fact 75 rfl), G, F.bindsN fun _ _ _ _ _ _ us hl => match us, hl with | [_, _], _ => rfl, .nil⟩
theorem qAbb (B : Bd K mg) : ∃ fd, FunD K "__gt__" "Ratio.__gt__" (defArgs qC5) (defBody qC5) (defScope qC5) [] [] (He.ma K (He.ga K "Ratio") "__gt__") fd ∧ FnOk PySem.Challenge.pw_momentrows_k22_whole_steps_move_along w K mg base (CXX PySem.Challenge.pw_momentrows_k22_whole_steps_move_along w) 3 (He.ma K (He.ga K "Ratio") "__gt__") fd ["self", "other"] (lift K (fRB fun a b => decide (b < a))) := by
  obtain ⟨fd, F0⟩ := B.says.def_ 11 (d := qSn) rfl
  have F : FunD K "__gt__" "Ratio.__gt__" (defArgs qC5) (defBody qC5) (defScope qC5) [] [] (He.ma K (He.ga K "Ratio") "__gt__") fd := F0
  refine ⟨fd, F, F.ok qAcg (fun vs H Q E h => ?_) (fun cdv A outer s H vs Q E hr h => ⟨qLn K csL, ?_, qAb7 (KFB B) (by decide) vs H Q E h⟩)⟩
  · exact qYd (cs := csL) _ _ _ _ h
  · exact (pss_cons (ps_if (pt_val (pe_callB call_isi (by rfl) (qBa B) (by decide +kernel) (pa_cons (pv 1) (pa_cons (pe_glob (v := .ref (He.ga K "Ratio")) (by rfl) (qFg B) rfl) pa_nil)))) (pss_one (ps_ret (pe_cmpR op_gt (pe_op qCi (pe_fld (pv 0) rfl) (pe_fld (pv 1) rfl)) (pe_op qCi (pe_fld (pv 1) rfl) (pe_fld (pv 0) rfl)) (nomark _)))) pss_nil)
  (pss_cons (ps_if (pt_val (qAh (dvs := []) (qBx B) (hr.mono (by decide)) rfl passL (pa_cons (pv 1) pa_nil))) (pss_one (ps_ret (pe_cmpR op_gt (pe_fld (pv 0) rfl) (pe_op qCi (pv 1) (pe_fld (pv 0) rfl)) (nomark _)))) pss_nil)
  (pss_one ps_never)))
theorem qPl (B : Bd K mg) : qEj PySem.Challenge.pw_momentrows_k22_whole_steps_move_along w K mg base 3 (He.ga K "Ratio") "__gt__" [] (lift K (fRB fun a b => decide (b < a))) := by
  obtain ⟨fd, F, G⟩ := qAbb (w := w) (base := base) B
  exact ⟨_, fd, ["self", "other"], [], ((KFB B).own _ (by decide)).cl, He.meth_ok (B.says.fact 76 rfl), G, F.bindsN fun _ _ _ _ _ _ us hl => match us, hl with | [_, _], _ => rfl, .nil⟩
theorem qXy (B : Bd K mg) : ∃ fd, FunD K "is_number" "is_number" (defArgs qCn) (defBody qCn) (defScope qCn) [] [] (He.ga K "is_number") fd ∧ FnOk PySem.Challenge.pw_momentrows_k22_whole_steps_move_along w K mg base (CXX PySem.Challenge.pw_momentrows_k22_whole_steps_move_along w) 3 (He.ga K "is_number") fd ["value"] (lift K (qEu csL)) := by
  obtain ⟨fd, F0⟩ := B.says.def_ 13 (d := qPr) rfl
  have F : FunD K "is_number" "is_number" (defArgs qCn) (defBody qCn) (defScope qCn) [] [] (He.ga K "is_number") fd := F0
  refine ⟨fd, F, F.ok qZc (fun vs H Q E h => ?_) (fun cdv A outer s H vs Q E hr h => ⟨qJz K csL, ?_, qAaf (KFB B) (by decide) vs H Q E h⟩)⟩
  · exact qVs (cs := csL) _ _ _ _ h
  · exact (pss_one (ps_ret (pe_or (pe_callB call_isi (by rfl) (qBa B) (by decide +kernel) (pa_cons (pv 0) (pa_cons (pe_glob (v := .ref (He.ga K "Ratio")) (by rfl) (qFg B) rfl) pa_nil))) (pe_one (qAh (dvs := []) (qBx B) (hr.mono (by decide)) rfl passL (pa_cons (pv 0) pa_nil))))))
theorem qH6 (B : Bd K mg) : qEo PySem.Challenge.pw_momentrows_k22_whole_steps_move_along w K mg base 3 "is_number" [] (lift K (qEu csL)) := by
  obtain ⟨fd, F, G⟩ := qXy (w := w) (base := base) B
  exact ⟨_, fd, ["value"], [], qXs B, F.kp, G, F.bindsN fun _ _ _ _ _ _ us hl => match us, hl with | [_], _ => rfl, .nil⟩
theorem qXg (B : Bd K mg) : ∃ fd, FunD K "first_stop" "first_stop" (defArgs qB2) (defBody qB2) (defScope qB2) [] [] (He.ga K "first_stop") fd ∧ FnOk PySem.Challenge.pw_momentrows_k22_whole_steps_move_along w K mg base (CXX PySem.Challenge.pw_momentrows_k22_whole_steps_move_along w) 5 (He.ga K "first_stop") fd ["found"] (lift K qE3) := by
  obtain ⟨fd, F0⟩ := B.says.def_ 45 (d := qMn) rfl
  have F : FunD K "first_stop" "first_stop" (defArgs qB2) (defBody qB2) (defScope qB2) [] [] (He.ga K "first_stop") fd := F0
  refine ⟨fd, F, F.ok qNv (fun vs H Q E h => ?_) (fun cdv A outer s H vs Q E hr h => ⟨qIa K csL, ?_, qWm (KFB B) (by decide) (by decide) vs H Q E h⟩)⟩
  · exact qTf (cs := csL) _ _ _ _ h
  · exact (pss_cons (ps_for (passes_of rfl) rfl (pi_list (pv 0)) (pg_name (i := 1) qNv.nd rfl (Or.inl rfl)) (pss_one (ps_if (pt_not (pt_cmpR (qG3 (qPl B) (qAt B) (hr.mono (by decide)) passL) (pe_ix ix_tup (pv 1) pe_int (fun _ _ => rfl)) pe_int (nomark _))) (pss_one (ps_ret (pv 1))) pss_nil)))
  (pss_one (ps_ret pe_non)))
theorem qZ6 (B : Bd K mg) : qEo PySem.Challenge.pw_momentrows_k22_whole_steps_move_along w K mg base 5 "first_stop" [] (lift K qE3) := by
  obtain ⟨fd, F, G⟩ := qXg (w := w) (base := base) B
  exact ⟨_, fd, ["found"], [], qXe B, F.kp, G, F.bindsN fun _ _ _ _ _ _ us hl => match us, hl with | [_], _ => rfl, .nil⟩
theorem qAfb (B : Bd K mg) : ∃ fd, FunD K "kind_of" "kind_of" (defArgs qDu) (defBody qDu) (defScope qDu) [] [] (He.ga K "kind_of") fd ∧ FnOk PySem.Challenge.pw_momentrows_k22_whole_steps_move_along w K mg base (CXX PySem.Challenge.pw_momentrows_k22_whole_steps_move_along w) 7 (He.ga K "kind_of") fd ["found"] (lift K qJ8) := by
  obtain ⟨fd, F0⟩ := B.says.def_ 47 (d := qUo) rfl
  have F : FunD K "kind_of" "kind_of" (defArgs qDu) (defBody qDu) (defScope qDu) [] [] (He.ga K "kind_of") fd := F0
  refine ⟨fd, F, F.ok qT9 (fun vs H Q E h => ?_) (fun cdv A outer s H vs Q E hr h => ⟨qPc K csL, ?_, qAge (KFB B) (by decide) (by decide) vs H Q E h⟩)⟩
  · exact qAbo (cs := csL) _ _ _ _ h
  · exact (pss_cons (ps_set (i := 1) qT9.nd rfl (Or.inl rfl) (qAh (dvs := []) (qZ6 B) (hr.mono (by decide)) rfl passL (pa_cons (pv 0) pa_nil)))
  (pss_cons (ps_if (pt_cmpR op_isN (pv 1) pe_non (nomark _)) (pss_one (ps_ret (pe_tup (pa_cons pe_str pa_nil)))) pss_nil)
  (pss_cons (ps_if (pt_cmpR (qG3 (qT7 B) (qAt B) (hr.mono (by decide)) passL) (pe_ix ix_tup (pv 1) pe_int (fun _ _ => rfl)) pe_int (nomark _)) (pss_one (ps_ret (pe_tup (pa_cons pe_str (pa_cons (pe_ix ix_tup (pv 1) pe_int (fun _ _ => rfl)) pa_nil))))) pss_nil)
  (pss_one (ps_ret (pe_tup (pa_cons pe_str (pa_cons (pe_ix ix_tup (pv 1) pe_int (fun _ _ => rfl)) pa_nil))))))))
theorem qAh4 (B : Bd K mg) : qEo PySem.Challenge.pw_momentrows_k22_whole_steps_move_along w K mg base 7 "kind_of" [] (lift K qJ8) := by
  obtain ⟨fd, F, G⟩ := qAfb (w := w) (base := base) B
  exact ⟨_, fd, ["found"], [], qAfi B, F.kp, G, F.bindsN fun _ _ _ _ _ _ us hl => match us, hl with | [_], _ => rfl, .nil⟩
theorem qN4 (B : Bd K mg) : ∃ fd, FunD K "__init__" "Ratio.__init__" (defArgs qB6) (defBody qB6) (defScope qB6) [.int 1] [] (He.ma K (He.ga K "Ratio") "__init__") fd ∧ FnOk PySem.Challenge.pw_momentrows_k22_whole_steps_move_along w K mg base (CXX PySem.Challenge.pw_momentrows_k22_whole_steps_move_along w) 33 (He.ma K (He.ga K "Ratio") "__init__") fd ["self", "top", "bottom"] (qA8 K) := by
  obtain ⟨fd, F0⟩ := B.says.def_ 2 (d := qNx) rfl
  have F : FunD K "__init__" "Ratio.__init__" (defArgs qB6) (defBody qB6) (defScope qB6) [.int 1] [] (He.ma K (He.ga K "Ratio") "__init__") fd := F0
  refine ⟨fd, F, F.ok qI1 (fun vs H Q E h => ?_) (fun cdv A outer s H vs Q E hr h => ⟨qP1 K E, ?_, qR5 (RT B) vs H Q E h⟩)⟩
  · first | (obtain ⟨_, rfl, _⟩ := h; rfl) | (obtain ⟨_, _, rfl, _⟩ := h; rfl) | (obtain ⟨_, _, _, rfl, _⟩ := h; rfl) | (obtain ⟨_, _, _, _, rfl, _⟩ := h; rfl) | (obtain ⟨_, _, _, _, _, rfl, _⟩ := h; rfl) | (obtain ⟨_, _, _, _, _, _, rfl, _⟩ := h; rfl) | (obtain ⟨_, _, _, _, _, _, _, rfl, _⟩ := h; rfl) | (obtain ⟨_, _, _, _, _, _, _, _, rfl, _⟩ := h; rfl) | (obtain ⟨_, _, _, _, _, _, _, _, _, rfl, _⟩ := h; rfl) | (obtain ⟨_, _, _, _, _, _, _, _, _, _, rfl, _⟩ := h; rfl) | (obtain ⟨_, _, _, _, _, _, _, _, _, _, _, rfl, _⟩ := h; rfl) | (obtain ⟨_, _, _, _, _, _, _, _, _, _, _, _, rfl, _⟩ := h; rfl)
  · exact (pss_cons (ps_if (pt_not (pt_val (qAh (dvs := []) (qBx B) (hr.mono (by decide)) rfl passL (pa_cons (pv 1) pa_nil)))) (pss_one (qD5 rfl (qH8 B) qO4 (qKf B) hr (takes_of rfl rfl rfl rfl) (pa_cons pe_str pa_nil))) pss_nil)
  (pss_cons (ps_if (pt_not (pt_val (qAh (dvs := []) (qBx B) (hr.mono (by decide)) rfl passL (pa_cons (pv 2) pa_nil)))) (pss_one (qD5 rfl (qH8 B) qO4 (qKf B) hr (takes_of rfl rfl rfl rfl) (pa_cons pe_str pa_nil))) pss_nil)
  (pss_cons (ps_if (pt_cmpR op_eq (pv 2) pe_int (nomark _)) (pss_one (qD5 rfl (qH8 B) qO4 (qKf B) hr (takes_of rfl rfl rfl rfl) (pa_cons pe_str pa_nil))) pss_nil)
  (pss_cons (ps_set (i := 3) qI1.nd rfl (Or.inl rfl) (qAh (dvs := []) (qVa B) (hr.mono (by decide)) rfl passL (pa_cons (pv 1) (pa_cons (pv 2) pa_nil))))
  (pss_cons (ps_if (pt_cmpR op_lt (pv 2) pe_int (nomark _)) (pss_one (ps_set (i := 3) qI1.nd rfl (Or.inl rfl) (pe_un un_neg (pv 3)))) pss_nil)
  (pss_cons (ps_fld (pv 0) (pe_op (qM9 (see B) rfl (hr.mono (by decide))) (pv 1) (pv 3)) rfl)
  (pss_one (ps_fld (pv 0) (pe_op (qM9 (see B) rfl (hr.mono (by decide))) (pv 2) (pv 3)) rfl))))))))
theorem qA6 (B : Bd K mg) : qQd PySem.Challenge.pw_momentrows_k22_whole_steps_move_along w K mg base 33 "Ratio" (He.ga K "Ratio") [] (qA8 K) := by
  obtain ⟨fd, F, G⟩ := qN4 (w := w) (base := base) B
  obtain ⟨ds, v, b⟩ := F.binds1 (ps := ["self", "top", "bottom"]) 3 1 (by simp) rfl fun T kV doc pm an cdv ct us its hu hi => match us, hu, its, hi with | [_, _, _], _, [_], _ => ⟨_, rfl, rfl⟩
  exact ⟨_, fd, ["self", "top", "bottom"], ds, qFg B, He.mkr_ok (B.says.fact 67 rfl), G, b, v⟩
theorem qA4 (B : Bd K mg) : qQd PySem.Challenge.pw_momentrows_k22_whole_steps_move_along w K mg base 33 "Ratio" (He.ga K "Ratio") [.int 1] (qA8 K) := by
  obtain ⟨fd, F, G⟩ := qN4 (w := w) (base := base) B
  obtain ⟨ds, v, b⟩ := F.binds1 (ps := ["self", "top", "bottom"]) 2 0 (by simp) rfl fun T kV doc pm an cdv ct us its hu hi => match us, hu, its, hi with | [_, _], _, [_], _ => ⟨_, rfl, rfl⟩
  exact ⟨_, fd, ["self", "top", "bottom"], ds, qFg B, He.mkr_ok (B.says.fact 67 rfl), G, b, v⟩
theorem qX2 (B : Bd K mg) : ∃ fd, FunD K "_law_take" "_law_take" (defArgs qCq) (defBody qCq) (defScope qCq) [] [] (He.ga K "_law_take") fd ∧ FnOk PySem.Challenge.pw_momentrows_k22_whole_steps_move_along w K mg base (CXX PySem.Challenge.pw_momentrows_k22_whole_steps_move_along w) 33 (He.ga K "_law_take") fd ["_law_feed_here", "_law_size"] (lift K qBp) := by
  obtain ⟨fd, F0⟩ := B.says.def_ 22 (d := qP3) rfl
  have F : FunD K "_law_take" "_law_take" (defArgs qCq) (defBody qCq) (defScope qCq) [] [] (He.ga K "_law_take") fd := F0
  refine ⟨fd, F, F.ok qE6 (fun vs H Q E h => ?_) (fun cdv A outer s H vs Q E hr h => ⟨qLp K, ?_, qS6 vs H Q E h⟩)⟩
  · exact qAr (n := 2) (fun ds P X h => by obtain ⟨_, rfl, _⟩ := h; rfl) h
  · exact (pss_cons (ps_augS (pv 0) pe_int qAdw pe_int ip_add set_list)
  (pss_cons (ps_if (PW.pt (pw_and (pt_cmpR op_eq (pe_ix ix_list (pv 0) pe_int (fun _ _ => rfl)) pe_int (nomark _)) (pw_and (pt_cmpR op_eq (pe_ix ix_list (pv 0) pe_int (fun _ _ => rfl)) pe_int (nomark _)) (pw_and1 (pt_cmpR op_lt (pe_ix ix_list (pv 0) pe_int (fun _ _ => rfl)) (pe_callB call_len (by rfl) (qDq B) (by decide +kernel) (pa_cons (pe_ix ix_list (pv 0) pe_int (fun _ _ => rfl)) pa_nil)) (nomark _)))))) (pss_cons (ps_set (i := 3) qE6.nd rfl (Or.inl rfl) (pe_ix ix_list (pe_ix ix_list (pv 0) pe_int (fun _ _ => rfl)) (pe_ix ix_list (pv 0) pe_int (fun _ _ => rfl)) (fun _ _ => rfl)))
  (pss_cons (ps_augS (pv 0) pe_int qAdw pe_int ip_add set_list)
  (pss_one (ps_if (pt_cmpR op_ge (pv 3) (pe_op op_pow pe_int pe_int) (nomark _)) (pss_one (ps_asg (pv 3) (pg_sub (pv 0) pe_int set_list))) (pss_cons (ps_asg pe_int (pg_sub (pv 0) pe_int set_list))
  (pss_one (ps_asg (pe_op op_add (pe_ix ix_list (pv 0) pe_int (fun _ _ => rfl)) (pv 3)) (pg_sub (pv 0) pe_int set_list)))))))) pss_nil)
  (pss_cons (ps_if (pt_cmpR op_gt (pe_ix ix_list (pv 0) pe_int (fun _ _ => rfl)) pe_int (nomark _)) (pss_cons (ps_set (i := 4) qE6.nd rfl (Or.inl rfl) (pe_op op_modN (pe_callTy call_int1 (by rfl) (qK5 B) (by decide +kernel) (pa_cons (pe_ix ix_list (pv 0) pe_int (fun _ _ => rfl)) pa_nil)) (pv 1)))
  (pss_cons (ps_asg (pe_op (qM9 (see B) rfl (hr.mono (by decide))) (pe_ix ix_list (pv 0) pe_int (fun _ _ => rfl)) (pv 1)) (pg_sub (pv 0) pe_int set_list))
  (pss_one (ps_ret (pv 4))))) pss_nil)
  (pss_cons (ps_asg (pe_callB (call_max2 rfl) (by rfl) (qAdi B) (by decide +kernel) (pa_cons pe_int (pa_cons (pe_op op_sub (pe_ix ix_list (pv 0) pe_int (fun _ _ => rfl)) pe_int) pa_nil))) (pg_sub (pv 0) pe_int set_list))
  (pss_cons (ps_set (i := 2) qE6.nd rfl (Or.inl rfl) (pe_op op_modN (pe_callTy call_int1 (by rfl) (qK5 B) (by decide +kernel) (pa_cons (pe_op qCi (pe_op op_add (pe_op op_add (pe_ix ix_list (pv 0) pe_int (fun _ _ => rfl)) (pe_op qCi pe_int (pe_ix ix_list (pv 0) pe_int (fun _ _ => rfl)))) pe_int) pe_int) pa_nil)) pe_int))
  (pss_cons (ps_set (i := 2) qE6.nd rfl (Or.inl rfl) (pe_op op_modN (pe_callTy call_int1 (by rfl) (qK5 B) (by decide +kernel) (pa_cons (pe_op qCi (pv 2) (pe_op op_add (pe_op (qM9 (see B) rfl (hr.mono (by decide))) (pv 2) pe_int) pe_int)) pa_nil)) pe_int))
  (pss_cons (ps_set (i := 2) qE6.nd rfl (Or.inl rfl) (pe_op op_modN (pe_callTy call_int1 (by rfl) (qK5 B) (by decide +kernel) (pa_cons (pe_op qCi (pv 2) (pe_op op_add (pe_op (qM9 (see B) rfl (hr.mono (by decide))) (pv 2) pe_int) pe_int)) pa_nil)) pe_int))
  (pss_one (ps_ret (pe_op op_modN (pv 2) (pv 1)))))))))))
theorem qA1 (B : Bd K mg) : qEo PySem.Challenge.pw_momentrows_k22_whole_steps_move_along w K mg base 33 "_law_take" [] (lift K qBp) := by
  obtain ⟨fd, F, G⟩ := qX2 (w := w) (base := base) B
  exact ⟨_, fd, ["_law_feed_here", "_law_size"], [], qYz B, F.kp, G, F.bindsN fun _ _ _ _ _ _ us hl => match us, hl with | [_, _], _ => rfl, .nil⟩
theorem qXt (B : Bd K mg) : ∃ fd, FunD K "__add__" "Ratio.__add__" (defArgs qCm) (defBody qCm) (defScope qCm) [] [] (He.ma K (He.ga K "Ratio") "__add__") fd ∧ FnOk PySem.Challenge.pw_momentrows_k22_whole_steps_move_along w K mg base (CXX PySem.Challenge.pw_momentrows_k22_whole_steps_move_along w) 35 (He.ma K (He.ga K "Ratio") "__add__") fd ["self", "other"] (lift K (fR2 fun a b => a + b)) := by
  obtain ⟨fd, F0⟩ := B.says.def_ 3 (d := qQb) rfl
  have F : FunD K "__add__" "Ratio.__add__" (defArgs qCm) (defBody qCm) (defScope qCm) [] [] (He.ma K (He.ga K "Ratio") "__add__") fd := F0
  refine ⟨fd, F, F.ok qZz (fun vs H Q E h => ?_) (fun cdv A outer s H vs Q E hr h => ⟨qJu K csL, ?_, qYx (KFB B) (by decide) vs H Q E h⟩)⟩
  · exact qVw (cs := csL) _ _ _ _ h
  · exact (pss_cons (ps_if (pt_val (pe_callB call_isi (by rfl) (qBa B) (by decide +kernel) (pa_cons (pv 1) (pa_cons (pe_glob (v := .ref (He.ga K "Ratio")) (by rfl) (qFg B) rfl) pa_nil)))) (pss_one (ps_ret (qAs (dvs := []) (qA6 B) (hr.mono (by decide)) rfl passL (pa_cons (pe_op op_add (pe_op qCi (pe_fld (pv 0) rfl) (pe_fld (pv 1) rfl)) (pe_op qCi (pe_fld (pv 1) rfl) (pe_fld (pv 0) rfl))) (pa_cons (pe_op qCi (pe_fld (pv 0) rfl) (pe_fld (pv 1) rfl)) pa_nil))))) pss_nil)
  (pss_cons (ps_if (pt_val (qAh (dvs := []) (qBx B) (hr.mono (by decide)) rfl passL (pa_cons (pv 1) pa_nil))) (pss_one (ps_ret (qAs (dvs := []) (qA6 B) (hr.mono (by decide)) rfl passL (pa_cons (pe_op op_add (pe_fld (pv 0) rfl) (pe_op qCi (pv 1) (pe_fld (pv 0) rfl))) (pa_cons (pe_fld (pv 0) rfl) pa_nil))))) pss_nil)
  (pss_one ps_never)))
theorem qDd (B : Bd K mg) : qEj PySem.Challenge.pw_momentrows_k22_whole_steps_move_along w K mg base 35 (He.ga K "Ratio") "__add__" [] (lift K (fR2 fun a b => a + b)) := by
  obtain ⟨fd, F, G⟩ := qXt (w := w) (base := base) B
  exact ⟨_, fd, ["self", "other"], [], ((KFB B).own _ (by decide)).cl, He.meth_ok (B.says.fact 68 rfl), G, F.bindsN fun _ _ _ _ _ _ us hl => match us, hl with | [_, _], _ => rfl, .nil⟩
theorem qY3 (B : Bd K mg) : ∃ fd, FunD K "__mul__" "Ratio.__mul__" (defArgs qCp) (defBody qCp) (defScope qCp) [] [] (He.ma K (He.ga K "Ratio") "__mul__") fd ∧ FnOk PySem.Challenge.pw_momentrows_k22_whole_steps_move_along w K mg base (CXX PySem.Challenge.pw_momentrows_k22_whole_steps_move_along w) 35 (He.ma K (He.ga K "Ratio") "__mul__") fd ["self", "other"] (lift K (fR2 fun a b => a * b)) := by
  obtain ⟨fd, F0⟩ := B.says.def_ 5 (d := qP8) rfl
  have F : FunD K "__mul__" "Ratio.__mul__" (defArgs qCp) (defBody qCp) (defScope qCp) [] [] (He.ma K (He.ga K "Ratio") "__mul__") fd := F0
  refine ⟨fd, F, F.ok qX9 (fun vs H Q E h => ?_) (fun cdv A outer s H vs Q E hr h => ⟨qJj K csL, ?_, qX0 (KFB B) (by decide) vs H Q E h⟩)⟩
  · exact qWd (cs := csL) _ _ _ _ h
  · exact (pss_cons (ps_if (pt_val (pe_callB call_isi (by rfl) (qBa B) (by decide +kernel) (pa_cons (pv 1) (pa_cons (pe_glob (v := .ref (He.ga K "Ratio")) (by rfl) (qFg B) rfl) pa_nil)))) (pss_one (ps_ret (qAs (dvs := []) (qA6 B) (hr.mono (by decide)) rfl passL (pa_cons (pe_op qCi (pe_fld (pv 0) rfl) (pe_fld (pv 1) rfl)) (pa_cons (pe_op qCi (pe_fld (pv 0) rfl) (pe_fld (pv 1) rfl)) pa_nil))))) pss_nil)
  (pss_cons (ps_if (pt_val (qAh (dvs := []) (qBx B) (hr.mono (by decide)) rfl passL (pa_cons (pv 1) pa_nil))) (pss_one (ps_ret (qAs (dvs := []) (qA6 B) (hr.mono (by decide)) rfl passL (pa_cons (pe_op qCi (pe_fld (pv 0) rfl) (pv 1)) (pa_cons (pe_fld (pv 0) rfl) pa_nil))))) pss_nil)
  (pss_one ps_never)))
theorem qCj (B : Bd K mg) : qEj PySem.Challenge.pw_momentrows_k22_whole_steps_move_along w K mg base 35 (He.ga K "Ratio") "__mul__" [] (lift K (fR2 fun a b => a * b)) := by
  obtain ⟨fd, F, G⟩ := qY3 (w := w) (base := base) B
  exact ⟨_, fd, ["self", "other"], [], ((KFB B).own _ (by decide)).cl, He.meth_ok (B.says.fact 70 rfl), G, F.bindsN fun _ _ _ _ _ _ us hl => match us, hl with | [_, _], _ => rfl, .nil⟩
theorem qVh (B : Bd K mg) : ∃ fd, FunD K "__rmul__" "Ratio.__rmul__" (defArgs qB8) (defBody qB8) (defScope qB8) [] [] (He.ma K (He.ga K "Ratio") "__rmul__") fd ∧ FnOk PySem.Challenge.pw_momentrows_k22_whole_steps_move_along w K mg base (CXX PySem.Challenge.pw_momentrows_k22_whole_steps_move_along w) 35 (He.ma K (He.ga K "Ratio") "__rmul__") fd ["self", "other"] (lift K (fRI fun a b => b * a)) := by
  obtain ⟨fd, F0⟩ := B.says.def_ 6 (d := qMv) rfl
  have F : FunD K "__rmul__" "Ratio.__rmul__" (defArgs qB8) (defBody qB8) (defScope qB8) [] [] (He.ma K (He.ga K "Ratio") "__rmul__") fd := F0
  refine ⟨fd, F, F.ok qU8 (fun vs H Q E h => ?_) (fun cdv A outer s H vs Q E hr h => ⟨qIe K csL, ?_, qWo (KFB B) (by decide) vs H Q E h⟩)⟩
  · exact qT3 (cs := csL) _ _ _ _ h
  · exact (pss_cons (ps_if (pt_val (qAh (dvs := []) (qBx B) (hr.mono (by decide)) rfl passL (pa_cons (pv 1) pa_nil))) (pss_one (ps_ret (qAs (dvs := []) (qA6 B) (hr.mono (by decide)) rfl passL (pa_cons (pe_op qCi (pe_fld (pv 0) rfl) (pv 1)) (pa_cons (pe_fld (pv 0) rfl) pa_nil))))) pss_nil)
  (pss_one ps_never))
theorem qPs (B : Bd K mg) : qEj PySem.Challenge.pw_momentrows_k22_whole_steps_move_along w K mg base 35 (He.ga K "Ratio") "__rmul__" [] (lift K (fRI fun a b => b * a)) := by
  obtain ⟨fd, F, G⟩ := qVh (w := w) (base := base) B
  exact ⟨_, fd, ["self", "other"], [], ((KFB B).own _ (by decide)).cl, He.meth_ok (B.says.fact 71 rfl), G, F.bindsN fun _ _ _ _ _ _ us hl => match us, hl with | [_, _], _ => rfl, .nil⟩
theorem qZt (B : Bd K mg) : ∃ fd, FunD K "__neg__" "Ratio.__neg__" (defArgs qCo) (defBody qCo) (defScope qCo) [] [] (He.ma K (He.ga K "Ratio") "__neg__") fd ∧ FnOk PySem.Challenge.pw_momentrows_k22_whole_steps_move_along w K mg base (CXX PySem.Challenge.pw_momentrows_k22_whole_steps_move_along w) 35 (He.ma K (He.ga K "Ratio") "__neg__") fd ["self"] (lift K (fR1 fun a => -a)) := by
  obtain ⟨fd, F0⟩ := B.says.def_ 7 (d := qPn) rfl
  have F : FunD K "__neg__" "Ratio.__neg__" (defArgs qCo) (defBody qCo) (defScope qCo) [] [] (He.ma K (He.ga K "Ratio") "__neg__") fd := F0
  refine ⟨fd, F, F.ok qZe (fun vs H Q E h => ?_) (fun cdv A outer s H vs Q E hr h => ⟨qJx K csL, ?_, qYf (KFB B) (by decide) vs H Q E h⟩)⟩
  · exact qWr (cs := csL) _ _ _ _ h
  · exact (pss_one (ps_ret (qAs (dvs := []) (qA6 B) (hr.mono (by decide)) rfl passL (pa_cons (pe_un un_neg (pe_fld (pv 0) rfl)) (pa_cons (pe_fld (pv 0) rfl) pa_nil)))))
theorem qL6 (B : Bd K mg) : qEj PySem.Challenge.pw_momentrows_k22_whole_steps_move_along w K mg base 35 (He.ga K "Ratio") "__neg__" [] (lift K (fR1 fun a => -a)) := by
  obtain ⟨fd, F, G⟩ := qZt (w := w) (base := base) B
  exact ⟨_, fd, ["self"], [], ((KFB B).own _ (by decide)).cl, He.meth_ok (B.says.fact 72 rfl), G, F.bindsN fun _ _ _ _ _ _ us hl => match us, hl with | [_], _ => rfl, .nil⟩
theorem qAck (B : Bd K mg) : ∃ fd, FunD K "as_ratio" "as_ratio" (defArgs qC9) (defBody qC9) (defScope qC9) [] [] (He.ga K "as_ratio") fd ∧ FnOk PySem.Challenge.pw_momentrows_k22_whole_steps_move_along w K mg base (CXX PySem.Challenge.pw_momentrows_k22_whole_steps_move_along w) 35 (He.ga K "as_ratio") fd ["value", "word"] (lift K (qCv csL)) := by
  obtain ⟨fd, F0⟩ := B.says.def_ 14 (d := qR1) rfl
  have F : FunD K "as_ratio" "as_ratio" (defArgs qC9) (defBody qC9) (defScope qC9) [] [] (He.ga K "as_ratio") fd := F0
  refine ⟨fd, F, F.ok qAb4 (fun vs H Q E h => ?_) (fun cdv A outer s H vs Q E hr h => ⟨qIp K csL E, ?_, qAbv (KFB B) (by decide) vs H Q E h⟩)⟩
  · exact qZ8 (cs := csL) _ _ _ _ h
  · exact (pss_cons (ps_if (pt_val (pe_callB call_isi (by rfl) (qBa B) (by decide +kernel) (pa_cons (pv 0) (pa_cons (pe_glob (v := .ref (He.ga K "Ratio")) (by rfl) (qFg B) rfl) pa_nil)))) (pss_one (ps_ret (pv 0))) pss_nil)
  (pss_cons (ps_if (pt_val (qAh (dvs := []) (qBx B) (hr.mono (by decide)) rfl passL (pa_cons (pv 0) pa_nil))) (pss_one (ps_ret (qAs (dvs := [.int 1]) (qA4 B) (hr.mono (by decide)) rfl (qEc (takes_of rfl rfl rfl rfl) fun _ _ _ _ z => z) (pa_cons (pv 0) pa_nil)))) pss_nil)
  (pss_one (qD5 rfl (qP4 B) qO4 (qSk B) hr (takes_of rfl rfl rfl rfl) (pa_cons (pv 1) pa_nil)))))
theorem qE8 (B : Bd K mg) : qEo PySem.Challenge.pw_momentrows_k22_whole_steps_move_along w K mg base 35 "as_ratio" [] (lift K (qCv csL)) := by
  obtain ⟨fd, F, G⟩ := qAck (w := w) (base := base) B
  exact ⟨_, fd, ["value", "word"], [], qAbg B, F.kp, G, F.bindsN fun _ _ _ _ _ _ us hl => match us, hl with | [_, _], _ => rfl, .nil⟩
theorem qXa (B : Bd K mg) : ∃ fd, FunD K "over" "Ratio.over" (defArgs qB5) (defBody qB5) (defScope qB5) [] [] (He.ma K (He.ga K "Ratio") "over") fd ∧ FnOk PySem.Challenge.pw_momentrows_k22_whole_steps_move_along w K mg base (CXX PySem.Challenge.pw_momentrows_k22_whole_steps_move_along w) 35 (He.ma K (He.ga K "Ratio") "over") fd ["self", "other"] (lift K qTj) := by
  obtain ⟨fd, F0⟩ := B.says.def_ 15 (d := qMj) rfl
  have F : FunD K "over" "Ratio.over" (defArgs qB5) (defBody qB5) (defScope qB5) [] [] (He.ma K (He.ga K "Ratio") "over") fd := F0
  refine ⟨fd, F, F.ok qN8 (fun vs H Q E h => ?_) (fun cdv A outer s H vs Q E hr h => ⟨qGh K csL E, ?_, qUs (KFB B) (by decide) vs H Q E h⟩)⟩
  · exact qTu (cs := csL) _ _ _ _ h
  · exact (pss_cons (ps_set (i := 2) qN8.nd rfl (Or.inl rfl) (pe_ifExp (pt_val (pe_callB call_isi (by rfl) (qBa B) (by decide +kernel) (pa_cons (pv 1) (pa_cons (pe_glob (v := .ref (He.ga K "Ratio")) (by rfl) (qFg B) rfl) pa_nil)))) (pv 1) (qAs (dvs := [.int 1]) (qA4 B) (hr.mono (by decide)) rfl (qEc (takes_of rfl rfl rfl rfl) fun _ _ _ _ z => z) (pa_cons (pv 1) pa_nil))))
  (pss_cons (ps_if (pt_cmpR op_eq (pe_fld (pv 2) rfl) pe_int (nomark _)) (pss_one (qD5 rfl (qH8 B) qO4 (qKf B) hr (takes_of rfl rfl rfl rfl) (pa_cons pe_str pa_nil))) pss_nil)
  (pss_one (ps_ret (qAs (dvs := []) (qA6 B) (hr.mono (by decide)) rfl (qEc (takes_of rfl rfl rfl rfl) fun _ _ _ _ z => z) (pa_cons (pe_op qCi (pe_fld (pv 0) rfl) (pe_fld (pv 2) rfl)) (pa_cons (pe_op qCi (pe_fld (pv 0) rfl) (pe_fld (pv 2) rfl)) pa_nil)))))))
theorem qP7 (B : Bd K mg) : qEj PySem.Challenge.pw_momentrows_k22_whole_steps_move_along w K mg base 35 (He.ga K "Ratio") "over" [] (lift K qTj) := by
  obtain ⟨fd, F, G⟩ := qXa (w := w) (base := base) B
  exact ⟨_, fd, ["self", "other"], [], ((KFB B).own _ (by decide)).cl, He.meth_ok (B.says.fact 78 rfl), G, F.bindsN fun _ _ _ _ _ _ us hl => match us, hl with | [_, _], _ => rfl, .nil⟩
theorem qWa (B : Bd K mg) : ∃ fd, FunD K "__radd__" "Ratio.__radd__" (defArgs qB9) (defBody qB9) (defScope qB9) [] [] (He.ma K (He.ga K "Ratio") "__radd__") fd ∧ FnOk PySem.Challenge.pw_momentrows_k22_whole_steps_move_along w K mg base (CXX PySem.Challenge.pw_momentrows_k22_whole_steps_move_along w) 35 (He.ma K (He.ga K "Ratio") "__radd__") fd ["self", "other"] (lift K (fRI fun a b => b + a)) := by
  obtain ⟨fd, F0⟩ := B.says.def_ 17 (d := qM0) rfl
  have F : FunD K "__radd__" "Ratio.__radd__" (defArgs qB9) (defBody qB9) (defScope qB9) [] [] (He.ma K (He.ga K "Ratio") "__radd__") fd := F0
  refine ⟨fd, F, F.ok qVd (fun vs H Q E h => ?_) (fun cdv A outer s H vs Q E hr h => ⟨qIc K csL, ?_, qXf (KFB B) (by decide) vs H Q E h⟩)⟩
  · exact qTw (cs := csL) _ _ _ _ h
  · exact (pss_cons (ps_if (pt_val (qAh (dvs := []) (qBx B) (hr.mono (by decide)) rfl passL (pa_cons (pv 1) pa_nil))) (pss_one (ps_ret (qAs (dvs := []) (qA6 B) (hr.mono (by decide)) rfl passL (pa_cons (pe_op op_add (pe_op qCi (pv 1) (pe_fld (pv 0) rfl)) (pe_fld (pv 0) rfl)) (pa_cons (pe_fld (pv 0) rfl) pa_nil))))) pss_nil)
  (pss_one ps_never))
theorem qPm (B : Bd K mg) : qEj PySem.Challenge.pw_momentrows_k22_whole_steps_move_along w K mg base 35 (He.ga K "Ratio") "__radd__" [] (lift K (fRI fun a b => b + a)) := by
  obtain ⟨fd, F, G⟩ := qWa (w := w) (base := base) B
  exact ⟨_, fd, ["self", "other"], [], ((KFB B).own _ (by decide)).cl, He.meth_ok (B.says.fact 79 rfl), G, F.bindsN fun _ _ _ _ _ _ us hl => match us, hl with | [_, _], _ => rfl, .nil⟩
theorem qTd (B : Bd K mg) : ∃ fd, FunD K "_law_number" "_law_number" (defArgs qBm) (defBody qBm) (defScope qBm) [] [] (He.ga K "_law_number") fd ∧ FnOk PySem.Challenge.pw_momentrows_k22_whole_steps_move_along w K mg base (CXX PySem.Challenge.pw_momentrows_k22_whole_steps_move_along w) 35 (He.ga K "_law_number") fd ["_law_feed_here", "_law_size"] (lift K qEz) := by
  obtain ⟨fd, F0⟩ := B.says.def_ 23 (d := qK8) rfl
  have F : FunD K "_law_number" "_law_number" (defArgs qBm) (defBody qBm) (defScope qBm) [] [] (He.ga K "_law_number") fd := F0
  refine ⟨fd, F, F.ok qKz (fun vs H Q E h => ?_) (fun cdv A outer s H vs Q E hr h => ⟨qHq K csL, ?_, qTl (KFB B) (by decide) vs H Q E h⟩)⟩
  · exact qR4 (cs := csL) _ _ _ _ h
  · exact (pss_cons (ps_set (i := 2) qKz.nd rfl (Or.inl rfl) (pe_op op_sub pe_int (pe_op qCi pe_int (qAh (dvs := []) (qA1 B) (hr.mono (by decide)) rfl passL (pa_cons (pv 0) (pa_cons pe_int pa_nil))))))
  (pss_one (ps_ret (pe_op qCi (pv 2) (qAh (dvs := []) (qA1 B) (hr.mono (by decide)) rfl passL (pa_cons (pv 0) (pa_cons (pv 1) pa_nil)))))))
theorem qIj (B : Bd K mg) : qEo PySem.Challenge.pw_momentrows_k22_whole_steps_move_along w K mg base 35 "_law_number" [] (lift K qEz) := by
  obtain ⟨fd, F, G⟩ := qTd (w := w) (base := base) B
  exact ⟨_, fd, ["_law_feed_here", "_law_size"], [], qTg B, F.kp, G, F.bindsN fun _ _ _ _ _ _ us hl => match us, hl with | [_, _], _ => rfl, .nil⟩
theorem qT4 (B : Bd K mg) : ∃ fd, FunD K "_law_ratios" "_law_ratios" (defArgs qBg) (defBody qBg) (defScope qBg) [] [] (He.ga K "_law_ratios") fd ∧ FnOk PySem.Challenge.pw_momentrows_k22_whole_steps_move_along w K mg base (CXX PySem.Challenge.pw_momentrows_k22_whole_steps_move_along w) 35 (He.ga K "_law_ratios") fd ["_law_pairs"] (lift K qGg) := by
  obtain ⟨fd, F0⟩ := B.says.def_ 24 (d := qK9) rfl
  have F : FunD K "_law_ratios" "_law_ratios" (defArgs qBg) (defBody qBg) (defScope qBg) [] [] (He.ga K "_law_ratios") fd := F0
  refine ⟨fd, F, F.ok qHl (fun vs H Q E h => ?_) (fun cdv A outer s H vs Q E hr h => ⟨qHt K csL, ?_, qTy (KFB B) (by decide) vs H Q E h⟩)⟩
  · exact qSx (cs := csL) _ _ _ _ h
  · exact (pss_one (ps_ret (pe_lc (own := [("_law_pair", 1)]) (g := (gName 1)) (tt := tYes) rfl qHl.nd (pi_list (pv 0)) (blkOk_by (N := ["_law_pairs", "_law_pair"]) (sc := defScope qBg) (own := [("_law_pair", 1)]) (by decide +kernel)) (fun _ _ _ _ _ => pg_name (i := 1) qHl.nd rfl (Or.inl rfl)) (fun _ _ _ _ _ => pts_nil) (fun _ _ _ _ _ => (qAs (dvs := []) (qA6 B) (hr.mono (by decide)) rfl passL (pa_cons (pe_ix ix_list (pv 1) pe_int (fun _ _ => rfl)) (pa_cons (pe_ix ix_list (pv 1) pe_int (fun _ _ => rfl)) pa_nil)))))))
theorem qW7 (B : Bd K mg) : qEo PySem.Challenge.pw_momentrows_k22_whole_steps_move_along w K mg base 35 "_law_ratios" [] (lift K qGg) := by
  obtain ⟨fd, F, G⟩ := qT4 (w := w) (base := base) B
  exact ⟨_, fd, ["_law_pairs"], [], qT2 B, F.kp, G, F.bindsN fun _ _ _ _ _ _ us hl => match us, hl with | [_], _ => rfl, .nil⟩
theorem qAf9 (B : Bd K mg) : ∃ fd, FunD K "_law_ends" "_law_ends" (defArgs qCt) (defBody qCt) (defScope qCt) [] [] (He.ga K "_law_ends") fd ∧ FnOk PySem.Challenge.pw_momentrows_k22_whole_steps_move_along w K mg base (CXX PySem.Challenge.pw_momentrows_k22_whole_steps_move_along w) 35 (He.ga K "_law_ends") fd ["_law_feed_here", "_law_lot_here"] (lift K qIn) := by
  obtain ⟨fd, F0⟩ := B.says.def_ 27 (d := qUc) rfl
  have F : FunD K "_law_ends" "_law_ends" (defArgs qCt) (defBody qCt) (defScope qCt) [] [] (He.ga K "_law_ends") fd := F0
  refine ⟨fd, F, F.ok qCh (fun vs H Q E h => ?_) (fun cdv A outer s H vs Q E hr h => ⟨qOs K csL, ?_, qAft (KFB B) (by decide) vs H Q E h⟩)⟩
  · exact qAba (cs := csL) _ _ _ _ h
  · exact (pss_cons (ps_set (i := 2) qCh.nd rfl (Or.inl rfl) (qAh (dvs := []) (qA1 B) (hr.mono (by decide)) rfl passL (pa_cons (pv 0) (pa_cons pe_int pa_nil))))
  (pss_cons (ps_if (pt_cmpR op_eq (pv 2) pe_int (nomark _)) (pss_one (ps_ret (pe_lst (pa_cons pe_non (pa_cons pe_non pa_nil))))) pss_nil)
  (pss_cons (ps_set (i := 3) qCh.nd rfl (Or.inl rfl) (pe_op op_cat (pe_lc (own := [("_law_x", 6)]) (g := (gName 6)) (tt := tYes) rfl qCh.nd (pi_list (pe_ix ix_list (pv 1) pe_int (fun _ _ => rfl))) (blkOk_by (N := ["_law_feed_here", "_law_lot_here", "_law_shape", "_law_points", "_law_low", "_law_high", "_law_x"]) (sc := defScope qCt) (own := [("_law_x", 6)]) (by decide +kernel)) (fun _ _ _ _ _ => pg_name (i := 6) qCh.nd rfl (Or.inl rfl)) (fun _ _ _ _ _ => pts_nil) (fun _ _ _ _ _ => (pe_callTy call_int1 (by rfl) (qK5 B) (by decide +kernel) (pa_cons (pv 6) pa_nil)))) (pe_lst (pa_cons pe_int pa_nil))))
  (pss_cons (ps_set (i := 4) qCh.nd rfl (Or.inl rfl) (pe_op op_sub (pe_callB (cr_min rfl) (by rfl) (qArm B) (by decide +kernel) (pa_cons (pe_lc (own := [("_law_x", 6)]) (g := (gName 6)) (tt := tYes) rfl qCh.nd (pi_list (pv 3)) (blkOk_by (N := ["_law_feed_here", "_law_lot_here", "_law_shape", "_law_points", "_law_low", "_law_high", "_law_x"]) (sc := defScope qCt) (own := [("_law_x", 6)]) (by decide +kernel)) (fun _ _ _ _ _ => pg_name (i := 6) qCh.nd rfl (Or.inl rfl)) (fun _ _ _ _ _ => pts_nil) (fun _ _ _ _ _ => (pe_callTy call_int1 (by rfl) (qK5 B) (by decide +kernel) (pa_cons (pv 6) pa_nil)))) pa_nil)) (pe_ix ix_list (pe_lst (pa_cons pe_int (pa_cons pe_int (pa_cons pe_int (pa_cons pe_int pa_nil))))) (qAh (dvs := []) (qA1 B) (hr.mono (by decide)) rfl passL (pa_cons (pv 0) (pa_cons pe_int pa_nil))) (fun _ _ => rfl))))
  (pss_cons (ps_if (PW.pt (pw_and (pt_cmpR op_gt (pe_callB call_len (by rfl) (qDq B) (by decide +kernel) (pa_cons (pe_ix ix_list (pv 1) pe_int (fun _ _ => rfl)) pa_nil)) pe_int (nomark _)) (pw_and (pt_cmpR op_gt (pe_ix ix_list (pe_ix ix_list (pv 1) pe_int (fun _ _ => rfl)) pe_int (fun _ _ => rfl)) pe_int (nomark _)) (pw_and1 (pt_cmpR op_eq (qAh (dvs := []) (qA1 B) (hr.mono (by decide)) rfl passL (pa_cons (pv 0) (pa_cons pe_int pa_nil))) pe_int (nomark _)))))) (pss_one (ps_set (i := 4) qCh.nd rfl (Or.inl rfl) (pe_ix ix_list (pe_ix ix_list (pv 1) pe_int (fun _ _ => rfl)) pe_int (fun _ _ => rfl)))) pss_nil)
  (pss_cons (ps_if (pt_cmpR op_eq (pv 2) pe_int (nomark _)) (pss_one (ps_ret (pe_lst (pa_cons (pv 4) (pa_cons pe_non pa_nil))))) pss_nil)
  (pss_cons (ps_set (i := 5) qCh.nd rfl (Or.inl rfl) (pe_op op_add (pe_callB (cr_max rfl) (by rfl) (qAdi B) (by decide +kernel) (pa_cons (pe_lc (own := [("_law_x", 6)]) (g := (gName 6)) (tt := tYes) rfl qCh.nd (pi_list (pv 3)) (blkOk_by (N := ["_law_feed_here", "_law_lot_here", "_law_shape", "_law_points", "_law_low", "_law_high", "_law_x"]) (sc := defScope qCt) (own := [("_law_x", 6)]) (by decide +kernel)) (fun _ _ _ _ _ => pg_name (i := 6) qCh.nd rfl (Or.inl rfl)) (fun _ _ _ _ _ => pts_nil) (fun _ _ _ _ _ => (pe_callTy call_int1 (by rfl) (qK5 B) (by decide +kernel) (pa_cons (pv 6) pa_nil)))) pa_nil)) (pe_ix ix_list (pe_lst (pa_cons pe_int (pa_cons pe_int (pa_cons pe_int (pa_cons pe_int pa_nil))))) (qAh (dvs := []) (qA1 B) (hr.mono (by decide)) rfl passL (pa_cons (pv 0) (pa_cons pe_int pa_nil))) (fun _ _ => rfl))))
  (pss_cons (ps_if (PW.pt (pw_and (pt_cmpR op_gt (pe_callB call_len (by rfl) (qDq B) (by decide +kernel) (pa_cons (pe_ix ix_list (pv 1) pe_int (fun _ _ => rfl)) pa_nil)) pe_int (nomark _)) (pw_and (pt_cmpR op_lt (pe_ix ix_list (pe_ix ix_list (pv 1) pe_int (fun _ _ => rfl)) (pe_un un_neg pe_int) (fun _ _ => rfl)) pe_int (nomark _)) (pw_and1 (pt_cmpR op_eq (qAh (dvs := []) (qA1 B) (hr.mono (by decide)) rfl passL (pa_cons (pv 0) (pa_cons pe_int pa_nil))) pe_int (nomark _)))))) (pss_one (ps_set (i := 5) qCh.nd rfl (Or.inl rfl) (pe_ix ix_list (pe_ix ix_list (pv 1) pe_int (fun _ _ => rfl)) (pe_un un_neg pe_int) (fun _ _ => rfl)))) pss_nil)
  (pss_cons (ps_if (pt_cmpR op_le (pv 5) (pv 4) (nomark _)) (pss_one (ps_set (i := 5) qCh.nd rfl (Or.inl rfl) (pe_op op_add (pv 4) pe_int))) pss_nil)
  (pss_one (ps_ret (pe_lst (pa_cons (pv 4) (pa_cons (pv 5) pa_nil))))))))))))))
theorem qAjr (B : Bd K mg) : qEo PySem.Challenge.pw_momentrows_k22_whole_steps_move_along w K mg base 35 "_law_ends" [] (lift K qIn) := by
  obtain ⟨fd, F, G⟩ := qAf9 (w := w) (base := base) B
  exact ⟨_, fd, ["_law_feed_here", "_law_lot_here"], [], qZ9 B, F.kp, G, F.bindsN fun _ _ _ _ _ _ us hl => match us, hl with | [_, _], _ => rfl, .nil⟩
theorem qM5 (B : Bd K mg) : ∃ fd, FunD K "coefficients_of" "coefficients_of" (defArgs qA5) (defBody qA5) (defScope qA5) [] [] (He.ga K "coefficients_of") fd ∧ FnOk PySem.Challenge.pw_momentrows_k22_whole_steps_move_along w K mg base (CXX PySem.Challenge.pw_momentrows_k22_whole_steps_move_along w) 35 (He.ga K "coefficients_of") fd ["value"] (lift K (qJ4 csL)) := by
  obtain ⟨fd, F0⟩ := B.says.def_ 34 (d := qG8) rfl
  have F : FunD K "coefficients_of" "coefficients_of" (defArgs qA5) (defBody qA5) (defScope qA5) [] [] (He.ga K "coefficients_of") fd := F0
  refine ⟨fd, F, F.ok qNo (fun vs H Q E h => ?_) (fun cdv A outer s H vs Q E hr h => ⟨qFf K csL, ?_, qN2 (KFB B) (by decide) (by decide) vs H Q E h⟩)⟩
  · exact qLh (cs := csL) _ _ _ _ h
  · exact (pss_cons (ps_if (pt_val (pe_callB call_isi (by rfl) (qBa B) (by decide +kernel) (pa_cons (pv 0) (pa_cons (pe_glob (v := .ref (He.ga K "Poly")) (by rfl) (qAgx B) rfl) pa_nil)))) (pss_one (ps_ret (pe_callTy call_list_of (by rfl) (qXm B) (by decide +kernel) (pa_cons (pe_fld (pv 0) rfl) pa_nil)))) pss_nil)
  (pss_cons (ps_if (pt_val (pe_callB call_isi (by rfl) (qBa B) (by decide +kernel) (pa_cons (pv 0) (pa_cons (pe_glob (v := .ref (He.ga K "Ratio")) (by rfl) (qFg B) rfl) pa_nil)))) (pss_one (ps_ret (pe_ifExp (pt_cmpR op_ne (pe_fld (pv 0) rfl) pe_int (nomark _)) (pe_lst (pa_cons (pv 0) pa_nil)) (pe_lst pa_nil)))) pss_nil)
  (pss_cons (ps_if (pt_val (qAh (dvs := []) (qBx B) (hr.mono (by decide)) rfl passL (pa_cons (pv 0) pa_nil))) (pss_one (ps_ret (pe_ifExp (pt_cmpR op_ne (pv 0) pe_int (nomark _)) (pe_lst (pa_cons (qAs (dvs := [.int 1]) (qA4 B) (hr.mono (by decide)) rfl passL (pa_cons (pv 0) pa_nil)) pa_nil)) (pe_lst pa_nil)))) pss_nil)
  (pss_one (ps_ret pe_non)))))
theorem qH2 (B : Bd K mg) : qEo PySem.Challenge.pw_momentrows_k22_whole_steps_move_along w K mg base 35 "coefficients_of" [] (lift K (qJ4 csL)) := by
  obtain ⟨fd, F, G⟩ := qM5 (w := w) (base := base) B
  exact ⟨_, fd, ["value"], [], qM2 B, F.kp, G, F.bindsN fun _ _ _ _ _ _ us hl => match us, hl with | [_], _ => rfl, .nil⟩
theorem qYi (B : Bd K mg) : ∃ fd, FunD K "check_row" "check_row" (defArgs qCe) (defBody qCe) (defScope qCe) [.int 13] [] (He.ga K "check_row") fd ∧ FnOk PySem.Challenge.pw_momentrows_k22_whole_steps_move_along w K mg base (CXX PySem.Challenge.pw_momentrows_k22_whole_steps_move_along w) 37 (He.ga K "check_row") fd ["row", "limit"] (lift K (qC3 csL)) := by
  obtain ⟨fd, F0⟩ := B.says.def_ 16 (d := qPu) rfl
  have F : FunD K "check_row" "check_row" (defArgs qCe) (defBody qCe) (defScope qCe) [.int 13] [] (He.ga K "check_row") fd := F0
  refine ⟨fd, F, F.ok qF2 (fun vs H Q E h => ?_) (fun cdv A outer s H vs Q E hr h => ⟨qHc K csL E, ?_, qZ3 (KFB B) (by decide) vs H Q E h⟩)⟩
  · exact qWf (cs := csL) _ _ _ _ h
  · exact (pss_cons (ps_if (PW.pt (pw_or (pt_not (pt_val (pe_callB call_isiT (by rfl) (qBa B) (by decide +kernel) (pa_cons (pv 0) (pa_cons (pe_tup (pa_cons (pe_bltn (v := .ty "list") (by rfl) (qXm B) (by decide +kernel) rfl) (pa_cons (pe_bltn (v := .ty "tuple") (by rfl) (qWk B) (by decide +kernel) rfl) pa_nil))) pa_nil))))) (pw_or (pt_not (pt_truth (pv 0) (by intro _; rfl))) (pw_or1 (pt_cmpR op_gt (pe_callB call_len (by rfl) (qDq B) (by decide +kernel) (pa_cons (pv 0) pa_nil)) (pv 1) (nomark _)))))) (pss_one (qD5 rfl (qYl B) qAdh (qAex B) hr (takes_of rfl rfl rfl rfl) (pa_cons (pe_un un_neg pe_int) pa_nil))) pss_nil)
  (pss_cons (ps_for (passes_of rfl) rfl (qNe (by rfl) (qF4 B) (pa_cons (pv 0) pa_nil)) (pg_tup rfl (pgs_cons (pg_name (i := 2) qF2.nd rfl (Or.inl rfl)) (pgs_cons (pg_name (i := 3) qF2.nd rfl (Or.inl rfl)) pgs_nil))) (pss_one (ps_if (pt_not (pt_val (qAh (dvs := []) (qH6 B) (hr.mono (by decide)) rfl passL (pa_cons (pv 3) pa_nil)))) (pss_one (qD5 rfl (qYl B) qAdh (qAex B) hr (takes_of rfl rfl rfl rfl) (pa_cons (pv 2) pa_nil))) pss_nil)))
  (pss_one (ps_ret (pe_lc (own := [("item", 3)]) (g := (gName 3)) (tt := tYes) rfl qF2.nd (qAgy (pv 0)) (blkOk_by (N := ["row", "limit", "index", "item"]) (sc := defScope qCe) (own := [("item", 3)]) (by decide +kernel)) (fun _ _ _ _ _ => pg_name (i := 3) qF2.nd rfl (Or.inl rfl)) (fun _ _ _ _ _ => pts_nil) (fun _ _ _ _ _ => (qAh (dvs := []) (qE8 B) (hr.mono (by decide)) rfl passL (pa_cons (pv 3) (pa_cons pe_str pa_nil)))))))))
theorem qIz (B : Bd K mg) : qEo PySem.Challenge.pw_momentrows_k22_whole_steps_move_along w K mg base 37 "check_row" [.int 13] (lift K (qC3 csL)) := by
  obtain ⟨fd, F, G⟩ := qYi (w := w) (base := base) B
  obtain ⟨ds, v, b⟩ := F.binds1 (ps := ["row", "limit"]) 1 0 (by simp) rfl fun T kV doc pm an cdv ct us its hu hi => match us, hu, its, hi with | [_], _, [_], _ => ⟨_, rfl, rfl⟩
  exact ⟨_, fd, ["row", "limit"], ds, qZi B, F.kp, G, b, v⟩
theorem qAjp (B : Bd K mg) : ∃ fd, FunD K "_law_lot" "_law_lot" (defArgs qEs) (defBody qEs) (defScope qEs) [] [] (He.ga K "_law_lot") fd ∧ FnOk PySem.Challenge.pw_momentrows_k22_whole_steps_move_along w K mg base (CXX PySem.Challenge.pw_momentrows_k22_whole_steps_move_along w) 37 (He.ga K "_law_lot") fd ["_law_feed_here", "_law_most"] (lift K qV6) := by
  obtain ⟨fd, F0⟩ := B.says.def_ 25 (d := qZr) rfl
  have F : FunD K "_law_lot" "_law_lot" (defArgs qEs) (defBody qEs) (defScope qEs) [] [] (He.ga K "_law_lot") fd := F0
  refine ⟨fd, F, F.ok qG4 (fun vs H Q E h => ?_) (fun cdv A outer s H vs Q E hr h => ⟨qSu K csL, ?_, qAh8 (KFB B) (by decide) vs H Q E h⟩)⟩
  · exact qAgc (cs := csL) _ _ _ _ h
  · exact (pss_cons (ps_set (i := 2) qG4.nd rfl (Or.inl rfl) (pe_ix ix_list (pe_lst (pa_cons pe_int (pa_cons pe_int (pa_cons (pe_op op_pow pe_int pe_int) pa_nil)))) (qAh (dvs := []) (qA1 B) (hr.mono (by decide)) rfl passL (pa_cons (pv 0) (pa_cons pe_int pa_nil))) (fun _ _ => rfl)))
  (pss_cons (ps_set (i := 3) qG4.nd rfl (Or.inl rfl) (qAh (dvs := []) (qIj B) (hr.mono (by decide)) rfl passL (pa_cons (pv 0) (pa_cons (pv 2) pa_nil))))
  (pss_cons (ps_set (i := 4) qG4.nd rfl (Or.inl rfl) (pe_lst pa_nil))
  (pss_cons (ps_set (i := 5) qG4.nd rfl (Or.inl rfl) (pe_lst pa_nil))
  (pss_cons (ps_for (passes_of rfl) rfl (pi_range1 (by rfl) (qDn B) (pa_cons (qAh (dvs := []) (qA1 B) (hr.mono (by decide)) rfl passL (pa_cons (pv 0) (pa_cons (pe_op op_add (pv 1) pe_int) pa_nil))) pa_nil)) (pg_name (i := 6) qG4.nd rfl (Or.inl rfl)) (pss_cons (ps_expr (pe_bm PySem.F.plainAttrs_list PySem.F.slot_list_append PySem.F.type_list_append mt_append (pv 4) (pa_cons (pv 3) pa_nil)))
  (pss_cons (ps_expr (pe_bm PySem.F.plainAttrs_list PySem.F.slot_list_append PySem.F.type_list_append mt_append (pv 5) (pa_cons (pe_op op_add pe_int (qAh (dvs := []) (qA1 B) (hr.mono (by decide)) rfl passL (pa_cons (pv 0) (pa_cons (pv 2) pa_nil)))) pa_nil)))
  (pss_one (ps_set (i := 3) qG4.nd rfl (Or.inl rfl) (pe_op op_add (pe_op op_add (pv 3) pe_int) (qAh (dvs := []) (qA1 B) (hr.mono (by decide)) rfl passL (pa_cons (pv 0) (pa_cons (pv 2) pa_nil)))))))))
  (pss_one (ps_ret (pe_lst (pa_cons (pv 4) (pa_cons (pv 5) (pa_cons (pe_op op_add pe_int (qAh (dvs := []) (qA1 B) (hr.mono (by decide)) rfl passL (pa_cons (pv 0) (pa_cons pe_int pa_nil)))) (pa_cons (pe_op op_add pe_int (qAh (dvs := []) (qA1 B) (hr.mono (by decide)) rfl passL (pa_cons (pv 0) (pa_cons pe_int pa_nil)))) pa_nil))))))))))))
theorem qAle (B : Bd K mg) : qEo PySem.Challenge.pw_momentrows_k22_whole_steps_move_along w K mg base 37 "_law_lot" [] (lift K qV6) := by
  obtain ⟨fd, F, G⟩ := qAjp (w := w) (base := base) B
  exact ⟨_, fd, ["_law_feed_here", "_law_most"], [], qAan B, F.kp, G, F.bindsN fun _ _ _ _ _ _ us hl => match us, hl with | [_, _], _ => rfl, .nil⟩
theorem qIh (B : Bd K mg) : ∃ fd, FunD K "__init__" "Place.__init__" (defArgs qB3) (defBody qB3) (defScope qB3) [.non, .non] [] (He.ma K (He.ga K "Place") "__init__") fd ∧ FnOk PySem.Challenge.pw_momentrows_k22_whole_steps_move_along w K mg base (CXX PySem.Challenge.pw_momentrows_k22_whole_steps_move_along w) 37 (He.ma K (He.ga K "Place") "__init__") fd ["self", "low", "high"] (qG6 K "Place" (qC0 csL)) := by
  obtain ⟨fd, F0⟩ := B.says.def_ 28 (d := qNr) rfl
  have F : FunD K "__init__" "Place.__init__" (defArgs qB3) (defBody qB3) (defScope qB3) [.non, .non] [] (He.ma K (He.ga K "Place") "__init__") fd := F0
  refine ⟨fd, F, F.ok qU0 (fun vs H Q E h => ?_) (fun cdv A outer s H vs Q E hr h => ⟨qNb K csL E, ?_, qWl (KFB B) (by decide) (by decide) vs H Q E h⟩)⟩
  · obtain ⟨_, _, _, _, _, _, _, _, _, rfl, _, _, _, _, lv, r, hf, _⟩ := h; rw [List.length_cons, r.length]; exact congrArg (· + 1) (qRy _ _ _ hf)
  · exact (pss_cons (ps_if (PW.pt (pw_and (pt_cmpR op_notN (pv 1) pe_non (nomark _)) (pw_and1 (pt_not (pt_val (qAh (dvs := []) (qH6 B) (hr.mono (by decide)) rfl passL (pa_cons (pv 1) pa_nil))))))) (pss_one (qD5 rfl (qLj B) qAc7 (qO9 B) hr (takes_of rfl rfl rfl rfl) (pa_cons pe_str pa_nil))) pss_nil)
  (pss_cons (ps_if (PW.pt (pw_and (pt_cmpR op_notN (pv 2) pe_non (nomark _)) (pw_and1 (pt_not (pt_val (qAh (dvs := []) (qH6 B) (hr.mono (by decide)) rfl passL (pa_cons (pv 2) pa_nil))))))) (pss_one (qD5 rfl (qLj B) qAc7 (qO9 B) hr (takes_of rfl rfl rfl rfl) (pa_cons pe_str pa_nil))) pss_nil)
  (pss_cons (ps_fld (pv 0) (pe_ifExp (pt_cmpR op_isN (pv 1) pe_non (nomark _)) pe_non (qAh (dvs := []) (qE8 B) (hr.mono (by decide)) rfl (qEc (takes_of rfl rfl rfl rfl) fun _ _ _ _ z => z) (pa_cons (pv 1) (pa_cons pe_str pa_nil)))) rfl)
  (pss_cons (ps_fld (pv 0) (pe_ifExp (pt_cmpR op_isN (pv 2) pe_non (nomark _)) pe_non (qAh (dvs := []) (qE8 B) (hr.mono (by decide)) rfl (qEc (takes_of rfl rfl rfl rfl) fun _ _ _ _ z => z) (pa_cons (pv 2) (pa_cons pe_str pa_nil)))) rfl)
  (pss_one (ps_if (PW.pt (pw_and (pt_cmpR op_notN (pe_fld (pv 0) rfl) pe_non (nomark _)) (pw_and1 (PW.pt (pw_or (pt_cmpR op_isN (pe_fld (pv 0) rfl) pe_non (nomark _)) (pw_or1 (pt_not (pt_cmpR (qG3 (qT7 B) (qAt B) (hr.mono (by decide)) passL) (pe_fld (pv 0) rfl) (pe_fld (pv 0) rfl) (nomark _))))))))) (pss_one (qD5 rfl (qLj B) qAc7 (qO9 B) hr (takes_of rfl rfl rfl rfl) (pa_cons pe_str pa_nil))) pss_nil))))))
theorem qHn (B : Bd K mg) : qQd PySem.Challenge.pw_momentrows_k22_whole_steps_move_along w K mg base 37 "Place" (He.ga K "Place") [] (qG6 K "Place" (qC0 csL)) := by
  obtain ⟨fd, F, G⟩ := qIh (w := w) (base := base) B
  obtain ⟨ds, v, b⟩ := F.binds1 (ps := ["self", "low", "high"]) 3 2 (by simp) rfl fun T kV doc pm an cdv ct us its hu hi => match us, hu, its, hi with | [_, _, _], _, [_, _], _ => ⟨_, rfl, rfl⟩
  exact ⟨_, fd, ["self", "low", "high"], ds, qV0 B, He.mkr_ok (B.says.fact 80 rfl), G, b, v⟩
theorem qTv (B : Bd K mg) : qQd PySem.Challenge.pw_momentrows_k22_whole_steps_move_along w K mg base 37 "Place" (He.ga K "Place") [.non] (qG6 K "Place" (qC0 csL)) := by
  obtain ⟨fd, F, G⟩ := qIh (w := w) (base := base) B
  obtain ⟨ds, v, b⟩ := F.binds1 (ps := ["self", "low", "high"]) 2 1 (by simp) rfl fun T kV doc pm an cdv ct us its hu hi => match us, hu, its, hi with | [_, _], _, [_, _], _ => ⟨_, rfl, rfl⟩
  exact ⟨_, fd, ["self", "low", "high"], ds, qV0 B, He.mkr_ok (B.says.fact 80 rfl), G, b, v⟩
theorem qTm (B : Bd K mg) : qQd PySem.Challenge.pw_momentrows_k22_whole_steps_move_along w K mg base 37 "Place" (He.ga K "Place") [.non, .non] (qG6 K "Place" (qC0 csL)) := by
  obtain ⟨fd, F, G⟩ := qIh (w := w) (base := base) B
  obtain ⟨ds, v, b⟩ := F.binds1 (ps := ["self", "low", "high"]) 1 0 (by simp) rfl fun T kV doc pm an cdv ct us its hu hi => match us, hu, its, hi with | [_], _, [_, _], _ => ⟨_, rfl, rfl⟩
  exact ⟨_, fd, ["self", "low", "high"], ds, qV0 B, He.mkr_ok (B.says.fact 80 rfl), G, b, v⟩
theorem qAjv (B : Bd K mg) : ∃ fd, FunD K "_law_any" "_law_any" (defArgs qEr) (defBody qEr) (defScope qEr) [] [] (He.ga K "_law_any") fd ∧ FnOk PySem.Challenge.pw_momentrows_k22_whole_steps_move_along w K mg base (CXX PySem.Challenge.pw_momentrows_k22_whole_steps_move_along w) 37 (He.ga K "_law_any") fd ["_law_feed_here", "_law_lot_here", "_law_d"] (lift K qMp) := by
  obtain ⟨fd, F0⟩ := B.says.def_ 30 (d := qZv) rfl
  have F : FunD K "_law_any" "_law_any" (defArgs qEr) (defBody qEr) (defScope qEr) [] [] (He.ga K "_law_any") fd := F0
  refine ⟨fd, F, F.ok qJ1 (fun vs H Q E h => ?_) (fun cdv A outer s H vs Q E hr h => ⟨qSo K csL, ?_, qAje (KFB B) (by decide) vs H Q E h⟩)⟩
  · exact qAf4 (cs := csL) _ _ _ _ h
  · exact (pss_cons (ps_set (i := 3) qJ1.nd rfl (Or.inl rfl) (qAh (dvs := []) (qX6 B) (hr.mono (by decide)) rfl passL (pa_cons (pv 1) (pa_cons (pv 2) pa_nil))))
  (pss_cons (ps_set (i := 4) qJ1.nd rfl (Or.inl rfl) (qAh (dvs := []) (qA1 B) (hr.mono (by decide)) rfl passL (pa_cons (pv 0) (pa_cons pe_int pa_nil))))
  (pss_cons (ps_if (pt_cmpR op_eq (pv 4) pe_int (nomark _)) (pss_cons (ps_set (i := 5) qJ1.nd rfl (Or.inl rfl) (qAh (dvs := []) (qA1 B) (hr.mono (by decide)) rfl passL (pa_cons (pv 0) (pa_cons (pe_op op_add (pv 2) pe_int) pa_nil))))
  (pss_one (ps_asg (pe_lst (pa_cons (pe_op op_add (pe_ix ix_list (pe_ix ix_list (pv 3) (pv 5) (fun _ _ => rfl)) pe_int (fun _ _ => rfl)) (pe_ix ix_list (pe_lst (pa_cons pe_int (pa_cons (pe_un un_neg pe_int) (pa_cons pe_int pa_nil)))) (qAh (dvs := []) (qA1 B) (hr.mono (by decide)) rfl passL (pa_cons (pv 0) (pa_cons pe_int pa_nil))) (fun _ _ => rfl))) (pa_cons (pe_ix ix_list (pe_ix ix_list (pv 3) (pv 5) (fun _ _ => rfl)) pe_int (fun _ _ => rfl)) pa_nil))) (pg_sub (pv 3) (pv 5) set_list)))) pss_nil)
  (pss_cons (ps_if (pt_cmpR op_eq (pv 4) pe_int (nomark _)) (pss_one (ps_for (passes_of rfl) rfl (pi_range1 (by rfl) (qDn B) (pa_cons (pe_op op_add (pv 2) pe_int) pa_nil)) (pg_name (i := 6) qJ1.nd rfl (Or.inl rfl)) (pss_one (ps_asg (pe_lst (pa_cons (pe_op op_add (pe_ix ix_list (pe_ix ix_list (pv 3) (pv 6) (fun _ _ => rfl)) pe_int (fun _ _ => rfl)) (qAh (dvs := []) (qIj B) (hr.mono (by decide)) rfl passL (pa_cons (pv 0) (pa_cons pe_int pa_nil)))) (pa_cons (pe_ix ix_list (pe_ix ix_list (pv 3) (pv 6) (fun _ _ => rfl)) pe_int (fun _ _ => rfl)) pa_nil))) (pg_sub (pv 3) (pv 6) set_list))))) pss_nil)
  (pss_one (ps_ret (pv 3)))))))
theorem qAmj (B : Bd K mg) : qEo PySem.Challenge.pw_momentrows_k22_whole_steps_move_along w K mg base 37 "_law_any" [] (lift K qMp) := by
  obtain ⟨fd, F, G⟩ := qAjv (w := w) (base := base) B
  exact ⟨_, fd, ["_law_feed_here", "_law_lot_here", "_law_d"], [], qAcd B, F.kp, G, F.bindsN fun _ _ _ _ _ _ us hl => match us, hl with | [_, _, _], _ => rfl, .nil⟩
theorem qAlp (B : Bd K mg) : ∃ fd, FunD K "added" "added" (defArgs qFv) (defBody qFv) (defScope qFv) [] [] (He.ga K "added") fd ∧ FnOk PySem.Challenge.pw_momentrows_k22_whole_steps_move_along w K mg base (CXX PySem.Challenge.pw_momentrows_k22_whole_steps_move_along w) 37 (He.ga K "added") fd ["one", "other"] (lift K qPq) := by
  obtain ⟨fd, F0⟩ := B.says.def_ 35 (d := qAdg) rfl
  have F : FunD K "added" "added" (defArgs qFv) (defBody qFv) (defScope qFv) [] [] (He.ga K "added") fd := F0
  refine ⟨fd, F, F.ok qNn (fun vs H Q E h => ?_) (fun cdv A outer s H vs Q E hr h => ⟨qW5 K csL, ?_, qAld (KFB B) (by decide) (by decide) vs H Q E h⟩)⟩
  · exact qAip (cs := csL) _ _ _ _ h
  · exact (pss_cons (ps_set (i := 2) qNn.nd rfl (Or.inl rfl) (pe_lst pa_nil))
  (pss_cons (ps_for (passes_of rfl) rfl (pi_range1 (by rfl) (qDn B) (pa_cons (pe_callB (call_max2 rfl) (by rfl) (qAdi B) (by decide +kernel) (pa_cons (pe_callB call_len (by rfl) (qDq B) (by decide +kernel) (pa_cons (pv 0) pa_nil)) (pa_cons (pe_callB call_len (by rfl) (qDq B) (by decide +kernel) (pa_cons (pv 1) pa_nil)) pa_nil))) pa_nil)) (pg_name (i := 3) qNn.nd rfl (Or.inl rfl)) (pss_cons (ps_set (i := 4) qNn.nd rfl (Or.inl rfl) (pe_ifExp (pt_cmpR op_lt (pv 3) (pe_callB call_len (by rfl) (qDq B) (by decide +kernel) (pa_cons (pv 0) pa_nil)) (nomark _)) (pe_ix qAh9 (pv 0) (pv 3) (fun _ _ => rfl)) (qAs (dvs := [.int 1]) (qA4 B) (hr.mono (by decide)) rfl passL (pa_cons pe_int pa_nil))))
  (pss_cons (ps_if (pt_cmpR op_lt (pv 3) (pe_callB call_len (by rfl) (qDq B) (by decide +kernel) (pa_cons (pv 1) pa_nil)) (nomark _)) (pss_one (ps_set (i := 4) qNn.nd rfl (Or.inl rfl) (pe_op (qDr "add" (qDd B) (qAt B) (hr.mono (by decide)) passL) (pv 4) (pe_ix qAh9 (pv 1) (pv 3) (fun _ _ => rfl))))) pss_nil)
  (pss_one (ps_expr (pe_bm PySem.F.plainAttrs_list PySem.F.slot_list_append PySem.F.type_list_append mt_append (pv 2) (pa_cons (pv 4) pa_nil)))))))
  (pss_one (ps_ret (pv 2)))))
theorem qAoc (B : Bd K mg) : qEo PySem.Challenge.pw_momentrows_k22_whole_steps_move_along w K mg base 37 "added" [] (lift K qPq) := by
  obtain ⟨fd, F, G⟩ := qAlp (w := w) (base := base) B
  exact ⟨_, fd, ["one", "other"], [], qAlh B, F.kp, G, F.bindsN fun _ _ _ _ _ _ us hl => match us, hl with | [_, _], _ => rfl, .nil⟩
theorem qWu (B : Bd K mg) : ∃ fd, FunD K "multiplied" "multiplied" (defArgs qBr) (defBody qBr) (defScope qBr) [] [] (He.ga K "multiplied") fd ∧ FnOk PySem.Challenge.pw_momentrows_k22_whole_steps_move_along w K mg base (CXX PySem.Challenge.pw_momentrows_k22_whole_steps_move_along w) 37 (He.ga K "multiplied") fd ["one", "other"] (lift K qJw) := by
  obtain ⟨fd, F0⟩ := B.says.def_ 36 (d := qM4) rfl
  have F : FunD K "multiplied" "multiplied" (defArgs qBr) (defBody qBr) (defScope qBr) [] [] (He.ga K "multiplied") fd := F0
  refine ⟨fd, F, F.ok qDl (fun vs H Q E h => ?_) (fun cdv A outer s H vs Q E hr h => ⟨qI3 K csL, ?_, qW1 (KFB B) (by decide) (by decide) vs H Q E h⟩)⟩
  · exact qT0 (cs := csL) _ _ _ _ h
  · exact (pss_cons (ps_if (PW.pt (pw_or (pt_not (pt_truth (pv 0) (by intro _; rfl))) (pw_or1 (pt_not (pt_truth (pv 1) (by intro _; rfl)))))) (pss_one (ps_ret (pe_lst pa_nil))) pss_nil)
  (pss_cons (ps_setLc (i := 2) (own := [("_", 5)]) (g := (gName 5)) (tt := tYes) rfl qDl.nd rfl rfl (sw_true rfl rfl rfl (by decide +kernel)) (pi_range1 (by rfl) (qDn B) (pa_cons (pe_op op_sub (pe_op op_add (pe_callB call_len (by rfl) (qDq B) (by decide +kernel) (pa_cons (pv 0) pa_nil)) (pe_callB call_len (by rfl) (qDq B) (by decide +kernel) (pa_cons (pv 1) pa_nil))) pe_int) pa_nil)) (blkOk_by (N := ["one", "other", "row", "i", "a", "_", "j", "b"]) (sc := defScope qBr) (own := [("_", 5)]) (by decide +kernel)) (fun _ _ _ _ _ => pg_name (i := 5) qDl.nd rfl (Or.inl rfl)) (fun _ _ _ _ _ => pts_nil) (fun _ _ _ _ _ => (qAs (dvs := [.int 1]) (qA4 B) (hr.mono (by decide)) rfl passL (pa_cons pe_int pa_nil))))
  (pss_cons (ps_for (passes_of rfl) rfl (qNe (by rfl) (qF4 B) (pa_cons (pv 0) pa_nil)) (pg_tup rfl (pgs_cons (pg_name (i := 3) qDl.nd rfl (Or.inl rfl)) (pgs_cons (pg_name (i := 4) qDl.nd rfl (Or.inl rfl)) pgs_nil))) (pss_one (ps_for (passes_of rfl) rfl (qNe (by rfl) (qF4 B) (pa_cons (pv 1) pa_nil)) (pg_tup rfl (pgs_cons (pg_name (i := 6) qDl.nd rfl (Or.inl rfl)) (pgs_cons (pg_name (i := 7) qDl.nd rfl (Or.inl rfl)) pgs_nil))) (pss_one (ps_asg (pe_op (qDr "add" (qDd B) (qAt B) (hr.mono (by decide)) passL) (pe_ix ix_list (pv 2) (pe_op op_add (pv 3) (pv 6)) (fun _ _ => rfl)) (pe_op (qDr "mul" (qCj B) (qBv B) (hr.mono (by decide)) passL) (pv 4) (pv 7))) (pg_sub (pv 2) (pe_op op_add (pv 3) (pv 6)) set_list))))))
  (pss_one (ps_ret (pv 2))))))
theorem qZn (B : Bd K mg) : qEo PySem.Challenge.pw_momentrows_k22_whole_steps_move_along w K mg base 37 "multiplied" [] (lift K qJw) := by
  obtain ⟨fd, F, G⟩ := qWu (w := w) (base := base) B
  exact ⟨_, fd, ["one", "other"], [], qVv B, F.kp, G, F.bindsN fun _ _ _ _ _ _ us hl => match us, hl with | [_, _], _ => rfl, .nil⟩
theorem qXw (B : Bd K mg) : ∃ fd, FunD K "__init__" "Poly.__init__" (defArgs qCa) (defBody qCa) (defScope qCa) [] [] (He.ma K (He.ga K "Poly") "__init__") fd ∧ FnOk PySem.Challenge.pw_momentrows_k22_whole_steps_move_along w K mg base (CXX PySem.Challenge.pw_momentrows_k22_whole_steps_move_along w) 37 (He.ma K (He.ga K "Poly") "__init__") fd ["self", "coefficients"] (qG6 K "Poly" (qB1 csL)) := by
  obtain ⟨fd, F0⟩ := B.says.def_ 37 (d := qQf) rfl
  have F : FunD K "__init__" "Poly.__init__" (defArgs qCa) (defBody qCa) (defScope qCa) [] [] (He.ma K (He.ga K "Poly") "__init__") fd := F0
  refine ⟨fd, F, F.ok qF3 (fun vs H Q E h => ?_) (fun cdv A outer s H vs Q E hr h => ⟨qP0 K csL E, ?_, qAag (KFB B) (by decide) (by decide) vs H Q E h⟩)⟩
  · obtain ⟨_, _, _, _, _, _, _, _, _, rfl, _, _, _, _, lv, r, hf, _⟩ := h; rw [List.length_cons, r.length]; exact congrArg (· + 1) (qTh _ _ _ hf)
  · exact (pss_cons (ps_if (pt_not (pt_val (pe_callB call_isiT (by rfl) (qBa B) (by decide +kernel) (pa_cons (pv 1) (pa_cons (pe_tup (pa_cons (pe_bltn (v := .ty "list") (by rfl) (qXm B) (by decide +kernel) rfl) (pa_cons (pe_bltn (v := .ty "tuple") (by rfl) (qWk B) (by decide +kernel) rfl) pa_nil))) pa_nil))))) (pss_one (qUg rfl (takes_of rfl rfl rfl rfl) (qYc B) (qZl B))) pss_nil)
  (pss_cons (ps_for (passes_of rfl) rfl (qAgy (pv 1)) (pg_name (i := 2) qF3.nd rfl (Or.inl rfl)) (pss_one (ps_if (pt_not (pt_val (qAh (dvs := []) (qH6 B) (hr.mono (by decide)) rfl passL (pa_cons (pv 2) pa_nil)))) (pss_one (qUg rfl (takes_of rfl rfl rfl rfl) (qYc B) (qZl B))) pss_nil)))
  (pss_cons (ps_set (i := 3) qF3.nd rfl (Or.inl rfl) (qAh (dvs := []) (qSj B) (hr.mono (by decide)) rfl passL (pa_cons (pe_lc (own := [("item", 2)]) (g := (gName 2)) (tt := tYes) rfl qF3.nd (qAgy (pv 1)) (blkOk_by (N := ["self", "coefficients", "item", "kept"]) (sc := defScope qCa) (own := [("item", 2)]) (by decide +kernel)) (fun _ _ _ _ _ => pg_name (i := 2) qF3.nd rfl (Or.inl rfl)) (fun _ _ _ _ _ => pts_nil) (fun _ _ _ _ _ => (qAh (dvs := []) (qE8 B) (hr.mono (by decide)) rfl passL (pa_cons (pv 2) (pa_cons pe_str pa_nil))))) pa_nil)))
  (pss_cons (ps_fld (pv 0) (pe_callTy call_tuple_of (by rfl) (qWk B) (by decide +kernel) (pa_cons (pv 3) pa_nil)) rfl)
  (pss_cons (ps_fld (pv 0) (pe_op op_sub (pe_callB call_len (by rfl) (qDq B) (by decide +kernel) (pa_cons (pv 3) pa_nil)) pe_int) rfl)
  (pss_one (ps_fld (pv 0) (pe_ifExp (pt_truth (pv 3) (by intro _; rfl)) (pe_ix ix_list (pv 3) (pe_un un_neg pe_int) (fun _ _ => rfl)) (qAs (dvs := [.int 1]) (qA4 B) (hr.mono (by decide)) rfl (qEc (takes_of rfl rfl rfl rfl) fun _ _ _ _ z => z) (pa_cons pe_int pa_nil))) rfl)))))))
theorem qD7 (B : Bd K mg) : qQd PySem.Challenge.pw_momentrows_k22_whole_steps_move_along w K mg base 37 "Poly" (He.ga K "Poly") [] (qG6 K "Poly" (qB1 csL)) := by
  obtain ⟨fd, F, G⟩ := qXw (w := w) (base := base) B
  exact ⟨_, fd, ["self", "coefficients"], [], qAgx B, He.mkr_ok (B.says.fact 83 rfl), G, F.bindsN fun _ _ _ _ _ _ us hl => match us, hl with | [_, _], _ => rfl, .nil⟩
theorem qAcz (B : Bd K mg) : ∃ fd, FunD K "mean_of" "mean_of" (defArgs qDf) (defBody qDf) (defScope qDf) [] [] (He.ga K "mean_of") fd ∧ FnOk PySem.Challenge.pw_momentrows_k22_whole_steps_move_along w K mg base (CXX PySem.Challenge.pw_momentrows_k22_whole_steps_move_along w) 37 (He.ga K "mean_of") fd ["numbers", "p"] (lift K qEe) := by
  obtain ⟨fd, F0⟩ := B.says.def_ 41 (d := qRq) rfl
  have F : FunD K "mean_of" "mean_of" (defArgs qDf) (defBody qDf) (defScope qDf) [] [] (He.ga K "mean_of") fd := F0
  refine ⟨fd, F, F.ok qGu (fun vs H Q E h => ?_) (fun cdv A outer s H vs Q E hr h => ⟨qLq K csL, ?_, qAar (KFB B) (by decide) (by decide) vs H Q E h⟩)⟩
  · exact qYu (cs := csL) _ _ _ _ h
  · exact (pss_cons (ps_set (i := 2) qGu.nd rfl (Or.inl rfl) (qAs (dvs := [.int 1]) (qA4 B) (hr.mono (by decide)) rfl passL (pa_cons pe_int pa_nil)))
  (pss_cons (ps_for (passes_of rfl) rfl (qNe (by rfl) (qF4 B) (pa_cons (pe_fld (pv 1) rfl) pa_nil)) (pg_tup rfl (pgs_cons (pg_name (i := 3) qGu.nd rfl (Or.inl rfl)) (pgs_cons (pg_name (i := 4) qGu.nd rfl (Or.inl rfl)) pgs_nil))) (pss_one (ps_set (i := 2) qGu.nd rfl (Or.inl rfl) (pe_op (qDr "add" (qDd B) (qAt B) (hr.mono (by decide)) passL) (pv 2) (pe_op (qDr "mul" (qCj B) (qBv B) (hr.mono (by decide)) passL) (pv 4) (pe_ix qAh9 (pv 0) (pv 3) (fun _ _ => rfl)))))))
  (pss_one (ps_ret (pv 2)))))
theorem qO8 (B : Bd K mg) : qEo PySem.Challenge.pw_momentrows_k22_whole_steps_move_along w K mg base 37 "mean_of" [] (lift K qEe) := by
  obtain ⟨fd, F, G⟩ := qAcz (w := w) (base := base) B
  exact ⟨_, fd, ["numbers", "p"], [], qAf5 B, F.kp, G, F.bindsN fun _ _ _ _ _ _ us hl => match us, hl with | [_, _], _ => rfl, .nil⟩
theorem qAbm (B : Bd K mg) : ∃ fd, FunD K "_law_value" "_law_value" (defArgs qDe) (defBody qDe) (defScope qDe) [] [] (He.ga K "_law_value") fd ∧ FnOk PySem.Challenge.pw_momentrows_k22_whole_steps_move_along w K mg base (CXX PySem.Challenge.pw_momentrows_k22_whole_steps_move_along w) 37 (He.ga K "_law_value") fd ["_law_p", "_law_x"] (lift K qBw) := by
  obtain ⟨fd, F0⟩ := B.says.def_ 49 (d := qRl) rfl
  have F : FunD K "_law_value" "_law_value" (defArgs qDe) (defBody qDe) (defScope qDe) [] [] (He.ga K "_law_value") fd := F0
  refine ⟨fd, F, F.ok qIy (fun vs H Q E h => ?_) (fun cdv A outer s H vs Q E hr h => ⟨qLr K csL, ?_, qAcv (KFB B) (by decide) (by decide) vs H Q E h⟩)⟩
  · exact qZm (cs := csL) _ _ _ _ h
  · exact (pss_cons (ps_set (i := 2) qIy.nd rfl (Or.inl rfl) (qAs (dvs := [.int 1]) (qA4 B) (hr.mono (by decide)) rfl passL (pa_cons pe_int pa_nil)))
  (pss_cons (ps_for (passes_of rfl) rfl (pi_tup (qApi (pe_fld (pv 0) rfl))) (pg_name (i := 3) qIy.nd rfl (Or.inl rfl)) (pss_one (ps_set (i := 2) qIy.nd rfl (Or.inl rfl) (pe_op (qDr "add" (qDd B) (qAt B) (hr.mono (by decide)) passL) (pe_op (qDr "mul" (qCj B) (qBv B) (hr.mono (by decide)) passL) (pv 2) (pv 1)) (pv 3)))))
  (pss_one (ps_ret (pv 2)))))
theorem qE7 (B : Bd K mg) : qEo PySem.Challenge.pw_momentrows_k22_whole_steps_move_along w K mg base 37 "_law_value" [] (lift K qBw) := by
  obtain ⟨fd, F, G⟩ := qAbm (w := w) (base := base) B
  exact ⟨_, fd, ["_law_p", "_law_x"], [], qXc B, F.kp, G, F.bindsN fun _ _ _ _ _ _ us hl => match us, hl with | [_, _], _ => rfl, .nil⟩
theorem qAa0 (B : Bd K mg) : ∃ fd, FunD K "_law_times" "_law_times" (defArgs qC7) (defBody qC7) (defScope qC7) [] [] (He.ga K "_law_times") fd ∧ FnOk PySem.Challenge.pw_momentrows_k22_whole_steps_move_along w K mg base (CXX PySem.Challenge.pw_momentrows_k22_whole_steps_move_along w) 37 (He.ga K "_law_times") fd ["_law_value_here", "_law_by", "_law_many"] (lift K qEa) := by
  obtain ⟨fd, F0⟩ := B.says.def_ 50 (d := qS2) rfl
  have F : FunD K "_law_times" "_law_times" (defArgs qC7) (defBody qC7) (defScope qC7) [] [] (He.ga K "_law_times") fd := F0
  refine ⟨fd, F, F.ok qLl (fun vs H Q E h => ?_) (fun cdv A outer s H vs Q E hr h => ⟨qMa K csL, ?_, qAay (KFB B) (by decide) vs H Q E h⟩)⟩
  · exact qY5 (cs := csL) _ _ _ _ h
  · exact (pss_cons (ps_for (passes_of rfl) rfl (pi_range1 (by rfl) (qDn B) (pa_cons (pv 2) pa_nil)) (pg_name (i := 3) qLl.nd rfl (Or.inl rfl)) (pss_one (ps_set (i := 0) qLl.nd rfl (Or.inl rfl) (pe_op (qDr "mul" (qCj B) (qBv B) (hr.mono (by decide)) passL) (pv 0) (pv 1)))))
  (pss_one (ps_ret (pv 0))))
theorem qPi (B : Bd K mg) : qEo PySem.Challenge.pw_momentrows_k22_whole_steps_move_along w K mg base 37 "_law_times" [] (lift K qEa) := by
  obtain ⟨fd, F, G⟩ := qAa0 (w := w) (base := base) B
  exact ⟨_, fd, ["_law_value_here", "_law_by", "_law_many"], [], qXd B, F.kp, G, F.bindsN fun _ _ _ _ _ _ us hl => match us, hl with | [_, _, _], _ => rfl, .nil⟩
theorem qXz (B : Bd K mg) : ∃ fd, FunD K "moved_row" "moved_row" (defArgs qCc) (defBody qCc) (defScope qCc) [] [] (He.ga K "moved_row") fd ∧ FnOk PySem.Challenge.pw_momentrows_k22_whole_steps_move_along w K mg base (CXX PySem.Challenge.pw_momentrows_k22_whole_steps_move_along w) 39 (He.ga K "moved_row") fd ["row", "by"] (lift K (qDh csL)) := by
  obtain ⟨fd, F0⟩ := B.says.def_ 18 (d := qP2) rfl
  have F : FunD K "moved_row" "moved_row" (defArgs qCc) (defBody qCc) (defScope qCc) [] [] (He.ga K "moved_row") fd := F0
  refine ⟨fd, F, F.ok qD4 (fun vs H Q E h => ?_) (fun cdv A outer s H vs Q E hr h => ⟨qHg K csL E, ?_, qYm (KFB B) (by decide) vs H Q E h⟩)⟩
  · exact qU5 (cs := csL) _ _ _ _ h
  · exact (pss_cons (ps_set (i := 2) qD4.nd rfl (Or.inr rfl) (qAh (dvs := [.int 13]) (qIz B) (hr.mono (by decide)) rfl (qEc (takes_of rfl rfl rfl rfl) fun _ _ _ _ z => z) (pa_cons (pv 0) pa_nil)))
  (pss_cons (ps_set (i := 3) qD4.nd rfl (Or.inr rfl) (qAh (dvs := []) (qE8 B) (hr.mono (by decide)) rfl (qEc (takes_of rfl rfl rfl rfl) fun _ _ _ _ z => z) (pa_cons (pv 1) (pa_cons pe_str pa_nil))))
  (pss_cons (ps_set (i := 4) qD4.nd rfl (Or.inl rfl) (pe_lst pa_nil))
  (pss_cons (ps_while (passes_of rfl) (pt_truth (pv 2) (by intro _; rfl)) (pss_cons (ps_expr (pe_bm PySem.F.plainAttrs_list PySem.F.slot_list_append PySem.F.type_list_append mt_append (pv 4) (pa_cons (pe_ix ix_list (pv 2) pe_int (fun _ _ => rfl)) pa_nil)))
  (pss_one (ps_set (i := 2) qD4.nd rfl (Or.inr rfl) (pe_lc (own := [("k", 5)]) (g := (gName 5)) (tt := tYes) rfl qD4.nd (pi_range1 (by rfl) (qDn B) (pa_cons (pe_op op_sub (pe_callB call_len (by rfl) (qDq B) (by decide +kernel) (pa_cons (pv 2) pa_nil)) pe_int) pa_nil)) (blkOk_by (N := ["row", "by", "numbers", "step", "result", "k"]) (sc := defScope qCc) (own := [("k", 5)]) (by decide +kernel)) (fun _ _ _ _ _ => pg_name (i := 5) qD4.nd rfl (Or.inl rfl)) (fun _ _ _ _ _ => pts_nil) (fun _ _ _ _ _ => (pe_op (qDr "add" (qDd B) (qAt B) (hr.mono (by decide)) passL) (pe_ix ix_list (pv 2) (pe_op op_add (pv 5) pe_int) (fun _ _ => rfl)) (pe_op (qDr "mul" (qCj B) (qBv B) (hr.mono (by decide)) passL) (pv 3) (pe_ix ix_list (pv 2) (pv 5) (fun _ _ => rfl))))))))))
  (pss_one (ps_ret (pv 4)))))))
theorem qSs (B : Bd K mg) : qEo PySem.Challenge.pw_momentrows_k22_whole_steps_move_along w K mg base 39 "moved_row" [] (lift K (qDh csL)) := by
  obtain ⟨fd, F, G⟩ := qXz (w := w) (base := base) B
  exact ⟨_, fd, ["row", "by"], [], qAah B, F.kp, G, F.bindsN fun _ _ _ _ _ _ us hl => match us, hl with | [_, _], _ => rfl, .nil⟩
theorem qW4 (B : Bd K mg) : ∃ fd, FunD K "scaled_row" "scaled_row" (defArgs qB4) (defBody qB4) (defScope qB4) [] [] (He.ga K "scaled_row") fd ∧ FnOk PySem.Challenge.pw_momentrows_k22_whole_steps_move_along w K mg base (CXX PySem.Challenge.pw_momentrows_k22_whole_steps_move_along w) 39 (He.ga K "scaled_row") fd ["row", "by"] (lift K (qCs csL)) := by
  obtain ⟨fd, F0⟩ := B.says.def_ 19 (d := qN0) rfl
  have F : FunD K "scaled_row" "scaled_row" (defArgs qB4) (defBody qB4) (defScope qB4) [] [] (He.ga K "scaled_row") fd := F0
  refine ⟨fd, F, F.ok qDm (fun vs H Q E h => ?_) (fun cdv A outer s H vs Q E hr h => ⟨qGp K csL E, ?_, qWx (KFB B) (by decide) vs H Q E h⟩)⟩
  · exact qTz (cs := csL) _ _ _ _ h
  · exact (pss_cons (ps_set (i := 2) qDm.nd rfl (Or.inl rfl) (qAh (dvs := [.int 13]) (qIz B) (hr.mono (by decide)) rfl (qEc (takes_of rfl rfl rfl rfl) fun _ _ _ _ z => z) (pa_cons (pv 0) pa_nil)))
  (pss_cons (ps_set (i := 3) qDm.nd rfl (Or.inl rfl) (qAh (dvs := []) (qE8 B) (hr.mono (by decide)) rfl (qEc (takes_of rfl rfl rfl rfl) fun _ _ _ _ z => z) (pa_cons (pv 1) (pa_cons pe_str pa_nil))))
  (pss_cons (ps_set (i := 4) qDm.nd rfl (Or.inl rfl) (qAs (dvs := [.int 1]) (qA4 B) (hr.mono (by decide)) rfl (qEc (takes_of rfl rfl rfl rfl) fun _ _ _ _ z => z) (pa_cons pe_int pa_nil)))
  (pss_cons (ps_set (i := 5) qDm.nd rfl (Or.inl rfl) (pe_lst pa_nil))
  (pss_cons (ps_for (passes_of rfl) rfl (pi_list (pv 2)) (pg_name (i := 6) qDm.nd rfl (Or.inl rfl)) (pss_cons (ps_expr (pe_bm PySem.F.plainAttrs_list PySem.F.slot_list_append PySem.F.type_list_append mt_append (pv 5) (pa_cons (pe_op (qDr "mul" (qCj B) (qBv B) (hr.mono (by decide)) passL) (pv 4) (pv 6)) pa_nil)))
  (pss_one (ps_set (i := 4) qDm.nd rfl (Or.inl rfl) (pe_op (qDr "mul" (qCj B) (qBv B) (hr.mono (by decide)) passL) (pv 4) (pv 3))))))
  (pss_one (ps_ret (pv 5))))))))
theorem qPx (B : Bd K mg) : qEo PySem.Challenge.pw_momentrows_k22_whole_steps_move_along w K mg base 39 "scaled_row" [] (lift K (qCs csL)) := by
  obtain ⟨fd, F, G⟩ := qW4 (w := w) (base := base) B
  exact ⟨_, fd, ["row", "by"], [], qVm B, F.kp, G, F.bindsN fun _ _ _ _ _ _ us hl => match us, hl with | [_, _], _ => rfl, .nil⟩
theorem qAcy (B : Bd K mg) : ∃ fd, FunD K "_law_place" "_law_place" (defArgs qDb) (defBody qDb) (defScope qDb) [] [] (He.ga K "_law_place") fd ∧ FnOk PySem.Challenge.pw_momentrows_k22_whole_steps_move_along w K mg base (CXX PySem.Challenge.pw_momentrows_k22_whole_steps_move_along w) 39 (He.ga K "_law_place") fd ["_law_ends_here", "_law_bottom"] (lift K (qGm csL)) := by
  obtain ⟨fd, F0⟩ := B.says.def_ 29 (d := qRm) rfl
  have F : FunD K "_law_place" "_law_place" (defArgs qDb) (defBody qDb) (defScope qDb) [] [] (He.ga K "_law_place") fd := F0
  refine ⟨fd, F, F.ok qAbu (fun vs H Q E h => ?_) (fun cdv A outer s H vs Q E hr h => ⟨qL8 K csL, ?_, qAbf (KFB B) (by decide) (by decide) vs H Q E h⟩)⟩
  · exact qYr (cs := csL) _ _ _ _ h
  · exact (pss_cons (ps_if (pt_cmpR op_isN (pe_ix ix_list (pv 0) pe_int (fun _ _ => rfl)) pe_non (nomark _)) (pss_one (ps_ret (qAj5 (dvs := [.non, .non]) (qTm B) (hr.mono (by decide)) rfl passL))) pss_nil)
  (pss_cons (ps_if (pt_cmpR op_isN (pe_ix ix_list (pv 0) pe_int (fun _ _ => rfl)) pe_non (nomark _)) (pss_one (ps_ret (qAs (dvs := [.non]) (qTv B) (hr.mono (by decide)) rfl passL (pa_cons (qAs (dvs := []) (qA6 B) (hr.mono (by decide)) rfl passL (pa_cons (pe_ix ix_list (pv 0) pe_int (fun _ _ => rfl)) (pa_cons (pv 1) pa_nil))) pa_nil)))) pss_nil)
  (pss_one (ps_ret (qAs (dvs := []) (qHn B) (hr.mono (by decide)) rfl passL (pa_cons (qAs (dvs := []) (qA6 B) (hr.mono (by decide)) rfl passL (pa_cons (pe_ix ix_list (pv 0) pe_int (fun _ _ => rfl)) (pa_cons (pv 1) pa_nil))) (pa_cons (qAs (dvs := []) (qA6 B) (hr.mono (by decide)) rfl passL (pa_cons (pe_ix ix_list (pv 0) pe_int (fun _ _ => rfl)) (pa_cons (pv 1) pa_nil))) pa_nil)))))))
theorem qAfn (B : Bd K mg) : qEo PySem.Challenge.pw_momentrows_k22_whole_steps_move_along w K mg base 39 "_law_place" [] (lift K (qGm csL)) := by
  obtain ⟨fd, F, G⟩ := qAcy (w := w) (base := base) B
  exact ⟨_, fd, ["_law_ends_here", "_law_bottom"], [], qWh B, F.kp, G, F.bindsN fun _ _ _ _ _ _ us hl => match us, hl with | [_, _], _ => rfl, .nil⟩
theorem qTn (B : Bd K mg) : ∃ fd, FunD K "moved" "Place.moved" (defArgs qBo) (defBody qBo) (defScope qBo) [] [] (He.ma K (He.ga K "Place") "moved") fd ∧ FnOk PySem.Challenge.pw_momentrows_k22_whole_steps_move_along w K mg base (CXX PySem.Challenge.pw_momentrows_k22_whole_steps_move_along w) 39 (He.ma K (He.ga K "Place") "moved") fd ["self", "by"] (lift K (qEd csL)) := by
  obtain ⟨fd, F0⟩ := B.says.def_ 31 (d := qK7) rfl
  have F : FunD K "moved" "Place.moved" (defArgs qBo) (defBody qBo) (defScope qBo) [] [] (He.ma K (He.ga K "Place") "moved") fd := F0
  refine ⟨fd, F, F.ok qFu (fun vs H Q E h => ?_) (fun cdv A outer s H vs Q E hr h => ⟨qFw K csL E, ?_, qTx (KFB B) (by decide) (by decide) vs H Q E h⟩)⟩
  · exact qR3 (cs := csL) _ _ _ _ h
  · exact (pss_cons (ps_set (i := 2) qFu.nd rfl (Or.inl rfl) (qAh (dvs := []) (qE8 B) (hr.mono (by decide)) rfl (qEc (takes_of rfl rfl rfl rfl) fun _ _ _ _ z => z) (pa_cons (pv 1) (pa_cons pe_str pa_nil))))
  (pss_cons (ps_set (i := 3) qFu.nd rfl (Or.inl rfl) (pe_ifExp (pt_cmpR op_isN (pe_fld (pv 0) rfl) pe_non (nomark _)) pe_non (pe_op (qDr "add" (qDd B) (qAt B) (hr.mono (by decide)) passL) (pe_fld (pv 0) rfl) (pv 2))))
  (pss_cons (ps_set (i := 4) qFu.nd rfl (Or.inl rfl) (pe_ifExp (pt_cmpR op_isN (pe_fld (pv 0) rfl) pe_non (nomark _)) pe_non (pe_op (qDr "add" (qDd B) (qAt B) (hr.mono (by decide)) passL) (pe_fld (pv 0) rfl) (pv 2))))
  (pss_one (ps_ret (qAs (dvs := []) (qHn B) (hr.mono (by decide)) rfl (qEc (takes_of rfl rfl rfl rfl) fun _ _ _ _ z => z) (pa_cons (pv 3) (pa_cons (pv 4) pa_nil))))))))
theorem qMi (B : Bd K mg) : qEj PySem.Challenge.pw_momentrows_k22_whole_steps_move_along w K mg base 39 (He.ga K "Place") "moved" [] (lift K (qEd csL)) := by
  obtain ⟨fd, F, G⟩ := qTn (w := w) (base := base) B
  exact ⟨_, fd, ["self", "by"], [], ((KFB B).own _ (by decide)).cl, He.meth_ok (B.says.fact 81 rfl), G, F.bindsN fun _ _ _ _ _ _ us hl => match us, hl with | [_, _], _ => rfl, .nil⟩
theorem qMk (B : Bd K mg) : ∃ fd, FunD K "stretched" "Place.stretched" (defArgs qA7) (defBody qA7) (defScope qA7) [] [] (He.ma K (He.ga K "Place") "stretched") fd ∧ FnOk PySem.Challenge.pw_momentrows_k22_whole_steps_move_along w K mg base (CXX PySem.Challenge.pw_momentrows_k22_whole_steps_move_along w) 39 (He.ma K (He.ga K "Place") "stretched") fd ["self", "by"] (lift K (qHz csL)) := by
  obtain ⟨fd, F0⟩ := B.says.def_ 32 (d := qHf) rfl
  have F : FunD K "stretched" "Place.stretched" (defArgs qA7) (defBody qA7) (defScope qA7) [] [] (He.ma K (He.ga K "Place") "stretched") fd := F0
  refine ⟨fd, F, F.ok qD3 (fun vs H Q E h => ?_) (fun cdv A outer s H vs Q E hr h => ⟨qDz K csL E, ?_, qMg (KFB B) (by decide) (by decide) vs H Q E h⟩)⟩
  · exact qLg (cs := csL) _ _ _ _ h
  · exact (pss_cons (ps_set (i := 2) qD3.nd rfl (Or.inl rfl) (qAh (dvs := []) (qE8 B) (hr.mono (by decide)) rfl (qEc (takes_of rfl rfl rfl rfl) fun _ _ _ _ z => z) (pa_cons (pv 1) (pa_cons pe_str pa_nil))))
  (pss_cons (ps_if (pt_not (pt_cmpR (qG3 (qPl B) (qAt B) (hr.mono (by decide)) passL) (pv 2) pe_int (nomark _))) (pss_one (qD5 rfl (qP4 B) qO4 (qSk B) hr (takes_of rfl rfl rfl rfl) (pa_cons pe_str pa_nil))) pss_nil)
  (pss_cons (ps_set (i := 3) qD3.nd rfl (Or.inl rfl) (pe_ifExp (pt_cmpR op_isN (pe_fld (pv 0) rfl) pe_non (nomark _)) pe_non (pe_op (qDr "mul" (qCj B) (qBv B) (hr.mono (by decide)) passL) (pe_fld (pv 0) rfl) (pv 2))))
  (pss_cons (ps_set (i := 4) qD3.nd rfl (Or.inl rfl) (pe_ifExp (pt_cmpR op_isN (pe_fld (pv 0) rfl) pe_non (nomark _)) pe_non (pe_op (qDr "mul" (qCj B) (qBv B) (hr.mono (by decide)) passL) (pe_fld (pv 0) rfl) (pv 2))))
  (pss_one (ps_ret (qAs (dvs := []) (qHn B) (hr.mono (by decide)) rfl (qEc (takes_of rfl rfl rfl rfl) fun _ _ _ _ z => z) (pa_cons (pv 3) (pa_cons (pv 4) pa_nil)))))))))
theorem qH3 (B : Bd K mg) : qEj PySem.Challenge.pw_momentrows_k22_whole_steps_move_along w K mg base 39 (He.ga K "Place") "stretched" [] (lift K (qHz csL)) := by
  obtain ⟨fd, F, G⟩ := qMk (w := w) (base := base) B
  exact ⟨_, fd, ["self", "by"], [], ((KFB B).own _ (by decide)).cl, He.meth_ok (B.says.fact 82 rfl), G, F.bindsN fun _ _ _ _ _ _ us hl => match us, hl with | [_, _], _ => rfl, .nil⟩
theorem qAcs (B : Bd K mg) : ∃ fd, FunD K "__sub__" "Poly.__sub__" (defArgs qCw) (defBody qCw) (defScope qCw) [] [] (He.ma K (He.ga K "Poly") "__sub__") fd ∧ FnOk PySem.Challenge.pw_momentrows_k22_whole_steps_move_along w K mg base (CXX PySem.Challenge.pw_momentrows_k22_whole_steps_move_along w) 39 (He.ma K (He.ga K "Poly") "__sub__") fd ["self", "other"] (lift K (qQt csL)) := by
  obtain ⟨fd, F0⟩ := B.says.def_ 38 (d := qSf) rfl
  have F : FunD K "__sub__" "Poly.__sub__" (defArgs qCw) (defBody qCw) (defScope qCw) [] [] (He.ma K (He.ga K "Poly") "__sub__") fd := F0
  refine ⟨fd, F, F.ok qIu (fun vs H Q E h => ?_) (fun cdv A outer s H vs Q E hr h => ⟨qMb K csL, ?_, qAc0 (KFB B) (by decide) (by decide) vs H Q E h⟩)⟩
  · exact qX3 (cs := csL) _ _ _ _ h
  · exact (pss_cons (ps_set (i := 2) qIu.nd rfl (Or.inl rfl) (qAh (dvs := []) (qH2 B) (hr.mono (by decide)) rfl passL (pa_cons (pv 1) pa_nil)))
  (pss_cons (ps_if (pt_cmpR op_isN (pv 2) pe_non (nomark _)) (pss_one ps_never) pss_nil)
  (pss_one (ps_ret (qAs (dvs := []) (qD7 B) (hr.mono (by decide)) rfl passL (pa_cons (qAh (dvs := []) (qAoc B) (hr.mono (by decide)) rfl passL (pa_cons (pe_fld (pv 0) rfl) (pa_cons (pe_lc (own := [("c", 3)]) (g := (gName 3)) (tt := tYes) rfl qIu.nd (pi_list (pv 2)) (blkOk_by (N := ["self", "other", "row", "c"]) (sc := defScope qCw) (own := [("c", 3)]) (by decide +kernel)) (fun _ _ _ _ _ => pg_name (i := 3) qIu.nd rfl (Or.inl rfl)) (fun _ _ _ _ _ => pts_nil) (fun _ _ _ _ _ => (pe_un (qAkc (qL6 B) (hr.mono (by decide)) passL) (pv 3)))) pa_nil))) pa_nil))))))
theorem qUk (B : Bd K mg) : qEj PySem.Challenge.pw_momentrows_k22_whole_steps_move_along w K mg base 39 (He.ga K "Poly") "__sub__" [] (lift K (qQt csL)) := by
  obtain ⟨fd, F, G⟩ := qAcs (w := w) (base := base) B
  exact ⟨_, fd, ["self", "other"], [], ((KFB B).own _ (by decide)).cl, He.meth_ok (B.says.fact 84 rfl), G, F.bindsN fun _ _ _ _ _ _ us hl => match us, hl with | [_, _], _ => rfl, .nil⟩
theorem qAca (B : Bd K mg) : ∃ fd, FunD K "__mul__" "Poly.__mul__" (defArgs qC4) (defBody qC4) (defScope qC4) [] [] (He.ma K (He.ga K "Poly") "__mul__") fd ∧ FnOk PySem.Challenge.pw_momentrows_k22_whole_steps_move_along w K mg base (CXX PySem.Challenge.pw_momentrows_k22_whole_steps_move_along w) 39 (He.ma K (He.ga K "Poly") "__mul__") fd ["self", "other"] (lift K (qIq csL)) := by
  obtain ⟨fd, F0⟩ := B.says.def_ 39 (d := qS0) rfl
  have F : FunD K "__mul__" "Poly.__mul__" (defArgs qC4) (defBody qC4) (defScope qC4) [] [] (He.ma K (He.ga K "Poly") "__mul__") fd := F0
  refine ⟨fd, F, F.ok qSb (fun vs H Q E h => ?_) (fun cdv A outer s H vs Q E hr h => ⟨qLb K csL, ?_, qAb6 (KFB B) (by decide) (by decide) vs H Q E h⟩)⟩
  · exact qYh (cs := csL) _ _ _ _ h
  · exact (pss_cons (ps_set (i := 2) qSb.nd rfl (Or.inl rfl) (qAh (dvs := []) (qH2 B) (hr.mono (by decide)) rfl passL (pa_cons (pv 1) pa_nil)))
  (pss_cons (ps_if (pt_cmpR op_isN (pv 2) pe_non (nomark _)) (pss_one ps_never) pss_nil)
  (pss_one (ps_ret (qAs (dvs := []) (qD7 B) (hr.mono (by decide)) rfl passL (pa_cons (qAh (dvs := []) (qZn B) (hr.mono (by decide)) rfl passL (pa_cons (pe_fld (pv 0) rfl) (pa_cons (pv 2) pa_nil))) pa_nil))))))
theorem qHy (B : Bd K mg) : qEj PySem.Challenge.pw_momentrows_k22_whole_steps_move_along w K mg base 39 (He.ga K "Poly") "__mul__" [] (lift K (qIq csL)) := by
  obtain ⟨fd, F, G⟩ := qAca (w := w) (base := base) B
  exact ⟨_, fd, ["self", "other"], [], ((KFB B).own _ (by decide)).cl, He.meth_ok (B.says.fact 85 rfl), G, F.bindsN fun _ _ _ _ _ _ us hl => match us, hl with | [_, _], _ => rfl, .nil⟩
theorem qKs (B : Bd K mg) : ∃ fd, FunD K "all_factors" "Place.all_factors" (defArgs qAw) (defBody qAw) (defScope qAw) [] [] (He.ma K (He.ga K "Place") "all_factors") fd ∧ FnOk PySem.Challenge.pw_momentrows_k22_whole_steps_move_along w K mg base (CXX PySem.Challenge.pw_momentrows_k22_whole_steps_move_along w) 39 (He.ma K (He.ga K "Place") "all_factors") fd ["self"] (qNa K (qVz csL)) := by
  obtain ⟨fd, F0⟩ := B.says.def_ 40 (d := qGe) rfl
  have F : FunD K "all_factors" "Place.all_factors" (defArgs qAw) (defBody qAw) (defScope qAw) [] [] (He.ma K (He.ga K "Place") "all_factors") fd := F0
  refine ⟨fd, F, F.ok qGf (fun vs H Q E h => ?_) (fun cdv A outer s H vs Q E hr h => ⟨qEm K csL, ?_, qKw (KFB B) (by decide) (by decide) (by decide) vs H Q E h⟩)⟩
  · exact qJg (cs := csL) _ _ _ _ h
  · exact (pss_cons (ps_set (i := 1) qGf.nd rfl (Or.inl rfl) (pe_lst (pa_cons (qAs (dvs := []) (qD7 B) (hr.mono (by decide)) rfl passL (pa_cons (pe_lst (pa_cons pe_int pa_nil)) pa_nil)) pa_nil)))
  (pss_cons (ps_if (pt_cmpR op_notN (pe_fld (pv 0) rfl) pe_non (nomark _)) (pss_one (ps_expr (pe_bm PySem.F.plainAttrs_list PySem.F.slot_list_append PySem.F.type_list_append mt_append (pv 1) (pa_cons (qAs (dvs := []) (qD7 B) (hr.mono (by decide)) rfl passL (pa_cons (pe_lst (pa_cons (pe_un (qAkc (qL6 B) (hr.mono (by decide)) passL) (pe_fld (pv 0) rfl)) (pa_cons pe_int pa_nil))) pa_nil)) pa_nil)))) pss_nil)
  (pss_cons (ps_if (pt_cmpR op_notN (pe_fld (pv 0) rfl) pe_non (nomark _)) (pss_cons (ps_expr (pe_bm PySem.F.plainAttrs_list PySem.F.slot_list_append PySem.F.type_list_append mt_append (pv 1) (pa_cons (qAs (dvs := []) (qD7 B) (hr.mono (by decide)) rfl passL (pa_cons (pe_lst (pa_cons (pe_fld (pv 0) rfl) (pa_cons (pe_un un_neg pe_int) pa_nil))) pa_nil)) pa_nil)))
  (pss_one (ps_expr (pe_bm PySem.F.plainAttrs_list PySem.F.slot_list_append PySem.F.type_list_append mt_append (pv 1) (pa_cons (qAs (dvs := []) (qD7 B) (hr.mono (by decide)) rfl passL (pa_cons (pe_lst (pa_cons (pe_un (qAkc (qL6 B) (hr.mono (by decide)) passL) (pe_op (qDr "mul" (qCj B) (qBv B) (hr.mono (by decide)) passL) (pe_fld (pv 0) rfl) (pe_fld (pv 0) rfl))) (pa_cons (pe_op (qDr "add" (qDd B) (qAt B) (hr.mono (by decide)) passL) (pe_fld (pv 0) rfl) (pe_fld (pv 0) rfl)) (pa_cons (qAs (dvs := [.int 1]) (qA4 B) (hr.mono (by decide)) rfl passL (pa_cons (pe_un un_neg pe_int) pa_nil)) pa_nil)))) pa_nil)) pa_nil))))) pss_nil)
  (pss_one (ps_ret (pv 1))))))
theorem qL9 (B : Bd K mg) : qEj PySem.Challenge.pw_momentrows_k22_whole_steps_move_along w K mg base 39 (He.ga K "Place") "all_factors" [] (qNa K (qVz csL)) := by
  obtain ⟨fd, F, G⟩ := qKs (w := w) (base := base) B
  exact ⟨_, fd, ["self"], [], ((KFB B).own _ (by decide)).cl, He.meth_ok (B.says.fact 86 rfl), G, F.bindsN fun _ _ _ _ _ _ us hl => match us, hl with | [_], _ => rfl, .nil⟩
theorem qLy (B : Bd K mg) : ∃ fd, FunD K "shifted_numbers" "shifted_numbers" (defArgs qAu) (defBody qAu) (defScope qAu) [] [] (He.ga K "shifted_numbers") fd ∧ FnOk PySem.Challenge.pw_momentrows_k22_whole_steps_move_along w K mg base (CXX PySem.Challenge.pw_momentrows_k22_whole_steps_move_along w) 39 (He.ga K "shifted_numbers") fd ["numbers", "p"] (lift K qFx) := by
  obtain ⟨fd, F0⟩ := B.says.def_ 42 (d := qGv) rfl
  have F : FunD K "shifted_numbers" "shifted_numbers" (defArgs qAu) (defBody qAu) (defScope qAu) [] [] (He.ga K "shifted_numbers") fd := F0
  refine ⟨fd, F, F.ok qDp (fun vs H Q E h => ?_) (fun cdv A outer s H vs Q E hr h => ⟨qEy K csL, ?_, qL2 (KFB B) (by decide) (by decide) vs H Q E h⟩)⟩
  · exact qKt (cs := csL) _ _ _ _ h
  · exact (pss_cons (ps_set (i := 2) qDp.nd rfl (Or.inl rfl) (pe_op op_sub (pe_callB call_len (by rfl) (qDq B) (by decide +kernel) (pa_cons (pv 0) pa_nil)) (pe_callB (call_max2 rfl) (by rfl) (qAdi B) (by decide +kernel) (pa_cons pe_int (pa_cons (pe_fld (pv 1) rfl) pa_nil)))))
  (pss_one (ps_ret (pe_lc (own := [("k", 3)]) (g := (gName 3)) (tt := tYes) rfl qDp.nd (pi_range1 (by rfl) (qDn B) (pa_cons (pv 2) pa_nil)) (blkOk_by (N := ["numbers", "p", "size", "k"]) (sc := defScope qAu) (own := [("k", 3)]) (by decide +kernel)) (fun _ _ _ _ _ => pg_name (i := 3) qDp.nd rfl (Or.inl rfl)) (fun _ _ _ _ _ => pts_nil) (fun _ _ _ _ _ => (qAh (dvs := []) (qO8 B) (hr.mono (by decide)) rfl passL (pa_cons (pe_slice sl_list (pv 0) (po_some (pv 3)) po_none) (pa_cons (pv 1) pa_nil))))))))
theorem qN7 (B : Bd K mg) : qEo PySem.Challenge.pw_momentrows_k22_whole_steps_move_along w K mg base 39 "shifted_numbers" [] (lift K qFx) := by
  obtain ⟨fd, F, G⟩ := qLy (w := w) (base := base) B
  exact ⟨_, fd, ["numbers", "p"], [], qNz B, F.kp, G, F.bindsN fun _ _ _ _ _ _ us hl => match us, hl with | [_, _], _ => rfl, .nil⟩
theorem qAce (B : Bd K mg) : ∃ fd, FunD K "_law_moved" "_law_moved" (defArgs qDa) (defBody qDa) (defScope qDa) [] [] (He.ga K "_law_moved") fd ∧ FnOk PySem.Challenge.pw_momentrows_k22_whole_steps_move_along w K mg base (CXX PySem.Challenge.pw_momentrows_k22_whole_steps_move_along w) 39 (He.ga K "_law_moved") fd ["_law_old", "_law_new", "_law_by"] (lift K qVe) := by
  obtain ⟨fd, F0⟩ := B.says.def_ 51 (d := qRr) rfl
  have F : FunD K "_law_moved" "_law_moved" (defArgs qDa) (defBody qDa) (defScope qDa) [] [] (He.ga K "_law_moved") fd := F0
  refine ⟨fd, F, F.ok qL1 (fun vs H Q E h => ?_) (fun cdv A outer s H vs Q E hr h => ⟨qLz K csL, ?_, qAcn (KFB B) (by decide) (by decide) vs H Q E h⟩)⟩
  · exact qYt (cs := csL) _ _ _ _ h
  · exact (pss_cons (ps_if (pt_cmpR op_ne (pe_callB call_len (by rfl) (qDq B) (by decide +kernel) (pa_cons (pv 0) pa_nil)) (pe_callB call_len (by rfl) (qDq B) (by decide +kernel) (pa_cons (pv 1) pa_nil)) (nomark _)) (pss_one (ps_ret pe_bl)) pss_nil)
  (pss_cons (ps_for (passes_of rfl) rfl (pi_range1 (by rfl) (qDn B) (pa_cons (pe_callB call_len (by rfl) (qDq B) (by decide +kernel) (pa_cons (pv 0) pa_nil)) pa_nil)) (pg_name (i := 3) qL1.nd rfl (Or.inl rfl)) (pss_cons (ps_if (PW.pt (pw_or (pt_cmpR op_ne (pe_ix ix_tup (pe_ix ix_list (pv 1) (pv 3) (fun _ _ => rfl)) pe_int (fun _ _ => rfl)) (pe_ix ix_tup (pe_ix ix_list (pv 0) (pv 3) (fun _ _ => rfl)) pe_int (fun _ _ => rfl)) (nomark _)) (pw_or1 (pt_not (pt_cmpR (qG3 (qGs B) (qAt B) (hr.mono (by decide)) passL) (pe_ix ix_tup (pe_ix ix_list (pv 1) (pv 3) (fun _ _ => rfl)) pe_int (fun _ _ => rfl)) (pe_ix ix_tup (pe_ix ix_list (pv 0) (pv 3) (fun _ _ => rfl)) pe_int (fun _ _ => rfl)) (nomark _)))))) (pss_one (ps_ret pe_bl)) pss_nil)
  (pss_one (ps_for (passes_of rfl) rfl (pi_range2 (by rfl) (qDn B) (pa_cons (pe_un un_neg pe_int) (pa_cons pe_int pa_nil))) (pg_name (i := 4) qL1.nd rfl (Or.inl rfl)) (pss_cons (ps_if (pt_not (pt_cmpR (qG3 (qGs B) (qAt B) (hr.mono (by decide)) passL) (qAh (dvs := []) (qE7 B) (hr.mono (by decide)) rfl passL (pa_cons (pe_ix ix_tup (pe_ix ix_list (pv 1) (pv 3) (fun _ _ => rfl)) pe_int (fun _ _ => rfl)) (pa_cons (pe_op (qWy "add" (qPm B) (qDd B) (qAt B) qAev PySem.F.fills_int_add (hr.mono (by decide)) passL) (pv 4) (pv 2)) pa_nil))) (qAh (dvs := []) (qE7 B) (hr.mono (by decide)) rfl passL (pa_cons (pe_ix ix_tup (pe_ix ix_list (pv 0) (pv 3) (fun _ _ => rfl)) pe_int (fun _ _ => rfl)) (pa_cons (qAs (dvs := [.int 1]) (qA4 B) (hr.mono (by decide)) rfl passL (pa_cons (pv 4) pa_nil)) pa_nil))) (nomark _))) (pss_one (ps_ret pe_bl)) pss_nil)
  (pss_one (ps_if (pt_not (pt_cmpR (qG3 (qGs B) (qAt B) (hr.mono (by decide)) passL) (qAh (dvs := []) (qE7 B) (hr.mono (by decide)) rfl passL (pa_cons (pe_ix ix_tup (pe_ix ix_list (pv 1) (pv 3) (fun _ _ => rfl)) pe_int (fun _ _ => rfl)) (pa_cons (pe_op (qWy "add" (qPm B) (qDd B) (qAt B) qAev PySem.F.fills_int_add (hr.mono (by decide)) passL) (pv 4) (pv 2)) pa_nil))) (qAh (dvs := []) (qE7 B) (hr.mono (by decide)) rfl passL (pa_cons (pe_ix ix_tup (pe_ix ix_list (pv 0) (pv 3) (fun _ _ => rfl)) pe_int (fun _ _ => rfl)) (pa_cons (qAs (dvs := [.int 1]) (qA4 B) (hr.mono (by decide)) rfl passL (pa_cons (pv 4) pa_nil)) pa_nil))) (nomark _))) (pss_one (ps_ret pe_bl)) pss_nil)))))))
  (pss_one (ps_ret pe_bl))))
theorem qAfz (B : Bd K mg) : qEo PySem.Challenge.pw_momentrows_k22_whole_steps_move_along w K mg base 39 "_law_moved" [] (lift K qVe) := by
  obtain ⟨fd, F, G⟩ := qAce (w := w) (base := base) B
  exact ⟨_, fd, ["_law_old", "_law_new", "_law_by"], [], qVf B, F.kp, G, F.bindsN fun _ _ _ _ _ _ us hl => match us, hl with | [_, _, _], _ => rfl, .nil⟩
theorem qS7 (B : Bd K mg) : ∃ fd, FunD K "_law_stretched" "_law_stretched" (defArgs qBh) (defBody qBh) (defScope qBh) [] [] (He.ga K "_law_stretched") fd ∧ FnOk PySem.Challenge.pw_momentrows_k22_whole_steps_move_along w K mg base (CXX PySem.Challenge.pw_momentrows_k22_whole_steps_move_along w) 39 (He.ga K "_law_stretched") fd ["_law_old", "_law_new", "_law_by"] (lift K qNq) := by
  obtain ⟨fd, F0⟩ := B.says.def_ 52 (d := qJt) rfl
  have F : FunD K "_law_stretched" "_law_stretched" (defArgs qBh) (defBody qBh) (defScope qBh) [] [] (He.ga K "_law_stretched") fd := F0
  refine ⟨fd, F, F.ok qD9 (fun vs H Q E h => ?_) (fun cdv A outer s H vs Q E hr h => ⟨qGw K csL, ?_, qRo (KFB B) (by decide) (by decide) vs H Q E h⟩)⟩
  · exact qQi (cs := csL) _ _ _ _ h
  · exact (pss_cons (ps_if (pt_cmpR op_ne (pe_callB call_len (by rfl) (qDq B) (by decide +kernel) (pa_cons (pv 0) pa_nil)) (pe_callB call_len (by rfl) (qDq B) (by decide +kernel) (pa_cons (pv 1) pa_nil)) (nomark _)) (pss_one (ps_ret pe_bl)) pss_nil)
  (pss_cons (ps_for (passes_of rfl) rfl (pi_range1 (by rfl) (qDn B) (pa_cons (pe_callB call_len (by rfl) (qDq B) (by decide +kernel) (pa_cons (pv 0) pa_nil)) pa_nil)) (pg_name (i := 3) qD9.nd rfl (Or.inl rfl)) (pss_cons (ps_if (PW.pt (pw_or (pt_cmpR op_ne (pe_ix ix_tup (pe_ix ix_list (pv 1) (pv 3) (fun _ _ => rfl)) pe_int (fun _ _ => rfl)) (pe_ix ix_tup (pe_ix ix_list (pv 0) (pv 3) (fun _ _ => rfl)) pe_int (fun _ _ => rfl)) (nomark _)) (pw_or1 (pt_not (pt_cmpR (qG3 (qGs B) (qAt B) (hr.mono (by decide)) passL) (pe_ix ix_tup (pe_ix ix_list (pv 1) (pv 3) (fun _ _ => rfl)) pe_int (fun _ _ => rfl)) (qAh (dvs := []) (qPi B) (hr.mono (by decide)) rfl passL (pa_cons (pe_ix ix_tup (pe_ix ix_list (pv 0) (pv 3) (fun _ _ => rfl)) pe_int (fun _ _ => rfl)) (pa_cons (pv 2) (pa_cons (pe_ix ix_tup (pe_ix ix_list (pv 0) (pv 3) (fun _ _ => rfl)) pe_int (fun _ _ => rfl)) pa_nil)))) (nomark _)))))) (pss_one (ps_ret pe_bl)) pss_nil)
  (pss_one (ps_for (passes_of rfl) rfl (pi_range2 (by rfl) (qDn B) (pa_cons (pe_un un_neg pe_int) (pa_cons pe_int pa_nil))) (pg_name (i := 4) qD9.nd rfl (Or.inl rfl)) (pss_cons (ps_set (i := 5) qD9.nd rfl (Or.inl rfl) (qAh (dvs := []) (qPi B) (hr.mono (by decide)) rfl passL (pa_cons (qAh (dvs := []) (qE7 B) (hr.mono (by decide)) rfl passL (pa_cons (pe_ix ix_tup (pe_ix ix_list (pv 0) (pv 3) (fun _ _ => rfl)) pe_int (fun _ _ => rfl)) (pa_cons (qAs (dvs := [.int 1]) (qA4 B) (hr.mono (by decide)) rfl passL (pa_cons (pv 4) pa_nil)) pa_nil))) (pa_cons (pv 2) (pa_cons (pe_op op_sub (pe_callB call_len (by rfl) (qDq B) (by decide +kernel) (pa_cons (pe_fld (pe_ix ix_tup (pe_ix ix_list (pv 0) (pv 3) (fun _ _ => rfl)) pe_int (fun _ _ => rfl)) rfl) pa_nil)) pe_int) pa_nil)))))
  (pss_cons (ps_if (pt_not (pt_cmpR (qG3 (qGs B) (qAt B) (hr.mono (by decide)) passL) (qAh (dvs := []) (qE7 B) (hr.mono (by decide)) rfl passL (pa_cons (pe_ix ix_tup (pe_ix ix_list (pv 1) (pv 3) (fun _ _ => rfl)) pe_int (fun _ _ => rfl)) (pa_cons (pe_op (qWy "mul" (qPs B) (qCj B) (qBv B) qAes PySem.F.fills_int_mul (hr.mono (by decide)) passL) (pv 4) (pv 2)) pa_nil))) (pv 5) (nomark _))) (pss_one (ps_ret pe_bl)) pss_nil)
  (pss_cons (ps_set (i := 5) qD9.nd rfl (Or.inl rfl) (qAh (dvs := []) (qPi B) (hr.mono (by decide)) rfl passL (pa_cons (qAh (dvs := []) (qE7 B) (hr.mono (by decide)) rfl passL (pa_cons (pe_ix ix_tup (pe_ix ix_list (pv 0) (pv 3) (fun _ _ => rfl)) pe_int (fun _ _ => rfl)) (pa_cons (qAs (dvs := [.int 1]) (qA4 B) (hr.mono (by decide)) rfl passL (pa_cons (pv 4) pa_nil)) pa_nil))) (pa_cons (pv 2) (pa_cons (pe_op op_sub (pe_callB call_len (by rfl) (qDq B) (by decide +kernel) (pa_cons (pe_fld (pe_ix ix_tup (pe_ix ix_list (pv 0) (pv 3) (fun _ _ => rfl)) pe_int (fun _ _ => rfl)) rfl) pa_nil)) pe_int) pa_nil)))))
  (pss_one (ps_if (pt_not (pt_cmpR (qG3 (qGs B) (qAt B) (hr.mono (by decide)) passL) (qAh (dvs := []) (qE7 B) (hr.mono (by decide)) rfl passL (pa_cons (pe_ix ix_tup (pe_ix ix_list (pv 1) (pv 3) (fun _ _ => rfl)) pe_int (fun _ _ => rfl)) (pa_cons (pe_op (qWy "mul" (qPs B) (qCj B) (qBv B) qAes PySem.F.fills_int_mul (hr.mono (by decide)) passL) (pv 4) (pv 2)) pa_nil))) (pv 5) (nomark _))) (pss_one (ps_ret pe_bl)) pss_nil)))))))))
  (pss_one (ps_ret pe_bl))))
theorem qTk (B : Bd K mg) : qEo PySem.Challenge.pw_momentrows_k22_whole_steps_move_along w K mg base 39 "_law_stretched" [] (lift K qNq) := by
  obtain ⟨fd, F, G⟩ := qS7 (w := w) (base := base) B
  exact ⟨_, fd, ["_law_old", "_law_new", "_law_by"], [], qOw B, F.kp, G, F.bindsN fun _ _ _ _ _ _ us hl => match us, hl with | [_, _, _], _ => rfl, .nil⟩
theorem qAfk (B : Bd K mg) : ∃ fd, FunD K "step_of" "step_of" (defArgs qDv) (defBody qDv) (defScope qDv) [] [] (He.ga K "step_of") fd ∧ FnOk PySem.Challenge.pw_momentrows_k22_whole_steps_move_along w K mg base (CXX PySem.Challenge.pw_momentrows_k22_whole_steps_move_along w) 41 (He.ga K "step_of") fd ["numbers", "previous", "before"] (lift K (qHr csL)) := by
  obtain ⟨fd, F0⟩ := B.says.def_ 43 (d := qUd) rfl
  have F : FunD K "step_of" "step_of" (defArgs qDv) (defBody qDv) (defScope qDv) [] [] (He.ga K "step_of") fd := F0
  refine ⟨fd, F, F.ok qGt (fun vs H Q E h => ?_) (fun cdv A outer s H vs Q E hr h => ⟨qOb K csL, ?_, qAf2 (KFB B) (by decide) (by decide) vs H Q E h⟩)⟩
  · exact qAa9 (cs := csL) _ _ _ _ h
  · exact (pss_cons (ps_if (pt_cmpR op_isN (pv 1) pe_non (nomark _)) (pss_one (ps_ret (pe_tup (pa_cons (qAs (dvs := []) (qD7 B) (hr.mono (by decide)) rfl passL (pa_cons (pe_lst (pa_cons pe_int pa_nil)) pa_nil)) (pa_cons (pe_ix ix_list (pv 0) pe_int (fun _ _ => rfl)) pa_nil))))) pss_nil)
  (pss_cons (ps_asg (pv 1) (pg_tup rfl (pgs_cons (pg_name (i := 5) qGt.nd rfl (Or.inl rfl)) (pgs_cons (pg_name (i := 6) qGt.nd rfl (Or.inl rfl)) pgs_nil))))
  (pss_cons (ps_set (i := 3) qGt.nd rfl (Or.inl rfl) (qAs (dvs := []) (qD7 B) (hr.mono (by decide)) rfl passL (pa_cons (pe_lst (pa_cons pe_int (pa_cons pe_int pa_nil))) pa_nil)))
  (pss_cons (ps_set (i := 4) qGt.nd rfl (Or.inl rfl) (pe_op (qDr "mul" (qHy B) (qG1 B) (hr.mono (by decide)) passL) (pe_op (qAkd "sub" (qUk B) (qRn B) (qPj B) (hr.mono (by decide)) passL) (pv 3) (qKq (qAh (dvs := []) (qO8 B) (hr.mono (by decide)) rfl passL (pa_cons (pv 0) (pa_cons (pe_op (qDr "mul" (qHy B) (qG1 B) (hr.mono (by decide)) passL) (pe_op (qDr "mul" (qHy B) (qG1 B) (hr.mono (by decide)) passL) (pv 3) (pv 5)) (pv 5)) pa_nil))) (qP7 B) (hr.mono (by decide)) passL (pa_cons (pv 6) pa_nil))) (pv 5)))
  (pss_cons (ps_if (pt_cmpR op_notN (pv 2) pe_non (nomark _)) (pss_one (ps_set (i := 4) qGt.nd rfl (Or.inl rfl) (pe_op (qDr "sub" (qUk B) (qRn B) (hr.mono (by decide)) passL) (pv 4) (pe_op (qAkd "mul" (qHy B) (qG1 B) (qOz B) (hr.mono (by decide)) passL) (pe_ix ix_tup (pv 2) pe_int (fun _ _ => rfl)) (qKq (pv 6) (qP7 B) (hr.mono (by decide)) passL (pa_cons (pe_ix ix_tup (pv 2) pe_int (fun _ _ => rfl)) pa_nil)))))) pss_nil)
  (pss_one (ps_ret (pe_tup (pa_cons (pv 4) (pa_cons (qAh (dvs := []) (qO8 B) (hr.mono (by decide)) rfl passL (pa_cons (pv 0) (pa_cons (pe_op (qDr "mul" (qHy B) (qG1 B) (hr.mono (by decide)) passL) (pv 4) (pv 4)) pa_nil))) pa_nil))))))))))
theorem qAiq (B : Bd K mg) : qEo PySem.Challenge.pw_momentrows_k22_whole_steps_move_along w K mg base 41 "step_of" [] (lift K (qHr csL)) := by
  obtain ⟨fd, F, G⟩ := qAfk (w := w) (base := base) B
  exact ⟨_, fd, ["numbers", "previous", "before"], [], qAfd B, F.kp, G, F.bindsN fun _ _ _ _ _ _ us hl => match us, hl with | [_, _, _], _ => rfl, .nil⟩
theorem qYg (B : Bd K mg) : ∃ fd, FunD K "step_list" "step_list" (defArgs qCb) (defBody qCb) (defScope qCb) [] [] (He.ga K "step_list") fd ∧ FnOk PySem.Challenge.pw_momentrows_k22_whole_steps_move_along w K mg base (CXX PySem.Challenge.pw_momentrows_k22_whole_steps_move_along w) 43 (He.ga K "step_list") fd ["numbers", "place"] (lift K (qFy csL)) := by
  obtain ⟨fd, F0⟩ := B.says.def_ 44 (d := qPy) rfl
  have F : FunD K "step_list" "step_list" (defArgs qCb) (defBody qCb) (defScope qCb) [] [] (He.ga K "step_list") fd := F0
  refine ⟨fd, F, F.ok qBc (fun vs H Q E h => ?_) (fun cdv A outer s H vs Q E hr h => ⟨qJk K csL, ?_, qZj (KFB B) (by decide) (by decide) (by decide) vs H Q E h⟩)⟩
  · exact qWs (cs := csL) _ _ _ _ h
  · exact (pss_cons (ps_set (i := 2) qBc.nd rfl (Or.inl rfl) (pe_lst pa_nil))
  (pss_cons (ps_set (i := 3) qBc.nd rfl (Or.inl rfl) pe_dnewK)
  (pss_cons (ps_set (i := 4) qBc.nd rfl (Or.inl rfl) pe_bl)
  (pss_cons (ps_set (i := 5) qBc.nd rfl (Or.inl rfl) (qAgz (pv 1) (qL9 B) (hr.mono (by decide)) passL))
  (pss_cons (ps_setLc (i := 6) (own := [("u", 8)]) (g := (gName 8)) (tt := tYes) rfl qBc.nd rfl rfl (sw_true rfl rfl rfl (by decide +kernel)) (pi_list (pv 5)) (blkOk_by (N := ["numbers", "place", "found", "last", "inside", "factors", "shifted", "k", "u", "which", "previous", "before", "p", "worth"]) (sc := defScope qCb) (own := [("u", 8)]) (by decide +kernel)) (fun _ _ _ _ _ => pg_name (i := 8) qBc.nd rfl (Or.inl rfl)) (fun _ _ _ _ _ => pts_nil) (fun _ _ _ _ _ => (pe_ifExp (pt_cmpR op_lt (pe_fld (pv 8) rfl) (pe_callB call_len (by rfl) (qDq B) (by decide +kernel) (pa_cons (pv 0) pa_nil)) (nomark _)) (qAh (dvs := []) (qN7 B) (hr.mono (by decide)) rfl passL (pa_cons (pv 0) (pa_cons (pv 8) pa_nil))) (pe_lst pa_nil))))
  (pss_cons (ps_for (passes_of rfl) rfl (pi_range1 (by rfl) (qDn B) (pa_cons (pe_callB call_len (by rfl) (qDq B) (by decide +kernel) (pa_cons (pv 0) pa_nil)) pa_nil)) (pg_name (i := 7) qBc.nd rfl (Or.inl rfl)) (pss_cons (ps_for (passes_of rfl) rfl (qNe (by rfl) (qF4 B) (pa_cons (pv 5) pa_nil)) (pg_tup rfl (pgs_cons (pg_name (i := 9) qBc.nd rfl (Or.inl rfl)) (pgs_cons (pg_name (i := 8) qBc.nd rfl (Or.inl rfl)) pgs_nil))) (pss_cons (ps_if (PW.pt (pw_or (pt_cmpR op_gt (pe_fld (pv 8) rfl) (pv 7) (nomark _)) (pw_or1 (pt_cmpR op_ne (pe_op op_modN (pe_op op_sub (pv 7) (pe_fld (pv 8) rfl)) pe_int) pe_int (nomark _))))) (pss_one ps_continue) pss_nil)
  (pss_cons (ps_asg (qAjs hr (pv 3) (pv 9) (pe_tup (pa_cons pe_non (pa_cons pe_non pa_nil))) ⟨rfl, rfl, rfl, rfl⟩) (pg_tup rfl (pgs_cons (pg_name (i := 10) qBc.nd rfl (Or.inl rfl)) (pgs_cons (pg_name (i := 11) qBc.nd rfl (Or.inl rfl)) pgs_nil))))
  (pss_cons (ps_asg (qAh (dvs := []) (qAiq B) (hr.mono (by decide)) rfl passL (pa_cons (pe_ix ix_list (pv 6) (pv 9) (fun _ _ => rfl)) (pa_cons (pv 10) (pa_cons (pv 11) pa_nil)))) (pg_tup rfl (pgs_cons (pg_name (i := 12) qBc.nd rfl (Or.inl rfl)) (pgs_cons (pg_name (i := 13) qBc.nd rfl (Or.inl rfl)) pgs_nil))))
  (pss_cons (ps_asg (pe_tup (pa_cons (pe_tup (pa_cons (pv 12) (pa_cons (pv 13) pa_nil))) (pa_cons (pv 10) pa_nil))) (pg_sub (pv 3) (pv 9) (qAi8 hr)))
  (pss_cons (ps_expr (pe_bm PySem.F.plainAttrs_list PySem.F.slot_list_append PySem.F.type_list_append mt_append (pv 2) (pa_cons (pe_tup (pa_cons (pv 7) (pa_cons (pv 8) (pa_cons (pv 12) (pa_cons (pv 13) pa_nil))))) pa_nil)))
  (pss_one (ps_set (i := 4) qBc.nd rfl (Or.inl rfl) (pe_and (pv 4) (pe_one (pe_cmpR (qG3 (qPl B) (qAt B) (hr.mono (by decide)) passL) (pv 13) pe_int (nomark _))))))))))))
  (pss_one (ps_if (pt_not (pt_val (pv 4))) (pss_one ps_break) pss_nil))))
  (pss_one (ps_ret (pv 2)))))))))
theorem qAc2 (B : Bd K mg) : qEo PySem.Challenge.pw_momentrows_k22_whole_steps_move_along w K mg base 43 "step_list" [] (lift K (qFy csL)) := by
  obtain ⟨fd, F, G⟩ := qYg (w := w) (base := base) B
  exact ⟨_, fd, ["numbers", "place"], [], qY7 B, F.kp, G, F.bindsN fun _ _ _ _ _ _ us hl => match us, hl with | [_, _], _ => rfl, .nil⟩
theorem qAl6 (B : Bd K mg) : ∃ fd, FunD K "steps" "steps" (defArgs qFt) (defBody qFt) (defScope qFt) [] [] (He.ga K "steps") fd ∧ FnOk PySem.Challenge.pw_momentrows_k22_whole_steps_move_along w K mg base (CXX PySem.Challenge.pw_momentrows_k22_whole_steps_move_along w) 45 (He.ga K "steps") fd ["row", "place"] (lift K (qFl csL)) := by
  obtain ⟨fd, F0⟩ := B.says.def_ 46 (d := qAdy) rfl
  have F : FunD K "steps" "steps" (defArgs qFt) (defBody qFt) (defScope qFt) [] [] (He.ga K "steps") fd := F0
  refine ⟨fd, F, F.ok qAli (fun vs H Q E h => ?_) (fun cdv A outer s H vs Q E hr h => ⟨qRe K csL E, ?_, qAmi (KFB B) (by decide) (by decide) (by decide) vs H Q E h⟩)⟩
  · exact qAhc (cs := csL) _ _ _ _ h
  · exact (pss_one (ps_ret (qAh (dvs := []) (qAc2 B) (hr.mono (by decide)) rfl passL (pa_cons (qAh (dvs := [.int 13]) (qIz B) (hr.mono (by decide)) rfl (qEc (takes_of rfl rfl rfl rfl) fun _ _ _ _ z => z) (pa_cons (pv 0) pa_nil)) (pa_cons (pv 1) pa_nil)))))
theorem qXh (B : Bd K mg) : qEo PySem.Challenge.pw_momentrows_k22_whole_steps_move_along w K mg base 45 "steps" [] (lift K (qFl csL)) := by
  obtain ⟨fd, F, G⟩ := qAl6 (w := w) (base := base) B
  exact ⟨_, fd, ["row", "place"], [], qAl4 B, F.kp, G, F.bindsN fun _ _ _ _ _ _ us hl => match us, hl with | [_, _], _ => rfl, .nil⟩
theorem qAn7 (B : Bd K mg) : ∃ fd, FunD K "kind" "kind" (defArgs qHo) (defBody qHo) (defScope qHo) [] [] (He.ga K "kind") fd ∧ FnOk PySem.Challenge.pw_momentrows_k22_whole_steps_move_along w K mg base (CXX PySem.Challenge.pw_momentrows_k22_whole_steps_move_along w) 47 (He.ga K "kind") fd ["row", "place"] (lift K (qIr csL)) := by
  obtain ⟨fd, F0⟩ := B.says.def_ 48 (d := qAis) rfl
  have F : FunD K "kind" "kind" (defArgs qHo) (defBody qHo) (defScope qHo) [] [] (He.ga K "kind") fd := F0
  refine ⟨fd, F, F.ok qApf (fun vs H Q E h => ?_) (fun cdv A outer s H vs Q E hr h => ⟨qV9 K csL E, ?_, qApz (KFB B) (by decide) (by decide) (by decide) vs H Q E h⟩)⟩
  · exact qAl8 (cs := csL) _ _ _ _ h
  · exact (pss_one (ps_ret (qAh (dvs := []) (qAh4 B) (hr.mono (by decide)) rfl passL (pa_cons (qAh (dvs := []) (qXh B) (hr.mono (by decide)) rfl (qEc (takes_of rfl rfl rfl rfl) fun _ _ _ _ z => z) (pa_cons (pv 0) (pa_cons (pv 1) pa_nil))) pa_nil))))
theorem qAd0 (B : Bd K mg) : qEo PySem.Challenge.pw_momentrows_k22_whole_steps_move_along w K mg base 47 "kind" [] (lift K (qIr csL)) := by
  obtain ⟨fd, F, G⟩ := qAn7 (w := w) (base := base) B
  exact ⟨_, fd, ["row", "place"], [], qAp2 B, F.kp, G, F.bindsN fun _ _ _ _ _ _ us hl => match us, hl with | [_, _], _ => rfl, .nil⟩
theorem qAny (B : Bd K mg) : ∃ fd, FunD K "law" "law" (defArgs qK2) (defBody qK2) (defScope qK2) [] [] (He.ga K "law") fd ∧ FnOk PySem.Challenge.pw_momentrows_k22_whole_steps_move_along w K mg base CX0 49 (He.ga K "law") fd ["_law_script"] (qAkz K) := by
  obtain ⟨fd, F0⟩ := B.says.def_ 53 (d := qAnr) rfl
  have F : FunD K "law" "law" (defArgs qK2) (defBody qK2) (defScope qK2) [] [] (He.ga K "law") fd := F0
  refine ⟨fd, F, F.ok qLa (fun vs H Q E h => ?_) (fun cdv A outer s H vs Q E hr h => ⟨qAnv K csL, ?_, qAq5 (KFB B) (by decide) (by decide) (by decide) vs H Q E h⟩)⟩
  · first | (obtain ⟨_, rfl, _⟩ := h; rfl) | (obtain ⟨_, _, rfl, _⟩ := h; rfl) | (obtain ⟨_, _, _, rfl, _⟩ := h; rfl) | (obtain ⟨_, _, _, _, rfl, _⟩ := h; rfl) | (obtain ⟨_, _, _, _, _, rfl, _⟩ := h; rfl) | (obtain ⟨_, _, _, _, _, _, rfl, _⟩ := h; rfl) | (obtain ⟨_, _, _, _, _, _, _, rfl, _⟩ := h; rfl) | (obtain ⟨_, _, _, _, _, _, _, _, rfl, _⟩ := h; rfl) | (obtain ⟨_, _, _, _, _, _, _, _, _, rfl, _⟩ := h; rfl) | (obtain ⟨_, _, _, _, _, _, _, _, _, _, rfl, _⟩ := h; rfl) | (obtain ⟨_, _, _, _, _, _, _, _, _, _, _, rfl, _⟩ := h; rfl) | (obtain ⟨_, _, _, _, _, _, _, _, _, _, _, _, rfl, _⟩ := h; rfl)
  · exact (pss_cons (ps_set (i := 1) qLa.nd rfl (Or.inl rfl) (qAh (dvs := []) (qAbz B) (hr.mono (by decide)) rfl passL (pa_cons (pv 0) pa_nil)))
  (pss_cons (ps_for (passes_of rfl) rfl (pi_range1 (by rfl) (qDn B) (pa_cons (pe_op op_add pe_int (qAh (dvs := []) (qA1 B) (hr.mono (by decide)) rfl passL (pa_cons (pv 1) (pa_cons pe_int pa_nil)))) pa_nil)) (pg_name (i := 2) qLa.nd rfl (Or.inl rfl)) (pss_cons (ps_set (i := 3) qLa.nd rfl (Or.inl rfl) (qAh (dvs := []) (qAle B) (hr.mono (by decide)) rfl passL (pa_cons (pv 1) (pa_cons pe_int pa_nil))))
  (pss_cons (ps_set (i := 4) qLa.nd rfl (Or.inl rfl) (qAh (dvs := []) (qAjr B) (hr.mono (by decide)) rfl passL (pa_cons (pv 1) (pa_cons (pv 3) pa_nil))))
  (pss_cons (ps_set (i := 5) qLa.nd rfl (Or.inl rfl) (qAh (dvs := []) (qAfn B) (hr.mono (by decide)) rfl passL (pa_cons (pv 4) (pa_cons (pe_ix ix_list (pv 3) pe_int (fun _ _ => rfl)) pa_nil))))
  (pss_cons (ps_set (i := 6) qLa.nd rfl (Or.inl rfl) (qAh (dvs := []) (qW7 B) (hr.mono (by decide)) rfl passL (pa_cons (qAh (dvs := []) (qAmj B) (hr.mono (by decide)) rfl passL (pa_cons (pv 1) (pa_cons (pv 3) (pa_cons (qAh (dvs := []) (qA1 B) (hr.mono (by decide)) rfl passL (pa_cons (pv 1) (pa_cons pe_int pa_nil))) pa_nil)))) pa_nil)))
  (pss_cons (ps_set (i := 7) qLa.nd rfl (Or.inl rfl) (qAh (dvs := []) (qXh B) (hr.mono (by decide)) rfl passL (pa_cons (pv 6) (pa_cons (pv 5) pa_nil))))
  (pss_cons (ps_set (i := 8) qLa.nd rfl (Or.inl rfl) (qAs (dvs := []) (qA6 B) (hr.mono (by decide)) rfl passL (pa_cons (qAh (dvs := []) (qIj B) (hr.mono (by decide)) rfl passL (pa_cons (pv 1) (pa_cons pe_int pa_nil))) (pa_cons (pe_op op_add pe_int (qAh (dvs := []) (qA1 B) (hr.mono (by decide)) rfl passL (pa_cons (pv 1) (pa_cons pe_int pa_nil)))) pa_nil))))
  (pss_cons (ps_if (pt_not (pt_val (qAh (dvs := []) (qAfz B) (hr.mono (by decide)) rfl passL (pa_cons (pv 7) (pa_cons (qAh (dvs := []) (qXh B) (hr.mono (by decide)) rfl passL (pa_cons (qAh (dvs := []) (qSs B) (hr.mono (by decide)) rfl passL (pa_cons (pv 6) (pa_cons (pv 8) pa_nil))) (pa_cons (qKq (pv 5) (qMi B) (hr.mono (by decide)) passL (pa_cons (pv 8) pa_nil)) pa_nil))) (pa_cons (pv 8) pa_nil)))))) (pss_one (ps_ret pe_bl)) pss_nil)
  (pss_cons (ps_if (pt_not (pt_cmpR (qAid hr) (qAh (dvs := []) (qAd0 B) (hr.mono (by decide)) rfl passL (pa_cons (qAh (dvs := []) (qSs B) (hr.mono (by decide)) rfl passL (pa_cons (pv 6) (pa_cons (pv 8) pa_nil))) (pa_cons (qKq (pv 5) (qMi B) (hr.mono (by decide)) passL (pa_cons (pv 8) pa_nil)) pa_nil))) (qAh (dvs := []) (qAd0 B) (hr.mono (by decide)) rfl passL (pa_cons (pv 6) (pa_cons (pv 5) pa_nil))) (nomark _))) (pss_one (ps_ret pe_bl)) pss_nil)
  (pss_cons (ps_set (i := 8) qLa.nd rfl (Or.inl rfl) (qAs (dvs := []) (qA6 B) (hr.mono (by decide)) rfl passL (pa_cons (pe_op op_add pe_int (qAh (dvs := []) (qA1 B) (hr.mono (by decide)) rfl passL (pa_cons (pv 1) (pa_cons pe_int pa_nil)))) (pa_cons (pe_op op_add pe_int (qAh (dvs := []) (qA1 B) (hr.mono (by decide)) rfl passL (pa_cons (pv 1) (pa_cons pe_int pa_nil)))) pa_nil))))
  (pss_cons (ps_if (pt_not (pt_val (qAh (dvs := []) (qTk B) (hr.mono (by decide)) rfl passL (pa_cons (pv 7) (pa_cons (qAh (dvs := []) (qXh B) (hr.mono (by decide)) rfl passL (pa_cons (qAh (dvs := []) (qPx B) (hr.mono (by decide)) rfl passL (pa_cons (pv 6) (pa_cons (pv 8) pa_nil))) (pa_cons (qKq (pv 5) (qH3 B) (hr.mono (by decide)) passL (pa_cons (pv 8) pa_nil)) pa_nil))) (pa_cons (pv 8) pa_nil)))))) (pss_one (ps_ret pe_bl)) pss_nil)
  (pss_one (ps_if (pt_not (pt_cmpR (qAid hr) (qAh (dvs := []) (qAd0 B) (hr.mono (by decide)) rfl passL (pa_cons (qAh (dvs := []) (qPx B) (hr.mono (by decide)) rfl passL (pa_cons (pv 6) (pa_cons (pv 8) pa_nil))) (pa_cons (qKq (pv 5) (qH3 B) (hr.mono (by decide)) passL (pa_cons (pv 8) pa_nil)) pa_nil))) (qAh (dvs := []) (qAd0 B) (hr.mono (by decide)) rfl passL (pa_cons (pv 6) (pa_cons (pv 5) pa_nil))) (nomark _))) (pss_one (ps_ret pe_bl)) pss_nil)))))))))))))
  (pss_one (ps_ret pe_bl))))
end
def qAqv : List Str := ["_wall", "__name__", "MeansError", "NoRatio", "NoPoly", "NoDivisor", "NoNumber", "NoPlace", "NoRow", "MOST_DIGITS", "is_integer", "common_part", "Ratio", "is_plain", "floor_of", "power_of", "power_of_ratios", "whole_power", "is_number", "as_ratio", "Poly", "power_of_polys", "value_at", "coefficients_of", "without_zeros", "added", "multiplied", "divided", "MOST_NUMBERS", "check_row"]
def qAq0 : List Str := ["mean_of", "shifted_numbers", "moved_row", "scaled_row", "step_of", "step_list", "steps", "first_stop", "kind_of", "kind", "Place", "_law_is_integer", "_law_feed", "_law_take", "_law_number", "_law_ratios", "_law_lot", "_law_numbers", "_law_ends", "_law_place", "_law_any", "_law_value", "_law_times", "_law_moved", "_law_stretched"]
def qAdx : List Str := qAqv ++ qAq0
abbrev hk : PySem.W.Hook := qAre 4 bsL fnL
def ob (s : PySem.W.SharedT) : AlM := obsN 4 bsL fnL (HandSHeadRun.getT s)
theorem qAsw (s : PySem.W.SharedT) : ob s = hk.obs s.abs := qApp (HandSHeadRun.getT_eq s)
section
open PySem PySem.W PySem.Calls PyProof.Rows HandSHeadRun
theorem qAou (w : World) (os : OsState) : (HandSHeadRun.endF (HandSHeadRun.stepQ (HandSHeadRun.denQ HandSHeadRun.tabQ) (PySem.W.OpenLaw.row PySem.Challenge.rw_momentrows_k22_whole_steps_move_along).prog w) 12000 (PySem.W.OpenLaw.row PySem.Challenge.rw_momentrows_k22_whole_steps_move_along).prog w os).map (fun s => (looksF (PySem.W.OpenLaw.row PySem.Challenge.rw_momentrows_k22_whole_steps_move_along).prog (boot_heap w.params) s.abs, seenQ (PySem.W.view (PySem.W.OpenLaw.row PySem.Challenge.rw_momentrows_k22_whole_steps_move_along).prog [62]) qAdx (importedModules (PySem.W.OpenLaw.row PySem.Challenge.rw_momentrows_k22_whole_steps_move_along).prog.main.body) (fun s => xlAt (PySem.W.view (PySem.W.OpenLaw.row PySem.Challenge.rw_momentrows_k22_whole_steps_move_along).prog [62]) [] s && recOk (PySem.W.OpenLaw.row PySem.Challenge.rw_momentrows_k22_whole_steps_move_along).toRowW.records s) s.abs)) = some (true, openGood (PySem.W.view (PySem.W.OpenLaw.row PySem.Challenge.rw_momentrows_k22_whole_steps_move_along).prog [62]) qAdx) := by kernel_rfl
theorem qAqq (w : World) (os : OsState) : PartB (HandSHeadRun.endF (HandSHeadRun.stepQ (HandSHeadRun.denQ HandSHeadRun.tabQ) (PySem.W.OpenLaw.row PySem.Challenge.rw_momentrows_k22_whole_steps_move_along).prog w) 12000 (PySem.W.OpenLaw.row PySem.Challenge.rw_momentrows_k22_whole_steps_move_along).prog w os) (fun s => frU (HandSHeadRun.getT s) 4) bs0 := by
  unfold PartB
  kernel_rfl
theorem qAq7 (w : World) (os : OsState) : PartB (HandSHeadRun.endF (HandSHeadRun.stepQ (HandSHeadRun.denQ HandSHeadRun.tabQ) (PySem.W.OpenLaw.row PySem.Challenge.rw_momentrows_k22_whole_steps_move_along).prog w) 12000 (PySem.W.OpenLaw.row PySem.Challenge.rw_momentrows_k22_whole_steps_move_along).prog w os) (fun s => frU (HandSHeadRun.getT s) 4) bs1 := by
  unfold PartB
  kernel_rfl
theorem qAqm (w : World) (os : OsState) : PartD (HandSHeadRun.endF (HandSHeadRun.stepQ (HandSHeadRun.denQ HandSHeadRun.tabQ) (PySem.W.OpenLaw.row PySem.Challenge.rw_momentrows_k22_whole_steps_move_along).prog w) 12000 (PySem.W.OpenLaw.row PySem.Challenge.rw_momentrows_k22_whole_steps_move_along).prog w os) (fun s => frU (HandSHeadRun.getT s) 4) fn0 := by
  unfold PartD
  kernel_rfl
theorem run (w : World) : HandSHeadRun.RunEq (PySem.W.OpenLaw.row PySem.Challenge.rw_momentrows_k22_whole_steps_move_along) (PySem.W.view (PySem.W.OpenLaw.row PySem.Challenge.rw_momentrows_k22_whole_steps_move_along).prog [62]) hk ob 12000 qAdx w := by
  intro os
  exact qAsv (qAou w os) ((qAqq w os).app (qAq7 w os)) (qAqm w os)
end
end MR
open PySem PySem.W PySem.Calls PyProof.Rows
set_option maxRecDepth 100000 in
set_option maxHeartbeats 0 in
theorem PySem.Challenge.cw_momentrows_k22_whole_steps_move_along_holds : PySem.Challenge.rw_momentrows_k22_whole_steps_move_along.Holds := by
  w_on; o_law
  refine HandSHeadRun.head_any (r := OpenLaw.row PySem.Challenge.rw_momentrows_k22_whole_steps_move_along) (q := view (OpenLaw.row PySem.Challenge.rw_momentrows_k22_whole_steps_move_along).prog [62]) (H := MR.hk) (ob := MR.ob) (M := 12000) (loose := MR.qAdx) (d := HandSHeadRun.topDef (OpenLaw.row PySem.Challenge.rw_momentrows_k22_whole_steps_move_along).prog 62) (kwd := []) MR.qAsw
    (by kernel_rfl) (fun s => by kernel_rfl) MR.run (by kernel_rfl) (by kernel_rfl) (by kernel_rfl) (by rfl) (by first | assumption | decide +kernel) (by decide +kernel) ⟨rfl, rfl, rfl, rfl, rfl, by decide +kernel⟩ ?hw ?hc
  case hw => w_witness2
  case hc =>
    refine L2.walk_ofE (l := PySem.Challenge.rw_momentrows_k22_whole_steps_move_along) (n := 63) (k := 49) (x := "_law_script") (CX := L2.CX0) rfl (by decide) (by kernel_rfl) ⟨rfl, by decide, by decide⟩ ?F (fun _ _ _ _ z => z)
    intro w mg fa h Y G hmg0
    obtain ⟨K, KX, c⟩ := Y
    have hmg : mg ("law" : PySem.Str) = some (.ref fa) := by
      have e : (HandSHeadRun.topDef (OpenLaw.row PySem.Challenge.rw_momentrows_k22_whole_steps_move_along).prog 62).name = ("law" : PySem.Str) := by kernel_rfl
      rw [← e]
      exact hmg0
    have B : MR.Bd K mg := ⟨⟨h, KX, G⟩, c⟩
    have e := hmg.symm.trans (MR.qAro B)
    cases e
    obtain ⟨fd0, F, _⟩ := MR.qAny (w := w) (base := h) B
    have b := L2.FunD.bindsA (ps := ["_law_script"]) F fun _ _ _ _ _ _ us hl => match us, hl with | [_], _ => rfl
    refine ⟨K, fd0, MR.qAkz K, KX, fun s u => b s [u] rfl, fun H a ns hl _ hS => ⟨a, ns, rfl, hS, hl, fun _ => rfl⟩, fun base _ _ => ?_⟩
    obtain ⟨fd1, F1, G1⟩ := MR.qAny (w := w) (base := base) B
    have e2 : fd1 = fd0 := MR.qAky F1 F
    rw [← e2]
    exact G1

